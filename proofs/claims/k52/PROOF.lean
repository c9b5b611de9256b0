import PyProof.Rows.All
import Wide.All
import OpenK.AllK
import Wide.FinOn
import HandS.ForMost
import HandS.ForExc
import HandS.Wide
import HandS.TupAny
import HandS.Conv
import KE.DataEq
import HandS.Lambda
import HandS.EndTab
import HandS.Flow
import HandS.More
import HandS.Zip
import HandS.Rev
import HandS.RevRange
import KE.GoesEnum
import KE.GoesMore
import HandS.IsInst
import HandS.Text
import HandS.WordsDict
import HandS.Deep
import HandS.SortInts
import HandS.WordsExc
import HandS.Words
import HandS.TupSets
import KE.KSortTupG
import HandS.ExcIs
import HandS.ExcOwn
import HandS.ExcValue
import HandS.TupLe
import KE.KIndexOf
import HandS.SetFor
import HandS.Strs
import HandS.NoneIn
import HandS.ExcInit
import HandS.ExcField
import KE.KExcIs
import HandS.EndOwn
import HandS.TryOnly
import PyProof.ListStr
import HandS.TupMul
import HandS.SortKw
import PySem.Challenge.RW_currentfloor_k52_sizes_there_and_back
set_option Elab.async false
set_option linter.all false
set_option maxRecDepth 100000
set_option maxHeartbeats 4000000
set_option exponentiation.threshold 3000
set_option synthInstance.maxHeartbeats 400000
set_option synthInstance.maxSize 2000

namespace FL
open PySem PySem.Spec PyProof.Rows L2

inductive D where
  | non | bl (b : Bool) | int (i : Int) | str (x : Str) | tup (ds : List D) | lst (ds : List D) | loc (l : Nat) | scr (ns : List Int) | exc (cls : String) (ns : List Str) (ds : List D)
  deriving Inhabited

inductive SO where
  | lst (ds : List D)
  | dic (kvs : List (Key × D))
  deriving Inhabited
mutual
def D.beq : D → D → Bool
  | .non, .non => true
  | .bl a, .bl b => a == b
  | .int a, .int b => decide (a = b)
  | .str a, .str b => decide (a = b)
  | .tup a, .tup b => D.beqs a b
  | .lst a, .lst b => D.beqs a b
  | .loc a, .loc b => decide (a = b)
  | .scr a, .scr b => decide (a = b)
  | .exc c n a, .exc c' n' b => decide (c = c') && decide (n = n') && D.beqs a b
  | _, _ => false
def D.beqs : List D → List D → Bool
  | [], [] => true
  | a :: as, b :: bs => D.beq a b && D.beqs as bs
  | _, _ => false
end
mutual
theorem D.beq_eq : ∀ {a b : D}, D.beq a b = true → a = b
  | .non, b, h => by cases b <;> simp_all [D.beq]
  | .bl _, b, h => by cases b <;> simp_all [D.beq]
  | .int _, b, h => by cases b <;> simp_all [D.beq]
  | .str _, b, h => by cases b <;> simp_all [D.beq]
  | .tup as, b, h => by
    cases b with
    | tup bs => rw [D.beqs_eq (show D.beqs as bs = true by simpa [D.beq] using h)]
    | _ => simp [D.beq] at h
  | .lst as, b, h => by
    cases b with
    | lst bs => rw [D.beqs_eq (show D.beqs as bs = true by simpa [D.beq] using h)]
    | _ => simp [D.beq] at h
  | .loc _, b, h => by cases b <;> simp_all [D.beq]
  | .scr _, b, h => by cases b <;> simp_all [D.beq]
  | .exc c n as, b, h => by
    cases b with
    | exc c' n' bs =>
      have h' : (decide (c = c') && decide (n = n') && D.beqs as bs) = true := by simpa [D.beq] using h
      simp only [Bool.and_eq_true, decide_eq_true_eq] at h'
      rw [h'.1.1, h'.1.2, D.beqs_eq h'.2]
    | _ => simp [D.beq] at h
theorem D.beqs_eq : ∀ {as bs : List D}, D.beqs as bs = true → as = bs
  | [], bs, h => by cases bs <;> simp_all [D.beqs]
  | a :: as, bs, h => by
    cases bs with
    | nil => simp [D.beqs] at h
    | cons b bs =>
      simp only [D.beqs, Bool.and_eq_true] at h
      rw [D.beq_eq h.1, D.beqs_eq h.2]
end
mutual
theorem D.beq_refl : ∀ a : D, D.beq a a = true
  | .non => rfl
  | .bl _ => by simp [D.beq]
  | .int _ => by simp [D.beq]
  | .str _ => by simp [D.beq]
  | .tup as => by simpa [D.beq] using D.beqs_refl as
  | .lst as => by simpa [D.beq] using D.beqs_refl as
  | .loc _ => by simp [D.beq]
  | .scr _ => by simp [D.beq]
  | .exc _ _ as => by simpa [D.beq] using D.beqs_refl as
theorem D.beqs_refl : ∀ as : List D, D.beqs as as = true
  | [] => rfl
  | a :: as => by simp [D.beqs, D.beq_refl a, D.beqs_refl as]
end
def kvsB : List (Key × D) → List (Key × D) → Bool
  | [], [] => true
  | a :: as, b :: bs => decide (a.1 = b.1) && D.beq a.2 b.2 && kvsB as bs
  | _, _ => false
theorem kvsB_eq : ∀ {as bs : List (Key × D)}, kvsB as bs = true → as = bs
  | [], [], _ => rfl
  | [], _ :: _, h => by simp [kvsB] at h
  | _ :: _, [], h => by simp [kvsB] at h
  | a :: as, b :: bs, h => by
    unfold kvsB at h
    simp only [Bool.and_eq_true, decide_eq_true_eq] at h
    rw [kvsB_eq h.2, Prod.ext h.1.1 (D.beq_eq h.1.2)]
theorem kvsB_refl : ∀ as : List (Key × D), kvsB as as = true
  | [] => rfl
  | a :: as => by simp [kvsB, D.beq_refl, kvsB_refl as]
def SO.beq : SO → SO → Bool
  | .lst a, .lst b => D.beqs a b
  | .dic a, .dic b => kvsB a b
  | _, _ => false
theorem SO.beq_eq {a b : SO} (h : SO.beq a b = true) : a = b := by
  cases a with
  | lst as =>
    cases b with
    | lst bs => rw [D.beqs_eq (show D.beqs as bs = true from h)]
    | dic _ => cases h
  | dic as =>
    cases b with
    | dic bs => rw [kvsB_eq (show kvsB as bs = true from h)]
    | lst _ => cases h
theorem SO.beq_refl (a : SO) : SO.beq a a = true := by
  cases a with
  | lst as => exact D.beqs_refl as
  | dic as => exact kvsB_refl as
abbrev Sto := List SO
abbrev Env := List (Option D)

structure Rho where
  ad : List Addr
  pv : List Addr := []
def Rho.out (r : Rho) (a : Addr) : Prop := a ∉ r.ad ∧ a ∉ r.pv
def Rho.app (r : Rho) (t q : List Addr) : Rho := ⟨r.ad ++ t, q ++ r.pv⟩
@[simp] theorem Rho.app_ad (r : Rho) (t q : List Addr) : (r.app t q).ad = r.ad ++ t := rfl
@[simp] theorem Rho.app_pv (r : Rho) (t q : List Addr) : (r.app t q).pv = q ++ r.pv := rfl
@[simp] theorem Rho.app_nil (r : Rho) : r.app [] [] = r := by cases r; simp [Rho.app]
theorem Rho.app_app (r : Rho) (t u q p : List Addr) : (r.app t q).app u p = r.app (t ++ u) (p ++ q) := by simp [Rho.app]
def TupAt (K : PySem.W.Frag) (H : Hp) (r : Rho) (a : Addr) (xs : List V) : Prop :=
  (r.out a ∧ ∃ o : Obj, o.dict = none ∧ H a = some (.frz o (.tup xs))) ∨
    ∃ (o : Obj) (its : Array Value) (n : Nat), K.lookup a = some o ∧ o.cls = .type "tuple" ∧ o.dict = none ∧ o.data = .seq its n ∧ its.size ≤ sizeLine ∧ Vals xs its.toList
def LstAt (H : Hp) (r : Rho) (a : Addr) (xs : List V) : Prop := r.out a ∧ H a = some (.lst xs)
def ScrAt (K : PySem.W.Frag) (H : Hp) (r : Rho) (a : Addr) (xs : List V) : Prop :=
  (r.out a ∧ Rd H a (.lst xs)) ∨
    ∃ (o : Obj) (its : Array Value) (n : Nat), K.lookup a = some o ∧ o.cls = .type "list" ∧ o.dict = none ∧ o.data = .seq its n ∧ its.size ≤ sizeLine ∧ Vals xs its.toList
theorem TupAt.sq {K H r a xs} (h : TupAt K H r a xs) : SqT K H a xs := by
  rcases h with ⟨_, o, _, h⟩ | ⟨o, its, n, h1, h2, _, h3⟩
  · exact .inl (.inr ⟨o, h⟩)
  · exact .inr ⟨o, its, n, h1, h2, h3⟩
theorem LstAt.sq {K H r a xs} (h : LstAt H r a xs) : SqL K H a xs := .inl (.inl h.2)
theorem ScrAt.sq {K H r a xs} (h : ScrAt K H r a xs) : SqL K H a xs := by
  rcases h with ⟨_, h⟩ | h
  · exact .inl h
  · exact .inr h

def ExE (cls : Value) (d : Option Addr) (a : Addr) : HO := .ext fun h => ∃ (oe : Obj) (vs : Array Value), h.get? a = some oe ∧ Zc cls d oe ∧ oe.data = .fields vs
def ExcAt (K : PySem.W.Frag) (H : Hp) (r : Rho) (cls : String) (ns : List Str) (a : Addr) (vs : List V) : Prop :=
  ∃ (C : Addr) (d : Option Addr), r.out a ∧ PySem.W.nsIn K mainGlobals (Str.ofString cls) = some (some (.ref C)) ∧ H a = some (ExE (.ref C) d a) ∧
    ((ns = [] ∧ vs = [] ∧ d = none) ∨ ∃ dd, d = some dd ∧ r.out dd ∧ H dd = some (.xd (ns.zip vs)) ∧ ns ≠ [])
mutual
def VD (K : PySem.W.Frag) (H : Hp) (r : Rho) : D → V → Prop
  | .non, v => v = .non
  | .bl b, v => v = .bl b
  | .int i, v => v = .int i
  | .str x, v => v = .str x
  | .tup ds, v => ∃ a xs, v = .ref a ∧ TupAt K H r a xs ∧ VDs K H r ds xs
  | .lst ds, v => ∃ a xs, v = .ref a ∧ LstAt H r a xs ∧ VDs K H r ds xs
  | .loc l, v => ∃ a, v = .ref a ∧ r.ad[l]? = some a
  | .scr ns, v => ∃ a, v = .ref a ∧ ScrAt K H r a (ns.map V.int)
  | .exc cls ns ds, v => ∃ a vs, v = .ref a ∧ ExcAt K H r cls ns a vs ∧ VDs K H r ds vs
def VDs (K : PySem.W.Frag) (H : Hp) (r : Rho) : List D → List V → Prop
  | [], xs => xs = []
  | d :: ds, xs => ∃ x t, xs = x :: t ∧ VD K H r d x ∧ VDs K H r ds t
end

def VDi (w : Bool) (K : PySem.W.Frag) (H : Hp) (r : Rho) (d : D) (v : V) : Prop :=
  VD K H r d v ∨ (w = true ∧ ∃ ds a xs, d = .tup ds ∧ v = .ref a ∧ r.out a ∧ Rd H a (.tup xs) ∧ VDs K H r ds xs)
theorem VDi.vd {K H r d v} (h : VDi false K H r d v) : VD K H r d v := h.resolve_right fun q => by cases q.1
theorem VDi.tup {w K H r ds v} (h : VDi w K H r (.tup ds) v) : ∃ a xs, v = .ref a ∧ SqT K H a xs ∧ VDs K H r ds xs := by
  rcases h with ⟨a, xs, h1, h2, h3⟩ | ⟨_, es, a, xs, h0, h1, _, h2, h3⟩
  · exact ⟨a, xs, h1, h2.sq, h3⟩
  · cases h0; exact ⟨a, xs, h1, .inl h2, h3⟩
def wkT : Expr → Bool
  | .Tuple _ _ _ => true
  | _ => false

def OD (K : PySem.W.Frag) (H : Hp) (r : Rho) : SO → HO → Prop
  | .lst ds, o => ∃ xs, o = .lst xs ∧ VDs K H r ds xs
  | .dic kvs, o => ∃ kxs : List (Key × V), o = .dK kxs ∧ Paired (fun p q => p.1 = q.1 ∧ VD K H r p.2 q.2) kvs kxs

def Nx (o : HO) : Prop := (∀ ps, o ≠ .tbl ps) ∧ ∀ c q, o ≠ LamX.CodeO c q
theorem nx_lst {xs : List V} : Nx (.lst xs) := ⟨fun ps z => (by cases z), fun c q z => by unfold LamX.CodeO at z; cases z⟩
theorem nx_dK {kxs : List (Key × V)} : Nx (.dK kxs) := ⟨fun ps z => (by cases z), fun c q z => by unfold LamX.CodeO at z; cases z⟩
theorem OD.nx {K H r} : ∀ {o : SO} {h : HO}, OD K H r o h → Nx h
  | .lst _, _, ⟨_, e, _⟩ => e ▸ nx_lst
  | .dic _, _, ⟨_, e, _⟩ => e ▸ nx_dK
def Nt (H : Hp) (a : Addr) : Prop := ∀ o, H a = some o → ∃ ps, o = .tbl ps
theorem Nt.none {H : Hp} {a : Addr} (h : H a = none) : Nt H a := fun o e => by rw [h] at e; cases e
theorem tabS_at {H H' : Hp} {p P : Addr} {q : Str} (hH : ∀ a, a ≠ p → H' a = H a) (hn : ∀ o, H p = some o → Nx o) (t : LamX.TabS H P q) : LamX.TabS H' P q := by
  obtain ⟨ps, h1, h2, h3⟩ := t
  refine ⟨ps, (hH P fun e => (hn _ (e ▸ h1)).1 ps rfl).trans h1, h2, fun pos cv hc => ?_⟩
  obtain ⟨c, e1, e2⟩ := h3 pos cv hc
  exact ⟨c, e1, (hH c fun e => (hn _ (e ▸ e2)).2 c q rfl).trans e2⟩
class TabCtx where
  tabs : List (Addr × Str)
variable [TabCtx]
structure SR (K : PySem.W.Frag) (H : Hp) (r : Rho) (st : Sto) : Prop where
  len : r.ad.length = st.length
  nd : r.ad.Nodup
  obj : ∀ (l : Nat) o, st[l]? = some o → ∃ a h, r.ad[l]? = some a ∧ H a = some h ∧ OD K H r o h
  apart : ∀ a ∈ r.pv, a ∉ r.ad ∧ ∃ o, Nx o ∧ H a = some o
  tabs : ∀ p ∈ TabCtx.tabs, LamX.TabS H p.1 p.2

structure Ext (H : Hp) (r : Rho) (H' : Hp) (r' : Rho) : Prop where
  pre : ∃ t q, r' = r.app t q ∧ (∀ a ∈ t, Nt H a) ∧ ∀ a ∈ q, Nt H a
  keep : ∀ a o, a ∉ r.ad → (∀ ps, o ≠ HO.tbl ps) → H a = some o → H' a = some o

theorem Ext.refl (H : Hp) (r : Rho) : Ext H r H r := ⟨⟨[], [], by simp, by simp, by simp⟩, fun _ _ _ _ h => h⟩
theorem Ext.newad {H r H' r'} (e : Ext H r H' r') {a : Addr} (h1 : a ∉ r.ad) {o : HO} (h2 : H a = some o) (n : ∀ ps, o ≠ .tbl ps := by intro ps z; cases z) : a ∉ r'.ad := by
  obtain ⟨t, q, rfl, ht, _⟩ := e.pre
  intro h
  rcases List.mem_append.mp h with h | h
  · exact h1 h
  · obtain ⟨ps, z⟩ := ht a h o h2
    exact n ps z
theorem Ext.new {H r H' r'} (e : Ext H r H' r') {a : Addr} (h1 : r.out a) {o : HO} (h2 : H a = some o) (n : ∀ ps, o ≠ .tbl ps := by intro ps z; cases z) : r'.out a := by
  refine ⟨e.newad h1.1 h2 n, ?_⟩
  obtain ⟨t, q, rfl, _, hq⟩ := e.pre
  intro h
  rcases List.mem_append.mp h with h | h
  · obtain ⟨ps, z⟩ := hq a h o h2
    exact n ps z
  · exact h1.2 h
theorem SR.thereN {K H r st} (s : SR K H r st) {a : Addr} (h : a ∈ r.ad) : ∃ o, Nx o ∧ H a = some o := by
  obtain ⟨l, hl, e⟩ := List.getElem_of_mem h
  have hl2 : l < st.length := by rw [← s.len]; exact hl
  obtain ⟨b, o, h1, h2, h3⟩ := s.obj l st[l] (List.getElem?_eq_getElem hl2)
  rw [List.getElem?_eq_getElem hl, e] at h1
  cases h1
  exact ⟨o, h3.nx, h2⟩
theorem SR.there {K H r st} (s : SR K H r st) {a : Addr} (h : a ∈ r.ad) : ∃ o, H a = some o := let ⟨o, _, e⟩ := s.thereN h; ⟨o, e⟩
theorem Ext.back {K H r H1 r1 st} (e : Ext H r H1 r1) (s : SR K H1 r1 st) {a : Addr} (h : Nt H1 a) : Nt H a := fun o q => by
  by_cases n : ∃ ps, o = .tbl ps
  · exact n
  exfalso
  have n' : ∀ ps, o ≠ .tbl ps := fun ps z => n ⟨ps, z⟩
  by_cases hr : a ∈ r.ad
  · obtain ⟨t, p, rfl, _⟩ := e.pre
    obtain ⟨o', hn, ho'⟩ := s.thereN (List.mem_append_left t hr)
    obtain ⟨ps, z⟩ := h o' ho'
    exact hn.1 ps z
  · obtain ⟨ps, z⟩ := h o (e.keep a o hr n' q)
    exact n' ps z
theorem Ext.trans {K H r H1 r1 H2 r2 st} (e : Ext H r H1 r1) (s : SR K H1 r1 st) (f : Ext H1 r1 H2 r2) : Ext H r H2 r2 := by
  obtain ⟨t, q, e1, ht, hq⟩ := id e.pre
  obtain ⟨u, p, e2, hu, hp⟩ := id f.pre
  refine ⟨⟨t ++ u, p ++ q, by rw [e2, e1, Rho.app_app], fun a ha => ?_, fun a ha => ?_⟩, fun a o h1 n h2 => f.keep a o (e.newad h1 h2 n) n (e.keep a o h1 n h2)⟩
  · rcases List.mem_append.mp ha with h | h
    · exact ht a h
    · exact e.back s (hu a h)
  · rcases List.mem_append.mp ha with h | h
    · exact e.back s (hp a h)
    · exact hq a h
theorem Rd.ext {H r H' r'} (e : Ext H r H' r') {a : Addr} {u : HO} (h1 : r.out a) (h : Rd H a u) (n : ∀ ps, u ≠ .tbl ps := by intro ps z; cases z) : r'.out a ∧ Rd H' a u := by
  rcases h with h | ⟨o, h⟩
  · exact ⟨e.new h1 h n, .inl (e.keep _ _ h1.1 n h)⟩
  · exact ⟨e.new h1 h, .inr ⟨o, e.keep _ _ h1.1 (fun ps z => by cases z) h⟩⟩
theorem TupAt.ext {K H r H' r' a xs} (e : Ext H r H' r') (h : TupAt K H r a xs) : TupAt K H' r' a xs := by
  rcases h with ⟨h1, o, h2, h⟩ | h
  · exact .inl ⟨e.new h1 h, o, h2, e.keep _ _ h1.1 (fun ps z => by cases z) h⟩
  · exact .inr h
theorem LstAt.ext {H r H' r' a xs} (e : Ext H r H' r') (h : LstAt H r a xs) : LstAt H' r' a xs := ⟨e.new h.1 h.2, e.keep _ _ h.1.1 (fun ps z => by cases z) h.2⟩
theorem ScrAt.ext {K H r H' r' a xs} (e : Ext H r H' r') (h : ScrAt K H r a xs) : ScrAt K H' r' a xs := by
  rcases h with ⟨h1, h⟩ | h
  · exact .inl (Rd.ext e h1 h)
  · exact .inr h
theorem exE_nt {cls : Value} {d : Option Addr} {a : Addr} : ∀ ps, ExE cls d a ≠ .tbl ps := fun ps z => by unfold ExE at z; cases z
theorem ExcAt.ext {K H r H' r' cls ns a vs} (e : Ext H r H' r') (h : ExcAt K H r cls ns a vs) : ExcAt K H' r' cls ns a vs := by
  obtain ⟨C, d, h1, h2, h3, h4⟩ := h
  refine ⟨C, d, e.new h1 h3 exE_nt, h2, e.keep _ _ h1.1 exE_nt h3, ?_⟩
  rcases h4 with h4 | ⟨dd, h5, h6, h7, h8⟩
  · exact .inl h4
  · exact .inr ⟨dd, h5, e.new h6 h7, e.keep _ _ h6.1 (fun ps z => by cases z) h7, h8⟩
theorem Ext.get {H r H' r'} (e : Ext H r H' r') {l : Nat} {a : Addr} (h : r.ad[l]? = some a) : r'.ad[l]? = some a := by
  obtain ⟨t, q, rfl, _⟩ := e.pre
  rw [Rho.app_ad, List.getElem?_append_left (List.getElem?_eq_some_iff.mp h).1]
  exact h
mutual
theorem VD.ext {K H r H' r'} (e : Ext H r H' r') : ∀ (d : D) (v : V), VD K H r d v → VD K H' r' d v
  | .non, _, h => h
  | .bl _, _, h => h
  | .int _, _, h => h
  | .str _, _, h => h
  | .tup ds, v, h => by
    obtain ⟨a, xs, h1, h2, h3⟩ := h
    exact ⟨a, xs, h1, h2.ext e, VDs.ext e ds xs h3⟩
  | .lst ds, v, h => by
    obtain ⟨a, xs, h1, h2, h3⟩ := h
    exact ⟨a, xs, h1, h2.ext e, VDs.ext e ds xs h3⟩
  | .loc l, v, h => by
    obtain ⟨a, h1, h2⟩ := h
    exact ⟨a, h1, e.get h2⟩
  | .scr ns, v, h => by
    obtain ⟨a, h1, h2⟩ := h
    exact ⟨a, h1, h2.ext e⟩
  | .exc cls ns ds, v, h => by
    obtain ⟨a, vs, h1, h2, h3⟩ := h
    exact ⟨a, vs, h1, h2.ext e, VDs.ext e ds vs h3⟩
theorem VDs.ext {K H r H' r'} (e : Ext H r H' r') : ∀ (ds : List D) (xs : List V), VDs K H r ds xs → VDs K H' r' ds xs
  | [], _, h => h
  | d :: ds, xs, h => by
    obtain ⟨x, t, h1, h2, h3⟩ := h
    exact ⟨x, t, h1, VD.ext e d x h2, VDs.ext e ds t h3⟩
end
theorem VDs.len {K H r} : ∀ {ds : List D} {xs : List V}, VDs K H r ds xs → ds.length = xs.length
  | [], _, h => by cases h; rfl
  | d :: ds, xs, h => by
    obtain ⟨x, t, rfl, h2, h3⟩ := h
    simp [VDs.len h3]
theorem VDs.get {K H r} : ∀ {ds : List D} {xs : List V} {i : Nat} {d : D}, VDs K H r ds xs → ds[i]? = some d → ∃ x, xs[i]? = some x ∧ VD K H r d x
  | [], _, i, d, h, e => by simp at e
  | d' :: ds, xs, 0, d, h, e => by
    obtain ⟨x, t, rfl, h2, h3⟩ := h
    simp at e; subst e
    exact ⟨x, rfl, h2⟩
  | d' :: ds, xs, i + 1, d, h, e => by
    obtain ⟨x, t, rfl, h2, h3⟩ := h
    obtain ⟨y, h4, h5⟩ := VDs.get (i := i) h3 (by simpa using e)
    exact ⟨y, by simpa using h4, h5⟩
theorem VDs.getD {K H r} {ds : List D} {xs : List V} (h : VDs K H r ds xs) {i : Nat} {x : V} (e : xs[i]? = some x) : ∃ d, ds[i]? = some d ∧ VD K H r d x := by
  have hl := h.len
  have hi : i < ds.length := by rw [hl]; exact (List.getElem?_eq_some_iff.mp e).1
  obtain ⟨y, h1, h2⟩ := h.get (List.getElem?_eq_getElem hi)
  rw [e] at h1; cases h1
  exact ⟨_, List.getElem?_eq_getElem hi, h2⟩
theorem VDs.app {K H r} : ∀ {ds : List D} {xs : List V} {es : List D} {ys : List V}, VDs K H r ds xs → VDs K H r es ys → VDs K H r (ds ++ es) (xs ++ ys)
  | [], _, _, _, h, g => by cases h; exact g
  | d :: ds, _, _, _, h, g => by
    obtain ⟨x, t, rfl, h2, h3⟩ := h
    exact ⟨x, t ++ _, rfl, h2, VDs.app h3 g⟩
theorem VDs.take {K H r} : ∀ {ds : List D} {xs : List V} (n : Nat), VDs K H r ds xs → VDs K H r (ds.take n) (xs.take n)
  | _, _, 0, h => by simp [VDs]
  | [], _, n + 1, h => by cases h; simp [VDs]
  | d :: ds, _, n + 1, h => by
    obtain ⟨x, t, rfl, h2, h3⟩ := h
    exact ⟨x, t.take n, rfl, h2, VDs.take n h3⟩
theorem VDs.drop {K H r} : ∀ {ds : List D} {xs : List V} (n : Nat), VDs K H r ds xs → VDs K H r (ds.drop n) (xs.drop n)
  | _, _, 0, h => by simpa using h
  | [], _, n + 1, h => by cases h; simp [VDs]
  | d :: ds, _, n + 1, h => by
    obtain ⟨x, t, rfl, h2, h3⟩ := h
    simpa using VDs.drop n h3
theorem VDs.set {K H r} {d : D} {x : V} (hd : VD K H r d x) : ∀ {ds : List D} {xs : List V} (i : Nat), VDs K H r ds xs → VDs K H r (ds.set i d) (xs.set i x)
  | [], _, i, h => by cases h; simp [VDs]
  | d' :: ds, _, 0, h => by
    obtain ⟨y, t, rfl, h2, h3⟩ := h
    exact ⟨x, t, rfl, hd, h3⟩
  | d' :: ds, _, i + 1, h => by
    obtain ⟨y, t, rfl, h2, h3⟩ := h
    exact ⟨y, t.set i x, rfl, h2, VDs.set hd i h3⟩
theorem VDs.one {K H r d x} (h : VD K H r d x) : VDs K H r [d] [x] := ⟨x, [], rfl, h, rfl⟩
theorem VDs.ints {K H r} : ∀ (ns : List Int), VDs K H r (ns.map D.int) (ns.map V.int)
  | [] => rfl
  | n :: ns => ⟨_, _, rfl, rfl, VDs.ints ns⟩


structure Exc where
  cls : String
  fs : List (Str × D) := []
inductive Res (α : Type) where
  | ok (a : α) (st : Sto)
  | ex (x : Exc) (st : Sto)
  | bad
def Res.bind {α β : Type} (r : Res α) (k : α → Sto → Res β) : Res β :=
  match r with
  | .ok a st => k a st
  | .ex x st => .ex x st
  | .bad => .bad
@[simp] theorem Res.bind_ok {α β : Type} (a : α) (st : Sto) (k : α → Sto → Res β) : (Res.ok a st).bind k = k a st := rfl
@[simp] theorem Res.bind_ex {α β : Type} (x : Exc) (st : Sto) (k : α → Sto → Res β) : (Res.ex x st).bind k = .ex x st := rfl
@[simp] theorem Res.bind_bad {α β : Type} (k : α → Sto → Res β) : (Res.bad : Res α).bind k = .bad := rfl

abbrev EM := Env → Sto → Res D
abbrev Fn := List D → Sto → Res D

inductive Out where
  | nx (env : Env) | rt (d : D)

section
variable {X : Cx} {e : Expr} {es : List Expr} {te : TE} {t : TA} {pos : Pos}
def tupO (us : Array Value) : Obj := { cls := .type "tuple", data := .seq us }
theorem tupO_ok {P : Program} {w : World} {H : Hp} {h : Heap} {xs : List V} {us : List Value} (hz : xs.length ≤ sizeLine) (rv : Vals xs us) :
    ObjOk P w H (h.push (tupO us.toArray)) h.objs.size (.frz (tupO us.toArray) (.tup xs)) :=
  ⟨Heap.get?_push_size _ rfl, hz, us, rv, IsTup.new _ _⟩
def NewT (H : Hp) (Q : VK) (xs : List V) : Prop := ∀ (p : Addr) (o : Obj), o.dict = none → H p = none → Q (.ref p) (upd H p (.frz o (.tup xs)))
theorem laidT {pins : List (Addr × Obj)} {s : Shared} {σ : L2.St} {H : Hp} {xs : List V} {us : List Value} {Q : VK} (I : Inv X pins σ H s) (hz : xs.length ≤ sizeLine) (rv : Vals xs us) (q : NewT H Q xs) :
    EP X pins σ Q (.ref s.heap.objs.size) { s with heap := s.heap.push (tupO us.toArray) } :=
  ⟨.ref s.heap.objs.size, _, I.laid (t' := s.toks) (fun _ _ z => Heap.get?_push_of_some _ z) (Nat.le_refl _) (tupO_ok hz rv), rfl, q _ _ rfl (I.hok.fresh (Nat.le_refl _))⟩
def tTupZ (t : TA) : TE := fun σ H Q => t σ H fun xs H1 => xs.length ≤ sizeLine ∧ NewT H1 Q xs
theorem pe_tupZ {x1} (h : PA X es t) : PE X (.Tuple es x1 pos) (tTupZ t) :=
  ⟨fun pins s σ H Q I hq => wpAny_Tuple_spliced (thn (h.run pos pins s σ H _ I hq) fun us s1 ⟨xs, H1, I1, r, z, q⟩ =>
    ⟨by rw [← r.length]; exact z, laidT I1 z r q⟩)⟩
def rCatZ (K : PySem.W.Frag) : R2 := fun x y H Q => ∃ a b xs ys, x = .ref a ∧ y = .ref b ∧ SqT K H a xs ∧ SqT K H b ys ∧
  xs.length + ys.length ≤ sizeLine ∧ (xs = [] → Q (.ref b) H) ∧ (xs ≠ [] → ys = [] → Q (.ref a) H) ∧ (xs ≠ [] → ys ≠ [] → NewT H Q (xs ++ ys))
theorem op_catZ : OpR X (binaryOp .Add) (rCatZ X.K) := by
  intro pins s σ H x y v u Q I rx ry ⟨a, b, xs, ys, ex, ey, ha, hb, hz, q0, q1, q2⟩
  subst ex ey
  cases rx; cases ry
  obtain ⟨us, r1, p1, _⟩ := I.tuple ha
  obtain ⟨ws, r2, p2, _⟩ := I.tuple hb
  by_cases hx : xs = []
  · subst hx
    cases r1
    exact cat_tup0 p1 p2 ⟨.ref b, H, I, rfl, q0 rfl⟩
  refine HT.cat_tup p1 p2 (fun z => hx (r1.nil_iff.mp z)) (fun z => ⟨.ref a, H, I, rfl, q1 hx (r2.nil_iff.mp z)⟩) (fun z => ?_) ?_
  · exact laidT (us := us ++ ws) I (by simpa using hz) (r1.append r2) (q2 hx fun e => z (r2.nil_iff.mpr e))
  · rw [← r1.length, ← r2.length]; exact hz
def rSlZ (K : PySem.W.Frag) : V → Option Int → Option Int → Hp → VK → Prop := fun x lo hi H Q => ∃ a xs, x = .ref a ∧ SqT K H a xs ∧
  (HT.sIx xs.length 0 lo = 0 ∧ HT.sIx xs.length xs.length hi = xs.length → Q (.ref a) H) ∧ (¬ (HT.sIx xs.length 0 lo = 0 ∧ HT.sIx xs.length xs.length hi = xs.length) → NewT H Q (cutV xs lo hi))
theorem sl_tupZ : SlR X (rSlZ X.K) := by
  intro pins s σ H x v vl vu lo hi sl Q I rx hs pl pu ⟨a, xs, ex, hx, q1, q2⟩
  subst ex
  cases rx
  obtain ⟨us, r, ht, hz⟩ := I.tuple hx
  have hn : us.toArray.size = xs.length := by rw [List.size_toArray, r.length]
  refine ⟨"tuple", _, PyProof.Rows.slot_tuple_getitem.lookup, ht.typeIs, ?_⟩
  by_cases hw : HT.sIx xs.length 0 lo = 0 ∧ HT.sIx xs.length xs.length hi = xs.length
  · exact getItem_tuple_whole ht hs pl pu (hn ▸ hw) ⟨.ref a, H, I, rfl, q1 hw⟩
  · refine HT.getItem_tuple_cut ht hs pl pu (hn ▸ hw) ?_ (hn ▸ hz)
    rw [hn]
    exact laidT I (Nat.le_trans (cutV_length xs lo hi) hz) ((r.drop _).take _) (q2 hw)
theorem call_tupZ : CallR X (.type "tuple") (fun xs H Q => ∃ p ys, xs = [.ref p] ∧ ((SqL X.K H p ys ∧ NewT H Q ys) ∨ (SqT X.K H p ys ∧ Q (.ref p) H))) := by
  intro pins s σ H xs us Q I r ⟨p, ys, ex, h⟩
  subst ex
  obtain ⟨u, eu, rx⟩ := vals1 r
  subst eu
  cases rx
  rcases h with ⟨hq, q⟩ | ⟨hq, q⟩
  · obtain ⟨ws, rw', pl, hz⟩ := I.list hq
    refine call_tuple_list pl.isList (fun h' kp => ?_) (by rw [List.size_toArray, ← rw'.length]; exact hz)
    exact laidT (I.kept (t' := s.toks) kp) hz rw' q
  · obtain ⟨ws, _, pl, _⟩ := I.tuple hq
    exact call_tuple_same pl ⟨.ref p, H, I, rfl, q⟩
end


section
variable {X : Cx} {o e : Expr} {es : List Expr} {to : TE} {t : TA} {name : Str} {apos cpos : Pos} {id : String} {r : V → List V → Hp → VK → Prop}
end

end FL

namespace FL
open PySem PySem.Spec PyProof.Rows L2
variable [TabCtx]


theorem paired_imp {α β : Type} {F G : α → β → Prop} (f : ∀ a b, F a b → G a b) : ∀ {l₁ : List α} {l₂ : List β}, Paired F l₁ l₂ → Paired G l₁ l₂
  | _, _, .nil => .nil
  | _, _, .cons r t => .cons (f _ _ r) (paired_imp f t)
theorem OD.ext {K H r H' r'} (e : Ext H r H' r') : ∀ (o : SO) (h : HO), OD K H r o h → OD K H' r' o h
  | .lst ds, h, ⟨xs, h1, h2⟩ => ⟨xs, h1, h2.ext e⟩
  | .dic kvs, h, ⟨xs, h1, h2⟩ => ⟨xs, h1, paired_imp (fun _ _ q => ⟨q.1, q.2.ext e⟩) h2⟩
theorem SR.notad {K H r st} (s : SR K H r st) {p : Addr} (h : H p = none) : p ∉ r.ad := fun q => by
  obtain ⟨o, e⟩ := s.there q
  rw [h] at e; cases e
theorem SR.notin {K H r st} (s : SR K H r st) {p : Addr} (h : H p = none) : r.out p := ⟨s.notad h, fun q => by
  obtain ⟨_, o, _, e⟩ := s.apart p q
  rw [h] at e; cases e⟩
theorem Ext.fresh {H : Hp} {r : Rho} {p : Addr} {o : HO} (h : H p = none) : Ext H r (upd H p o) r :=
  ⟨⟨[], [], by simp, by simp, by simp⟩, fun a o' _ _ e => by rw [upd_ne (ne_of_none e h)]; exact e⟩
theorem SR.apart_ext {K H r st H' t} (s : SR K H r st) (e : Ext H r H' (r.app t [])) : ∀ a ∈ (r.app t []).pv, a ∉ (r.app t []).ad ∧ ∃ o, Nx o ∧ H' a = some o := fun a ha => by
  obtain ⟨h1, o, n, h2⟩ := s.apart a ha
  exact ⟨e.newad h1 h2 n.1, o, n, e.keep a o h1 n.1 h2⟩
theorem SR.tabs_fresh {K H r st} (s : SR K H r st) {p : Addr} {o : HO} (h : H p = none) : ∀ q ∈ TabCtx.tabs, LamX.TabS (upd H p o) q.1 q.2 := fun q hq => (s.tabs q hq).ext fun b o' e => by rw [upd_ne (ne_of_none e h)]; exact e
theorem SR.fresh {K H r st} (s : SR K H r st) {p : Addr} {o : HO} (h : H p = none) : SR K (upd H p o) r st := by
  refine ⟨s.len, s.nd, fun l so e => ?_, fun a ha => ?_, s.tabs_fresh h⟩
  · obtain ⟨a, x, h1, h2, h3⟩ := s.obj l so e
    exact ⟨a, x, h1, by rw [upd_ne (ne_of_none h2 h)]; exact h2, h3.ext (Ext.fresh h)⟩
  · obtain ⟨h1, o', n, h2⟩ := s.apart a ha
    exact ⟨h1, o', n, by rw [upd_ne (ne_of_none h2 h)]; exact h2⟩
theorem Ext.grown {K H r st} (s : SR K H r st) {p : Addr} {o : HO} (h : H p = none) : Ext H r (upd H p o) (r.app [p] []) :=
  ⟨⟨[p], [], rfl, (fun a ha => by rw [List.mem_singleton.mp ha]; exact .none h), by simp⟩, fun a o' _ _ e => by rw [upd_ne (ne_of_none e h)]; exact e⟩
theorem SR.grown {K H r st} (s : SR K H r st) {p : Addr} {o : HO} {so : SO} (h : H p = none) (ho : OD K H r so o) : SR K (upd H p o) (r.app [p] []) (st ++ [so]) := by
  have e := Ext.grown s (o := o) h
  refine ⟨by simp [s.len], ?_, fun l so' q => ?_, s.apart_ext e, s.tabs_fresh h⟩
  · rw [Rho.app_ad, List.nodup_append]
    refine ⟨s.nd, by simp, fun a ha b hb => ?_⟩
    rw [List.mem_singleton.mp hb]
    rintro rfl
    exact s.notad h ha
  · by_cases hl : l < st.length
    · rw [List.getElem?_append_left hl] at q
      obtain ⟨a, x, h1, h2, h3⟩ := s.obj l so' q
      exact ⟨a, x, e.get h1, by rw [upd_ne (ne_of_none h2 h)]; exact h2, h3.ext e⟩
    · have hl2 : l = st.length := by
        have := (List.getElem?_eq_some_iff.mp q).1
        simp at this; omega
      subst hl2
      simp at q; subst q
      refine ⟨p, o, by rw [← s.len]; simp, upd_same, ho.ext e⟩
theorem Ext.set {H : Hp} {r : Rho} {l : Nat} {a : Addr} {o : HO} (h : r.ad[l]? = some a) : Ext H r (upd H a o) r :=
  ⟨⟨[], [], by simp, by simp, by simp⟩, fun b o' hb _ e => by
    rw [upd_ne]
    · exact e
    · rintro rfl
      exact hb (List.mem_of_getElem? h)⟩
theorem SR.set {K H r st} (s : SR K H r st) {l : Nat} {a : Addr} {o : HO} {so : SO} (h : r.ad[l]? = some a) (ho : OD K H r so o) : SR K (upd H a o) r (st.set l so) := by
  have e := Ext.set (H := H) (o := o) h
  refine ⟨by simp [s.len], s.nd, fun k so' q => ?_, by have := s.apart_ext (t := []) (by simpa using e); simpa using this, fun q hq => tabS_at (p := a) (fun b hb => upd_ne hb) (fun o' ho' => by
    obtain ⟨o2, n, h2⟩ := s.thereN (List.mem_of_getElem? h)
    rw [h2] at ho'; cases ho'; exact n) (s.tabs q hq)⟩
  by_cases hk : k = l
  · subst hk
    have hk2 : k < st.length := by
      have := (List.getElem?_eq_some_iff.mp h).1
      rw [s.len] at this; exact this
    rw [List.getElem?_set_self hk2] at q
    cases q
    exact ⟨a, o, h, upd_same, ho.ext e⟩
  · rw [List.getElem?_set_ne (Ne.symm hk)] at q
    obtain ⟨b, x, h1, h2, h3⟩ := s.obj k so' q
    refine ⟨b, x, h1, ?_, h3.ext e⟩
    rw [upd_ne]
    · exact h2
    · rintro rfl
      obtain ⟨h4, h5⟩ := List.getElem?_eq_some_iff.mp h1
      obtain ⟨h6, h7⟩ := List.getElem?_eq_some_iff.mp h
      exact hk ((List.getElem_inj s.nd).mp (h5.trans h7.symm))


structure ER (K : PySem.W.Frag) (H : Hp) (r : Rho) (env : Env) (σ : L2.St) : Prop where
  len : env.length = σ.length
  get : ∀ (i : Nat) (d : D), env[i]? = some (some d) → ∃ v, σ[i]? = some (some v) ∧ VD K H r d v
theorem ER.ext {K H r H' r' env σ} (x : ER K H r env σ) (e : Ext H r H' r') : ER K H' r' env σ := ⟨x.len, fun i d h => by
  obtain ⟨v, h1, h2⟩ := x.get i d h
  exact ⟨v, h1, h2.ext e⟩⟩
theorem ER.set {K H r env σ} (x : ER K H r env σ) (i : Nat) {d : D} {v : V} (h : VD K H r d v) : ER K H r (env.set i (some d)) (σ.set i (some v)) := by
  refine ⟨by simp [x.len], fun j e q => ?_⟩
  by_cases hj : j = i
  · subst hj
    have hl : j < env.length := by
      have := (List.getElem?_eq_some_iff.mp q).1
      simpa using this
    rw [List.getElem?_set_self hl] at q
    cases q
    exact ⟨v, by rw [List.getElem?_set_self (by rw [← x.len]; exact hl)], h⟩
  · rw [List.getElem?_set_ne (Ne.symm hj)] at q
    obtain ⟨w, h1, h2⟩ := x.get j e q
    exact ⟨w, by rw [List.getElem?_set_ne (Ne.symm hj)]; exact h1, h2⟩


def XR (K : PySem.W.Frag) (mg : Str → Option Value) (H : Hp) (r : Rho) (x : Exc) (cls : Value) (d : Option Addr) : Prop :=
  (∃ C, PySem.W.nsIn K mainGlobals (Str.ofString x.cls) = some (some (.ref C)) ∧ cls = .ref C) ∧
    (match x.fs with
      | [] => d = none
      | _ => ∃ dd vs, d = some dd ∧ r.out dd ∧ H dd = some (.xd vs) ∧ Paired (fun (p : Str × D) (q : Str × V) => p.1 = q.1 ∧ VD K H r p.2 q.2) x.fs vs)
def RES {α β : Type} (K : PySem.W.Frag) (mg : Str → Option Value) (R : Hp → Rho → α → β → Prop) (E : XK) (H : Hp) (r : Rho) (m : Res α) (Q : β → Hp → Prop) : Prop :=
  match m with
  | .ok a st => ∀ b H' r', Ext H r H' r' → SR K H' r' st → R H' r' a b → Q b H'
  | .ex x st => ∀ cls d H' r', Ext H r H' r' → SR K H' r' st → XR K mg H' r' x cls d → E cls d H'
  | .bad => False
theorem RES.seq {α β γ δ : Type} {K mg} {R : Hp → Rho → α → β → Prop} {R2 : Hp → Rho → γ → δ → Prop} {E : XK} {H r} {m : Res α} {k : α → Sto → Res γ} {Q : δ → Hp → Prop} {Q1 : β → Hp → Prop}
    (h : RES K mg R2 E H r (m.bind k) Q)
    (hk : ∀ a st b H1 r1, Ext H r H1 r1 → SR K H1 r1 st → R H1 r1 a b → RES K mg R2 E H1 r1 (k a st) Q → Q1 b H1) : RES K mg R E H r m Q1 := by
  cases m with
  | ok a st =>
    intro b H1 r1 e s hr
    refine hk a st b H1 r1 e s hr ?_
    have h' : RES K mg R2 E H r (k a st) Q := h
    revert h'
    cases k a st with
    | ok c st2 => exact fun h' d H2 r2 e2 s2 q => h' d H2 r2 (e.trans s e2) s2 q
    | ex x st2 => exact fun h' cls dd H2 r2 e2 s2 q => h' cls dd H2 r2 (e.trans s e2) s2 q
    | bad => exact fun h' => h'
  | ex x st => exact h
  | bad => exact h
theorem RES.ok {α β : Type} {K mg} {R : Hp → Rho → α → β → Prop} {E : XK} {H r st} {a : α} {Q : β → Hp → Prop} (h : RES K mg R E H r (.ok a st) Q) {b : β} (s : SR K H r st) (q : R H r a b) : Q b H :=
  h b H r (Ext.refl H r) s q
theorem RES.ok' {α β : Type} {K mg} {R : Hp → Rho → α → β → Prop} {E : XK} {H r st H' r'} {a : α} {Q : β → Hp → Prop} (h : RES K mg R E H r (.ok a st) Q) {b : β} (e : Ext H r H' r') (s : SR K H' r' st) (q : R H' r' a b) : Q b H' :=
  h b H' r' e s q

abbrev RV (K : PySem.W.Frag) : Hp → Rho → D → V → Prop := fun H r d v => VD K H r d v
abbrev RVs (K : PySem.W.Frag) : Hp → Rho → List D → List V → Prop := fun H r ds vs => VDs K H r ds vs
abbrev RB : Hp → Rho → Bool → Bool → Prop := fun _ _ a b => a = b

def tM (K : PySem.W.Frag) (mg : Str → Option Value) (W : WX) (m : EM) : TE := fun σ H Q => ∃ r env st, ER K H r env σ ∧ SR K H r st ∧ RES K mg (RV K) (WE W σ) H r (m env st) Q
def tT (K : PySem.W.Frag) (mg : Str → Option Value) (W : WX) (m : Env → Sto → Res Bool) : TT := fun σ H Q => ∃ r env st, ER K H r env σ ∧ SR K H r st ∧ RES K mg RB (WE W σ) H r (m env st) Q
def tA (K : PySem.W.Frag) (mg : Str → Option Value) (W : WX) (m : Env → Sto → Res (List D)) : TA := fun σ H Q => ∃ r env st, ER K H r env σ ∧ SR K H r st ∧ RES K mg (RVs K) (WE W σ) H r (m env st) Q
def tN (K : PySem.W.Frag) (mg : Str → Option Value) (W : WX) (m : Env → Sto → Res (List D)) : TE := fun σ H Q =>
  ∃ r env st, ER K H r env σ ∧ SR K H r st ∧ RES K mg (RVs K) (WE W σ) H r (m env st) (fun xs H1 => ∀ p, H1 p = none → Q (.ref p) (upd H1 p (.lst xs)))

abbrev FE (X : Cx) (W : WX) (e : Expr) (m : EM) : Prop := PE X e (tM X.K X.mg W m)
abbrev FT (X : Cx) (W : WX) (e : Expr) (m : Env → Sto → Res Bool) : Prop := PT X e (tT X.K X.mg W m)
abbrev FA (X : Cx) (W : WX) (es : List Expr) (m : Env → Sto → Res (List D)) : Prop := PA X es (tA X.K X.mg W m)
abbrev FN (X : Cx) (W : WX) (e : Expr) (m : Env → Sto → Res (List D)) : Prop := PE X e (tN X.K X.mg W m)

theorem PE.imp {X : Cx} {e : Expr} {t t' : TE} (h : PE X e t) (i : ∀ σ H Q, t' σ H Q → t σ H Q) : PE X e t' := ⟨fun pins s σ H Q I q => h.run pins s σ H Q I (i σ H Q q)⟩
theorem PT.imp {X : Cx} {e : Expr} {t t' : TT} (h : PT X e t) (i : ∀ σ H Q, t' σ H Q → t σ H Q) : PT X e t' := ⟨fun pins s σ H Q I q => h.run pins s σ H Q I (i σ H Q q)⟩
theorem PA.imp {X : Cx} {es : List Expr} {t t' : TA} (h : PA X es t) (i : ∀ σ H Q, t' σ H Q → t σ H Q) : PA X es t' := ⟨fun pos pins s σ H Q I q => h.run pos pins s σ H Q I (i σ H Q q)⟩

section
variable {X : Cx} {W : WX} {e a b : Expr} {es : List Expr} {m ma mb : EM} {ms : Env → Sto → Res (List D)} {pos : Pos}


def eV (i : Nat) : EM := fun env st => match env[i]? with
  | some (some d) => .ok d st
  | _ => .bad
theorem fe_var {i : Nat} (h : PE X e (tVar i)) : FE X W e (eV i) := PE.imp h fun σ H Q ⟨r, env, st, hE, hS, h⟩ => by
  unfold eV at h
  cases q : env[i]? with
  | none => rw [q] at h; exact h.elim
  | some o =>
    cases o with
    | none => rw [q] at h; exact h.elim
    | some d =>
      rw [q] at h
      obtain ⟨v, h1, h2⟩ := hE.get i d q
      exact ⟨v, h1, RES.ok h hS h2⟩
def eC (d : D) : EM := fun _ st => .ok d st
theorem fe_int {i j} : FE X W (.Constant (.int i) j pos) (eC (.int i)) := PE.imp pe_int fun σ H Q ⟨r, env, st, hE, hS, h⟩ => RES.ok h hS rfl
theorem fe_bl {i j} : FE X W (.Constant (.bool i) j pos) (eC (.bl i)) := PE.imp pe_bl fun σ H Q ⟨r, env, st, hE, hS, h⟩ => RES.ok h hS rfl
theorem fe_non {j} : FE X W (.Constant .none j pos) (eC .non) := PE.imp pe_non fun σ H Q ⟨r, env, st, hE, hS, h⟩ => RES.ok h hS rfl
theorem fe_str {i j} : FE X W (.Constant (.str i) j pos) (eC (.str i)) := PE.imp pe_str fun σ H Q ⟨r, env, st, hE, hS, h⟩ => RES.ok h hS rfl
def ConstD (K : PySem.W.Frag) (mg : Str → Option Value) (x : Str) (d : D) : Prop := ∃ u v, mg x = some u ∧ RelV v u ∧ ∀ H r, VD K H r d v
theorem fe_glob {x : Str} {d : D} (hg : Gl X x) (h : ConstD X.K X.mg x d) (hd : (x == ("__debug__" : Str)) = false := by decide) : FE X W (.Name x pos) (eC d) := by
  obtain ⟨u, v, h1, h2, h3⟩ := h
  exact PE.imp (pe_glob hg h1 h2 hd) fun σ H Q ⟨r, env, st, hE, hS, h⟩ => RES.ok h hS (h3 H r)


def aNil : Env → Sto → Res (List D) := fun _ st => .ok [] st
def aCons (ma : EM) (mr : Env → Sto → Res (List D)) : Env → Sto → Res (List D) := fun env st => (ma env st).bind fun d st1 => (mr env st1).bind fun ds st2 => .ok (d :: ds) st2
theorem fa_nil : FA X W [] aNil := PA.imp pa_nil fun σ H Q ⟨r, env, st, hE, hS, h⟩ => RES.ok h hS rfl
theorem fa_cons (ha : FE X W e ma) (hr : FA X W es ms) (hs : starEach (e :: es) X.env = (false, eval e X.env) :: starEach es X.env := by rfl) : FA X W (e :: es) (aCons ma ms) :=
  PA.imp (pa_cons ha hr hs) fun σ H Q ⟨r, env, st, hE, hS, h⟩ => by
    refine ⟨r, env, st, hE, hS, RES.seq h fun d st1 x H1 r1 e1 s1 v1 h1 => ?_⟩
    refine ⟨r1, env, st1, hE.ext e1, s1, RES.seq h1 fun ds st2 xs H2 r2 e2 s2 v2 h2 => ?_⟩
    exact RES.ok h2 s2 ⟨x, xs, rfl, v1.ext e2, v2⟩
def eTup (ms : Env → Sto → Res (List D)) : EM := fun env st => (ms env st).bind fun ds st1 => if ds.length ≤ 1000 then .ok (.tup ds) st1 else .bad
theorem fe_tup {x1} (h : FA X W es ms) : FE X W (.Tuple es x1 pos) (eTup ms) := PE.imp (pe_tupZ h) fun σ H Q ⟨r, env, st, hE, hS, h⟩ => by
  refine ⟨r, env, st, hE, hS, RES.seq h fun ds st1 xs H1 r1 e1 s1 v1 h1 => ?_⟩
  by_cases hl : ds.length ≤ 1000
  · rw [if_pos hl] at h1
    refine ⟨by rw [← v1.len]; exact Nat.le_of_lt (small1000 hl), fun p o ho hp => ?_⟩
    refine RES.ok' h1 (Ext.fresh hp) (s1.fresh hp) ⟨p, xs, rfl, .inl ⟨s1.notin hp, o, ho, upd_same⟩, v1.ext (Ext.fresh hp)⟩
  · rw [if_neg hl] at h1; exact h1.elim
def nLst (ms : Env → Sto → Res (List D)) : Env → Sto → Res (List D) := fun env st => (ms env st).bind fun ds st1 => if ds.length ≤ 1000 then .ok ds st1 else .bad
theorem fn_lst (h : FA X W es ms) : FN X W (.List es pos) (nLst ms) := PE.imp (pe_lst h) fun σ H Q ⟨r, env, st, hE, hS, h⟩ => by
  refine ⟨r, env, st, hE, hS, RES.seq h fun ds st1 xs H1 r1 e1 s1 v1 h1 => ?_⟩
  by_cases hl : ds.length ≤ 1000
  · rw [if_pos hl] at h1
    exact ⟨by rw [← v1.len]; exact Nat.le_of_lt (small1000 hl), fun p hp => RES.ok h1 s1 v1 p hp⟩
  · rw [if_neg hl] at h1; exact h1.elim
def eFrz (ms : Env → Sto → Res (List D)) : EM := fun env st => (ms env st).bind fun ds st1 => .ok (.lst ds) st1
theorem fe_frz (h : FN X W e ms) : FE X W e (eFrz ms) := PE.imp h fun σ H Q ⟨r, env, st, hE, hS, h⟩ => by
  refine ⟨r, env, st, hE, hS, RES.seq h fun ds st1 xs H1 r1 e1 s1 v1 h1 p hp => ?_⟩
  exact RES.ok' h1 (Ext.fresh hp) (s1.fresh hp) ⟨p, xs, rfl, ⟨s1.notin hp, upd_same⟩, v1.ext (Ext.fresh hp)⟩
def eNew (ms : Env → Sto → Res (List D)) : EM := fun env st => (ms env st).bind fun ds st1 => .ok (.loc st1.length) (st1 ++ [.lst ds])
theorem fe_new (h : FN X W e ms) : FE X W e (eNew ms) := PE.imp h fun σ H Q ⟨r, env, st, hE, hS, h⟩ => by
  refine ⟨r, env, st, hE, hS, RES.seq h fun ds st1 xs H1 r1 e1 s1 v1 h1 p hp => ?_⟩
  exact RES.ok' h1 (Ext.grown s1 hp) (s1.grown hp ⟨xs, rfl, v1⟩) ⟨p, rfl, by rw [← s1.len]; simp⟩


def OpF (X : Cx) (f : Value → Value → Sem Value) (g : D → D → Sto → Res D) : Prop :=
  ∃ rr : R2, OpR X f rr ∧ ∀ (E : XK) H r st d e x y Q, SR X.K H r st → VD X.K H r d x → VD X.K H r e y → RES X.K X.mg (RV X.K) E H r (g d e st) Q → rr x y H Q
def eOp (g : D → D → Sto → Res D) (ma mb : EM) : EM := fun env st => (ma env st).bind fun d st1 => (mb env st1).bind fun e st2 => g d e st2
theorem sim_op {g : D → D → Sto → Res D} {rr : R2} (hr : ∀ (E : XK) H r st d e x y Q, SR X.K H r st → VD X.K H r d x → VD X.K H r e y → RES X.K X.mg (RV X.K) E H r (g d e st) Q → rr x y H Q)
    {σ : L2.St} {H : Hp} {Q : VK} (q : tM X.K X.mg W (eOp g ma mb) σ H Q) : tOp rr (tM X.K X.mg W ma) (tM X.K X.mg W mb) σ H Q := by
  obtain ⟨r, env, st, hE, hS, h⟩ := q
  refine ⟨r, env, st, hE, hS, RES.seq h fun d st1 x H1 r1 e1 s1 v1 h1 => ?_⟩
  refine ⟨r1, env, st1, hE.ext e1, s1, RES.seq h1 fun e st2 y H2 r2 e2 s2 v2 h2 => ?_⟩
  exact hr _ H2 r2 st2 d e x y Q s2 (v1.ext e2) v2 h2
theorem fe_bin {op : Operator} {g : D → D → Sto → Res D} (ho : OpF X (binaryOp op) g) (ha : FE X W a ma) (hb : FE X W b mb) : FE X W (.BinOp a op b pos) (eOp g ma mb) := by
  obtain ⟨rr, h1, h2⟩ := ho
  exact PE.imp (pe_op h1 ha hb) fun σ H Q q => sim_op h2 q
theorem fe_cmp {op : CmpOp} {g : D → D → Sto → Res D} (ho : OpF X (compareOp op) g) (ha : FE X W a ma) (hb : FE X W b mb) (hm : behindInMarks op b = false) : FE X W (.Compare a [op] [b] pos) (eOp g ma mb) := by
  obtain ⟨rr, h1, h2⟩ := ho
  exact PE.imp (pe_cmpR h1 ha hb hm) fun σ H Q q => sim_op h2 q
def asB (m : EM) : Env → Sto → Res Bool := fun env st => (m env st).bind fun d st1 => match d with
  | .bl k => .ok k st1
  | _ => .bad
theorem ft_cmp {op : CmpOp} {g : D → D → Sto → Res D} (ho : OpF X (compareOp op) g) (ha : FE X W a ma) (hb : FE X W b mb) (hm : behindInMarks op b = false) : FT X W (.Compare a [op] [b] pos) (asB (eOp g ma mb)) := by
  obtain ⟨rr, h1, h2⟩ := ho
  refine PT.imp (pt_cmpR h1 ha hb hm) fun σ H Q ⟨r, env, st, hE, hS, h⟩ => ?_
  refine sim_op (W := W) h2 ⟨r, env, st, hE, hS, RES.seq h fun d st1 x H1 r1 e1 s1 v1 q1 => ?_⟩
  cases d with
  | bl k => cases v1; exact ⟨k, rfl, RES.ok q1 s1 rfl⟩
  | _ => exact q1.elim
end
end FL

namespace FL
open PySem PySem.Spec PyProof.Rows L2
variable [TabCtx]


def truD : D → Sto → Res Bool
  | .non, st => .ok false st
  | .bl b, st => .ok b st
  | .int i, st => .ok (i != 0) st
  | .str y, st => if y.length ≤ sizeLine then .ok ((y.length : Int) != 0) st else .bad
  | .tup ds, st => .ok (!ds.isEmpty) st
  | .lst ds, st => .ok (!ds.isEmpty) st
  | .scr ns, st => .ok (!ns.isEmpty) st
  | .loc l, st => match st[l]? with
    | some (.lst ds) => .ok (!ds.isEmpty) st
    | some (.dic kvs) => .ok (!kvs.isEmpty) st
    | none => .bad
  | .exc _ _ _, _ => .bad
theorem VDs.emp {K H r ds xs} (h : VDs K H r ds xs) : ds.isEmpty = xs.isEmpty := by
  cases ds with
  | nil => cases h; rfl
  | cons d ds => obtain ⟨x, t, rfl, _⟩ := h; rfl
theorem paired_len {α β : Type} {F : α → β → Prop} : ∀ {l₁ : List α} {l₂ : List β}, Paired F l₁ l₂ → l₁.length = l₂.length
  | _, _, .nil => rfl
  | _, _, .cons _ t => by simp [paired_len t]
theorem paired_emp {α β : Type} {F : α → β → Prop} {l₁ : List α} {l₂ : List β} (h : Paired F l₁ l₂) : l₁.isEmpty = l₂.isEmpty := by
  cases h <;> rfl
theorem sim_tru {K mg} {E : XK} {H r st} {d : D} {x : V} {Q : Bool → Hp → Prop} (s : SR K H r st) (v : VD K H r d x) (h : RES K mg RB E H r (truD d st) Q) : ∃ k, TruV K x H k ∧ Q k H := by
  cases d with
  | non => cases v; exact ⟨false, rfl, RES.ok h s rfl⟩
  | bl b => cases v; exact ⟨b, rfl, RES.ok h s rfl⟩
  | int i => cases v; exact ⟨_, rfl, RES.ok h s rfl⟩
  | str y =>
    cases v
    unfold truD at h
    by_cases hl : y.length ≤ sizeLine
    · simp only [if_pos hl] at h
      exact ⟨_, ⟨hl, rfl⟩, RES.ok h s rfl⟩
    · simp only [if_neg hl] at h
      exact h.elim
  | tup ds =>
    obtain ⟨a, xs, rfl, h1, h2⟩ := v
    exact ⟨!ds.isEmpty, .inr (.inl ⟨xs, h1.sq, by rw [h2.emp]⟩), RES.ok h s rfl⟩
  | lst ds =>
    obtain ⟨a, xs, rfl, h1, h2⟩ := v
    exact ⟨!ds.isEmpty, .inl ⟨xs, h1.sq, by rw [h2.emp]⟩, RES.ok h s rfl⟩
  | scr ns =>
    obtain ⟨a, rfl, h1⟩ := v
    refine ⟨!ns.isEmpty, .inl ⟨_, h1.sq, ?_⟩, RES.ok h s rfl⟩
    cases ns <;> rfl
  | exc _ _ _ => exact h.elim
  | loc l =>
    obtain ⟨a, rfl, h1⟩ := v
    unfold truD at h
    cases q : st[l]? with
    | none => simp only [q] at h; exact h.elim
    | some o =>
      obtain ⟨b, ho, e1, e2, e3⟩ := s.obj l o q
      rw [h1] at e1; cases e1
      cases o with
      | lst ds =>
        obtain ⟨xs, rfl, e3⟩ := e3
        simp only [q] at h
        exact ⟨!ds.isEmpty, .inl ⟨xs, .inl (.inl e2), by rw [e3.emp]⟩, RES.ok h s rfl⟩
      | dic kvs =>
        obtain ⟨xs, rfl, e3⟩ := e3
        simp only [q] at h
        exact ⟨!kvs.isEmpty, .inr (.inr ⟨xs, e2, by rw [paired_emp e3]⟩), RES.ok h s rfl⟩
section
variable {X : Cx} {W : WX} {e a b c : Expr} {rest : List Expr} {m ma mb : EM} {ta tb : Env → Sto → Res Bool} {pos : Pos}
def tTru (m : EM) : Env → Sto → Res Bool := fun env st => (m env st).bind truD
theorem ft_truth (h : FE X W e m) (he : ∀ whole, isTrue e X.env whole = (do let v ← whole; standAt e.pos; holding [v] (truthy v)) := by intro _; rfl) : FT X W e (tTru m) :=
  PT.imp (pt_truth h he) fun σ H Q ⟨r, env, st, hE, hS, h⟩ => ⟨r, env, st, hE, hS, RES.seq h fun d st1 x H1 r1 e1 s1 v1 h1 => sim_tru s1 v1 h1⟩


def tAndM (ta tb : Env → Sto → Res Bool) : Env → Sto → Res Bool := fun env st => (ta env st).bind fun k st1 => if k = true then tb env st1 else .ok false st1
def tOrM (ta tb : Env → Sto → Res Bool) : Env → Sto → Res Bool := fun env st => (ta env st).bind fun k st1 => if k = true then .ok true st1 else tb env st1
def tNotM (ta : Env → Sto → Res Bool) : Env → Sto → Res Bool := fun env st => (ta env st).bind fun k st1 => .ok (!k) st1
abbrev FW (X : Cx) (W : WX) (e : Expr) (m : Env → Sto → Res Bool) : Prop := PW X e (tT X.K X.mg W m)
theorem PW.imp {X : Cx} {e : Expr} {t t' : TT} (h : PW X e t) (i : ∀ σ H Q, t' σ H Q → t σ H Q) : PW X e t' := ⟨fun wh pins s σ H Q I q => h.run wh pins s σ H Q I (i σ H Q q)⟩
theorem fw_and1 (ha : FT X W a ta) : FW X W (.BoolOp .And [a] pos) ta := pw_and1 ha
theorem fw_or1 (ha : FT X W a ta) : FW X W (.BoolOp .Or [a] pos) ta := pw_or1 ha
theorem fw_and (ha : FT X W a ta) (hb : FW X W (.BoolOp .And (b :: rest) pos) tb) : FW X W (.BoolOp .And (a :: b :: rest) pos) (tAndM ta tb) :=
  PW.imp (pw_and ha hb) fun σ H Q ⟨r, env, st, hE, hS, h⟩ => ⟨r, env, st, hE, hS, RES.seq h fun k st1 k' H1 r1 e1 s1 v1 h1 => by
    cases v1
    cases k with
    | true => exact ⟨r1, env, st1, hE.ext e1, s1, h1⟩
    | false => exact RES.ok h1 s1 rfl⟩
theorem fw_or (ha : FT X W a ta) (hb : FW X W (.BoolOp .Or (b :: rest) pos) tb) : FW X W (.BoolOp .Or (a :: b :: rest) pos) (tOrM ta tb) :=
  PW.imp (pw_or ha hb) fun σ H Q ⟨r, env, st, hE, hS, h⟩ => ⟨r, env, st, hE, hS, RES.seq h fun k st1 k' H1 r1 e1 s1 v1 h1 => by
    cases v1
    cases k with
    | false => exact ⟨r1, env, st1, hE.ext e1, s1, h1⟩
    | true => exact RES.ok h1 s1 rfl⟩
theorem fw_pt (h : FW X W e ta) : FT X W e ta := PW.pt h
theorem ft_not (ha : FT X W a ta) : FT X W (.UnaryOp .Not a pos) (tNotM ta) :=
  PT.imp (pt_not ha) fun σ H Q ⟨r, env, st, hE, hS, h⟩ => ⟨r, env, st, hE, hS, RES.seq h fun k st1 k' H1 r1 e1 s1 v1 h1 => by
    cases v1
    exact RES.ok h1 s1 rfl⟩


def eAnd (ma mb : EM) : EM := fun env st => (ma env st).bind fun d st1 => (truD d st1).bind fun k st2 => if k = true then mb env st2 else .ok d st2
def eOr (ma mb : EM) : EM := fun env st => (ma env st).bind fun d st1 => (truD d st1).bind fun k st2 => if k = true then .ok d st2 else mb env st2
def eNot (ma : EM) : EM := fun env st => (ma env st).bind fun d st1 => (truD d st1).bind fun k st2 => .ok (.bl (!k)) st2
theorem truD_st {d : D} {st st2 : Sto} {k : Bool} (h : truD d st = .ok k st2) : st2 = st := by
  unfold truD at h
  split at h <;> first | (cases h; rfl) | (cases h; done) | skip
  · split at h
    · cases h; rfl
    · cases h
  · split at h <;> first | (cases h; rfl) | cases h
theorem sim_tru2 {K mg} {E : XK} {H r st} {d : D} {x : V} {k : Bool → Sto → Res D} {Q : VK} (s : SR K H r st) (v : VD K H r d x) (h : RES K mg (RV K) E H r ((truD d st).bind k) Q) :
    ∃ c, TruV K x H c ∧ RES K mg (RV K) E H r (k c st) Q := by
  cases q : truD d st with
  | bad => rw [q] at h; exact h.elim
  | ex x st2 =>
    exfalso
    unfold truD at q
    split at q <;> first | cases q | skip
    · split at q <;> cases q
    · split at q <;> cases q
  | ok c st2 =>
    have e := truD_st q
    subst e
    rw [q] at h
    obtain ⟨c', t1, t2⟩ := sim_tru (Q := fun c' _ => c' = c) (mg := mg) (E := E) s v (by rw [q]; intro b H' r' _ _ hb; exact hb.symm)
    subst t2
    exact ⟨_, t1, h⟩
theorem fe_one {op} (h : FE X W a ma) : FE X W (.BoolOp op [a] pos) ma := pe_one h
theorem fe_and (ha : FE X W a ma) (hb : FE X W (.BoolOp .And (b :: rest) pos) mb) : FE X W (.BoolOp .And (a :: b :: rest) pos) (eAnd ma mb) :=
  PE.imp (pe_andT ha hb) fun σ H Q ⟨r, env, st, hE, hS, h⟩ => ⟨r, env, st, hE, hS, RES.seq h fun d st1 x H1 r1 e1 s1 v1 h1 => by
    obtain ⟨c, t1, t2⟩ := sim_tru2 s1 v1 h1
    refine ⟨c, t1, ?_⟩
    cases c with
    | true => exact ⟨r1, env, st1, hE.ext e1, s1, t2⟩
    | false => exact RES.ok t2 s1 v1⟩
theorem fe_or (ha : FE X W a ma) (hb : FE X W (.BoolOp .Or (b :: rest) pos) mb) : FE X W (.BoolOp .Or (a :: b :: rest) pos) (eOr ma mb) :=
  PE.imp (pe_orT ha hb) fun σ H Q ⟨r, env, st, hE, hS, h⟩ => ⟨r, env, st, hE, hS, RES.seq h fun d st1 x H1 r1 e1 s1 v1 h1 => by
    obtain ⟨c, t1, t2⟩ := sim_tru2 s1 v1 h1
    refine ⟨c, t1, ?_⟩
    cases c with
    | false => exact ⟨r1, env, st1, hE.ext e1, s1, t2⟩
    | true => exact RES.ok t2 s1 v1⟩
theorem fe_not (ha : FE X W a ma) : FE X W (.UnaryOp .Not a pos) (eNot ma) :=
  PE.imp (pe_notT ha) fun σ H Q ⟨r, env, st, hE, hS, h⟩ => ⟨r, env, st, hE, hS, RES.seq h fun d st1 x H1 r1 e1 s1 v1 h1 => by
    obtain ⟨c, t1, t2⟩ := sim_tru2 s1 v1 h1
    exact ⟨c, t1, RES.ok t2 s1 rfl⟩⟩
end
end FL

namespace FL
open PySem PySem.Spec PyProof.Rows L2
variable [TabCtx]


inductive SRes where
  | nx (env : Env) (st : Sto)
  | rt (d : D) (st : Sto)
  | ex (x : Exc) (env : Env) (st : Sto)
  | bad
abbrev SM4 := Env → Sto → SRes
def SRes.bind (r : SRes) (k : Env → Sto → SRes) : SRes :=
  match r with
  | .nx env st => k env st
  | .rt d st => .rt d st
  | .ex x env st => .ex x env st
  | .bad => .bad
@[simp] theorem SRes.bind_nx (env : Env) (st : Sto) (k : Env → Sto → SRes) : (SRes.nx env st).bind k = k env st := rfl
@[simp] theorem SRes.bind_rt (d : D) (st : Sto) (k : Env → Sto → SRes) : (SRes.rt d st).bind k = .rt d st := rfl
@[simp] theorem SRes.bind_ex (x : Exc) (env : Env) (st : Sto) (k : Env → Sto → SRes) : (SRes.ex x env st).bind k = .ex x env st := rfl
@[simp] theorem SRes.bind_bad (k : Env → Sto → SRes) : SRes.bad.bind k = .bad := rfl
def Res.on {α : Type} (r : Res α) (env : Env) (k : α → Sto → SRes) : SRes :=
  match r with
  | .ok a st => k a st
  | .ex x st => .ex x env st
  | .bad => .bad
@[simp] theorem Res.on_ok {α : Type} (a : α) (st : Sto) (env : Env) (k : α → Sto → SRes) : (Res.ok a st).on env k = k a st := rfl
@[simp] theorem Res.on_ex {α : Type} (x : Exc) (st : Sto) (env : Env) (k : α → Sto → SRes) : (Res.ex x st : Res α).on env k = .ex x env st := rfl
@[simp] theorem Res.on_bad {α : Type} (env : Env) (k : α → Sto → SRes) : (Res.bad : Res α).on env k = .bad := rfl

def RS (K : PySem.W.Frag) (mg : Str → Option Value) (W : WX) (D : Ends) (H : Hp) (r : Rho) (m : SRes) : Prop :=
  match m with
  | .nx env st => ∀ σ' H' r', Ext H r H' r' → SR K H' r' st → ER K H' r' env σ' → D.nx σ' H'
  | .rt d st => ∀ v H' r', Ext H r H' r' → SR K H' r' st → VD K H' r' d v → D.rt v H'
  | .ex x env st => ∀ cls d σ' H' r', Ext H r H' r' → SR K H' r' st → ER K H' r' env σ' → XR K mg H' r' x cls d → W cls d σ' H'
  | .bad => False
theorem RS.mono {K mg} {W : WX} {D : Ends} {H r H1 r1 st} {m : SRes} (h : RS K mg W D H r m) (e : Ext H r H1 r1) (s : SR K H1 r1 st) : RS K mg W D H1 r1 m := by
  cases m with
  | nx env st2 => exact fun σ' H' r' e2 s2 q => h σ' H' r' (e.trans s e2) s2 q
  | rt d st2 => exact fun v H' r' e2 s2 q => h v H' r' (e.trans s e2) s2 q
  | ex x env st2 => exact fun cls d σ' H' r' e2 s2 q => h cls d σ' H' r' (e.trans s e2) s2 q
  | bad => exact h
theorem RS.on {α β : Type} {K mg} {R : Hp → Rho → α → β → Prop} {W : WX} {D : Ends} {H r σ env} {m : Res α} {k : α → Sto → SRes} {Q1 : β → Hp → Prop} (hE : ER K H r env σ)
    (h : RS K mg W D H r (m.on env k)) (hk : ∀ a st b H1 r1, Ext H r H1 r1 → SR K H1 r1 st → R H1 r1 a b → RS K mg W D H1 r1 (k a st) → Q1 b H1) : RES K mg R (WE W σ) H r m Q1 := by
  cases m with
  | ok a st =>
    intro b H1 r1 e s hr
    exact hk a st b H1 r1 e s hr (RS.mono (m := k a st) h e s)
  | ex x st => exact fun cls d H' r' e s q => h cls d σ H' r' e s (hE.ext e) q
  | bad => exact h
def tS (K : PySem.W.Frag) (mg : Str → Option Value) (W : WX) (m : SM4) : TS := fun D σ H => ∃ r env st, ER K H r env σ ∧ SR K H r st ∧ RS K mg W D H r (m env st)
abbrev FS (X : Cx) (W : WX) (s : Stmt) (m : SM4) : Prop := PS X s (tS X.K X.mg W m)
abbrev FB (X : Cx) (W : WX) (s : List Stmt) (m : SM4) : Prop := PSs X s (tS X.K X.mg W m)
theorem PS.imp {X : Cx} {s : Stmt} {t t' : TS} (h : PS X s t) (i : ∀ D σ H, t' D σ H → t D σ H) : PS X s t' := ⟨fun pins s σ H D I q => h.run pins s σ H D I (i D σ H q)⟩
theorem PSs.imp {X : Cx} {s : List Stmt} {t t' : TS} (h : PSs X s t) (i : ∀ D σ H, t' D σ H → t D σ H) : PSs X s t' := ⟨fun pins s σ H D I q => h.run pins s σ H D I (i D σ H q)⟩
theorem RS.seq {K mg} {W : WX} {D : Ends} {H r} {m : SRes} {k : SM4} (h : RS K mg W D H r (m.bind k)) : RS K mg W { D with nx := tS K mg W k D } H r m := by
  cases m with
  | nx env st => exact fun σ' H' r' e s q => ⟨r', env, st, q, s, RS.mono (m := k env st) h e s⟩
  | rt d st => exact h
  | ex x env st => exact h
  | bad => exact h

section
variable {X : Cx} {W : WX} {e c : Expr} {s : Stmt} {ss as bs : List Stmt} {m : EM} {t : Env → Sto → Res Bool} {u v : SM4} {pos : Pos}
def sNext : SM4 := fun env st => .nx env st
def sSeq (u v : SM4) : SM4 := fun env st => (u env st).bind v
theorem fb_nil : FB X W [] sNext := PSs.imp pss_nil fun D σ H ⟨r, env, st, hE, hS, h⟩ => h σ H r (Ext.refl _ _) hS hE
theorem fb_cons (h1 : FS X W s u) (h2 : FB X W ss v) : FB X W (s :: ss) (sSeq u v) := PSs.imp (pss_cons h1 h2) fun D σ H ⟨r, env, st, hE, hS, h⟩ => ⟨r, env, st, hE, hS, RS.seq h⟩
def sDrop (m : EM) : SM4 := fun env st => (m env st).on env fun _ st1 => .nx env st1
theorem fs_expr (he : FE X W e m) (hs : swapsWith e none pos.line X.env = pure false := by rfl) : FS X W (.Expr e pos) (sDrop m) :=
  PS.imp (ps_expr he hs) fun D σ H ⟨r, env, st, hE, hS, h⟩ => ⟨r, env, st, hE, hS, RS.on hE h fun d st1 x H1 r1 e1 s1 v1 h1 => h1 σ H1 r1 (Ext.refl _ _) s1 (hE.ext e1)⟩
def sRet (m : EM) : SM4 := fun env st => (m env st).on env fun d st1 => .rt d st1
theorem fs_ret (he : FE X W e m) : FS X W (.Return (some e) pos) (sRet m) :=
  PS.imp (ps_ret he) fun D σ H ⟨r, env, st, hE, hS, h⟩ => ⟨r, env, st, hE, hS, RS.on hE h fun d st1 x H1 r1 e1 s1 v1 h1 => h1 x H1 r1 (Ext.refl _ _) s1 v1⟩
def sIf (t : Env → Sto → Res Bool) (u v : SM4) : SM4 := fun env st => (t env st).on env fun k st1 => if k = true then u env st1 else v env st1
theorem fs_if (hc : FT X W c t) (ha : FB X W as u) (hb : FB X W bs v) : FS X W (.If c as bs pos) (sIf t u v) :=
  PS.imp (ps_if hc ha hb) fun D σ H ⟨r, env, st, hE, hS, h⟩ => ⟨r, env, st, hE, hS, RS.on hE h fun k st1 k' H1 r1 e1 s1 v1 h1 => by
    cases v1
    cases k with
    | true => exact ⟨r1, env, st1, hE.ext e1, s1, h1⟩
    | false => exact ⟨r1, env, st1, hE.ext e1, s1, h1⟩⟩

abbrev GM := D → Env → Sto → Res Env
def Only (sl : List Nat) (σ σ' : L2.St) : Prop := σ'.length = σ.length ∧ ∀ j, j ∉ sl → σ'[j]? = σ[j]?
theorem Only.refl (sl : List Nat) (σ : L2.St) : Only sl σ σ := ⟨rfl, fun _ _ => rfl⟩
theorem Only.mono {s t : List Nat} {σ σ' : L2.St} (h : Only s σ σ') (hs : ∀ j ∈ s, j ∈ t) : Only t σ σ' := ⟨h.1, fun j hj => h.2 j fun q => hj (hs j q)⟩
theorem Only.trans {s : List Nat} {σ σ1 σ2 : L2.St} (h : Only s σ σ1) (g : Only s σ1 σ2) : Only s σ σ2 := ⟨g.1.trans h.1, fun j hj => (g.2 j hj).trans (h.2 j hj)⟩
def tG (w : Bool) (K : PySem.W.Frag) (mg : Str → Option Value) (W : WX) (sl : List Nat) (g : GM) : TG := fun v σ H Q => ∃ r env st d, ER K H r env σ ∧ SR K H r st ∧ VDi w K H r d v ∧
  (match g d env st with
    | .ok env' st' => ∀ σ' H' r', Ext H r H' r' → SR K H' r' st' → ER K H' r' env' σ' → Only sl σ σ' → Q σ' H'
    | _ => False)
abbrev FG (X : Cx) (W : WX) (t : Expr) (sl : List Nat) (g : GM) : Prop := PG X t (tG (wkT t) X.K X.mg W sl g)
theorem PG.imp {X : Cx} {e : Expr} {t t' : TG} (h : PG X e t) (i : ∀ v σ H Q, t' v σ H Q → t v σ H Q) : PG X e t' := ⟨fun pins s σ H v u Q I rv q => h.run pins s σ H v u Q I rv (i v σ H Q q)⟩
def gSet (i : Nat) : GM := fun d env st => .ok (env.set i (some d)) st
theorem fg_name {i : Nat} {x : Str} (hN : X.N.Nodup) (hi : X.N[i]? = some x) (hx : Loc X.env.scope x) (hf : X.fn x = true ∨ X.env.scope.names.lookup x = some .local := by first | exact .inl rfl | exact .inr rfl | assumption) : FG X W (.Name x pos) [i] (gSet i) :=
  PG.imp (pg_name hN hi hx hf) fun v σ H Q ⟨r, env, st, d, hE, hS, hv, h⟩ => h _ H r (Ext.refl _ _) hS (hE.set i hv.vd) ⟨by simp, fun j hj => List.getElem?_set_ne (fun q => hj (by simp [q]))⟩
abbrev GMs := List D → Env → Sto → Res Env
def tGs (K : PySem.W.Frag) (mg : Str → Option Value) (W : WX) (sl : List Nat) (g : GMs) : TGs := fun vs σ H Q => ∃ r env st ds, ER K H r env σ ∧ SR K H r st ∧ VDs K H r ds vs ∧
  (match g ds env st with
    | .ok env' st' => ∀ σ' H' r', Ext H r H' r' → SR K H' r' st' → ER K H' r' env' σ' → Only sl σ σ' → Q σ' H'
    | _ => False)
abbrev FGs (X : Cx) (W : WX) (t : List Expr) (sl : List Nat) (g : GMs) : Prop := PGs X t (tGs X.K X.mg W sl g)
theorem PGs.imp {X : Cx} {e : List Expr} {t t' : TGs} (h : PGs X e t) (i : ∀ v σ H Q, t' v σ H Q → t v σ H Q) : PGs X e t' := ⟨fun pins s σ H v u Q I rv q => h.run pins s σ H v u Q I rv (i v σ H Q q)⟩
def gsNil : GMs := fun ds env st => match ds with
  | [] => .ok env st
  | _ => .bad
def gsCons (g : GM) (gs : GMs) : GMs := fun ds env st => match ds with
  | [] => .bad
  | d :: r => match g d env st with
    | .ok env' st' => gs r env' st'
    | _ => .bad
theorem fgs_nil : FGs X W [] [] gsNil := PGs.imp pgs_nil fun vs σ H Q ⟨r, env, st, ds, hE, hS, hv, h⟩ => by
  cases ds with
  | nil => cases hv; exact ⟨rfl, h σ H r (Ext.refl _ _) hS hE (Only.refl _ _)⟩
  | cons d ds => exact h.elim
theorem fgs_cons {sl sl2 : List Nat} {g : GM} {gs : GMs} {es : List Expr} (h1 : FG X W e sl g) (h2 : FGs X W es sl2 gs)
    (hs : (assignEach (e :: es) X.env).map (·.2) = assign e X.env :: (assignEach es X.env).map (·.2) := by rfl) : FGs X W (e :: es) (sl ++ sl2) (gsCons g gs) := PGs.imp (pgs_cons h1 h2 hs) fun vs σ H Q ⟨r, env, st, ds, hE, hS, hv, h⟩ => by
  cases ds with
  | nil => exact h.elim
  | cons d ds =>
    obtain ⟨x, t, rfl, hx, ht⟩ := hv
    refine ⟨x, t, rfl, r, env, st, d, hE, hS, .inl hx, ?_⟩
    have h' : match (match g d env st with | .ok env' st' => gs ds env' st' | _ => Res.bad) with
      | .ok env' st' => ∀ σ' H' r', Ext H r H' r' → SR X.K H' r' st' → ER X.K H' r' env' σ' → Only (sl ++ sl2) σ σ' → Q σ' H'
      | _ => False := h
    cases q : g d env st with
    | bad => rw [q] at h'; exact h'.elim
    | ex x st' => rw [q] at h'; exact h'.elim
    | ok env1 st1 =>
      rw [q] at h'
      intro σ1 H1 r1 e1 s1 hE1 o1
      refine ⟨r1, env1, st1, ds, hE1, s1, ht.ext e1, ?_⟩
      simp only at h'
      revert h'
      cases gs ds env1 st1 with
      | ok env2 st2 => exact fun h' σ2 H2 r2 e2 s2 hE2 o2 => h' σ2 H2 r2 (e1.trans s1 e2) s2 hE2 ((o1.mono fun j q => List.mem_append_left _ q).trans (o2.mono fun j q => List.mem_append_right _ q))
      | ex x st2 => exact fun h' => h'
      | bad => exact fun h' => h'
def gTupM (n : Nat) (gs : GMs) : GM := fun d env st => match d with
  | .tup ds => if ds.length = n then gs ds env st else .bad
  | _ => .bad
theorem fg_tup {sl : List Nat} {gs : GMs} {es : List Expr} {k n : Nat} (hc : X.calm = true) (h : FGs X W es sl gs)
    (hn : (assignEach es X.env).length = n := by rfl) (hst : (assignEach es X.env).findIdx? (·.1) = none := by rfl) : FG X W (.Tuple es k pos) sl (gTupM n gs) := PG.imp (pg_tup hc h hn hst) fun v σ H Q ⟨r, env, st, d, hE, hS, hv, h⟩ => by
  cases d with
  | tup ds =>
    obtain ⟨a, xs, rfl, h1, h2⟩ := hv.tup
    unfold gTupM at h
    by_cases hl : ds.length = n
    · simp only [if_pos hl] at h
      refine ⟨a, xs, rfl, h1, by rw [← h2.len]; exact hl, r, env, st, ds, hE, hS, h2, ?_⟩
      exact h
    · simp only [if_neg hl] at h
  | _ => exact h.elim
end
end FL

namespace FL
open PySem PySem.Spec PyProof.Rows L2
variable [TabCtx]


def keyD : D → Option Key
  | .int i => some (.inl i)
  | .str x => some (.inr x)
  | _ => none
theorem keyD_v {K H r} {d : D} {k : Key} {x : V} (h : keyD d = some k) (v : VD K H r d x) : x = kV k := by
  cases d with
  | int i => cases h; exact v
  | str i => cases h; exact v
  | _ => cases h
def seqD : D → Sto → Option (List D)
  | .tup ds, _ => some ds
  | .lst ds, _ => some ds
  | .scr ns, _ => some (ns.map .int)
  | .loc l, st => match st[l]? with
    | some (.lst ds) => some ds
    | _ => none
  | _, _ => none
theorem seqD_v {K H r st} {d : D} {x : V} {ds : List D} (s : SR K H r st) (h : seqD d st = some ds) (v : VD K H r d x) : ∃ a xs, x = .ref a ∧ VDs K H r ds xs ∧ (SqL K H a xs ∨ SqT K H a xs) := by
  cases d with
  | tup es => cases h; obtain ⟨a, xs, rfl, h1, h2⟩ := v; exact ⟨a, xs, rfl, h2, .inr h1.sq⟩
  | lst es => cases h; obtain ⟨a, xs, rfl, h1, h2⟩ := v; exact ⟨a, xs, rfl, h2, .inl h1.sq⟩
  | scr ns => cases h; obtain ⟨a, rfl, h1⟩ := v; exact ⟨a, _, rfl, VDs.ints ns, .inl h1.sq⟩
  | loc l =>
    obtain ⟨a, rfl, h1⟩ := v
    unfold seqD at h
    cases q : st[l]? with
    | none => simp only [q] at h; cases h
    | some o =>
      cases o with
      | lst es =>
        simp only [q] at h; cases h
        obtain ⟨b, ho, e1, e2, xs, rfl, e3⟩ := s.obj l _ q
        rw [h1] at e1; cases e1
        exact ⟨a, xs, rfl, e3, .inl (.inl (.inl e2))⟩
      | dic kvs => simp only [q] at h; cases h
  | _ => cases h
def lstD : D → Sto → Option (List D)
  | .lst ds, _ => some ds
  | .scr ns, _ => some (ns.map .int)
  | .loc l, st => match st[l]? with
    | some (.lst ds) => some ds
    | _ => none
  | _, _ => none
theorem lstD_v {K H r st} {d : D} {x : V} {ds : List D} (s : SR K H r st) (h : lstD d st = some ds) (v : VD K H r d x) : ∃ a xs, x = .ref a ∧ VDs K H r ds xs ∧ SqL K H a xs := by
  cases d with
  | lst es => cases h; obtain ⟨a, xs, rfl, h1, h2⟩ := v; exact ⟨a, xs, rfl, h2, h1.sq⟩
  | scr ns => cases h; obtain ⟨a, rfl, h1⟩ := v; exact ⟨a, _, rfl, VDs.ints ns, h1.sq⟩
  | loc l =>
    obtain ⟨a, rfl, h1⟩ := v
    unfold lstD at h
    cases q : st[l]? with
    | none => simp only [q] at h; cases h
    | some o =>
      cases o with
      | lst es =>
        simp only [q] at h; cases h
        obtain ⟨b, ho, e1, e2, xs, rfl, e3⟩ := s.obj l _ q
        rw [h1] at e1; cases e1
        exact ⟨a, xs, rfl, e3, .inl (.inl e2)⟩
      | dic kvs => simp only [q] at h; cases h
  | _ => cases h
def madeD : D → Sto → Option (List D)
  | .lst ds, _ => some ds
  | .loc l, st => match st[l]? with
    | some (.lst ds) => some ds
    | _ => none
  | _, _ => none
theorem madeD_v {K H r st} {d : D} {x : V} {ds : List D} (s : SR K H r st) (h : madeD d st = some ds) (v : VD K H r d x) : ∃ a xs, x = .ref a ∧ VDs K H r ds xs ∧ H a = some (.lst xs) := by
  cases d with
  | lst es => cases h; obtain ⟨a, xs, rfl, h1, h2⟩ := v; exact ⟨a, xs, rfl, h2, h1.2⟩
  | loc l =>
    obtain ⟨a, rfl, h1⟩ := v
    unfold madeD at h
    cases q : st[l]? with
    | none => simp only [q] at h; cases h
    | some o =>
      cases o with
      | lst es =>
        simp only [q] at h; cases h
        obtain ⟨b, ho, e1, e2, xs, rfl, e3⟩ := s.obj l _ q
        rw [h1] at e1; cases e1
        exact ⟨a, xs, rfl, e3, e2⟩
      | dic kvs => simp only [q] at h; cases h
  | _ => cases h
def dicD : D → Sto → Option (List (Key × D))
  | .loc l, st => match st[l]? with
    | some (.dic kvs) => some kvs
    | _ => none
  | _, _ => none
theorem dicD_v {K H r st} {d : D} {x : V} {kvs : List (Key × D)} (s : SR K H r st) (h : dicD d st = some kvs) (v : VD K H r d x) :
    ∃ a kxs, x = .ref a ∧ Paired (fun (p : Key × D) (q : Key × V) => p.1 = q.1 ∧ VD K H r p.2 q.2) kvs kxs ∧ H a = some (.dK kxs) := by
  cases d with
  | loc l =>
    obtain ⟨a, rfl, h1⟩ := v
    unfold dicD at h
    cases q : st[l]? with
    | none => simp only [q] at h; cases h
    | some o =>
      cases o with
      | dic es =>
        simp only [q] at h; cases h
        obtain ⟨b, ho, e1, e2, xs, rfl, e3⟩ := s.obj l _ q
        rw [h1] at e1; cases e1
        exact ⟨a, xs, rfl, e3, e2⟩
      | lst kvs => simp only [q] at h; cases h
  | _ => cases h
theorem VDs.at {K H r} {ds : List D} {xs : List V} {i : Int} {d : D} (h : VDs K H r ds xs) (e : atI ds i = some d) : ∃ x, atI xs i = some x ∧ VD K H r d x := by
  unfold atI at e ⊢
  rw [← h.len]
  cases q : ixN ds.length i with
  | none => rw [q] at e; cases e
  | some j =>
    rw [q] at e
    obtain ⟨x, h1, h2⟩ := h.get (show ds[j]? = some d from e)
    exact ⟨x, h1, h2⟩
def dget (kvs : List (Key × D)) (k : Key) : Option D := (kvs.find? fun kv => decide (kv.1 = k)).map (·.2)
theorem val_of {K H r} {k : Key} : ∀ {kvs : List (Key × D)} {kxs : List (Key × V)}, Paired (fun (p : Key × D) (q : Key × V) => p.1 = q.1 ∧ VD K H r p.2 q.2) kvs kxs →
    (match dget kvs k with | some d => ∃ x, valV kxs k = some x ∧ VD K H r d x | none => valV kxs k = none)
  | _, _, .nil => rfl
  | _, _, .cons (a := a) (b := b) h t => by
    have ih := val_of (k := k) t
    unfold dget valV at ih ⊢
    rw [List.find?_cons, List.find?_cons, ← h.1]
    cases q : decide (a.1 = k) with
    | true => exact ⟨b.2, rfl, h.2⟩
    | false => exact ih

section
variable {X : Cx} {W : WX} {e a b c : Expr} {m ma mb : EM} {pos : Pos}


def rIxD : R2 := fun x y H Q => ∃ a v, x = .ref a ∧ DGet H a y (some v) ∧ Q v H
theorem ix_dict (hu : X.A.units + 1 < cLine) : IxR X rIxD := by
  intro value slice pins s σ H x y v u Q I rx ry h hs
  obtain ⟨a, z, rfl, g, q⟩ := h
  cases rx
  exact tail_any (dict_typeIs I g) PySem.F.slot_dict_getitem.lookup (d_getItem hu I g ry fun w' s3 I3 rw' => ⟨z, H, I3, rw', q⟩) hs
def ixD (d e : D) (st : Sto) : Res D := match e with
  | .int i => match d with
    | .str z => if z.length ≤ sizeLine then (match atI z.cps.toList i with | some c => .ok (.str ⟨#[c]⟩) st | none => .bad) else .bad
    | _ => match seqD d st with
      | some ds => (match atI ds i with | some x => .ok x st | none => .bad)
      | none => match dicD d st with
        | some kvs => (match dget kvs (Sum.inl i) with | some x => .ok x st | none => .bad)
        | none => .bad
  | .str k => match dicD d st with
    | some kvs => (match dget kvs (Sum.inr k) with | some x => .ok x st | none => .bad)
    | none => .bad
  | _ => .bad
theorem ix_sim {E : XK} {H : Hp} {r st} {d e : D} {x y : V} {Q : VK} (s : SR X.K H r st) (vd : VD X.K H r d x) (ve : VD X.K H r e y)
    (h : RES X.K X.mg (RV X.K) E H r (ixD d e st) Q) : rIx X.K x y H Q ∨ rIxD x y H Q := by
  have dk : ∀ (k : Key), keyD e = some k → ∀ kvs, dicD d st = some kvs → RES X.K X.mg (RV X.K) E H r (match dget kvs k with | some x => .ok x st | none => .bad) Q → rIxD x y H Q := by
    intro k hk kvs hq h
    obtain ⟨a, kxs, rfl, h1, h2⟩ := dicD_v s hq vd
    have h3 := val_of (k := k) h1
    cases q : dget kvs k with
    | none => simp only [q] at h; exact h.elim
    | some z =>
      rw [q] at h3
      simp only [q] at h
      obtain ⟨w, h4, h5⟩ := h3
      refine ⟨a, w, rfl, ?_, RES.ok h s h5⟩
      rw [keyD_v hk ve, ← h4]
      exact DGet.k h2
  unfold ixD at h
  cases e with
  | int i =>
    cases ve
    by_cases hz : ∃ z, d = .str z
    · obtain ⟨z, rfl⟩ := hz
      cases vd
      simp only at h
      by_cases hl : z.length ≤ sizeLine
      · simp only [if_pos hl] at h
        cases q : atI z.cps.toList i with
        | none => simp only [q] at h; exact h.elim
        | some c =>
          simp only [q] at h
          exact .inl (.inr (.inr ⟨z, i, c, rfl, rfl, hl, q, RES.ok h s rfl⟩))
      · simp only [if_neg hl] at h; exact h.elim
    · have h' : RES X.K X.mg (RV X.K) E H r (match seqD d st with
        | some ds => (match atI ds i with | some x => .ok x st | none => .bad)
        | none => match dicD d st with
          | some kvs => (match dget kvs (Sum.inl i) with | some x => .ok x st | none => .bad)
          | none => .bad) Q := by
        revert h
        cases d <;> first | exact fun h => h | exact absurd ⟨_, rfl⟩ hz
      cases q : seqD d st with
      | none =>
        simp only [q] at h'
        cases q2 : dicD d st with
        | none => simp only [q2] at h'; exact h'.elim
        | some kvs => simp only [q2] at h'; exact .inr (dk (.inl i) rfl kvs q2 h')
      | some ds =>
        simp only [q] at h'
        obtain ⟨a, xs, rfl, h1, h2⟩ := seqD_v s q vd
        cases q2 : atI ds i with
        | none => simp only [q2] at h'; exact h'.elim
        | some z =>
          simp only [q2] at h'
          obtain ⟨w, h3, h4⟩ := h1.at q2
          rcases h2 with h2 | h2
          · exact .inl (.inl ⟨a, xs, i, w, rfl, rfl, h2, h3, RES.ok h' s h4⟩)
          · exact .inl (.inr (.inl ⟨a, xs, i, w, rfl, rfl, h2, h3, RES.ok h' s h4⟩))
  | str k =>
    simp only at h
    cases q2 : dicD d st with
    | none => simp only [q2] at h; exact h.elim
    | some kvs => simp only [q2] at h; exact .inr (dk (.inr k) rfl kvs q2 h)
  | _ => exact h.elim
theorem fe_ix (hu : X.A.units + 1 < cLine) (ha : FE X W a ma) (hb : FE X W b mb) (hs : PlainIx b := by exact fun _ _ => rfl) : FE X W (.Subscript a b pos) (eOp ixD ma mb) :=
  PE.imp (pe_ix (ix_seq.or (ix_dict hu)) ha hb hs) fun σ H Q q => sim_op (fun E H r st d e x y Q s v1 v2 h => ix_sim s v1 v2 h) q


abbrev OM := Env → Sto → Res (Option Int)
def tOM (K : PySem.W.Frag) (mg : Str → Option Value) (W : WX) (m : OM) : TO := fun σ H Q => ∃ r env st, ER K H r env σ ∧ SR K H r st ∧ RES K mg (fun _ _ a b => a = b) (WE W σ) H r (m env st) Q
abbrev FO (X : Cx) (W : WX) (e : Option Expr) (m : OM) : Prop := PO X e (tOM X.K X.mg W m)
theorem PO.imp {e : Option Expr} {t t' : TO} (h : PO X e t) (i : ∀ σ H Q, t' σ H Q → t σ H Q) : PO X e t' := ⟨fun pins s σ H Q I q => h.run pins s σ H Q I (i σ H Q q)⟩
def oNo : OM := fun _ st => .ok none st
def oSome (m : EM) : OM := fun env st => (m env st).bind fun d st1 => match d with
  | .int i => .ok (some i) st1
  | _ => .bad
theorem fo_none : FO X W none oNo := PO.imp po_none fun σ H Q ⟨r, env, st, hE, hS, h⟩ => RES.ok h hS rfl
theorem fo_some (he : FE X W e m) : FO X W (some e) (oSome m) := PO.imp (po_some he) fun σ H Q ⟨r, env, st, hE, hS, h⟩ => ⟨r, env, st, hE, hS, RES.seq h fun d st1 x H1 r1 e1 s1 v1 h1 => by
  cases d with
  | int i => cases v1; exact ⟨i, rfl, RES.ok h1 s1 rfl⟩
  | _ => exact h1.elim⟩
def cutL {α : Type} (xs : List α) (lo hi : Option Int) : List α := (xs.drop (HT.sIx xs.length 0 lo)).take (HT.sIx xs.length xs.length hi - HT.sIx xs.length 0 lo)
theorem VDs.cut {K H r ds xs} (h : VDs K H r ds xs) (lo hi : Option Int) : VDs K H r (cutL ds lo hi) (cutV xs lo hi) := by
  unfold cutL cutV
  rw [← h.len]
  exact (h.drop _).take _
def slD (d : D) (lo hi : Option Int) (st : Sto) : Res D := match d with
  | .tup ds => .ok (.tup (cutL ds lo hi)) st
  | .str z => if z.length ≤ sizeLine then .ok (.str (cutS z lo hi)) st else .bad
  | _ => match lstD d st with
    | some ds => .ok (.lst (cutL ds lo hi)) st
    | none => .bad
def eSl (ma : EM) (ml mh : OM) : EM := fun env st => (ma env st).bind fun d st1 => (ml env st1).bind fun lo st2 => (mh env st2).bind fun hi st3 => slD d lo hi st3
theorem fe_slice {lo hi : Option Expr} {p2 : Pos} {ml mh : OM} (he : FE X W e m) (hl : FO X W lo ml) (hu : FO X W hi mh) : FE X W (.Subscript e (.Slice lo hi none p2) pos) (eSl m ml mh) :=
  PE.imp (pe_slice (sl_list.or (sl_tupZ.or sl_str)) he hl hu) fun σ H Q ⟨r, env, st, hE, hS, h⟩ => by
    refine ⟨r, env, st, hE, hS, RES.seq h fun d st1 x H1 r1 e1 s1 v1 h1 => ?_⟩
    refine ⟨r1, env, st1, hE.ext e1, s1, RES.seq h1 fun lo st2 lo' H2 r2 e2 s2 v2 h2 => ?_⟩
    refine ⟨r2, env, st2, (hE.ext e1).ext e2, s2, RES.seq h2 fun hi st3 hi' H3 r3 e3 s3 v3 h3 => ?_⟩
    cases v2; cases v3
    have vx := (v1.ext e2).ext e3
    have gen : ∀ ds, lstD d st3 = some ds → RES X.K X.mg (RV X.K) (WE W σ) H3 r3 (.ok (.lst (cutL ds lo hi)) st3) Q → rSlL X.K x lo hi H3 Q := fun ds q h3 => by
      obtain ⟨a, xs, rfl, h4, h5⟩ := lstD_v s3 q vx
      exact ⟨a, xs, rfl, h5, fun p hp => RES.ok' h3 (Ext.fresh hp) (s3.fresh hp) ⟨p, _, rfl, ⟨s3.notin hp, upd_same⟩, (h4.cut lo hi).ext (Ext.fresh hp)⟩⟩
    have gen2 : RES X.K X.mg (RV X.K) (WE W σ) H3 r3 (match lstD d st3 with | some ds => .ok (.lst (cutL ds lo hi)) st3 | none => .bad) Q → rSlL X.K x lo hi H3 Q := fun h3 => by
      cases q : lstD d st3 with
      | none => simp only [q] at h3; exact h3.elim
      | some ds => simp only [q] at h3; exact gen ds q h3
    cases d with
    | tup ds =>
      obtain ⟨a, xs, rfl, h4, h5⟩ := vx
      refine .inr (.inl ⟨a, xs, rfl, h4.sq, fun hw => ?_, fun hw p o ho hp => ?_⟩)
      · refine RES.ok h3 s3 ⟨a, xs, rfl, h4, ?_⟩
        have e : cutL ds lo hi = ds := by
          unfold cutL
          rw [h5.len, hw.1, hw.2, List.drop_zero, Nat.sub_zero, ← h5.len, List.take_length]
        rw [e]
        exact h5
      · exact RES.ok' h3 (Ext.fresh hp) (s3.fresh hp) ⟨p, _, rfl, .inl ⟨s3.notin hp, o, ho, upd_same⟩, (h5.cut lo hi).ext (Ext.fresh hp)⟩
    | str z =>
      cases vx
      have h3' : RES X.K X.mg (RV X.K) (WE W σ) H3 r3 (if z.length ≤ sizeLine then .ok (.str (cutS z lo hi)) st3 else .bad) Q := h3
      by_cases hl : z.length ≤ sizeLine
      · rw [if_pos hl] at h3'
        exact .inr (.inr ⟨z, rfl, hl, RES.ok h3' s3 rfl⟩)
      · rw [if_neg hl] at h3'; exact h3'.elim
    | _ => exact .inl (gen2 h3)
end
end FL

namespace FL
open PySem PySem.Spec PyProof.Rows L2
variable [TabCtx]


def mapO {α β : Type} (f : α → Option β) : List α → Option (List β)
  | [] => some []
  | a :: r => match f a with
    | none => none
    | some b => match mapO f r with
      | none => none
      | some bs => some (b :: bs)
def toPy : Nat → Sto → D → Option PyData
  | _, _, .non => some .none
  | _, _, .bl b => some (.bool b)
  | _, _, .int i => some (.int i)
  | _, _, .str x => some (.str x)
  | n + 1, st, .tup ds => (mapO (toPy n st) ds).map .tuple
  | n + 1, st, .lst ds => (mapO (toPy n st) ds).map .list
  | _ + 1, _, .scr ns => some (.list (ns.map .int))
  | n + 1, st, .loc l => match st[l]? with
    | some (.lst ds) => (mapO (toPy n st) ds).map .list
    | _ => none
  | _, _, _ => none
def PyOk (K : PySem.W.Frag) (H : Hp) (n : Nat) (x : V) (p : PyData) : Prop := Dp K H x p ∧ p.plain = true ∧ p.depth ≤ n
def PyOks (K : PySem.W.Frag) (H : Hp) (n : Nat) (xs : List V) (ps : List PyData) : Prop := DpAll K H xs ps ∧ PyData.plainAll ps = true ∧ PyData.depthAll ps ≤ n
theorem ints_py {K H} (n : Nat) : ∀ ns : List Int, PyOks K H n (ns.map V.int) (ns.map PyData.int)
  | [] => ⟨.nil, rfl, by simp [PyData.depthAll]⟩
  | i :: ns => by
    obtain ⟨h1, h2, h3⟩ := ints_py (K := K) (H := H) n ns
    exact ⟨.cons (.int i) h1, by simpa [PyData.plainAll, PyData.plain] using h2, by simpa [PyData.depthAll, PyData.depth] using h3⟩
theorem mapO_py {K H r n} {st : Sto} (ih : ∀ d x p, toPy n st d = some p → VD K H r d x → PyOk K H n x p) : ∀ (ds : List D) (xs : List V) (ps : List PyData), mapO (toPy n st) ds = some ps → VDs K H r ds xs → PyOks K H n xs ps
  | [], xs, ps, h, v => by
    cases h; cases v
    exact ⟨.nil, rfl, by simp [PyData.depthAll]⟩
  | d :: ds, xs, ps, h, v => by
    obtain ⟨x, t, rfl, v1, v2⟩ := v
    unfold mapO at h
    cases q : toPy n st d with
    | none => rw [q] at h; cases h
    | some p =>
      rw [q] at h
      cases q2 : mapO (toPy n st) ds with
      | none => rw [q2] at h; cases h
      | some ps' =>
        rw [q2] at h; cases h
        obtain ⟨a1, a2, a3⟩ := ih d x p q v1
        obtain ⟨b1, b2, b3⟩ := mapO_py ih ds t ps' q2 v2
        exact ⟨.cons a1 b1, by simp only [PyData.plainAll, a2, b2, Bool.and_self], by simp only [PyData.depthAll]; omega⟩
theorem toPy_ok {K H r} {st : Sto} (s : SR K H r st) : ∀ (n : Nat) (d : D) (x : V) (p : PyData), toPy n st d = some p → VD K H r d x → PyOk K H n x p := by
  intro n
  induction n with
  | zero =>
    intro d x p h v
    cases d with
    | non => cases h; cases v; exact ⟨.non, rfl, by simp [PyData.depth]⟩
    | bl b => cases h; cases v; exact ⟨.bl b, rfl, by simp [PyData.depth]⟩
    | int b => cases h; cases v; exact ⟨.int b, rfl, by simp [PyData.depth]⟩
    | str b => cases h; cases v; exact ⟨.str b, rfl, by simp [PyData.depth]⟩
    | _ => cases h
  | succ n ih =>
    intro d x p h v
    cases d with
    | exc _ _ _ => cases h
    | non => cases h; cases v; exact ⟨.non, rfl, by simp [PyData.depth]⟩
    | bl b => cases h; cases v; exact ⟨.bl b, rfl, by simp [PyData.depth]⟩
    | int b => cases h; cases v; exact ⟨.int b, rfl, by simp [PyData.depth]⟩
    | str b => cases h; cases v; exact ⟨.str b, rfl, by simp [PyData.depth]⟩
    | tup ds =>
      obtain ⟨a, xs, rfl, h1, h2⟩ := v
      unfold toPy at h
      obtain ⟨ps, q, rfl⟩ := Option.map_eq_some_iff.mp h
      obtain ⟨a1, a2, a3⟩ := mapO_py ih ds xs ps q h2
      exact ⟨.tup h1.sq a1, by simpa [PyData.plain] using a2, by simp only [PyData.depth]; omega⟩
    | lst ds =>
      obtain ⟨a, xs, rfl, h1, h2⟩ := v
      unfold toPy at h
      obtain ⟨ps, q, rfl⟩ := Option.map_eq_some_iff.mp h
      obtain ⟨a1, a2, a3⟩ := mapO_py ih ds xs ps q h2
      exact ⟨.lst h1.sq a1, by simpa [PyData.plain] using a2, by simp only [PyData.depth]; omega⟩
    | scr ns =>
      obtain ⟨a, rfl, h1⟩ := v
      cases h
      obtain ⟨a1, a2, a3⟩ := ints_py (K := K) (H := H) n ns
      exact ⟨.lst h1.sq a1, by simpa [PyData.plain] using a2, by simp only [PyData.depth]; omega⟩
    | loc l =>
      obtain ⟨a, rfl, h1⟩ := v
      unfold toPy at h
      cases q0 : st[l]? with
      | none => rw [q0] at h; cases h
      | some o =>
        rw [q0] at h
        cases o with
        | dic kvs => cases h
        | lst ds =>
          obtain ⟨b, ho, e1, e2, xs, rfl, h2⟩ := s.obj l _ q0
          rw [h1] at e1; cases e1
          obtain ⟨ps, q, rfl⟩ := Option.map_eq_some_iff.mp h
          obtain ⟨a1, a2, a3⟩ := mapO_py ih ds xs ps q h2
          exact ⟨.lst (.inl (.inl e2)) a1, by simpa [PyData.plain] using a2, by simp only [PyData.depth]; omega⟩
def eqB (st : Sto) (d e : D) : Option Bool := match d, e with
  | .int i, .int j => some (i == j)
  | _, _ => match toPy 40 st d, toPy 40 st e with
    | some p, some q => some (PyData.eqv p q)
    | _, _ => none
theorem eqB_py {st : Sto} {d e : D} {b : Bool} (h : eqB st d e = some b) : ∃ p q, toPy 40 st d = some p ∧ toPy 40 st e = some q ∧ b = PyData.eqv p q := by
  by_cases hi : ∃ i j, d = .int i ∧ e = .int j
  · obtain ⟨i, j, rfl, rfl⟩ := hi
    cases h
    exact ⟨_, _, rfl, rfl, by simp [PyData.eqv]⟩
  · have h' : (match toPy 40 st d, toPy 40 st e with
      | some p, some q => some (PyData.eqv p q)
      | _, _ => none) = some b := by
      revert h
      unfold eqB
      split
      · exact absurd ⟨_, _, rfl, rfl⟩ hi
      · exact fun h => h
    cases q1 : toPy 40 st d with
    | none => rw [q1] at h'; cases h'
    | some p =>
      cases q2 : toPy 40 st e with
      | none => rw [q1, q2] at h'; cases h'
      | some q =>
        rw [q1, q2] at h'
        cases h'
        exact ⟨p, q, rfl, rfl, rfl⟩
def eqD (d e : D) (st : Sto) : Res D := match eqB st d e with
  | some b => .ok (.bl b) st
  | none => .bad
def neD (d e : D) (st : Sto) : Res D := match eqB st d e with
  | some b => .ok (.bl (!b)) st
  | none => .bad
section
variable {X : Cx} {W : WX} {e a b c : Expr} {m ma mb : EM} {pos : Pos}
def rEqP (K : PySem.W.Frag) (neg : Bool) : R2 := fun x y H Q => ∃ d e n, PyOk K H n x d ∧ PyOk K H n y e ∧ n ≤ 60 ∧ Q (.bl (if neg then !PyData.eqv d e else PyData.eqv d e)) H
theorem op_eqP (hu : X.A.units + 64 < cLine) : OpR X (compareOp .Eq) (rEqP X.K false) := by
  intro pins s σ H x y v u Q I rx ry h
  obtain ⟨d, e, n, ⟨h1, h2, h3⟩, ⟨h4, h5, h6⟩, hn, q⟩ := h
  obtain ⟨as, r1⟩ := Dp.reads I d x v h1 rx
  obtain ⟨bs, r2⟩ := Dp.reads I e y u h4 ry
  exact SeqAt.eq_plain r1 r2 h2 h5 (by omega) ⟨.bl _, H, I, rfl, q⟩
theorem op_neP (hu : X.A.units + 64 < cLine) : OpR X (compareOp .NotEq) (rEqP X.K true) := by
  intro pins s σ H x y v u Q I rx ry h
  obtain ⟨d, e, n, ⟨h1, h2, h3⟩, ⟨h4, h5, h6⟩, hn, q⟩ := h
  obtain ⟨as, r1⟩ := Dp.reads I d x v h1 rx
  obtain ⟨bs, r2⟩ := Dp.reads I e y u h4 ry
  exact SeqAt.ne_plain r1 r2 h2 h5 (by omega) ⟨.bl _, H, I, rfl, q⟩
theorem opf_eq (hu : X.A.units + 64 < cLine) : OpF X (compareOp .Eq) eqD := ⟨_, op_eqP hu, fun E H r st d e x y Q s v1 v2 h => by
  unfold eqD at h
  cases q : eqB st d e with
  | none => simp only [q] at h; exact h.elim
  | some k =>
    simp only [q] at h
    obtain ⟨p1, p2, h1, h2, rfl⟩ := eqB_py q
    exact ⟨p1, p2, 40, toPy_ok s 40 d x p1 h1 v1, toPy_ok s 40 e y p2 h2 v2, by decide, RES.ok h s rfl⟩⟩
theorem opf_ne (hu : X.A.units + 64 < cLine) : OpF X (compareOp .NotEq) neD := ⟨_, op_neP hu, fun E H r st d e x y Q s v1 v2 h => by
  unfold neD at h
  cases q : eqB st d e with
  | none => simp only [q] at h; exact h.elim
  | some k =>
    simp only [q] at h
    obtain ⟨p1, p2, h1, h2, rfl⟩ := eqB_py q
    exact ⟨p1, p2, 40, toPy_ok s 40 d x p1 h1 v1, toPy_ok s 40 e y p2 h2 v2, by decide, RES.ok h s rfl⟩⟩



def isNon : D → Bool
  | .non => true
  | _ => false
def isD (d e : D) (st : Sto) : Res D := match e with
  | .non => .ok (.bl (isNon d)) st
  | _ => .bad
theorem isNon_v {K H r} {d : D} {x : V} (v : VD K H r d x) : decide (x = V.non) = isNon d := by
  cases d with
  | non => cases v; rfl
  | bl _ => cases v; rfl
  | int _ => cases v; rfl
  | str _ => cases v; rfl
  | tup _ => obtain ⟨a, xs, rfl, _⟩ := v; rfl
  | lst _ => obtain ⟨a, xs, rfl, _⟩ := v; rfl
  | loc _ => obtain ⟨a, rfl, _⟩ := v; rfl
  | scr _ => obtain ⟨a, rfl, _⟩ := v; rfl
  | exc _ _ _ => obtain ⟨a, vs, rfl, _⟩ := v; rfl
theorem opf_is : OpF X (compareOp .Is) isD := ⟨_, op_isN, fun E H r st d e x y Q s v1 v2 h => by
  cases e with
  | non => cases v2; exact ⟨rfl, by rw [isNon_v v1]; exact RES.ok h s rfl⟩
  | _ => exact h.elim⟩

def ltD (d e : D) (st : Sto) : Res D := match d, e with
  | .int i, .int j => .ok (.bl (decide (i < j))) st
  | _, _ => .bad
def leD (d e : D) (st : Sto) : Res D := match d, e with
  | .int i, .int j => .ok (.bl (decide (i ≤ j))) st
  | _, _ => .bad
def gtD (d e : D) (st : Sto) : Res D := match d, e with
  | .int i, .int j => .ok (.bl (decide (j < i))) st
  | _, _ => .bad
def subD (d e : D) (st : Sto) : Res D := match d, e with
  | .int i, .int j => .ok (.int (i - j)) st
  | _, _ => .bad
def modD (d e : D) (st : Sto) : Res D := match d, e with
  | .int i, .int j => if j = 0 then .bad else .ok (.int (i.fmod j)) st
  | _, _ => .bad
def fdivD (d e : D) (st : Sto) : Res D := match d, e with
  | .int i, .int j => if j = 0 then .bad else if j.natAbs.log2 < 9000 then .ok (.int (i.fdiv j)) st else .bad
  | _, _ => .bad
def powD (d e : D) (st : Sto) : Res D := match d, e with
  | .int i, .int j => if 0 ≤ j ∧ j ≤ 1000000 ∧ i.natAbs < 2 ^ 64 then .ok (.int (i ^ j.toNat)) st else .bad
  | _, _ => .bad
theorem opf_lt : OpF X (compareOp .Lt) ltD := ⟨_, op_lt, fun E H r st d e x y Q s v1 v2 h => by
  cases d with
  | int i => cases e with
    | int j => cases v1; cases v2; exact ⟨i, j, rfl, rfl, RES.ok h s rfl⟩
    | _ => exact h.elim
  | _ => cases e <;> exact h.elim⟩
theorem opf_le : OpF X (compareOp .LtE) leD := ⟨_, op_le, fun E H r st d e x y Q s v1 v2 h => by
  cases d with
  | int i => cases e with
    | int j => cases v1; cases v2; exact ⟨i, j, rfl, rfl, RES.ok h s rfl⟩
    | _ => exact h.elim
  | _ => cases e <;> exact h.elim⟩
theorem opf_gt : OpF X (compareOp .Gt) gtD := ⟨_, op_gt, fun E H r st d e x y Q s v1 v2 h => by
  cases d with
  | int i => cases e with
    | int j => cases v1; cases v2; exact ⟨i, j, rfl, rfl, RES.ok h s rfl⟩
    | _ => exact h.elim
  | _ => cases e <;> exact h.elim⟩
theorem opf_sub : OpF X (binaryOp .Sub) subD := ⟨_, op_sub, fun E H r st d e x y Q s v1 v2 h => by
  cases d with
  | int i => cases e with
    | int j => cases v1; cases v2; exact ⟨i, j, rfl, rfl, RES.ok h s rfl⟩
    | _ => exact h.elim
  | _ => cases e <;> exact h.elim⟩
theorem opf_mod : OpF X (binaryOp .Mod) modD := ⟨_, op_modN, fun E H r st d e x y Q s v1 v2 h => by
  cases d with
  | int i => cases e with
    | int j =>
      cases v1; cases v2
      unfold modD at h
      by_cases hj : j = 0
      · simp only [if_pos hj] at h; exact h.elim
      · simp only [if_neg hj] at h; exact ⟨i, j, rfl, rfl, hj, RES.ok h s rfl⟩
    | _ => exact h.elim
  | _ => cases e <;> exact h.elim⟩
def CDivG (_ j : Int) : Prop := j ≠ 0 ∧ j.natAbs.log2 < 9000
theorem op_fdivG : OpR X (binaryOp .FloorDiv) (rI CDivG fun i j => .int (i.fdiv j)) := opI fun _ _ _ _ _ _ _ hc q => floordiv_int hc.1 q (.inl (PyProof.noPylong_of_log2 hc.2))
theorem opf_fdiv : OpF X (binaryOp .FloorDiv) fdivD := ⟨_, op_fdivG, fun E H r st d e x y Q s v1 v2 h => by
  cases d with
  | int i => cases e with
    | int j =>
      cases v1; cases v2
      unfold fdivD at h
      by_cases hj : j = 0
      · simp only [if_pos hj] at h; exact h.elim
      · by_cases hl : j.natAbs.log2 < 9000
        · simp only [if_neg hj, if_pos hl] at h; exact ⟨i, j, rfl, rfl, ⟨hj, hl⟩, RES.ok h s rfl⟩
        · simp only [if_neg hj, if_neg hl] at h; exact h.elim
    | _ => exact h.elim
  | _ => cases e <;> exact h.elim⟩
theorem opf_pow : OpF X (binaryOp .Pow) powD := ⟨_, op_pow, fun E H r st d e x y Q s v1 v2 h => by
  cases d with
  | int i => cases e with
    | int j =>
      cases v1; cases v2
      unfold powD at h
      by_cases hj : 0 ≤ j ∧ j ≤ 1000000 ∧ i.natAbs < 2 ^ 64
      · simp only [if_pos hj] at h; exact ⟨i, j, rfl, rfl, hj, RES.ok h s rfl⟩
      · simp only [if_neg hj] at h; exact h.elim
    | _ => exact h.elim
  | _ => cases e <;> exact h.elim⟩

def addD (d e : D) (st : Sto) : Res D := match d, e with
  | .int i, .int j => .ok (.int (i + j)) st
  | .str x, .str y => if x.length + y.length ≤ 1000000 then .ok (.str (x ++ y)) st else .bad
  | .tup xs, .tup ys => if xs.length + ys.length ≤ 1000000 then .ok (.tup (xs ++ ys)) st else .bad
  | _, _ => match madeD d st, madeD e st with
    | some xs, some ys => if xs.length + ys.length ≤ 1000000 then .ok (.lst (xs ++ ys)) st else .bad
    | _, _ => .bad
theorem big_ok {n : Nat} (h : n ≤ 1000000) : n ≤ sizeLine := by rw [sizeLine_eq]; omega
theorem opf_add : OpF X (binaryOp .Add) addD := ⟨_, op_add.or (op_add_str.or (op_catZ.or op_cat)), fun E H r st d e x y Q s v1 v2 h => by
  by_cases hi : ∃ i j, d = .int i ∧ e = .int j
  · obtain ⟨i, j, rfl, rfl⟩ := hi
    cases v1; cases v2
    exact .inl ⟨i, j, rfl, rfl, RES.ok h s rfl⟩
  by_cases hs : ∃ i j, d = .str i ∧ e = .str j
  · obtain ⟨i, j, rfl, rfl⟩ := hs
    cases v1; cases v2
    simp only [addD] at h
    by_cases hl : i.length + j.length ≤ 1000000
    · simp only [if_pos hl] at h; exact .inr (.inl ⟨i, j, rfl, rfl, big_ok hl, RES.ok h s rfl⟩)
    · simp only [if_neg hl] at h; exact h.elim
  by_cases ht : ∃ i j, d = .tup i ∧ e = .tup j
  · obtain ⟨i, j, rfl, rfl⟩ := ht
    obtain ⟨a, xs, rfl, h1, h2⟩ := v1
    obtain ⟨b, ys, rfl, h3, h4⟩ := v2
    simp only [addD] at h
    by_cases hl : i.length + j.length ≤ 1000000
    · simp only [if_pos hl] at h
      refine .inr (.inr (.inl ⟨a, b, xs, ys, rfl, rfl, h1.sq, h3.sq, by rw [← h2.len, ← h4.len]; exact big_ok hl, fun e => ?_, fun _ e => ?_, fun _ _ p o ho hp => ?_⟩))
      · subst e
        have : i = [] := by have := h2.len; exact List.eq_nil_of_length_eq_zero this
        subst this
        exact RES.ok h s ⟨b, ys, rfl, h3, h4⟩
      · subst e
        have : j = [] := by have := h4.len; exact List.eq_nil_of_length_eq_zero this
        subst this
        rw [List.append_nil] at h
        exact RES.ok h s ⟨a, xs, rfl, h1, h2⟩
      · exact RES.ok' h (Ext.fresh hp) (s.fresh hp) ⟨p, _, rfl, .inl ⟨s.notin hp, o, ho, upd_same⟩, (h2.app h4).ext (Ext.fresh hp)⟩
    · simp only [if_neg hl] at h; exact h.elim
  have h' : RES X.K X.mg (RV X.K) E H r (match madeD d st, madeD e st with
    | some xs, some ys => if xs.length + ys.length ≤ 1000000 then .ok (.lst (xs ++ ys)) st else .bad
    | _, _ => .bad) Q := by
    revert h
    unfold addD
    split
    · exact absurd ⟨_, _, rfl, rfl⟩ hi
    · exact absurd ⟨_, _, rfl, rfl⟩ hs
    · exact absurd ⟨_, _, rfl, rfl⟩ ht
    · exact fun h => h
  cases q1 : madeD d st with
  | none => simp only [q1] at h'; exact h'.elim
  | some xs =>
    cases q2 : madeD e st with
    | none => simp only [q1, q2] at h'; exact h'.elim
    | some ys =>
      simp only [q1, q2] at h'
      obtain ⟨a, vs, rfl, h1, h2⟩ := madeD_v s q1 v1
      obtain ⟨b, ws, rfl, h3, h4⟩ := madeD_v s q2 v2
      by_cases hl : xs.length + ys.length ≤ 1000000
      · simp only [if_pos hl] at h'
        refine .inr (.inr (.inr ⟨a, b, vs, ws, rfl, rfl, h2, h4, by rw [← h1.len, ← h3.len]; exact big_ok hl, fun p hp => ?_⟩))
        exact RES.ok' h' (Ext.fresh hp) (s.fresh hp) ⟨p, _, rfl, ⟨s.notin hp, upd_same⟩, (h1.app h3).ext (Ext.fresh hp)⟩
      · simp only [if_neg hl] at h'; exact h'.elim⟩
def nCat (ma mb : EM) : Env → Sto → Res (List D) := fun env st => (ma env st).bind fun d st1 => (mb env st1).bind fun e st2 => match madeD d st2, madeD e st2 with
  | some xs, some ys => if xs.length + ys.length ≤ 1000000 then .ok (xs ++ ys) st2 else .bad
  | _, _ => .bad
theorem fn_cat (ha : FE X W a ma) (hb : FE X W b mb) : FN X W (.BinOp a .Add b pos) (nCat ma mb) := PE.imp (pe_op op_cat ha hb) fun σ H Q ⟨r, env, st, hE, hS, h⟩ => by
  refine ⟨r, env, st, hE, hS, RES.seq h fun d st1 x H1 r1 e1 s1 v1 h1 => ?_⟩
  refine ⟨r1, env, st1, hE.ext e1, s1, RES.seq h1 fun e st2 y H2 r2 e2 s2 v2 h2 => ?_⟩
  cases q1 : madeD d st2 with
  | none => simp only [q1] at h2; exact h2.elim
  | some xs =>
    cases q2 : madeD e st2 with
    | none => simp only [q1, q2] at h2; exact h2.elim
    | some ys =>
      simp only [q1, q2] at h2
      obtain ⟨a, vs, rfl, h3, h4⟩ := madeD_v s2 q1 (v1.ext e2)
      obtain ⟨b, ws, rfl, h5, h6⟩ := madeD_v s2 q2 v2
      by_cases hl : xs.length + ys.length ≤ 1000000
      · simp only [if_pos hl] at h2
        exact ⟨a, b, vs, ws, rfl, rfl, h4, h6, by rw [← h3.len, ← h5.len]; exact big_ok hl, fun p hp => RES.ok h2 s2 (h3.app h5) p hp⟩
      · simp only [if_neg hl] at h2; exact h2.elim
def repL {α : Type} (xs : List α) (k : Int) : List α := (List.replicate k.toNat xs).flatten
def MulS (i j : Int) : Prop := i.natAbs.log2 + j.natAbs.log2 < 1000000 ∨ (-(2 ^ 60) < j ∧ j < 2 ^ 60)
instance {i j : Int} : Decidable (MulS i j) := by unfold MulS; infer_instance
theorem op_mulS {X : Cx} : OpR X (binaryOp .Mult) (rI MulS fun i j => .int (i * j)) := opI fun _ _ _ _ _ _ _ hc q => mul_int q (by
  rcases hc with h | h
  · exact CMulW.ok h
  · exact IntMulOk.of_right (intBits_le_64 (by omega) (by omega)))
def mulD (d e : D) (st : Sto) : Res D := match d, e with
  | .int i, .int j => if MulS i j then .ok (.int (i * j)) st else .bad
  | d, .int k => match madeD d st with
    | some xs => if 0 ≤ k ∧ k ≤ 1000000 ∧ xs.length * k.toNat ≤ 1000000 then .ok (.lst (repL xs k)) st else .bad
    | none => .bad
  | _, _ => .bad
theorem VDs.repl {K H r ds xs} (h : VDs K H r ds xs) : ∀ k : Nat, VDs K H r (List.replicate k ds).flatten (List.replicate k xs).flatten
  | 0 => rfl
  | k + 1 => by rw [List.replicate_succ, List.flatten_cons, List.replicate_succ, List.flatten_cons]; exact h.app (h.repl k)
theorem opf_mul : OpF X (binaryOp .Mult) mulD := ⟨_, op_mulS.or op_rep, fun E H r st d e x y Q s v1 v2 h => by
  cases e with
  | int k =>
    cases v2
    by_cases hd : ∃ i, d = .int i
    · obtain ⟨i, rfl⟩ := hd
      cases v1
      unfold mulD at h
      by_cases hl : MulS i k
      · simp only [if_pos hl] at h; exact .inl ⟨i, k, rfl, rfl, hl, RES.ok h s rfl⟩
      · simp only [if_neg hl] at h; exact h.elim
    · have h' : RES X.K X.mg (RV X.K) E H r (match madeD d st with
        | some xs => if 0 ≤ k ∧ k ≤ 1000000 ∧ xs.length * k.toNat ≤ 1000000 then .ok (.lst (repL xs k)) st else .bad
        | none => .bad) Q := by
        revert h
        cases d <;> first | exact fun h => h | exact absurd ⟨_, rfl⟩ hd
      cases q1 : madeD d st with
      | none => simp only [q1] at h'; exact h'.elim
      | some xs =>
        simp only [q1] at h'
        obtain ⟨a, vs, rfl, h1, h2⟩ := madeD_v s q1 v1
        by_cases hl : 0 ≤ k ∧ k ≤ 1000000 ∧ xs.length * k.toNat ≤ 1000000
        · simp only [if_pos hl] at h'
          refine .inr ⟨a, k, vs, rfl, rfl, h2, by omega, by omega, by rw [← h1.len]; exact big_ok hl.2.2, fun p hp => ?_⟩
          exact RES.ok' h' (Ext.fresh hp) (s.fresh hp) ⟨p, _, rfl, ⟨s.notin hp, upd_same⟩, (h1.repl k.toNat).ext (Ext.fresh hp)⟩
        · simp only [if_neg hl] at h'; exact h'.elim
  | _ => cases d <;> exact h.elim⟩

def negD (d : D) (st : Sto) : Res D := match d with
  | .int i => .ok (.int (-i)) st
  | _ => .bad
def eUn (g : D → Sto → Res D) (ma : EM) : EM := fun env st => (ma env st).bind g
theorem fe_neg (ha : FE X W a ma) : FE X W (.UnaryOp .USub a pos) (eUn negD ma) := PE.imp (pe_un un_neg ha) fun σ H Q ⟨r, env, st, hE, hS, h⟩ => ⟨r, env, st, hE, hS, RES.seq h fun d st1 x H1 r1 e1 s1 v1 h1 => by
  cases d with
  | int i => cases v1; exact ⟨i, rfl, RES.ok h1 s1 rfl⟩
  | _ => exact h1.elim⟩
end
end FL

namespace FL
open PySem PySem.Spec PyProof.Rows L2
variable [TabCtx]


mutual
def D.blw (n : Nat) : D → Bool
  | .loc l => decide (l < n)
  | .tup ds => D.blws n ds
  | .lst ds => D.blws n ds
  | .exc _ _ ds => D.blws n ds
  | _ => true
def D.blws (n : Nat) : List D → Bool
  | [] => true
  | d :: ds => D.blw n d && D.blws n ds
end
def SO.blw (n : Nat) : SO → Bool
  | .lst ds => D.blws n ds
  | .dic kvs => kvs.all fun p => p.2.blw n
theorem not_app {a : Addr} {r : Rho} {t q0 : List Addr} (h : (r.app t q0).out a) : r.out a := ⟨fun z => h.1 (List.mem_append_left t z), fun z => h.2 (List.mem_append_right q0 z)⟩
theorem ExcAt.shrink {K H} {r : Rho} {t q0 : List Addr} {cls ns a vs} (h : ExcAt K H (r.app t q0) cls ns a vs) : ExcAt K H r cls ns a vs := by
  obtain ⟨C, d, h1, h2, h3, h4⟩ := h
  refine ⟨C, d, not_app h1, h2, h3, ?_⟩
  rcases h4 with h4 | ⟨dd, h5, h6, h7, h8⟩
  · exact .inl h4
  · exact .inr ⟨dd, h5, not_app h6, h7, h8⟩
mutual
theorem VD.shrink {K H} {r : Rho} {t q0 : List Addr} : ∀ (d : D) (v : V), d.blw r.ad.length = true → VD K H (r.app t q0) d v → VD K H r d v
  | .non, _, _, h => h
  | .bl _, _, _, h => h
  | .int _, _, _, h => h
  | .str _, _, _, h => h
  | .tup ds, v, hb, h => by
    obtain ⟨a, xs, h1, h2, h3⟩ := h
    refine ⟨a, xs, h1, ?_, VDs.shrink ds xs (by simpa [D.blw] using hb) h3⟩
    rcases h2 with ⟨h4, h5⟩ | h2
    · exact .inl ⟨not_app h4, h5⟩
    · exact .inr h2
  | .lst ds, v, hb, h => by
    obtain ⟨a, xs, h1, h2, h3⟩ := h
    exact ⟨a, xs, h1, ⟨not_app h2.1, h2.2⟩, VDs.shrink ds xs (by simpa [D.blw] using hb) h3⟩
  | .loc l, v, hb, h => by
    obtain ⟨a, h1, h2⟩ := h
    have hl : l < r.ad.length := by simpa [D.blw] using hb
    rw [Rho.app_ad, List.getElem?_append_left hl] at h2
    exact ⟨a, h1, h2⟩
  | .scr ns, v, hb, h => by
    obtain ⟨a, h1, h2⟩ := h
    refine ⟨a, h1, ?_⟩
    rcases h2 with ⟨h4, h5⟩ | h2
    · exact .inl ⟨not_app h4, h5⟩
    · exact .inr h2
  | .exc cls ns ds, v, hb, h => by
    obtain ⟨a, xs, h1, h2, h3⟩ := h
    exact ⟨a, xs, h1, h2.shrink, VDs.shrink ds xs (by simpa [D.blw] using hb) h3⟩
theorem VDs.shrink {K H} {r : Rho} {t q0 : List Addr} : ∀ (ds : List D) (xs : List V), D.blws r.ad.length ds = true → VDs K H (r.app t q0) ds xs → VDs K H r ds xs
  | [], _, _, h => h
  | d :: ds, xs, hb, h => by
    obtain ⟨x, u, h1, h2, h3⟩ := h
    have hb' : d.blw r.ad.length = true ∧ D.blws r.ad.length ds = true := by simpa [D.blws] using hb
    exact ⟨x, u, h1, VD.shrink d x hb'.1 h2, VDs.shrink ds u hb'.2 h3⟩
end
mutual
theorem VD.closed {K H} {r : Rho} : ∀ (d : D) (v : V), VD K H r d v → d.blw r.ad.length = true
  | .non, _, _ => rfl
  | .bl _, _, _ => rfl
  | .int _, _, _ => rfl
  | .str _, _, _ => rfl
  | .tup ds, v, h => by
    obtain ⟨a, xs, _, _, h3⟩ := h
    simpa [D.blw] using VDs.closed ds xs h3
  | .lst ds, v, h => by
    obtain ⟨a, xs, _, _, h3⟩ := h
    simpa [D.blw] using VDs.closed ds xs h3
  | .loc l, v, h => by
    obtain ⟨a, _, h2⟩ := h
    simpa [D.blw] using (List.getElem?_eq_some_iff.mp h2).1
  | .scr _, _, _ => rfl
  | .exc cls ns ds, v, h => by
    obtain ⟨a, xs, _, _, h3⟩ := h
    simpa [D.blw] using VDs.closed ds xs h3
theorem VDs.closed {K H} {r : Rho} : ∀ (ds : List D) (xs : List V), VDs K H r ds xs → D.blws r.ad.length ds = true
  | [], _, _ => rfl
  | d :: ds, xs, h => by
    obtain ⟨x, u, _, h2, h3⟩ := h
    simp only [D.blws, VD.closed d x h2, VDs.closed ds u h3, Bool.and_self]
end
theorem kv_closed {K H} {r : Rho} : ∀ {kvs : List (Key × D)} {kxs : List (Key × V)}, Paired (fun (p : Key × D) (q : Key × V) => p.1 = q.1 ∧ VD K H r p.2 q.2) kvs kxs → (kvs.all fun p => p.2.blw r.ad.length) = true
  | _, _, .nil => rfl
  | _, _, .cons a b => by rw [List.all_cons, VD.closed _ _ a.2, kv_closed b]; rfl
theorem kv_shrink {K H} {r : Rho} {t q0 : List Addr} : ∀ {kvs : List (Key × D)} {kxs : List (Key × V)}, (kvs.all fun p => p.2.blw r.ad.length) = true → Paired (fun (p : Key × D) (q : Key × V) => p.1 = q.1 ∧ VD K H (r.app t q0) p.2 q.2) kvs kxs →
    Paired (fun (p : Key × D) (q : Key × V) => p.1 = q.1 ∧ VD K H r p.2 q.2) kvs kxs
  | _, _, _, .nil => .nil
  | _, _, hb, .cons a b => by
    rw [List.all_cons, Bool.and_eq_true] at hb
    exact .cons ⟨a.1, VD.shrink _ _ hb.1 a.2⟩ (kv_shrink hb.2 b)
theorem OD.closed {K H} {r : Rho} : ∀ (o : SO) (h : HO), OD K H r o h → o.blw r.ad.length = true
  | .lst ds, h, ⟨xs, _, h2⟩ => VDs.closed ds xs h2
  | .dic kvs, h, ⟨kxs, _, h2⟩ => kv_closed h2
theorem OD.shrink {K H} {r : Rho} {t q0 : List Addr} : ∀ (o : SO) (h : HO), o.blw r.ad.length = true → OD K H (r.app t q0) o h → OD K H r o h
  | .lst ds, h, hb, ⟨xs, h1, h2⟩ => ⟨xs, h1, VDs.shrink ds xs hb h2⟩
  | .dic kvs, h, hb, ⟨kxs, h1, h2⟩ => ⟨kxs, h1, kv_shrink hb h2⟩
def chkS (n : Nat) : Sto → Sto → Bool
  | [], _ => true
  | o :: st, o' :: st' => (o'.blw n || SO.beq o' o) && chkS n st st'
  | _ :: _, [] => false
theorem chkS_ok {n : Nat} : ∀ {st st' : Sto}, chkS n st st' = true → ∀ l, l < st.length → (st'[l]? = st[l]? ∨ ∃ o, st'[l]? = some o ∧ o.blw n = true)
  | [], _, _, l, hl => by simp at hl
  | o :: st, [], h, l, hl => by simp [chkS] at h
  | o :: st, o' :: st', h, l, hl => by
    simp only [chkS, Bool.and_eq_true, Bool.or_eq_true] at h
    cases l with
    | zero =>
      rcases h.1 with h | h
      · exact .inr ⟨o', rfl, h⟩
      · rw [SO.beq_eq h]; exact .inl rfl
    | succ l => simpa using chkS_ok h.2 l (by simpa using hl)
theorem chkS_app {n : Nat} : ∀ {st g : Sto}, chkS n st (st ++ g) = true
  | [], _ => rfl
  | o :: st, g => by simp [chkS, SO.beq_refl, chkS_app]
def shrink (st st' : Sto) (ok : Bool) : Sto := if (ok && chkS st.length st st') = true then st'.take st.length else st'
theorem SR.cut {K H r st H' r' st'} (s : SR K H r st) (e : Ext H r H' r') (s' : SR K H' r' st') (hc : chkS st.length st st' = true) : Ext H r H' r ∧ SR K H' r (st'.take st.length) := by
  have hc := chkS_ok hc
  obtain ⟨t, q, rfl, ht, hq⟩ := id e.pre
  refine ⟨⟨⟨[], [], by simp, by simp, by simp⟩, e.keep⟩, ⟨?_, s.nd, fun l o q => ?_, fun a ha => let ⟨h1, h2⟩ := s'.apart a (List.mem_append_right q ha); ⟨fun q => h1 (List.mem_append_left _ q), h2⟩, s'.tabs⟩⟩
  · have h1 := s'.len
    have h2 := s.len
    rw [Rho.app_ad, List.length_append] at h1
    rw [List.length_take]
    omega
  · have hl : l < st.length := by
      have := (List.getElem?_eq_some_iff.mp q).1
      rw [List.length_take] at this
      omega
    rw [List.getElem?_take_of_lt hl] at q
    obtain ⟨a, h, h1, h2, h3⟩ := s'.obj l o q
    have hr : l < r.ad.length := by rw [s.len]; exact hl
    rw [Rho.app_ad, List.getElem?_append_left hr] at h1
    refine ⟨a, h, h1, h2, OD.shrink o h ?_ h3⟩
    rcases hc l hl with z | ⟨o', z, hb⟩
    · rw [q] at z
      obtain ⟨_, h', _, _, h5⟩ := s.obj l o z.symm
      exact OD.closed o h' h5
    · rw [q] at z; cases z
      rw [s.len]
      exact hb
theorem SR.shrunk {K H r st H' r' st'} (s : SR K H r st) (e : Ext H r H' r') (s' : SR K H' r' st') (ok : Bool) :
    ∃ r'', Ext H r H' r'' ∧ SR K H' r'' (shrink st st' ok) ∧ (ok = true ∨ r'' = r') ∧ (r'' = r' ∨ r'' = r) := by
  unfold shrink
  split
  · rename_i hc
    rw [Bool.and_eq_true] at hc
    obtain ⟨h1, h2⟩ := s.cut e s' hc.2
    exact ⟨r, h1, h2, .inl hc.1, .inr rfl⟩
  · exact ⟨r', e, s', .inr rfl, .inl rfl⟩
theorem shrink_same {st g : Sto} : shrink st (st ++ g) true = st := by
  unfold shrink
  rw [chkS_app]
  simp
def mapQ (f : D → Option D) : List D → Option (List D)
  | [] => some []
  | d :: ds => match f d with
    | some e => match mapQ f ds with
      | some es => some (e :: es)
      | none => none
    | none => none
def D.frz (st : Sto) (n : Nat) : Nat → D → Option D
  | k + 1, .loc l => if l < n then some (.loc l) else match st[l]? with
    | some (.lst ds) => match mapQ (D.frz st n k) ds with
      | some es => some (.lst es)
      | none => none
    | _ => none
  | k + 1, .tup ds => match mapQ (D.frz st n k) ds with
    | some es => some (.tup es)
    | none => none
  | k + 1, .lst ds => match mapQ (D.frz st n k) ds with
    | some es => some (.lst es)
    | none => none
  | k + 1, .exc c ns ds => match mapQ (D.frz st n k) ds with
    | some es => some (.exc c ns es)
    | none => none
  | 0, .exc _ _ _ => none
  | 0, .loc _ => none
  | 0, .tup _ => none
  | 0, .lst _ => none
  | _, d => some d
theorem mapQ_v {K H r r'} {f : D → Option D} (ih : ∀ d v d', f d = some d' → VD K H r d v → VD K H r' d' v) : ∀ (ds : List D) (vs : List V) (es : List D), mapQ f ds = some es → VDs K H r ds vs → VDs K H r' es vs
  | [], vs, es, h, v => by cases h; exact v
  | d :: ds, vs, es, h, v => by
    obtain ⟨x, t, rfl, h1, h2⟩ := v
    unfold mapQ at h
    cases q : f d with
    | none => rw [q] at h; cases h
    | some e =>
      rw [q] at h
      cases q2 : mapQ f ds with
      | none => rw [q2] at h; cases h
      | some es' =>
        rw [q2] at h; cases h
        exact ⟨x, t, rfl, ih d x e q h1, mapQ_v ih ds t es' q2 h2⟩
theorem frz_v {K H} {r : Rho} {t q0 : List Addr} {st : Sto} (s : SR K H (r.app t q0) st) : ∀ (k : Nat) (d : D) (v : V) (d' : D), D.frz st r.ad.length k d = some d' → VD K H (r.app t q0) d v → VD K H r d' v := by
  intro k
  induction k with
  | zero =>
    intro d v d' h hv
    cases d with
    | non => cases h; exact hv
    | bl _ => cases h; exact hv
    | int _ => cases h; exact hv
    | str _ => cases h; exact hv
    | scr ns => cases h; exact VD.shrink (.scr ns) v rfl hv
    | _ => cases h
  | succ k ih =>
    intro d v d' h hv
    cases d with
    | non => cases h; exact hv
    | bl _ => cases h; exact hv
    | int _ => cases h; exact hv
    | str _ => cases h; exact hv
    | scr ns => cases h; exact VD.shrink (.scr ns) v rfl hv
    | tup ds =>
      obtain ⟨a, xs, h1, h2, h3⟩ := hv
      unfold D.frz at h
      cases q : mapQ (D.frz st r.ad.length k) ds with
      | none => simp only [q] at h; cases h
      | some es =>
        simp only [q] at h; cases h
        refine ⟨a, xs, h1, ?_, mapQ_v ih ds xs es q h3⟩
        rcases h2 with ⟨h4, h5⟩ | h2
        · exact .inl ⟨not_app h4, h5⟩
        · exact .inr h2
    | lst ds =>
      obtain ⟨a, xs, h1, h2, h3⟩ := hv
      unfold D.frz at h
      cases q : mapQ (D.frz st r.ad.length k) ds with
      | none => simp only [q] at h; cases h
      | some es =>
        simp only [q] at h; cases h
        exact ⟨a, xs, h1, ⟨not_app h2.1, h2.2⟩, mapQ_v ih ds xs es q h3⟩
    | exc c ns ds =>
      obtain ⟨a, xs, h1, h2, h3⟩ := hv
      unfold D.frz at h
      cases q : mapQ (D.frz st r.ad.length k) ds with
      | none => simp only [q] at h; cases h
      | some es =>
        simp only [q] at h; cases h
        exact ⟨a, xs, h1, h2.shrink, mapQ_v ih ds xs es q h3⟩
    | loc l =>
      unfold D.frz at h
      by_cases hl : l < r.ad.length
      · rw [if_pos hl] at h; cases h
        exact VD.shrink (.loc l) v (by simpa [D.blw] using hl) hv
      · rw [if_neg hl] at h
        obtain ⟨a, rfl, h1⟩ := hv
        cases qq : st[l]? with
        | none => simp only [qq] at h; cases h
        | some o =>
          cases o with
          | dic kvs => simp only [qq] at h; cases h
          | lst ds =>
            simp only [qq] at h
            cases q : mapQ (D.frz st r.ad.length k) ds with
            | none => simp only [q] at h; cases h
            | some es =>
              simp only [q] at h; cases h
              obtain ⟨b, ho, e1, e2, xs, rfl, e3⟩ := s.obj l _ qq
              rw [h1] at e1; cases e1
              have hm : a ∈ (r.app t q0).ad := List.mem_of_getElem? h1
              refine ⟨a, xs, rfl, ⟨⟨fun hr => ?_, fun hp => ?_⟩, e2⟩, mapQ_v ih ds xs es q e3⟩
              · obtain ⟨i, hi, ei⟩ := List.getElem_of_mem hr
                have hn := s.nd
                rw [Rho.app_ad] at hn h1
                have h2 : (r.ad ++ t)[i]? = some a := by rw [List.getElem?_append_left hi, List.getElem?_eq_getElem hi, ei]
                obtain ⟨k1, k2⟩ := List.getElem?_eq_some_iff.mp h1
                obtain ⟨k3, k4⟩ := List.getElem?_eq_some_iff.mp h2
                have := (List.getElem_inj hn).mp (k2.trans k4.symm)
                omega
              · exact (s.apart a (List.mem_append_right _ hp)).1 hm


def finD (fz : Bool) (st st' : Sto) (d : D) : Res D :=
  if chkS st.length st st' = true then (if d.blw st.length = true then .ok d (st'.take st.length) else if fz = true then (match D.frz st' st.length 30 d with
    | some e => .ok e (st'.take st.length)
    | none => .ok d st') else .ok d st') else .ok d st'
def fin (fz : Bool) (st : Sto) (r : SRes) : Res D :=
  match r with
  | .nx _ st' => .ok .non (shrink st st' true)
  | .rt d st' => finD fz st st' d
  | .ex x _ st' => .ex x (shrink st st' (x.fs.all fun p => p.2.blw st.length))
  | .bad => .bad
def mFn (fz : Bool) (nl : Nat) (m : SM4) : Fn := fun ds st => fin fz st (m (ds.map some ++ List.replicate (nl - ds.length) none) st)

def spM (K : PySem.W.Frag) (mg : Str → Option Value) (n : Nat) (m : Fn) : Sp := fun vs H Q E => vs.length = n ∧ ∃ r st ds, SR K H r st ∧ VDs K H r ds vs ∧ RES K mg (RV K) E H r (m ds st) Q

theorem er_start {K H r} {ds : List D} {vs : List V} {N : List Str} (h : VDs K H r ds vs) : ER K H r (ds.map some ++ List.replicate (N.length - ds.length) none) (L2.start N vs) := by
  refine ⟨by unfold L2.start; simp [h.len], fun i d q => ?_⟩
  have hl := h.len
  by_cases hi : i < ds.length
  · rw [List.getElem?_append_left (by simpa using hi), List.getElem?_map] at q
    cases q2 : ds[i]? with
    | none => rw [q2] at q; cases q
    | some d' =>
      rw [q2] at q; cases q
      obtain ⟨x, h1, h2⟩ := h.get q2
      refine ⟨x, ?_, h2⟩
      unfold L2.start
      rw [List.getElem?_append_left (by simp; omega), List.getElem?_map, h1]; rfl
  · rw [List.getElem?_append_right (by simpa using hi), List.getElem?_replicate] at q
    split at q <;> cases q
theorem fn_ok {P : Program} {w : World} {K : PySem.W.Frag} {mg : Str → Option Value} {base : Heap} {x qual : Str} {st : Stmt} {f : Addr} {fd : FuncData} {N ps : List Str} {k : Nat} {m : SM4} {fz : Bool} (F : Fun K x qual st f fd) (S : FnScope N ps (defScope st))
    (hb : ∀ (cdv : Value) (A : Around) (outer : List PySem.Env) (s : Shared) (H : Hp) (E : XK), Room k (A.deeper (envOfC qual (defScope st) s.heap.objs.size f cdv)) →
      FB (cxOf (L2.CX P w) P w K mg base N qual (defScope st) f cdv A outer s H E) (fun cls d _ H' => E cls d H') (defBody st) m) : FnOk P w K mg base (L2.CX P w) (k + 1) f fd ps (spM K mg ps.length (mFn fz N.length m)) := by
  refine F.okX S (fun vs H Q E h => h.1) fun cdv A outer s H vs Q E hr h => ?_
  obtain ⟨hl, r, st0, ds, hS, hV, h⟩ := h
  refine ⟨_, hb cdv A outer s H E hr, r, _, st0, er_start hV, hS, ?_⟩
  have h' : RES K mg (RV K) E H r (fin fz st0 (m (ds.map some ++ List.replicate (N.length - ds.length) none) st0)) Q := h
  revert h'
  cases m (ds.map some ++ List.replicate (N.length - ds.length) none) st0 with
  | bad => exact fun h => h
  | nx env st' =>
    intro h σ' H' r' e s' hE
    obtain ⟨r'', e2, s2, _, _⟩ := hS.shrunk e s' true
    exact h .non H' r'' e2 s2 rfl
  | rt d st' =>
    intro h v H' r' e s' hv
    have h' : RES K mg (RV K) E H r (finD fz st0 st' d) Q := h
    unfold finD at h'
    by_cases c1 : chkS st0.length st0 st' = true
    · rw [if_pos c1] at h'
      obtain ⟨e2, s2⟩ := hS.cut e s' c1
      obtain ⟨t, q0, rfl, _⟩ := id e.pre
      by_cases c2 : d.blw st0.length = true
      · rw [if_pos c2] at h'
        exact h' v H' r e2 s2 (VD.shrink d v (by rw [hS.len]; exact c2) hv)
      · rw [if_neg c2] at h'
        by_cases c3 : fz = true
        · rw [if_pos c3] at h'
          cases q : D.frz st' st0.length 30 d with
          | none => rw [q] at h'; exact h' v H' _ e s' hv
          | some d' =>
            rw [q] at h'
            exact h' v H' r e2 s2 (frz_v s' 30 d v d' (by rw [hS.len]; exact q) hv)
        · rw [if_neg c3] at h'; exact h' v H' _ e s' hv
    · rw [if_neg c1] at h'; exact h' v H' r' e s' hv
  | ex x env st' =>
    intro h cls d σ' H' r' e s' hE hx
    obtain ⟨r'', e2, s2, h3, h4⟩ := hS.shrunk e s' (x.fs.all fun p => p.2.blw st0.length)
    refine h cls d H' r'' e2 s2 ?_
    have same : r'' = r' → XR K mg H' r'' x cls d := fun z => by rw [z]; exact hx
    rcases h3 with h3 | h3
    · rw [List.all_eq_true] at h3
      rcases h4 with z | rfl
      · exact same z
      · obtain ⟨t, q0, rfl, _⟩ := e.pre
        obtain ⟨x1, x2⟩ := hx
        refine ⟨x1, ?_⟩
        cases q : x.fs with
        | nil => rw [q] at x2; exact x2
        | cons p0 ps0 =>
          rw [q] at x2 h3
          obtain ⟨dd, vs', y1, y2, y3, y4⟩ := x2
          refine ⟨dd, vs', y1, not_app y2, y3, ?_⟩
          have sub : ∀ (l : List (Str × D)) (l2 : List (Str × V)), (∀ p ∈ l, p.2.blw r''.ad.length = true) → Paired (fun (p : Str × D) (q : Str × V) => p.1 = q.1 ∧ VD K H' (r''.app t q0) p.2 q.2) l l2 → Paired (fun (p : Str × D) (q : Str × V) => p.1 = q.1 ∧ VD K H' r'' p.2 q.2) l l2 := by
            intro l l2 hl hp
            induction hp with
            | nil => exact .nil
            | cons a b ih => exact .cons ⟨a.1, VD.shrink _ _ (hl _ List.mem_cons_self) a.2⟩ (ih fun p hp => hl p (List.mem_cons_of_mem _ hp))
          exact sub _ _ (by rw [hS.len]; exact h3) y4
    · exact same h3


section
variable {X : Cx} {W : WX} {e : Expr} {es : List Expr} {ms : Env → Sto → Res (List D)} {x : Str} {p pos : Pos} {f : Addr} {fd : FuncData} {ps : List Str} {k n : Nat} {m : Fn} {CX : CXT}
structure DefOk (P : Program) (w : World) (K : PySem.W.Frag) (mg : Str → Option Value) (base : Heap) (CX : CXT) (k : Nat) (x : Str) (n : Nat) (m : Fn) : Prop where
  ex : ∃ f fd ps, FnOk P w K mg base CX k f fd ps (spM K mg n m) ∧ mg x = some (.ref f) ∧ PySem.W.keepIn K (.ref f) = true ∧ Binds K fd ps []
theorem DefOk.mono {P : Program} {w : World} {K : PySem.W.Frag} {mg : Str → Option Value} {base : Heap} {j : Nat} (h : DefOk P w K mg base CX j x n m) (hj : j ≤ k) : DefOk P w K mg base CX k x n m := by
  obtain ⟨f, fd, ps, h1, h2⟩ := h.ex
  exact ⟨f, fd, ps, h1.mono hj, h2⟩
def eCall (n : Nat) (m : Fn) (ms : Env → Sto → Res (List D)) : EM := fun env st => (ms env st).bind fun ds st1 => if ds.length = n then m ds st1 else .bad
theorem sim_call {σ : L2.St} {H : Hp} {Q : VK} (q : tM X.K X.mg W (eCall n m ms) σ H Q) : tCallS (spM X.K X.mg n m) (WE W) (tA X.K X.mg W ms) σ H Q := by
  obtain ⟨r, env, st, hE, hS, h⟩ := q
  refine ⟨r, env, st, hE, hS, RES.seq h fun ds st1 vs H1 r1 e1 s1 v1 h1 => ?_⟩
  by_cases hl : ds.length = n
  · rw [if_pos hl] at h1
    exact ⟨by rw [← v1.len]; exact hl, r1, st1, ds, s1, v1, h1⟩
  · rw [if_neg hl] at h1; exact h1.elim
theorem fe_call (G : DefOk X.prog X.w X.K X.mg X.base CX k x n m) (hr : Room k X.A) (hg : Gl X x) (hx : ∀ σ, PassesAt CX X σ (WE W σ)) (ha : FA X W (e :: es) ms)
    (hdb : (x == ("__debug__" : Str)) = false := by decide) (he : starEach (e :: es) X.env = (false, eval e X.env) :: starEach es X.env := by rfl) (hpl : (backTo pos (starEach es X.env)).any (·.1) = false := by rfl) :
    FE X W (.Call (.Name x p) (e :: es) [] pos) (eCall n m ms) := by
  obtain ⟨f, fd, ps, h1, h2, h3, h4⟩ := G.ex
  exact PE.imp (pe_callS h1 hr hg h2 h3 h4 hx ha hdb he hpl) fun σ H Q q => sim_call q
end
end FL

namespace FL
open PySem PySem.Spec PyProof.Rows L2
variable [TabCtx]
section
variable {X : Cx} {W : WX} {e o i c : Expr} {s : Stmt} {body : List Stmt} {m mo mi : EM} {u : SM4} {pos : Pos}


def sSet (i : Nat) (m : EM) : SM4 := fun env st => (m env st).on env fun d st1 => .nx (env.set i (some d)) st1
theorem fs_set {i : Nat} {x : Str} {pos' : Pos} (hN : X.N.Nodup) (hi : X.N[i]? = some x) (hx : Loc X.env.scope x) (he : FE X W e m) (hs : swapsWith e (some (.Name x pos')) pos.line X.env = pure false := by rfl) (hf : X.fn x = true ∨ X.env.scope.names.lookup x = some .local := by first | exact .inl rfl | exact .inr rfl | assumption) :
    FS X W (.Assign [.Name x pos'] e pos) (sSet i m) := PS.imp (ps_set hN hi hx he hs hf) fun D σ H ⟨r, env, st, hE, hS, h⟩ =>
  ⟨r, env, st, hE, hS, RS.on hE h fun d st1 x H1 r1 e1 s1 v1 h1 => h1 _ H1 r1 (Ext.refl _ _) s1 ((hE.ext e1).set i v1)⟩
def sAsg (m : EM) (g : GM) : SM4 := fun env st => (m env st).on env fun d st1 => match g d env st1 with
  | .ok env2 st2 => .nx env2 st2
  | _ => .bad
theorem fs_asg {tg : Expr} {sl : List Nat} {g : GM} (he : FE X W e m) (hg : FG X W tg sl g) (hs : swapsWithSole [tg] e pos.line X.env = pure false := by rfl) (hw : swappedStores [tg] e X.env = pure none := by rfl)
    (h1 : (assignEach [tg] X.env).map (·.2) = [assign tg X.env] := by rfl) : FS X W (.Assign [tg] e pos) (sAsg m g) := PS.imp (ps_asg he hg hs hw h1) fun D σ H ⟨r, env, st, hE, hS, h⟩ =>
  ⟨r, env, st, hE, hS, RS.on hE h fun d st1 x H1 r1 e1 s1 v1 h1 => by
    refine ⟨r1, env, st1, d, hE.ext e1, s1, .inl v1, ?_⟩
    revert h1
    cases g d env st1 with
    | ok env2 st2 => exact fun h σ' H' r' e' s' x' _ => h σ' H' r' e' s' x'
    | ex x st2 => exact fun h => h
    | bad => exact fun h => h⟩
def putD (kvs : List (Key × D)) (k : Key) (d : D) : List (Key × D) := if kvs.any (fun p => decide (p.1 = k)) then kvs.map (fun p => if p.1 = k then (p.1, d) else p) else kvs ++ [(k, d)]
def setD (o i d : D) (st : Sto) : Option Sto := match o with
  | .loc l => match st[l]? with
    | some (.lst ds) => (match i with
      | .int j => (match ixN ds.length j with
        | some n => some (st.set l (.lst (ds.set n d)))
        | none => none)
      | _ => none)
    | some (.dic kvs) => (match keyD i with
      | some k => if kvs.length < 1000000 then some (st.set l (.dic (putD kvs k d))) else none
      | none => none)
    | none => none
  | _ => none
def rSetA (K : PySem.W.Frag) : TSet := fun o i v H Q => rSetL o i v H Q ∨ ∃ a H', o = .ref a ∧ DPut H a i v H' ∧ Q H'
theorem set_any (hu : X.A.units + 1 < cLine) : PSet X (rSetA X.K) := by
  intro pins s σ H o i v ov iv uv Q I ro ri rv h
  rcases h with h | ⟨a, H', rfl, g, q⟩
  · exact set_list pins s σ H o i v ov iv uv Q I ro ri rv h
  · obtain rfl : ov = Value.ref a := ro
    exact d_setItem hu I g ri rv fun s4 I4 => ⟨H', I4, q⟩
theorem any_key {K H r} {k : Key} : ∀ {kvs : List (Key × D)} {kxs : List (Key × V)}, Paired (fun (p : Key × D) (q : Key × V) => p.1 = q.1 ∧ VD K H r p.2 q.2) kvs kxs →
    (kvs.any fun p => decide (p.1 = k)) = (kxs.any fun p => decide (p.1 = k))
  | _, _, .nil => rfl
  | _, _, .cons a b => by rw [List.any_cons, List.any_cons, a.1, any_key b]
theorem map_key {K H r} {k : Key} {d : D} {v : V} (hd : VD K H r d v) : ∀ {kvs : List (Key × D)} {kxs : List (Key × V)}, Paired (fun (p : Key × D) (q : Key × V) => p.1 = q.1 ∧ VD K H r p.2 q.2) kvs kxs →
    Paired (fun (p : Key × D) (q : Key × V) => p.1 = q.1 ∧ VD K H r p.2 q.2) (kvs.map fun p => if p.1 = k then (p.1, d) else p) (kxs.map fun p => if p.1 = k then (p.1, v) else p)
  | _, _, .nil => .nil
  | _, _, .cons (a := p) (b := q) a b => by
    rw [List.map_cons, List.map_cons]
    refine .cons ?_ (map_key hd b)
    by_cases h : p.1 = k
    · rw [if_pos h, if_pos (by rw [← a.1]; exact h)]
      exact ⟨a.1, hd⟩
    · rw [if_neg h, if_neg (by rw [← a.1]; exact h)]
      exact a
theorem paired_app {α β : Type} {F : α → β → Prop} : ∀ {l₁ : List α} {l₂ : List β} {l₃ : List α} {l₄ : List β}, Paired F l₁ l₂ → Paired F l₃ l₄ → Paired F (l₁ ++ l₃) (l₂ ++ l₄)
  | _, _, _, _, .nil, h => h
  | _, _, _, _, .cons a b, h => .cons a (paired_app b h)
theorem put_key {K H r} {k : Key} {d : D} {v : V} (hd : VD K H r d v) {kvs : List (Key × D)} {kxs : List (Key × V)} (h : Paired (fun (p : Key × D) (q : Key × V) => p.1 = q.1 ∧ VD K H r p.2 q.2) kvs kxs) :
    Paired (fun (p : Key × D) (q : Key × V) => p.1 = q.1 ∧ VD K H r p.2 q.2) (putD kvs k d) (putK kxs k v) := by
  unfold putD putK
  rw [any_key h]
  split
  · exact map_key hd h
  · exact paired_app h (.cons ⟨rfl, hd⟩ .nil)
theorem setD_sim {K : PySem.W.Frag} {H r st st2} {o i d : D} {x y z : V} {Q : Hp → Prop} (s : SR K H r st) (v1 : VD K H r o x) (v2 : VD K H r i y) (v3 : VD K H r d z) (h : setD o i d st = some st2)
    (q : ∀ H', Ext H r H' r → SR K H' r st2 → Q H') : rSetA K x y z H Q := by
  unfold setD at h
  cases o with
  | loc l =>
    obtain ⟨a, rfl, h1⟩ := v1
    simp only at h
    cases q1 : st[l]? with
    | none => simp only [q1] at h; cases h
    | some so =>
      simp only [q1] at h
      obtain ⟨b, ho, e1, e2, e3⟩ := s.obj l so q1
      rw [h1] at e1; cases e1
      cases so with
      | lst ds =>
        obtain ⟨xs, rfl, e3⟩ := e3
        simp only at h
        cases i with
        | int j =>
          cases v2
          simp only at h
          cases q2 : ixN ds.length j with
          | none => simp only [q2] at h; cases h
          | some n =>
            simp only [q2] at h
            cases h
            refine .inl ⟨a, xs, j, n, rfl, rfl, e2, by rw [← e3.len]; exact q2, ?_⟩
            exact q _ (Ext.set h1) (s.set h1 ⟨_, rfl, e3.set v3 n⟩)
        | _ => cases h
      | dic kvs =>
        obtain ⟨xs, rfl, e3⟩ := e3
        simp only at h
        cases q2 : keyD i with
        | none => simp only [q2] at h; cases h
        | some k =>
          simp only [q2] at h
          by_cases hl : kvs.length < 1000000
          · rw [if_pos hl] at h
            cases h
            refine .inr ⟨a, _, rfl, ?_, q _ (Ext.set h1) (s.set h1 ⟨putK xs k z, rfl, put_key v3 e3⟩)⟩
            rw [keyD_v q2 v2]
            exact DPut.k e2 (by rw [← paired_len e3]; exact Nat.lt_of_lt_of_le hl (big_ok (Nat.le_refl _)))
          · rw [if_neg hl] at h; cases h
  | _ => cases h
def sPut (mv mo mi : EM) : SM4 := fun env st => (mv env st).on env fun d st1 => (mo env st1).on env fun o st2 => (mi env st2).on env fun i st3 => match setD o i d st3 with
  | some st4 => .nx env st4
  | none => .bad
theorem sub_asg (hu : X.A.units + 1 < cLine) {mv : EM} {tpos : Pos} (hv : FE X W e mv) (ho : FE X W o mo) (hi : FE X W i mi)
    (ha : ∀ v, assign (.Subscript o i tpos) X.env v = (do
      let ov ← holding [v] (eval o X.env)
      let iv ← holding [v, ov] (eval i X.env)
      standAt tpos
      holding [v, ov, iv] (setItem ov iv v)
      release [v, ov, iv] []) := by intro _; rfl)
    (hs : swapsWithSole [.Subscript o i tpos] e pos.line X.env = pure false := by rfl) (hw : swappedStores [.Subscript o i tpos] e X.env = pure none := by rfl)
    (h1 : (assignEach [.Subscript o i tpos] X.env).map (·.2) = [assign (.Subscript o i tpos) X.env] := by rfl) : FS X W (.Assign [.Subscript o i tpos] e pos) (sPut mv mo mi) :=
  PS.imp (ps_asg hv (pg_sub ho hi (set_any hu) ha) hs hw h1) fun D σ H ⟨r, env, st, hE, hS, h⟩ => by
    refine ⟨r, env, st, hE, hS, RS.on hE h fun d st1 z H1 r1 e1 s1 v1 h1 => ?_⟩
    refine ⟨r1, env, st1, hE.ext e1, s1, RS.on (hE.ext e1) h1 fun od st2 x H2 r2 e2 s2 v2 h2 => ?_⟩
    have hE2 := (hE.ext e1).ext e2
    refine ⟨r2, env, st2, hE2, s2, RS.on hE2 h2 fun id st3 y H3 r3 e3 s3 v3 h3 => ?_⟩
    cases q : setD od id d st3 with
    | none => simp only [q] at h3; exact h3.elim
    | some st4 =>
      simp only [q] at h3
      exact setD_sim s3 (v2.ext e3) v3 ((v1.ext e2).ext e3) q fun H4 e4 s4 => h3 σ H4 r3 e4 s4 ((hE2.ext e3).ext e4)


def stillB (src : List (Nat × List D)) (st : Sto) : Bool := src.all fun p => match st[p.1]? with
  | some (.lst ds) => D.beqs ds p.2
  | _ => false
def Still (src : List (Nat × List D)) (st : Sto) : Prop := ∀ p ∈ src, st[p.1]? = some (.lst p.2)
theorem still_iff {src : List (Nat × List D)} {st : Sto} : stillB src st = true ↔ Still src st := by
  unfold stillB Still
  rw [List.all_eq_true]
  constructor
  · intro h p hp
    have := h p hp
    split at this
    · rename_i ds q; rw [q, D.beqs_eq this]
    · cases this
  · intro h p hp
    rw [h p hp]
    exact D.beqs_refl p.2
instance {src : List (Nat × List D)} {st : Sto} : Decidable (Still src st) := decidable_of_iff _ still_iff
structure ItOk (w : Bool) (K : PySem.W.Frag) (J : It) (items : List D) (src : List (Nat × List D)) (H : Hp) (r : Rho) : Prop where
  run : ∀ H1 r1 st i, Ext H r H1 r1 → SR K H1 r1 st → Still src st → (i < items.length → J.go i H1) ∧ (items.length ≤ i → J.stop i H1) ∧
    ∀ d, items[i]? = some d → ∀ x H2, J.yld i H1 x H2 → Ext H1 r1 H2 r1 ∧ SR K H2 r1 st ∧ VDi w K H2 r1 d x
abbrev IM := Env → Sto → Res (List D × List (Nat × List D))
abbrev RI (w : Bool) (K : PySem.W.Frag) : Hp → Rho → (List D × List (Nat × List D)) → It → Prop := fun H r p J => ItOk w K J p.1 p.2 H r
def tI (w : Bool) (K : PySem.W.Frag) (mg : Str → Option Value) (W : WX) (m : IM) : TI := fun σ H R => ∃ r env st, ER K H r env σ ∧ SR K H r st ∧ RES K mg (RI w K) (WE W σ) H r (m env st) R
abbrev FI (X : Cx) (W : WX) (tg e : Expr) (m : IM) : Prop := PI X tg e (tI (wkT tg) X.K X.mg W m)
theorem PI.imp {tg : Expr} {t t' : TI} (h : PI X tg e t) (i : ∀ σ H Q, t' σ H Q → t σ H Q) : PI X tg e t' := ⟨fun pins s σ H Q I q => h.run pins s σ H Q I (i σ H Q q)⟩

def okE (n : Nat) (env : Env) : Bool := env.all fun o => match o with
  | some d => d.blw n
  | none => true
theorem okE_mem {n : Nat} {env : Env} (h : okE n env = true) (d : D) (hd : some d ∈ env) : d.blw n = true := (List.all_eq_true.mp h) _ hd
def killE (gc : Option (List Nat)) (env : Env) : Env := match gc with
  | none => env
  | some ks => ks.foldl (fun e k => e.set k none) env
def loopF (gc : Option (List Nat)) (src : List (Nat × List D)) (g : GM) (body : SM4) : List D → Env → Sto → SRes
  | [], env, st => if stillB src st = true then .nx env st else .bad
  | d :: ds, env, st => if stillB src st = true then (match g d env st with
    | .ok env1 st1 => (body env1 st1).bind fun env2 st2 => match gc with
      | none => loopF gc src g body ds env2 st2
      | some ks => let env3 := ks.foldl (fun e k => e.set k none) env2
        loopF gc src g body ds env3 (shrink st st2 (okE st.length env3))
    | _ => .bad) else .bad
def sFor (gc : Option (List Nat)) (mi : IM) (g : GM) (body : SM4) : SM4 := fun env st => (mi env st).on env fun p st1 => loopF gc p.2 g body p.1 (killE gc env) st1
theorem ER.kill {K H r env σ} (x : ER K H r env σ) (k : Nat) : ER K H r (env.set k none) σ := ⟨by simpa using x.len, fun i d q => by
  by_cases hk : k = i
  · subst hk
    by_cases hl : k < env.length
    · rw [List.getElem?_set_self hl] at q; cases q
    · rw [List.getElem?_eq_none (by simpa using hl)] at q; cases q
  · rw [List.getElem?_set_ne hk] at q
    exact x.get i d q⟩
theorem ER.kills {K H r σ} : ∀ (ks : List Nat) {env : Env}, ER K H r env σ → ER K H r (ks.foldl (fun e k => e.set k none) env) σ
  | [], _, x => x
  | k :: ks, _, x => ER.kills ks (x.kill k)
theorem ER.killE {K H r σ} (gc : Option (List Nat)) {env : Env} (x : ER K H r env σ) : ER K H r (FL.killE gc env) σ := by
  cases gc with
  | none => exact x
  | some ks => exact ER.kills ks x
theorem iter_end {K H1 r1 st1 H4 r4 st4 env4 σ4} (ks : List Nat) (s1 : SR K H1 r1 st1) (e14 : Ext H1 r1 H4 r4) (s4 : SR K H4 r4 st4) (hE4 : ER K H4 r4 env4 σ4) :
    ∃ r5, Ext H1 r1 H4 r5 ∧ SR K H4 r5 (shrink st1 st4 (okE st1.length (ks.foldl (fun e k => e.set k none) env4))) ∧ ER K H4 r5 (ks.foldl (fun e k => e.set k none) env4) σ4 := by
  have hK := ER.kills ks hE4
  obtain ⟨r5, e5, s5, o1, o2⟩ := s1.shrunk e14 s4 (okE st1.length (ks.foldl (fun e k => e.set k none) env4))
  refine ⟨r5, e5, s5, ?_⟩
  rcases o2 with rfl | rfl
  · exact hK
  · rcases o1 with o1 | rfl
    · refine ⟨hK.len, fun j d' qj => ?_⟩
      obtain ⟨v, w1, w2⟩ := hK.get j d' qj
      obtain ⟨t, q, rfl, _⟩ := e14.pre
      exact ⟨v, w1, VD.shrink d' v (by rw [s1.len]; exact okE_mem o1 d' (List.mem_of_getElem? qj)) w2⟩
    · exact hK
theorem loop_sim {w : Bool} {sl : List Nat} {gc : Option (List Nat)} {src : List (Nat × List D)} {g : GM} {items : List D} {J : It} {D' : Ends} {σ : L2.St} {H : Hp} {r : Rho} {env : Env} {st : Sto} (hE : ER X.K H r env σ) (hS : SR X.K H r st) (it : ItOk w X.K J items src H r)
    (h : RS X.K X.mg W D' H r (loopF gc src g u items env st)) :
    ∃ Wv : Nat → Nat → L2.St → Hp → Prop, (∃ m, Wv 0 m σ H) ∧ ∀ i m σ H, Wv i m σ H → (J.stop i H ∧ D'.nx σ H) ∨ (J.go i H ∧ ∃ N : L2.St → Hp → Prop, (∀ σ' H', N σ' H' → ∃ m', m' < m ∧ Wv (i + 1) m' σ' H') ∧
      ∀ x H', J.yld i H x H' → tG w X.K X.mg W sl g x σ H' fun σ2 H2 => tS X.K X.mg W u { D' with nx := N, ct := N, bk := D'.nx } σ2 H2) := by
  refine ⟨fun i m σ1 H1 => m = items.length - i ∧ ∃ r1 env1 st1, Ext H r H1 r1 ∧ ER X.K H1 r1 env1 σ1 ∧ SR X.K H1 r1 st1 ∧ RS X.K X.mg W D' H1 r1 (loopF gc src g u (items.drop i) env1 st1),
    ⟨items.length, rfl, r, env, st, Ext.refl _ _, hE, hS, h⟩, ?_⟩
  rintro i m σ1 H1 ⟨rfl, r1, env1, st1, e1, hE1, s1, h1⟩
  cases q : items.drop i with
  | nil =>
    have hi : items.length ≤ i := by
      have := congrArg List.length q
      rw [List.length_drop] at this
      simp at this; omega
    rw [q] at h1
    unfold loopF at h1
    by_cases hst : stillB src st1 = true
    · rw [if_pos hst] at h1
      exact .inl ⟨(it.run H1 r1 st1 i e1 s1 (still_iff.mp hst)).2.1 hi, h1 σ1 H1 r1 (Ext.refl _ _) s1 hE1⟩
    · rw [if_neg hst] at h1; exact h1.elim
  | cons d ds =>
    have hi : i < items.length := by
      have := congrArg List.length q
      rw [List.length_drop] at this
      simp at this; omega
    have hd : items[i]? = some d := by
      have := congrArg (·[0]?) q
      simpa using this
    have hds : items.drop (i + 1) = ds := by
      have := congrArg (List.drop 1) q
      rw [List.drop_drop] at this
      simpa using this
    rw [q] at h1
    unfold loopF at h1
    by_cases hst : stillB src st1 = true
    · rw [if_pos hst] at h1
      obtain ⟨k1, k2, k3⟩ := it.run H1 r1 st1 i e1 s1 (still_iff.mp hst)
      refine .inr ⟨k1 hi, _, fun σ' H' hN => ⟨items.length - (i + 1), by omega, rfl, hN⟩, fun x H2 hy => ?_⟩
      obtain ⟨e2, s2, v2⟩ := k3 d hd x H2 hy
      refine ⟨r1, env1, st1, d, hE1.ext e2, s2, v2, ?_⟩
      cases qg : g d env1 st1 with
      | bad => rw [qg] at h1; exact h1.elim
      | ex x st' => rw [qg] at h1; exact h1.elim
      | ok env2 st2 =>
        simp only [qg] at h1
        intro σ2 H3 r3 e3 s3 hE3 _
        refine ⟨r3, env2, st2, hE3, s3, ?_⟩
        have e13 := e2.trans s2 e3
        rw [hds]
        revert h1
        cases u env2 st2 with
        | bad => exact fun h => h
        | rt d' st' => exact fun h v H' r' e s q => h v H' r' (e13.trans s3 e) s q
        | ex x' env' st' => exact fun h cls dd σ' H' r' e s q => h cls dd σ' H' r' (e13.trans s3 e) s q
        | nx env4 st4 =>
          intro h2 σ4 H4 r4 e4 s4 hE4
          have e14 := e13.trans s3 e4
          simp only [SRes.bind_nx] at h2
          cases gc with
          | none => exact ⟨r4, env4, st4, e1.trans s1 e14, hE4, s4, RS.mono (m := loopF none src g u ds env4 st4) h2 e14 s4⟩
          | some ks =>
            have hK := ER.kills ks hE4
            simp only at h2
            obtain ⟨r5, e5, s5, o1, o2⟩ := s1.shrunk e14 s4 (okE st1.length (ks.foldl (fun e k => e.set k none) env4))
            have hE5 : ER X.K H4 r5 (ks.foldl (fun e k => e.set k none) env4) σ4 := by
              rcases o2 with rfl | rfl
              · exact hK
              · rcases o1 with o1 | rfl
                · refine ⟨hK.len, fun j d' qj => ?_⟩
                  obtain ⟨v, w1, w2⟩ := hK.get j d' qj
                  obtain ⟨t, q, rfl, _⟩ := e14.pre
                  exact ⟨v, w1, VD.shrink d' v (by rw [s1.len]; exact okE_mem o1 d' (List.mem_of_getElem? qj)) w2⟩
                · exact hK
            exact ⟨r5, _, _, e1.trans s1 e5, hE5, s5, RS.mono h2 e5 s5⟩
    · rw [if_neg hst] at h1; exact h1.elim
theorem fs_for {tg : Expr} {sl : List Nat} {gc : Option (List Nat)} {mi : IM} {g : GM} (hp : PassesOwn (model X.prog X.w) X.A X.env X.xe) (hc : X.calm = true) (hi : FI X W tg e mi) (hg : FG X W tg sl g) (hb : FB X W body u)
    (hs : ∀ x, foldedSetIterable e X.env x = pure x := by intro _; rfl) : FS X W (.For tg e body [] pos) (sFor gc mi g u) := PS.imp (ps_for hp hc hi hg hb hs) fun D σ H ⟨r, env, st, hE, hS, h⟩ =>
  ⟨r, env, st, hE, hS, RS.on hE h fun p st1 J H1 r1 e1 s1 v1 h1 => loop_sim (ER.killE gc (hE.ext e1)) s1 v1 h1⟩

def whileF (gc : Option (List Nat)) (c : Env → Sto → Res Bool) (body : SM4) : Nat → Env → Sto → SRes
  | 0, _, _ => .bad
  | n + 1, env, st => (c env st).on env fun k st1 => if k = true then (body env st1).bind (fun env2 st2 => match gc with
    | none => whileF gc c body n env2 st2
    | some ks => whileF gc c body n (ks.foldl (fun e k => e.set k none) env2) (shrink st1 st2 (okE st1.length (ks.foldl (fun e k => e.set k none) env2)))) else .nx env st1
def sWhile (n : Nat) (gc : Option (List Nat)) (c : Env → Sto → Res Bool) (body : SM4) : SM4 := fun env st => whileF gc c body n (killE gc env) st
theorem fs_while {n : Nat} {gc : Option (List Nat)} {tc : Env → Sto → Res Bool} (hp : PassesOwn (model X.prog X.w) X.A X.env X.xe) (hc : FT X W c tc) (hb : FB X W body u) : FS X W (.While c body [] pos) (sWhile n gc tc u) := PS.imp (ps_while hp hc hb) fun D σ H ⟨r, env, st, hE, hS, h⟩ => by
  refine ⟨fun m σ1 H1 => ∃ r1 env1 st1, ER X.K H1 r1 env1 σ1 ∧ SR X.K H1 r1 st1 ∧ RS X.K X.mg W D H1 r1 (whileF gc tc u m env1 st1), ⟨n, r, killE gc env, st, ER.killE gc hE, hS, h⟩, ?_⟩
  rintro m σ1 H1 ⟨r1, env1, st1, hE1, s1, h1⟩
  cases m with
  | zero => exact h1.elim
  | succ m =>
    refine ⟨r1, env1, st1, hE1, s1, RS.on hE1 h1 fun k st2 k' H2 r2 e2 s2 v2 h2 => ?_⟩
    cases v2
    cases k with
    | false => exact h2 σ1 H2 r2 (Ext.refl _ _) s2 (hE1.ext e2)
    | true =>
      rw [if_pos rfl] at h2 ⊢
      refine ⟨_, fun σ' H' hN => ⟨m, Nat.lt_succ_self m, hN⟩, r2, env1, st2, hE1.ext e2, s2, ?_⟩
      revert h2
      cases u env1 st2 with
      | bad => exact fun h => h
      | rt d' st' => exact fun h => h
      | ex x' env' st' => exact fun h => h
      | nx env4 st4 =>
        intro h2 σ4 H4 r4 e4 s4 hE4
        simp only [SRes.bind_nx] at h2
        cases gc with
        | none => exact ⟨r4, env4, st4, hE4, s4, RS.mono (m := whileF none tc u m env4 st4) h2 e4 s4⟩
        | some ks =>
          obtain ⟨r5, e5, s5, hE5⟩ := iter_end ks s2 e4 s4 hE4
          exact ⟨r5, _, _, hE5, s5, RS.mono h2 e5 s5⟩
end
end FL

namespace PySem
open Sem (wp)
set_option maxHeartbeats 1000000 in
theorem fl_enumerate_newB {v : Value} {o : Obj} {H : Heap → Prop} (B : Begins v o H) :
    Meets (Builtin.«enumerate.__new__» ⟨[.type "enumerate", v], []⟩) (fun _ R s => H s.heap ∧
      R (.ok (.ret (.ref (s.heap.push o).objs.size))) { s with heap := (s.heap.push o).push { cls := .type "enumerate", data := .fields #[.none, .bool false, .ref s.heap.objs.size, rawInt 0, .none, .none] } }) :=
  .of_wp fun prog w A R s h => by
    obtain ⟨hp, g, d, tk, os⟩ := s; obtain ⟨h1, h⟩ := h
    have hsub := sub_enumerate
    have q1 : ∀ {A' : Around} {E : Value → Shared → Prop} {Q : Value → Shared → Prop}, Q (.ref hp.objs.size) ⟨hp.push o, g, d, tk, os⟩ → wpAny (model prog w) A' (pyIter v) Q E ⟨hp, g, d, tk, os⟩ :=
      fun q => B.iter prog w _ _ ⟨hp, g, d, tk, os⟩ _ h1 q
    wp_walk using q1
    refine wpAny_stack_any fun st => wpAny_pure ?_
    split
    · rename_i c _ _ _ _ _
      cases (c == Value.type "enumerate")
      · wp_walk using q1
        exact ⟨_, rfl, h⟩
      · wp_walk using q1
        exact ⟨_, rfl, h⟩
    · wp_walk using q1
      exact ⟨_, rfl, h⟩
theorem fl_enum_begins {prog : Program} {w : World} {A : Around} {E : Value → Shared → Prop} {s : Shared} {v : Value} {o : Obj} {H : Heap → Prop} {Q : Value → Shared → Prop} (B : Begins v o H) (h1 : H s.heap)
    (h : ∀ h', IsEnum h' (s.heap.objs.size + 1) s.heap.objs.size 0 .none → h'.get? s.heap.objs.size = some o → h'.objs.size = s.heap.objs.size + 2 →
      (∀ b o, s.heap.get? b = some o → h'.get? b = some o) → Q (.ref (s.heap.objs.size + 1)) { s with heap := h' }) :
    wpAny (model prog w) A (call (.type "enumerate") [v]) Q E s := by
  refine callType_new F.called_enumerate (by decide) (F.typeCall_enumerate_1 _) (F.newCall_enumerate_1 _) (fun obj => F.args_object_init_2 obj _) F.entry_enumerate_new
    (fl_enumerate_newB B) ⟨h1, ?_⟩
  have hz : (s.heap.push o).objs.size = s.heap.objs.size + 1 := Heap.size_push ..
  show _ ∧ _
  rw [hz]
  have he : IsEnum ((s.heap.push o).push { cls := .type "enumerate", data := .fields #[.none, .bool false, .ref s.heap.objs.size, rawInt 0, .none, .none] }) (s.heap.objs.size + 1) s.heap.objs.size 0 .none := by
    have := Heap.get?_push_size (s.heap.push o) (o := { cls := .type "enumerate", data := .fields #[.none, .bool false, .ref s.heap.objs.size, rawInt 0, .none, .none] }) rfl
    rw [hz] at this; exact this
  refine ⟨⟨_, he, rfl⟩, h _ he (Heap.get?_push_of_some _ (Heap.get?_push_size _ B.free)) (by rw [Heap.size_push, hz]) fun b o x => Heap.get?_push_of_some _ (Heap.get?_push_of_some _ x)⟩
end PySem
namespace FL
open PySem PySem.Spec PyProof.Rows L2
variable [TabCtx]

def IteT (K : PySem.W.Frag) (a : Addr) : It :=
  ⟨fun i H => ∃ (xs : List V) (x : V), SqT K H a xs ∧ xs[i]? = some x, fun i H v H' => ∃ T x, v = .ref T ∧ H T = none ∧ H' = upd H T (.tup [.int (i : Nat), x]) ∧ ∀ xs, SqT K H a xs → xs[i]? = some x, fun i H => ∃ xs : List V, SqT K H a xs ∧ xs.length ≤ i⟩
theorem turn_enumT {P : Program} {w : World} {K : PySem.W.Frag} {elts : List Expr} {kk : Nat} {tpos : Pos} (a e it : Addr) :
    Turn P w K (.Tuple elts kk tpos) (IteT K a) [e, it] e (fun i h => (∃ old, IsEnum h e it ((i : Nat) : Int) old) ∧ h.IsTupleIter it a i ∧ e ≠ it ∧ e ≠ a ∧ a ≠ it) where
  mem := by simp
  obj := fun i h st b hb => by
    obtain ⟨⟨old, he⟩, ⟨o, ho, hc, hd⟩, _⟩ := st
    have e' : b = e ∨ b = it := by simpa using hb
    rcases e' with z | z
    · rw [z]; exact ⟨_, he, fun v q => nomatch q⟩
    · rw [z]; exact ⟨o, ho, fun v q => by rw [hd] at q; cases q⟩
  keep := fun i h h' st k => let ⟨⟨old, he⟩, hi, hne⟩ := st; ⟨⟨old, k e (by simp) _ he⟩, hi.at fun o q => k it (by simp) o q, hne⟩
  item := by
    intro X hP hw hK hc i pins s σ H E I hf st hg
    subst hP hw hK
    obtain ⟨⟨old, he⟩, hit, hne, hea, hai⟩ := st
    obtain ⟨xs, x, hq, hx⟩ := hg
    obtain ⟨its, rv, p, hz⟩ := I.tuple hq
    obtain ⟨u, hu, ru⟩ := rv.get hx
    have hel : e < s.heap.objs.size := Heap.lt_size he
    have hil : it < s.heap.objs.size := by obtain ⟨_, q, _⟩ := hit; exact Heap.lt_size q
    have hil2 : i < its.toArray.size := by
      have := (List.getElem?_eq_some_iff.mp hu).1
      simpa using this
    refine wpAny_pyNext_enum_itemC (Draws.tuple (prog := X.prog) (w := X.w) (A := X.A.in1) (show X.A.in1.handled = none from I.ok.hd hc) it a hai its.toArray) he ⟨hit, show s.heap.IsTuple a its.toArray from p⟩ hil2 hne (by simp [hne, hea]) fun x' h' tk hP ho hst' hT hsz hk => ?_
    have hux : x' = u := by
      have h1 : its.toArray[i]? = some u := by simpa using hu
      rw [h1] at hP
      exact (Option.some.inj hP).symm
    subst hux
    refine ⟨_, rfl, wpAny_letOwnedTupleGo_enum (s := { s with heap := h', toks := tk + 1 }) ho fun h'' he' sb => ?_⟩
    have hT2 : h''.get? s.heap.objs.size = some { cls := .type "tuple", data := .seq #[.int i tk, x'] } := (sb.2 _ (Nat.ne_of_gt hel)).trans hT
    have new : ObjOk X.prog X.w (upd H s.heap.objs.size (.tup [.int (i : Nat), x])) h'' s.heap.objs.size (.tup [.int (i : Nat), x]) :=
      ⟨by show 2 ≤ sizeLine; decide, [.int i tk, x'], .cons ⟨_, rfl⟩ (.cons ru .nil), ⟨_, hT2, rfl, _, rfl⟩⟩
    have I1 : Inv X pins σ (upd H s.heap.objs.size (.tup [.int (i : Nat), x])) { s with heap := h'', toks := tk + 1 } :=
      I.turnedNew (ch := [e, it]) (fun b ob hb q => (sb.2 b (fun z => hb (by simp [z]))).trans (hk b ob (fun z => hb (by simp [z])) (fun z => hb (by simp [z])) q)) hf (Nat.le_refl _) new
    refine ⟨.ref s.heap.objs.size, _, I1, rfl, ⟨_, x, rfl, I.hok.fresh (Nat.le_refl _), rfl, fun ys hy => by rw [I.tuple_inj hy hq]; exact hx⟩, ⟨⟨x', ?_⟩, hst'.1.at fun o q => (sb.2 it (Ne.symm hne)).trans q, hne, hea, hai⟩, fun b hb => ?_⟩
    · have e1 : ((i + 1 : Nat) : Int) = (i : Int) + 1 := by omega
      rw [e1]; exact he'
    · have hb' : b < s.heap.objs.size := by
        have e' : b = e ∨ b = it := by simpa using hb
        rcases e' with z | z
        · rw [z]; exact hel
        · rw [z]; exact hil
      rw [upd_ne (Nat.ne_of_lt hb')]
      exact (hf b hb).1
  done := by
    intro X hP hw hK hc i pins s σ H E I hf st hg
    subst hP hw hK
    obtain ⟨⟨old, he⟩, hit, hne, hea, hai⟩ := st
    obtain ⟨xs, hq, hx⟩ := hg
    obtain ⟨its, rv, p, hz⟩ := I.tuple hq
    obtain ⟨f0, f1, f2, f3, f4, f5⟩ := hf it (by simp)
    have hl := rv.length
    have hT : s.TypeIs (.ref e) "enumerate" := ⟨_, he, rfl⟩
    unfold pyNext
    refine wpAny_bind (wpAny_attempt (wpAny_callSpecial?_slot (name := Str.ofString "__next__") hT F.slot_enumerate_next
      (wpAny_call_entry F.slot_enumerate_next hT F.entry_enumerate_next ?_ (F.args_enumerate_next_1 _))))
    show wpAny _ _ (field (.ref e) 2 >>= _) _ _ _
    refine wpAny_bind (wpAny_field he rfl (x := .ref it) rfl ?_)
    refine wpAny_bind (wpAny_nextOf_tuple_end (I.ok.hd hc) hit (show s.heap.IsTuple a its.toArray from p) (by simp; omega) fun h' x he' hx' => ?_)
    obtain ⟨o, ho, hc'⟩ := hx'
    refine wpAny_bind (wpAny_isInstance (T := "StopIteration") (b := true) ⟨o, ho, hc'⟩ isSubtype_stop ?_)
    exact wpAny_pure ⟨rfl, I.turned (t' := s.toks) (fun b o hb q => he' b o hb q) f0 f1 f3 f4 f5⟩
  self := fun A i s Q E st h => let ⟨⟨_, he⟩, _⟩ := st; wpAny_pyIter_enum he h
def iEnumA (K : PySem.W.Frag) (ta : TA) : TI := fun σ H R => ta σ H fun vs H1 => ∃ a xs, vs = [.ref a] ∧ ((SqL K H1 a xs ∧ R (Ite K a) H1) ∨ (SqT K H1 a xs ∧ R (IteT K a) H1))
theorem pi_enumA {X : Cx} {e : Expr} {ta : TA} {p pos tpos : Pos} {elts : List Expr} {kk : Nat} (hg : Gl X "enumerate") (hm : X.mg "enumerate" = none) (ha : PA X [e] ta) (hs : starEach [e] X.env = [(false, eval e X.env)] := by rfl) :
    PI X (.Tuple elts kk tpos) (.Call (.Name "enumerate" p) [e] [] pos) (iEnumA X.K ta) := by
  refine ⟨fun pins s σ H R I h => ?_⟩
  refine Call_ (ld_blt I hg hm boot_enumerate (PyProof.Rows.callWith_type1 (thn (ha.run pos pins s σ H _ I h) fun us s1 ⟨vs, H1, I1, r1, q1⟩ => ?_) hs rfl))
  obtain ⟨a, xs, ex, q1⟩ := q1
  subst ex
  cases r1 with
  | cons r rr =>
    cases rr
    cases r
    have fpk : ∀ b ∈ [s1.heap.objs.size + 1, s1.heap.objs.size], FpOk X pins H1 b := fun b hb => by
      have e' : b = s1.heap.objs.size + 1 ∨ b = s1.heap.objs.size := by simpa using hb
      have hle : s1.heap.objs.size ≤ b := by
        rcases e' with z | z
        · rw [z]; exact Nat.le_add_right _ _
        · rw [z]; exact Nat.le_refl _
      exact I1.fpOk hle (I1.hok.fresh hle)
    rcases q1 with ⟨hq, q⟩ | ⟨hq, q⟩
    · obtain ⟨its, rv, p', hz⟩ := I1.list hq
      refine call_enumerate_list p'.isList fun h' he hit hsz hk => wpAny_pyIter_enum he ?_
      have I2 : Inv X pins σ H1 { s1 with heap := h' } := I1.kept (t' := s1.toks) hk
      exact ⟨s1.heap.objs.size + 1, [s1.heap.objs.size + 1, s1.heap.objs.size], _, _, H1, rfl, I2, turn_enum a (s1.heap.objs.size + 1) s1.heap.objs.size, ⟨⟨.none, he⟩, hit, Nat.succ_ne_self _⟩, fpk, q⟩
    · obtain ⟨its, rv, p', hz⟩ := I1.tuple hq
      have hlt : a < s1.heap.objs.size := p'.lt
      refine fl_enum_begins (begins_tuple a its.toArray) (show s1.heap.IsTuple a its.toArray from p') fun h' he hit hsz hk => wpAny_pyIter_enum he ?_
      have I2 : Inv X pins σ H1 { s1 with heap := h' } := I1.kept (t' := s1.toks) hk
      exact ⟨s1.heap.objs.size + 1, [s1.heap.objs.size + 1, s1.heap.objs.size], _, _, H1, rfl, I2, turn_enumT a (s1.heap.objs.size + 1) s1.heap.objs.size,
        ⟨⟨.none, he⟩, ⟨_, hit, rfl, rfl⟩, Nat.succ_ne_self _, Nat.ne_of_gt (Nat.lt_succ_of_lt hlt), Nat.ne_of_lt hlt⟩, fpk, q⟩
end FL

namespace FL
open PySem PySem.Spec PyProof.Rows L2
variable [TabCtx]
def srcD : D → List D → List (Nat × List D)
  | .loc l, ds => [(l, ds)]
  | _, _ => []
def isTup : D → Bool
  | .tup _ => true
  | _ => false
theorem still_here {st : Sto} {d : D} {ds : List D} (h : seqD d st = some ds) : Still (srcD d ds) st := by
  cases d with
  | loc l =>
    intro p hp
    rw [List.mem_singleton.mp hp]
    unfold seqD at h
    cases q : st[l]? with
    | none => simp only [q] at h; cases h
    | some o =>
      cases o with
      | lst es => simp only [q] at h; cases h; rfl
      | dic kvs => simp only [q] at h; cases h
  | _ => intro p hp; cases hp
abbrev StillL (K : PySem.W.Frag) (H : Hp) (r : Rho) (a : Addr) (ds : List D) (src : List (Nat × List D)) : Prop :=
  ∀ H1 r1 st1, Ext H r H1 r1 → SR K H1 r1 st1 → Still src st1 → ∃ xs, SqL K H1 a xs ∧ VDs K H1 r1 ds xs
abbrev StillT (K : PySem.W.Frag) (H : Hp) (r : Rho) (a : Addr) (ds : List D) (src : List (Nat × List D)) : Prop :=
  ∀ H1 r1 st1, Ext H r H1 r1 → SR K H1 r1 st1 → Still src st1 → ∃ xs, SqT K H1 a xs ∧ VDs K H1 r1 ds xs
theorem lst_still {K H r st} {d : D} {x : V} {ds : List D} (ht : isTup d = false) (h : seqD d st = some ds) (v : VD K H r d x) : ∃ a, x = .ref a ∧ StillL K H r a ds (srcD d ds) := by
  cases d with
  | lst es => cases h; obtain ⟨a, xs, rfl, h1, h2⟩ := v; exact ⟨a, rfl, fun H1 r1 st1 e s1 _ => ⟨xs, (h1.ext e).sq, h2.ext e⟩⟩
  | scr ns => cases h; obtain ⟨a, rfl, h1⟩ := v; exact ⟨a, rfl, fun H1 r1 st1 e s1 _ => ⟨_, (h1.ext e).sq, VDs.ints ns⟩⟩
  | loc l =>
    obtain ⟨a, rfl, h1⟩ := v
    refine ⟨a, rfl, fun H1 r1 st1 e s1 hs => ?_⟩
    have q := hs (l, ds) (List.mem_singleton.mpr rfl)
    obtain ⟨b, ho, e1, e2, xs, rfl, e3⟩ := s1.obj l _ q
    rw [e.get h1] at e1; cases e1
    exact ⟨xs, .inl (.inl e2), e3⟩
  | tup es => cases ht
  | _ => cases h
theorem tup_still {K H r st} {d : D} {x : V} {ds : List D} (ht : isTup d = true) (h : seqD d st = some ds) (v : VD K H r d x) : ∃ a, x = .ref a ∧ StillT K H r a ds (srcD d ds) := by
  cases d with
  | tup es => cases h; obtain ⟨a, xs, rfl, h1, h2⟩ := v; exact ⟨a, rfl, fun H1 r1 st1 e s1 _ => ⟨xs, (h1.ext e).sq, h2.ext e⟩⟩
  | _ => cases ht
section
variable {X : Cx} {W : WX} {e a b c : Expr} {tg : Expr} {m ma mb : EM} {ms : Env → Sto → Res (List D)} {pos p : Pos}
theorem PI.byRes {α β : Type} {R : Hp → Rho → α → β → Prop} {t t1 t2 : TI} (h1 : PI X tg e t1) (h2 : PI X tg e t2) (i : ∀ σ H Q, t σ H Q → t1 σ H Q ∨ t2 σ H Q) : PI X tg e t := ⟨fun pins s σ H Q I q => by
  rcases i σ H Q q with q | q
  · exact h1.run pins s σ H Q I q
  · exact h2.run pins s σ H Q I q⟩
def iSeq (m : EM) : IM := fun env st => (m env st).bind fun d st1 => match seqD d st1 with
  | some ds => .ok (ds, srcD d ds) st1
  | none => .bad
theorem itl_ok {w : Bool} {K : PySem.W.Frag} {H r} {a : Addr} {ds : List D} {src : List (Nat × List D)} (h : ∀ H1 r1 st1, Ext H r H1 r1 → SR K H1 r1 st1 → Still src st1 → ∃ xs, SqL K H1 a xs ∧ VDs K H1 r1 ds xs) : ItOk w K (Itl K a) ds src H r :=
  ⟨fun H1 r1 st i e s hs => by
    obtain ⟨xs, h1, h2⟩ := h H1 r1 st e s hs
    refine ⟨fun hi => ?_, fun hi => ⟨xs, h1, by rw [← h2.len]; exact hi⟩, fun d hd x H2 hy => ?_⟩
    · obtain ⟨x, q, _⟩ := h2.get (List.getElem?_eq_getElem hi)
      exact ⟨xs, x, h1, q⟩
    · obtain ⟨rfl, hy⟩ := hy
      obtain ⟨y, q, v⟩ := h2.get hd
      rw [hy xs h1] at q; cases q
      exact ⟨Ext.refl _ _, s, .inl v⟩⟩
theorem itt_ok {w : Bool} {K : PySem.W.Frag} {H r} {a : Addr} {ds : List D} {src : List (Nat × List D)} (h : ∀ H1 r1 st1, Ext H r H1 r1 → SR K H1 r1 st1 → Still src st1 → ∃ xs, SqT K H1 a xs ∧ VDs K H1 r1 ds xs) : ItOk w K (Itt K a) ds src H r :=
  ⟨fun H1 r1 st i e s hs => by
    obtain ⟨xs, h1, h2⟩ := h H1 r1 st e s hs
    refine ⟨fun hi => ?_, fun hi => ⟨xs, h1, by rw [← h2.len]; exact hi⟩, fun d hd x H2 hy => ?_⟩
    · obtain ⟨x, q, _⟩ := h2.get (List.getElem?_eq_getElem hi)
      exact ⟨xs, x, h1, q⟩
    · obtain ⟨rfl, hy⟩ := hy
      obtain ⟨y, q, v⟩ := h2.get hd
      rw [hy xs h1] at q; cases q
      exact ⟨Ext.refl _ _, s, .inl v⟩⟩
theorem fi_seq (he : FE X W e m) : FI X W tg e (iSeq m) := by
  refine PI.byRes (R := RV X.K) (pi_list he) (pi_tup he) fun σ H Q ⟨r, env, st, hE, hS, h⟩ => ?_
  unfold iSeq at h
  cases q : m env st with
  | bad => rw [q] at h; exact h.elim
  | ex x st1 =>
    left
    refine ⟨r, env, st, hE, hS, ?_⟩
    rw [q] at h ⊢
    exact h
  | ok d st1 =>
    rw [q] at h
    cases q2 : seqD d st1 with
    | none => simp only [Res.bind_ok, q2] at h; exact h.elim
    | some ds =>
      simp only [Res.bind_ok, q2] at h
      cases ht : isTup d with
      | true =>
        right
        refine ⟨r, env, st, hE, hS, ?_⟩
        rw [q]
        intro v H1 r1 e1 s1 v1
        obtain ⟨a, rfl, h3⟩ := tup_still ht q2 v1
        obtain ⟨xs, k1, _⟩ := h3 H1 r1 st1 (Ext.refl _ _) s1 (still_here q2)
        exact ⟨a, rfl, ⟨xs, k1⟩, RES.ok' h e1 s1 (itt_ok h3)⟩
      | false =>
        left
        refine ⟨r, env, st, hE, hS, ?_⟩
        rw [q]
        intro v H1 r1 e1 s1 v1
        obtain ⟨a, rfl, h3⟩ := lst_still ht q2 v1
        obtain ⟨xs, k1, _⟩ := h3 H1 r1 st1 (Ext.refl _ _) s1 (still_here q2)
        exact ⟨a, rfl, ⟨xs, k1⟩, RES.ok' h e1 s1 (itl_ok h3)⟩


def smallI (i : Int) : Prop := -(1000000000 : Int) ≤ i ∧ i ≤ 1000000000
instance (i : Int) : Decidable (smallI i) := inferInstanceAs (Decidable (_ ∧ _))
theorem itr_ok {w : Bool} {K : PySem.W.Frag} {H r} {lo : Int} {n : Nat} {f : Nat → Int} (hf : ∀ i, i < n → f i = lo + i) : ItOk w K (Itr lo n) ((List.range n).map fun k => .int (f k)) [] H r :=
  ⟨fun H1 r1 st i e s hs => by
    refine ⟨fun hi => by show i < n; simpa using hi, fun hi => by show n ≤ i; simpa using hi, fun d hd x H2 hy => ?_⟩
    obtain ⟨rfl, rfl⟩ := hy
    have hi : i < n := by
      have := (List.getElem?_eq_some_iff.mp hd).1
      simpa using this
    rw [List.getElem?_map, List.getElem?_range hi] at hd
    cases hd
    exact ⟨Ext.refl _ _, s, .inl (by show V.int _ = V.int _; rw [hf i hi])⟩⟩
def iRange2 (ms : Env → Sto → Res (List D)) : IM := fun env st => (ms env st).bind fun ds st1 => match ds with
  | [.int i, .int j] => if smallI i ∧ smallI j then .ok ((List.range (j - i).toNat).map fun k => .int (i + (k : Nat)), []) st1 else .bad
  | _ => .bad
theorem vds_int2 {K H r} {ds : List D} {xs : List V} (h : VDs K H r ds xs) {i j : Int} (e : ds = [.int i, .int j]) : xs = [.int i, .int j] := by
  subst e
  obtain ⟨x, t, rfl, h1, y, u, rfl, h2, h3⟩ := h
  cases h1; cases h2; cases h3; rfl
theorem fi_range2 (hg : Gl X "range") (hm : X.mg "range" = none) (ha : FA X W [a, b] ms) (hs : starEach [a, b] X.env = [(false, eval a X.env), (false, eval b X.env)] := by rfl) (hs2 : starEach [b] X.env = [(false, eval b X.env)] := by rfl) : FI X W tg (.Call (.Name "range" p) [a, b] [] pos) (iRange2 ms) :=
  PI.imp (pi_range2 hg hm ha hs hs2) fun σ H Q ⟨r, env, st, hE, hS, h⟩ => ⟨r, env, st, hE, hS, RES.seq h fun ds st1 xs H1 r1 e1 s1 v1 h1 => by
    by_cases hd : ∃ i j, ds = [.int i, .int j]
    · obtain ⟨i, j, rfl⟩ := hd
      simp only at h1
      by_cases hj : smallI i ∧ smallI j
      · rw [if_pos hj] at h1
        obtain ⟨⟨i1, i2⟩, j1, j2⟩ := hj
        exact ⟨i, j, vds_int2 v1 rfl, ⟨by omega, by omega, by omega, by omega⟩, RES.ok h1 s1 (itr_ok fun i _ => rfl)⟩
      · rw [if_neg hj] at h1; exact h1.elim
    · exfalso
      revert h1
      split
      · exact absurd ⟨_, _, rfl⟩ hd
      · exact fun h => h⟩


def numL (ds : List D) : List D := ds.zipIdx.map fun p => .tup [.int (p.2 : Nat), p.1]
def iEnum (ms : Env → Sto → Res (List D)) : IM := fun env st => (ms env st).bind fun ds st1 => match ds with
  | [d] => match seqD d st1 with
    | some es => .ok (numL es, srcD d es) st1
    | none => .bad
  | _ => .bad
theorem new_pair {K H r st} {T : Addr} {x y : V} {d e : D} (s : SR K H r st) (hT : H T = none) (v1 : VD K H r d x) (v2 : VD K H r e y) :
    Ext H r (upd H T (.tup [x, y])) r ∧ SR K (upd H T (.tup [x, y])) r st ∧ VDi true K (upd H T (.tup [x, y])) r (.tup [d, e]) (.ref T) :=
  ⟨Ext.fresh hT, s.fresh hT, .inr ⟨rfl, _, T, _, rfl, rfl, s.notin hT, .inl upd_same, _, _, rfl, v1.ext (Ext.fresh hT), _, _, rfl, v2.ext (Ext.fresh hT), rfl⟩⟩
theorem num_get {ds : List D} {i : Nat} {d : D} (h : (numL ds)[i]? = some d) : ∃ e, ds[i]? = some e ∧ d = .tup [.int (i : Nat), e] := by
  unfold numL at h
  rw [List.getElem?_map, List.getElem?_zipIdx] at h
  cases q : ds[i]? with
  | none => rw [q] at h; cases h
  | some e => rw [q] at h; simp at h; exact ⟨e, rfl, h.symm⟩
theorem num_len (ds : List D) : (numL ds).length = ds.length := by unfold numL; simp
theorem ite_ok {K : PySem.W.Frag} {H r} {a : Addr} {ds : List D} {src : List (Nat × List D)} (h : StillL K H r a ds src) : ItOk true K (Ite K a) (numL ds) src H r :=
  ⟨fun H1 r1 st i e s hs => by
    obtain ⟨xs, h1, h2⟩ := h H1 r1 st e s hs
    rw [num_len]
    refine ⟨fun hi => ?_, fun hi => ⟨xs, h1, by rw [← h2.len]; exact hi⟩, fun d hd x H2 hy => ?_⟩
    · obtain ⟨x, q, _⟩ := h2.get (List.getElem?_eq_getElem hi)
      exact ⟨xs, x, h1, q⟩
    · obtain ⟨T, y, rfl, hT, rfl, hy⟩ := hy
      obtain ⟨e', q, rfl⟩ := num_get hd
      obtain ⟨z, q2, v⟩ := h2.get q
      rw [hy xs h1] at q2; cases q2
      exact new_pair s hT rfl v⟩
theorem iteT_ok {K : PySem.W.Frag} {H r} {a : Addr} {ds : List D} {src : List (Nat × List D)} (h : StillT K H r a ds src) : ItOk true K (IteT K a) (numL ds) src H r :=
  ⟨fun H1 r1 st i e s hs => by
    obtain ⟨xs, h1, h2⟩ := h H1 r1 st e s hs
    rw [num_len]
    refine ⟨fun hi => ?_, fun hi => ⟨xs, h1, by rw [← h2.len]; exact hi⟩, fun d hd x H2 hy => ?_⟩
    · obtain ⟨x, q, _⟩ := h2.get (List.getElem?_eq_getElem hi)
      exact ⟨xs, x, h1, q⟩
    · obtain ⟨T, y, rfl, hT, rfl, hy⟩ := hy
      obtain ⟨e', q, rfl⟩ := num_get hd
      obtain ⟨z, q2, v⟩ := h2.get q
      rw [hy xs h1] at q2; cases q2
      exact new_pair s hT rfl v⟩
theorem fi_enum {elts : List Expr} {kk : Nat} {tpos : Pos} (hg : Gl X "enumerate") (hm : X.mg "enumerate" = none) (ha : FA X W [a] ms) (hs : starEach [a] X.env = [(false, eval a X.env)] := by rfl) :
    FI X W (.Tuple elts kk tpos) (.Call (.Name "enumerate" p) [a] [] pos) (iEnum ms) :=
  PI.imp (pi_enumA hg hm ha hs) fun σ H Q ⟨r, env, st, hE, hS, h⟩ => ⟨r, env, st, hE, hS, RES.seq h fun ds st1 xs H1 r1 e1 s1 v1 h1 => by
    match ds, v1, h1 with
    | [d], v1, h1 =>
      obtain ⟨x, t, rfl, w1, w2⟩ := v1
      cases w2
      cases q : seqD d st1 with
      | none => simp only [q] at h1; exact h1.elim
      | some es =>
        simp only [q] at h1
        cases ht : isTup d with
        | true =>
          obtain ⟨a, rfl, h3⟩ := tup_still ht q w1
          obtain ⟨xs, k1, _⟩ := h3 H1 r1 st1 (Ext.refl _ _) s1 (still_here q)
          exact ⟨a, xs, rfl, .inr ⟨k1, RES.ok h1 s1 (iteT_ok h3)⟩⟩
        | false =>
          obtain ⟨a, rfl, h3⟩ := lst_still ht q w1
          obtain ⟨xs, k1, _⟩ := h3 H1 r1 st1 (Ext.refl _ _) s1 (still_here q)
          exact ⟨a, xs, rfl, .inl ⟨k1, RES.ok h1 s1 (ite_ok h3)⟩⟩
    | [], _, h1 => exact h1.elim
    | _ :: _ :: _, _, h1 => exact h1.elim⟩
def pairL (ds es : List D) : List D := (ds.zip es).map fun p => .tup [p.1, p.2]
def iZip (ms : Env → Sto → Res (List D)) : IM := fun env st => (ms env st).bind fun ds st1 => match ds with
  | [d, e] => if isTup d = isTup e then (match seqD d st1, seqD e st1 with
    | some xs, some ys => .ok (pairL xs ys, srcD d xs ++ srcD e ys) st1
    | _, _ => .bad) else .bad
  | _ => .bad
theorem pair_get {ds es : List D} {i : Nat} {d : D} (h : (pairL ds es)[i]? = some d) : ∃ x y, ds[i]? = some x ∧ es[i]? = some y ∧ d = .tup [x, y] := by
  unfold pairL at h
  rw [List.getElem?_map] at h
  cases q : (ds.zip es)[i]? with
  | none => rw [q] at h; cases h
  | some p =>
    rw [q] at h
    obtain ⟨h1, h2⟩ := List.getElem?_zip_eq_some.mp q
    cases h
    exact ⟨p.1, p.2, h1, h2, rfl⟩
theorem pair_len (ds es : List D) : (pairL ds es).length = min ds.length es.length := by unfold pairL; simp
theorem itz_ok {K : PySem.W.Frag} {H r} {a b : Addr} {ds es : List D} {s1 s2 : List (Nat × List D)} (h : StillL K H r a ds s1) (h' : StillL K H r b es s2) : ItOk true K (Itz K a b) (pairL ds es) (s1 ++ s2) H r :=
  ⟨fun H1 r1 st i e s hs => by
    obtain ⟨xs, h1, h2⟩ := h H1 r1 st e s fun p hp => hs p (List.mem_append_left _ hp)
    obtain ⟨ys, h3, h4⟩ := h' H1 r1 st e s fun p hp => hs p (List.mem_append_right _ hp)
    rw [pair_len]
    refine ⟨fun hi => ?_, fun hi => ⟨xs, ys, h1, h3, by rw [← h2.len, ← h4.len]; omega⟩, fun d hd x H2 hy => ?_⟩
    · obtain ⟨x, q, _⟩ := h2.get (List.getElem?_eq_getElem (show i < ds.length by omega))
      obtain ⟨y, q', _⟩ := h4.get (List.getElem?_eq_getElem (show i < es.length by omega))
      exact ⟨xs, ys, x, y, h1, h3, q, q'⟩
    · obtain ⟨T, x, y, rfl, hT, rfl, hx, hy⟩ := hy
      obtain ⟨d1, d2, q1, q2, rfl⟩ := pair_get hd
      obtain ⟨z, q3, v⟩ := h2.get q1
      obtain ⟨z', q4, v'⟩ := h4.get q2
      rw [hx xs h1] at q3; cases q3
      rw [hy ys h3] at q4; cases q4
      exact new_pair s hT v v'⟩
theorem itzT_ok {K : PySem.W.Frag} {H r} {a b : Addr} {ds es : List D} {s1 s2 : List (Nat × List D)} (h : StillT K H r a ds s1) (h' : StillT K H r b es s2) : ItOk true K (RZ.ItzT K a b) (pairL ds es) (s1 ++ s2) H r :=
  ⟨fun H1 r1 st i e s hs => by
    obtain ⟨xs, h1, h2⟩ := h H1 r1 st e s fun p hp => hs p (List.mem_append_left _ hp)
    obtain ⟨ys, h3, h4⟩ := h' H1 r1 st e s fun p hp => hs p (List.mem_append_right _ hp)
    rw [pair_len]
    refine ⟨fun hi => ?_, fun hi => ⟨xs, ys, h1, h3, by rw [← h2.len, ← h4.len]; omega⟩, fun d hd x H2 hy => ?_⟩
    · obtain ⟨x, q, _⟩ := h2.get (List.getElem?_eq_getElem (show i < ds.length by omega))
      obtain ⟨y, q', _⟩ := h4.get (List.getElem?_eq_getElem (show i < es.length by omega))
      exact ⟨xs, ys, x, y, h1, h3, q, q'⟩
    · obtain ⟨T, x, y, rfl, hT, rfl, hx, hy⟩ := hy
      obtain ⟨d1, d2, q1, q2, rfl⟩ := pair_get hd
      obtain ⟨z, q3, v⟩ := h2.get q1
      obtain ⟨z', q4, v'⟩ := h4.get q2
      rw [hx xs h1] at q3; cases q3
      rw [hy ys h3] at q4; cases q4
      exact new_pair s hT v v'⟩
theorem fi_zip {elts : List Expr} {kk : Nat} {tpos : Pos} (hg : Gl X "zip") (hm : X.mg "zip" = none) (ha : FA X W [a, b] ms)
    (hs : starEach [a, b] X.env = (false, eval a X.env) :: starEach [b] X.env := by rfl) (hpl : (backTo pos (starEach [b] X.env)).any (·.1) = false := by rfl) :
    FI X W (.Tuple elts kk tpos) (.Call (.Name "zip" p) [a, b] [] pos) (iZip ms) :=
  PI.imp (RZ.pi_zipA hg hm ha hs hpl) fun σ H Q ⟨r, env, st, hE, hS, h⟩ => ⟨r, env, st, hE, hS, RES.seq h fun ds st1 xs H1 r1 e1 s1 v1 h1 => by
    match ds, v1, h1 with
    | [d, e], v1, h1 =>
      obtain ⟨x, t, rfl, w1, y, u, rfl, w2, w3⟩ := v1
      cases w3
      simp only at h1
      by_cases hk : isTup d = isTup e
      · rw [if_pos hk] at h1
        cases q : seqD d st1 with
        | none => simp only [q] at h1; exact h1.elim
        | some es =>
          cases q' : seqD e st1 with
          | none => simp only [q, q'] at h1; exact h1.elim
          | some es' =>
            simp only [q, q'] at h1
            cases ht : isTup d with
            | true =>
              obtain ⟨a, rfl, h3⟩ := tup_still ht q w1
              obtain ⟨b, rfl, h4⟩ := tup_still (hk ▸ ht) q' w2
              obtain ⟨xs, k1, _⟩ := h3 H1 r1 st1 (Ext.refl _ _) s1 (still_here q)
              obtain ⟨ys, k2, _⟩ := h4 H1 r1 st1 (Ext.refl _ _) s1 (still_here q')
              exact ⟨a, b, xs, ys, rfl, .inr ⟨k1, k2, RES.ok h1 s1 (itzT_ok h3 h4)⟩⟩
            | false =>
              obtain ⟨a, rfl, h3⟩ := lst_still ht q w1
              obtain ⟨b, rfl, h4⟩ := lst_still (hk ▸ ht) q' w2
              obtain ⟨xs, k1, _⟩ := h3 H1 r1 st1 (Ext.refl _ _) s1 (still_here q)
              obtain ⟨ys, k2, _⟩ := h4 H1 r1 st1 (Ext.refl _ _) s1 (still_here q')
              exact ⟨a, b, xs, ys, rfl, .inl ⟨k1, k2, RES.ok h1 s1 (itz_ok h3 h4)⟩⟩
      · rw [if_neg hk] at h1; exact h1.elim
    | [], _, h1 => exact h1.elim
    | [_], _, h1 => exact h1.elim
    | _ :: _ :: _ :: _, _, h1 => exact h1.elim⟩
end
end FL

namespace FL
open PySem PySem.Spec PyProof.Rows L2
variable [TabCtx]


def Rho.add (r : Rho) (a : Addr) : Rho := ⟨r.ad, a :: r.pv⟩
def Rho.rem (r : Rho) (a : Addr) : Rho := ⟨r.ad, r.pv.filter fun b => decide (b ≠ a)⟩
def rmH (H : Hp) (a : Addr) : Hp := fun b => if b = a then none else H b
theorem rmH_same {H : Hp} {a : Addr} : rmH H a a = none := if_pos rfl
theorem rmH_ne {H : Hp} {a b : Addr} (h : b ≠ a) : rmH H a b = H b := if_neg h
theorem upd_rmH {H : Hp} {a : Addr} {o : HO} (h : H a = some o) : upd (rmH H a) a o = H := by
  funext b
  unfold upd rmH
  by_cases hb : b = a
  · rw [if_pos hb, hb, h]
  · rw [if_neg hb, if_neg hb]
theorem Ext.apart {H r} {p : Addr} {o : HO} (h : H p = none) : Ext H r (upd H p o) (r.add p) :=
  ⟨⟨[], [p], by simp [Rho.add, Rho.app], by simp, fun a ha => by rw [List.mem_singleton.mp ha]; exact .none h⟩, fun a o' _ _ e => by rw [upd_ne (ne_of_none e h)]; exact e⟩
theorem SR.add {K H r st} (s : SR K H r st) {p : Addr} {o : HO} (h : H p = none) (n : Nx o := by exact nx_lst) : SR K (upd H p o) (r.add p) st := by
  have e := Ext.apart (r := r) (o := o) h
  refine ⟨s.len, s.nd, fun l so q => ?_, fun a ha => ?_, s.tabs_fresh h⟩
  · obtain ⟨a, x, h1, h2, h3⟩ := s.obj l so q
    exact ⟨a, x, h1, by rw [upd_ne (ne_of_none h2 h)]; exact h2, h3.ext e⟩
  · rcases List.mem_cons.mp ha with rfl | ha
    · exact ⟨s.notad h, o, n, upd_same⟩
    · obtain ⟨h1, o', n', h2⟩ := s.apart a ha
      exact ⟨h1, o', n', by rw [upd_ne (ne_of_none h2 h)]; exact h2⟩
theorem out_ne {r : Rho} {p a : Addr} (hp : p ∈ r.pv) (h : r.out a) : a ≠ p := fun e => h.2 (e ▸ hp)
theorem out_rem {r : Rho} {p a : Addr} (h : r.out a) : (r.rem p).out a := ⟨h.1, fun q => h.2 (List.mem_filter.mp q).1⟩
theorem Rd.to {H H' : Hp} {a : Addr} {u : HO} (e : H' a = H a) (h : Rd H a u) : Rd H' a u := by
  rcases h with h | ⟨o, h⟩
  · exact .inl (e.trans h)
  · exact .inr ⟨o, e.trans h⟩
theorem ExcAt.free {K H H' r r'} {p : Addr} {cls ns a vs} (hp : p ∈ r.pv) (hH : ∀ a, a ≠ p → H' a = H a) (ho : ∀ a, r.out a → r'.out a) (h : ExcAt K H r cls ns a vs) : ExcAt K H' r' cls ns a vs := by
  obtain ⟨C, d, h1, h2, h3, h4⟩ := h
  refine ⟨C, d, ho a h1, h2, (hH a (out_ne hp h1)).trans h3, ?_⟩
  rcases h4 with h4 | ⟨dd, h5, h6, h7, h8⟩
  · exact .inl h4
  · exact .inr ⟨dd, h5, ho dd h6, (hH dd (out_ne hp h6)).trans h7, h8⟩
mutual
theorem VD.free {K H H' r r'} {p : Addr} (hp : p ∈ r.pv) (hH : ∀ a, a ≠ p → H' a = H a) (hr : r'.ad = r.ad) (ho : ∀ a, r.out a → r'.out a) : ∀ (d : D) (v : V), VD K H r d v → VD K H' r' d v
  | .non, _, h => h
  | .bl _, _, h => h
  | .int _, _, h => h
  | .str _, _, h => h
  | .tup ds, v, h => by
    obtain ⟨a, xs, h1, h2, h3⟩ := h
    refine ⟨a, xs, h1, ?_, VDs.free hp hH hr ho ds xs h3⟩
    rcases h2 with ⟨h4, o, h5, h6⟩ | h2
    · exact .inl ⟨ho a h4, o, h5, (hH a (out_ne hp h4)).trans h6⟩
    · exact .inr h2
  | .lst ds, v, h => by
    obtain ⟨a, xs, h1, h2, h3⟩ := h
    exact ⟨a, xs, h1, ⟨ho a h2.1, (hH a (out_ne hp h2.1)).trans h2.2⟩, VDs.free hp hH hr ho ds xs h3⟩
  | .loc l, v, h => by
    obtain ⟨a, h1, h2⟩ := h
    exact ⟨a, h1, by rw [hr]; exact h2⟩
  | .scr ns, v, h => by
    obtain ⟨a, h1, h2⟩ := h
    refine ⟨a, h1, ?_⟩
    rcases h2 with ⟨h4, h5⟩ | h2
    · exact .inl ⟨ho a h4, Rd.to (hH a (out_ne hp h4)) h5⟩
    · exact .inr h2
  | .exc cls ns ds, v, h => by
    obtain ⟨a, xs, h1, h2, h3⟩ := h
    exact ⟨a, xs, h1, h2.free hp hH ho, VDs.free hp hH hr ho ds xs h3⟩
theorem VDs.free {K H H' r r'} {p : Addr} (hp : p ∈ r.pv) (hH : ∀ a, a ≠ p → H' a = H a) (hr : r'.ad = r.ad) (ho : ∀ a, r.out a → r'.out a) : ∀ (ds : List D) (xs : List V), VDs K H r ds xs → VDs K H' r' ds xs
  | [], _, h => h
  | d :: ds, xs, h => by
    obtain ⟨x, t, h1, h2, h3⟩ := h
    exact ⟨x, t, h1, VD.free hp hH hr ho d x h2, VDs.free hp hH hr ho ds t h3⟩
end
theorem OD.free {K H H' r r'} {p : Addr} (hp : p ∈ r.pv) (hH : ∀ a, a ≠ p → H' a = H a) (hr : r'.ad = r.ad) (ho : ∀ a, r.out a → r'.out a) : ∀ (o : SO) (h : HO), OD K H r o h → OD K H' r' o h
  | .lst ds, h, ⟨xs, h1, h2⟩ => ⟨xs, h1, h2.free hp hH hr ho⟩
  | .dic kvs, h, ⟨xs, h1, h2⟩ => ⟨xs, h1, paired_imp (fun _ _ q => ⟨q.1, q.2.free hp hH hr ho⟩) h2⟩
theorem SR.free {K H H' r r' st} {p : Addr} (s : SR K H r st) (hp : p ∈ r.pv) (hH : ∀ a, a ≠ p → H' a = H a) (hr : r'.ad = r.ad) (ho : ∀ a, r.out a → r'.out a) (hq : ∀ a ∈ r'.pv, a ∈ r.pv ∧ (a = p → ∃ o, Nx o ∧ H' p = some o)) : SR K H' r' st := by
  refine ⟨by rw [hr]; exact s.len, by rw [hr]; exact s.nd, fun l so q => ?_, fun a ha => ?_, fun q hq2 => tabS_at (p := p) hH (fun o ho => by
    obtain ⟨_, o2, n, h2⟩ := s.apart p hp
    rw [h2] at ho; cases ho; exact n) (s.tabs q hq2)⟩
  · obtain ⟨a, x, h1, h2, h3⟩ := s.obj l so q
    have hne : a ≠ p := by
      rintro rfl
      exact (s.apart a hp).1 (List.mem_of_getElem? h1)
    exact ⟨a, x, by rw [hr]; exact h1, (hH a hne).trans h2, h3.free hp hH hr ho⟩
  · obtain ⟨h1, h2⟩ := hq a ha
    obtain ⟨h3, o, n, h4⟩ := s.apart a h1
    refine ⟨by rw [hr]; exact h3, ?_⟩
    by_cases e : a = p
    · subst e; exact h2 rfl
    · exact ⟨o, n, (hH a e).trans h4⟩
theorem ER.free {K H H' r r' env σ} {p : Addr} (x : ER K H r env σ) (hp : p ∈ r.pv) (hH : ∀ a, a ≠ p → H' a = H a) (hr : r'.ad = r.ad) (ho : ∀ a, r.out a → r'.out a) : ER K H' r' env σ := ⟨x.len, fun i d h => by
  obtain ⟨v, h1, h2⟩ := x.get i d h
  exact ⟨v, h1, h2.free hp hH hr ho⟩⟩


def wipeE (env : Env) (vs : List Nat) : Env := vs.foldl (fun e k => e.set k none) env
theorem wipe_same {σ σ' : L2.St} {vs : List Nat} (h : FL.Only vs (wipe σ vs) σ') : wipe σ' vs = wipe σ vs := by
  apply List.ext_getElem?
  intro j
  have hw : ∀ (τ : L2.St) (ws : List Nat) (j : Nat), (wipe τ ws)[j]? = if j ∈ ws ∧ j < τ.length then some none else τ[j]? := by
    intro τ ws
    induction ws with
    | nil => intro j; simp [wipe]
    | cons w ws ih =>
      intro j
      show ((wipe τ ws).set w none)[j]? = _
      by_cases hj : w = j
      · subst hj
        by_cases hl : w < τ.length
        · rw [List.getElem?_set_self (by rw [wipe_length]; exact hl), if_pos ⟨List.mem_cons_self, hl⟩]
        · rw [List.getElem?_eq_none (by rw [List.length_set, wipe_length]; omega), if_neg (fun q => hl q.2), List.getElem?_eq_none (by omega)]
      · rw [List.getElem?_set_ne hj, ih j]
        have : (j ∈ w :: ws ∧ j < τ.length) ↔ (j ∈ ws ∧ j < τ.length) := by
          simp only [List.mem_cons]
          constructor
          · rintro ⟨h | h, h'⟩
            · exact absurd h.symm hj
            · exact ⟨h, h'⟩
          · rintro ⟨h, h'⟩; exact ⟨.inr h, h'⟩
        simp only [this]
  have hl : σ'.length = σ.length := h.1.trans (wipe_length σ vs)
  rw [hw σ' vs j, hw σ vs j, hl]
  by_cases hj : j ∈ vs ∧ j < σ.length
  · rw [if_pos hj, if_pos hj]
  · rw [if_neg hj, if_neg hj]
    by_cases hv : j ∈ vs
    · have : ¬ j < σ.length := fun q => hj ⟨hv, q⟩
      rw [List.getElem?_eq_none (by omega), List.getElem?_eq_none (by omega)]
    · rw [h.2 j hv, hw σ vs j, if_neg (fun q => hv q.1)]
theorem ER.wiped {K H r env σ} (x : ER K H r env σ) : ∀ vs : List Nat, ER K H r (wipeE env vs) (wipe σ vs) := by
  intro vs
  have h0 : ∀ (ws : List Nat) (e : Env) (τ : L2.St), ER K H r e τ → (∀ i d, e[i]? = some (some d) → i ∉ ws) → ER K H r e (wipe τ ws) := by
    intro ws e τ hx hn
    refine ⟨by rw [wipe_length]; exact hx.len, fun i d q => ?_⟩
    obtain ⟨v, h1, h2⟩ := hx.get i d q
    refine ⟨v, ?_, h2⟩
    have hi := hn i d q
    clear hn q
    induction ws with
    | nil => exact h1
    | cons w ws ih =>
      show ((wipe τ ws).set w none)[i]? = _
      rw [List.getElem?_set_ne (fun e => hi (by rw [e]; exact List.mem_cons_self))]
      exact ih fun q => hi (List.mem_cons_of_mem _ q)
  refine h0 vs _ _ (ER.kills vs x) fun i d q hi => ?_
  have hk : ∀ (ws : List Nat) (e : Env), (∀ d, e[i]? ≠ some (some d)) → ∀ d, (ws.foldl (fun e k => e.set k none) e)[i]? ≠ some (some d) := by
    intro ws
    induction ws with
    | nil => intro e h; exact h
    | cons w ws ih =>
      intro e h
      refine ih _ fun d q => ?_
      by_cases hw : w = i
      · subst hw
        by_cases hl : w < e.length
        · rw [List.getElem?_set_self hl] at q; cases q
        · rw [List.getElem?_eq_none (by simpa using hl)] at q; cases q
      · rw [List.getElem?_set_ne hw] at q
        exact h d q
  have hm : ∀ (ws : List Nat) (e : Env), i ∈ ws → ∀ d, (ws.foldl (fun e k => e.set k none) e)[i]? ≠ some (some d) := by
    intro ws
    induction ws with
    | nil => intro e h; cases h
    | cons w ws ih =>
      intro e h
      by_cases hw : w = i
      · subst hw
        refine hk ws _ fun d q => ?_
        by_cases hl : w < e.length
        · rw [List.getElem?_set_self hl] at q; cases q
        · rw [List.getElem?_eq_none (by simpa using hl)] at q; cases q
      · rcases List.mem_cons.mp h with h | h
        · exact absurd h.symm hw
        · exact ih _ h
  exact hm vs env hi d q
def compL (src : List (Nat × List D)) (g : GM) (tt : Env → Sto → Res Bool) (te : EM) (env : Env) : List D → Sto → List D → Res (List D)
  | [], st, acc => if stillB src st = true then .ok acc st else .bad
  | d :: ds, st, acc => if stillB src st = true then (match g d env st with
    | .ok env1 st1 => (match tt env1 st1 with
      | .ok k st2 => if k = true then (match te env1 st2 with
        | .ok v st3 => if acc.length < 1000000 then compL src g tt te env ds st3 (acc ++ [v]) else .bad
        | _ => .bad) else compL src g tt te env ds st2 acc
      | _ => .bad)
    | _ => .bad) else .bad
def nComp (vs : List Nat) (mi : IM) (g : GM) (tt : Env → Sto → Res Bool) (te : EM) : Env → Sto → Res (List D) := fun env st => (mi env st).bind fun p st1 => compL p.2 g tt te (wipeE env vs) p.1 st1 []
def noTest : Env → Sto → Res Bool := fun _ st => .ok true st
def E0W : WX := fun _ _ _ _ => False
abbrev FTs (X : Cx) (W : WX) (es : List Expr) (m : Env → Sto → Res Bool) : Prop := PTs X es (tT X.K X.mg W m)
theorem fts_nil {X : Cx} {W : WX} : FTs X W [] noTest := ⟨fun pins s σ H Q I ⟨r, env, st, hE, hS, h⟩ => pts_nil.run pins s σ H Q I (RES.ok h hS rfl)⟩
section
variable {X : Cx} {W : WX} {elt tg iter : Expr} {ifs : List Expr} {scope : Scope} {own : List (Str × Nat)} {pos : Pos} {mi : IM} {g : GM} {tt : Env → Sto → Res Bool} {te : EM} {sl : List Nat}
theorem ext_rem {K H1 r1 st1 H2 r2} (s1 : SR K H1 r1 st1) (e : Ext H1 r1 H2 r2) {p : Addr} (hp : H1 p = none) : Ext H1 r1 (rmH H2 p) (r2.rem p) := by
  obtain ⟨t, q, rfl, ht, hq⟩ := id e.pre
  refine ⟨⟨t, q.filter fun b => decide (b ≠ p), ?_, ht, fun a ha => hq a (List.mem_filter.mp ha).1⟩, fun a o h1 n h2 => by rw [rmH_ne (ne_of_none h2 hp)]; exact e.keep a o h1 n h2⟩
  have h1 : r1.pv.filter (fun b => decide (b ≠ p)) = r1.pv := List.filter_eq_self.mpr fun a ha => by
    obtain ⟨_, o, _, h⟩ := s1.apart a ha
    exact decide_eq_true (ne_of_none h hp)
  unfold Rho.rem Rho.app
  simp only [List.filter_append, h1]
theorem sim_comp {w : Bool} {vs : List Nat} (hsl : ∀ j ∈ sl, j ∈ vs) {σ : L2.St} {H : Hp} {Q : VK} (q : tN X.K X.mg W (nComp vs mi g tt te) σ H Q) :
    tLc (tI w X.K X.mg W mi) (tG w X.K X.mg E0W sl g) (tT X.K X.mg E0W tt) (tM X.K X.mg E0W te) vs σ H Q := by
  obtain ⟨r, env, st, hE, hS, h⟩ := q
  refine ⟨r, env, st, hE, hS, RES.seq h fun p st1 J H1 r1 e1 s1 it h1 => ?_⟩
  intro D hD
  refine ⟨fun i m H2 => m = p.1.length - i ∧ ∃ r2 st2 acc xs, D ∈ r2.pv ∧ H2 D = some (.lst xs) ∧ Ext H1 r1 H2 r2 ∧ SR X.K H2 r2 st2 ∧ VDs X.K H2 r2 acc xs ∧
      RES X.K X.mg (RVs X.K) (WE W σ) H1 r1 (compL p.2 g tt te (wipeE env vs) (p.1.drop i) st2 acc) (fun xs H1 => ∀ p, H1 p = none → Q (.ref p) (upd H1 p (.lst xs))),
    ⟨p.1.length, rfl, r1.add D, st1, [], [], List.mem_cons_self, upd_same, Ext.apart hD, s1.add hD, rfl, h1⟩, ?_⟩
  rintro i m H2 ⟨rfl, r2, st2, acc, xs, hp, hd, e2, s2, v2, h2⟩
  cases qd : p.1.drop i with
  | nil =>
    have hi : p.1.length ≤ i := by
      have := congrArg List.length qd
      rw [List.length_drop] at this
      simp at this; omega
    rw [qd] at h2
    unfold compL at h2
    by_cases hst : stillB p.2 st2 = true
    · rw [if_pos hst] at h2
      refine .inl ⟨(it.run H2 r2 st2 i e2 s2 (still_iff.mp hst)).2.1 hi, ?_⟩
      have hH : ∀ a, a ≠ D → rmH H2 D a = H2 a := fun a ha => rmH_ne ha
      have k := RES.ok' h2 (ext_rem s1 e2 hD) (s2.free (r' := r2.rem D) hp hH rfl (fun a ha => out_rem ha) fun a ha => ⟨(List.mem_filter.mp ha).1, fun e => by
        have := (List.mem_filter.mp ha).2
        rw [e] at this; simp at this⟩) (VDs.free (r' := r2.rem D) hp hH rfl (fun a ha => out_rem ha) acc xs v2) D rmH_same
      rw [upd_rmH hd] at k
      exact k
    · rw [if_neg hst] at h2; exact h2.elim
  | cons d ds =>
    have hi : i < p.1.length := by
      have := congrArg List.length qd
      rw [List.length_drop] at this
      simp at this; omega
    have hdi : p.1[i]? = some d := by
      have := congrArg (·[0]?) qd
      simpa using this
    have hds : p.1.drop (i + 1) = ds := by
      have := congrArg (List.drop 1) qd
      rw [List.drop_drop] at this
      simpa using this
    rw [qd] at h2
    unfold compL at h2
    by_cases hst : stillB p.2 st2 = true
    · rw [if_pos hst] at h2
      obtain ⟨k1, k2, k3⟩ := it.run H2 r2 st2 i e2 s2 (still_iff.mp hst)
      refine .inr ⟨k1 hi, _, fun H' hN => ⟨p.1.length - (i + 1), by omega, rfl, hN⟩, fun x H3 hy => ?_⟩
      obtain ⟨e3, s3, v3⟩ := k3 d hdi x H3 hy
      have eE : Ext H1 r1 H3 r2 := e2.trans s2 e3
      have hE3 : ER X.K H3 r2 (wipeE env vs) (wipe σ vs) := ER.wiped ((hE.ext e1).ext eE) vs
      refine ⟨r2, wipeE env vs, st2, d, hE3, s3, v3, ?_⟩
      cases qg : g d (wipeE env vs) st2 with
      | bad => rw [qg] at h2; exact h2.elim
      | ex x st' => rw [qg] at h2; exact h2.elim
      | ok env1 st3 =>
        simp only [qg] at h2
        intro σ4 H4 r4 e4 s4 hE4 o4
        refine ⟨wipe_same (o4.mono hsl), r4, env1, st3, hE4, s4, ?_⟩
        have eE4 : Ext H1 r1 H4 r4 := eE.trans s3 e4
        cases qt : tt env1 st3 with
        | bad => rw [qt] at h2; exact h2.elim
        | ex x st' => rw [qt] at h2; exact h2.elim
        | ok k st4 =>
          simp only [qt] at h2
          intro k' H5 r5 e5 s5 hk
          cases hk
          have pv5 : D ∈ r5.pv := by
            obtain ⟨t, q, rfl, _⟩ := e4.pre
            obtain ⟨t', q', rfl, _⟩ := e5.pre
            exact List.mem_append_right _ (List.mem_append_right _ hp)
          have keepD : ∀ {Ha Hb : Hp} {ra rb : Rho} {sa : Sto}, Ext Ha ra Hb rb → SR X.K Ha ra sa → D ∈ ra.pv → ∀ {o}, Ha D = some o → Hb D = some o := fun {Ha Hb ra rb sa} e s hp {o} h => e.keep D o (s.apart D hp).1 (by
            obtain ⟨_, o2, n, h2⟩ := s.apart D hp
            rw [h2] at h; cases h; exact n.1) h
          have pv4 : D ∈ r4.pv := by
            obtain ⟨t, q, rfl, _⟩ := e4.pre
            exact List.mem_append_right _ hp
          have hd5 : H5 D = some (.lst xs) := keepD e5 s4 pv4 (keepD e4 s3 hp (keepD e3 s2 hp hd))
          have v5 := VDs.ext e5 _ _ (VDs.ext e4 _ _ (VDs.ext e3 _ _ v2))
          have eE5 := eE4.trans s4 e5
          cases k with
          | false =>
            rw [if_neg Bool.false_ne_true] at h2 ⊢
            exact ⟨r5, st4, acc, xs, pv5, hd5, eE5, s5, v5, by rw [hds]; exact h2⟩
          | true =>
            rw [if_pos rfl] at h2 ⊢
            refine ⟨r5, env1, st4, hE4.ext e5, s5, ?_⟩
            cases qe : te env1 st4 with
            | bad => rw [qe] at h2; exact h2.elim
            | ex x st' => rw [qe] at h2; exact h2.elim
            | ok v st5 =>
              simp only [qe] at h2
              intro y H6 r6 e6 s6 v6
              by_cases hl : acc.length < 1000000
              · rw [if_pos hl] at h2
                have pv6 : D ∈ r6.pv := by
                  obtain ⟨t, q, rfl, _⟩ := e6.pre
                  exact List.mem_append_right _ pv5
                have hd6 := keepD e6 s5 pv5 hd5
                have vv6 := VDs.ext e6 _ _ v5
                have eE6 := eE5.trans s5 e6
                have hH : ∀ a, a ≠ D → upd H6 D (.lst (xs ++ [y])) a = H6 a := fun a ha => upd_ne ha
                refine ⟨xs, hd6, by rw [← v2.len]; exact Nat.lt_of_lt_of_le hl (big_ok (Nat.le_refl _)), r6, st5, acc ++ [v], xs ++ [y], pv6, upd_same, ⟨eE6.pre, fun a o h3 n h4 => by rw [upd_ne (ne_of_none h4 hD)]; exact eE6.keep a o h3 n h4⟩,
                  s6.free (r' := r6) pv6 hH rfl (fun _ h => h) (fun a ha => ⟨ha, fun _ => ⟨_, nx_lst, upd_same⟩⟩), VDs.free pv6 hH rfl (fun _ h => h) _ _ (vv6.app (VDs.one v6)), by rw [hds]; exact h2⟩
              · rw [if_neg hl] at h2; exact h2.elim
    · rw [if_neg hst] at h2; exact h2.elim
theorem fn_comp (hc : X.calm = true) (hN : X.N.Nodup) (hi : FI X W tg iter mi) (ok : BlkOk X.N X.env.scope scope own)
    (hg : ∀ (s : Shared) (H : Hp) (C : Addr) (cl : List (Str × Addr)) (fp : List Addr), FG (X.blk s H scope (compEnvC scope cl C X.env) fp) E0W tg sl g) (hsl : ∀ j ∈ sl, j ∈ own.map (·.2))
    (ht : ∀ (s : Shared) (H : Hp) (C : Addr) (cl : List (Str × Addr)) (fp : List Addr), FTs (X.blk s H scope (compEnvC scope cl C X.env) fp) E0W ifs tt)
    (he : ∀ (s : Shared) (H : Hp) (C : Addr) (cl : List (Str × Addr)) (fp : List Addr), FE (X.blk s H scope (compEnvC scope cl C X.env) fp) E0W elt te) (hs : ∀ x, foldedSetIterable iter X.env x = pure x := by intro _; rfl) :
    FN X W (.ListComp elt [⟨tg, iter, ifs, 0⟩] scope pos) (nComp (own.map (·.2)) mi g tt te) :=
  PE.imp (pe_lc hc hN hi ok hg ht he hs) fun σ H Q q => sim_comp hsl q
theorem fs_setComp {i : Nat} {y : Str} {py spos : Pos} (hc : X.calm = true) (hN : X.N.Nodup) (hy : X.N[i]? = some y) (hyl : X.env.scope.names.lookup y = some .local)
    (hsw : swapsWith (.ListComp elt [⟨tg, iter, ifs, 0⟩] scope pos) (some (.Name y py)) spos.line X.env = pure true) (hi : FI X W tg iter mi) (ok : BlkOk X.N X.env.scope scope own)
    (hg : ∀ (s : Shared) (H : Hp) (C : Addr) (cl : List (Str × Addr)) (fp : List Addr), FG (X.blk s H scope (compEnvC scope cl C X.env) fp) E0W tg sl g) (hsl : ∀ j ∈ sl, j ∈ own.map (·.2))
    (ht : ∀ (s : Shared) (H : Hp) (C : Addr) (cl : List (Str × Addr)) (fp : List Addr), FTs (X.blk s H scope (compEnvC scope cl C X.env) fp) E0W ifs tt)
    (he : ∀ (s : Shared) (H : Hp) (C : Addr) (cl : List (Str × Addr)) (fp : List Addr), FE (X.blk s H scope (compEnvC scope cl C X.env) fp) E0W elt te) (hs : ∀ x, foldedSetIterable iter X.env x = pure x := by intro _; rfl) :
    FS X W (.Assign [.Name y py] (.ListComp elt [⟨tg, iter, ifs, 0⟩] scope pos) spos) (sSet i (eFrz (nComp (own.map (·.2)) mi g tt te))) :=
  PS.imp (ps_setLc (g := tG (wkT tg) X.K X.mg E0W sl g) (tt := tT X.K X.mg E0W tt) (te := tM X.K X.mg E0W te) hc hN hy hyl hsw hi ok hg ht he hs) fun D σ H ⟨r, env, st, hE, hS, h⟩ => by
    refine sim_comp (W := W) (g := g) (tt := tt) (te := te) hsl ⟨r, env, st, hE, hS, RS.on (D := D) hE (k := fun ds st1 => .nx (env.set i (some (.lst ds))) st1) ?_ fun ds st1 xs H1 r1 e1 s1 v1 h1 p hp => ?_⟩
    · revert h
      show RS X.K X.mg W D H r (((nComp (own.map (·.2)) mi g tt te env st).bind fun ds st1 => .ok (.lst ds) st1).on env fun d st1 => .nx (env.set i (some d)) st1) → _
      cases nComp (own.map (·.2)) mi g tt te env st with
      | ok ds st1 => exact fun h => h
      | ex x st1 => exact fun h => h
      | bad => exact fun h => h
    · exact h1 _ _ r1 (Ext.fresh hp) (s1.fresh hp) (((hE.ext e1).ext (Ext.fresh hp)).set i ⟨p, xs, rfl, ⟨s1.notin hp, upd_same⟩, v1.ext (Ext.fresh hp)⟩)
end
end FL

namespace FL
open PySem PySem.Spec PyProof.Rows L2
variable [TabCtx]


def BiF (X : Cx) (f : Value) (g : List D → Sto → Res D) : Prop :=
  ∃ rr : List V → Hp → VK → Prop, CallR X f rr ∧ ∀ (E : XK) H r st ds xs Q, SR X.K H r st → VDs X.K H r ds xs → RES X.K X.mg (RV X.K) E H r (g ds st) Q → rr xs H Q
def BiN (X : Cx) (f : Value) (g : List D → Sto → Res (List D)) : Prop :=
  ∃ rr : List V → Hp → VK → Prop, CallR X f rr ∧ ∀ (E : XK) H r st ds xs Q, SR X.K H r st → VDs X.K H r ds xs → RES X.K X.mg (RVs X.K) E H r (g ds st) (fun ys H1 => ∀ p, H1 p = none → Q (.ref p) (upd H1 p (.lst ys))) → rr xs H Q
def eB (g : List D → Sto → Res D) (ms : Env → Sto → Res (List D)) : EM := fun env st => (ms env st).bind g
def nB (g : List D → Sto → Res (List D)) (ms : Env → Sto → Res (List D)) : Env → Sto → Res (List D) := fun env st => (ms env st).bind g
section
variable {X : Cx} {W : WX} {e a b : Expr} {es : List Expr} {m ma mb : EM} {ms : Env → Sto → Res (List D)} {x : Str} {p pos : Pos} {id T : String} {g : List D → Sto → Res D}
theorem sim_eB {rr : List V → Hp → VK → Prop} (hr : ∀ (E : XK) H r st ds xs Q, SR X.K H r st → VDs X.K H r ds xs → RES X.K X.mg (RV X.K) E H r (g ds st) Q → rr xs H Q)
    {σ : L2.St} {H : Hp} {Q : VK} (q : tM X.K X.mg W (eB g ms) σ H Q) : tCB rr (tA X.K X.mg W ms) σ H Q := by
  obtain ⟨r, env, st, hE, hS, h⟩ := q
  exact ⟨r, env, st, hE, hS, RES.seq h fun ds st1 xs H1 r1 e1 s1 v1 h1 => hr _ H1 r1 st1 ds xs Q s1 v1 h1⟩
theorem sim_nB {g : List D → Sto → Res (List D)} {rr : List V → Hp → VK → Prop} (hr : ∀ (E : XK) H r st ds xs Q, SR X.K H r st → VDs X.K H r ds xs → RES X.K X.mg (RVs X.K) E H r (g ds st) (fun ys H1 => ∀ p, H1 p = none → Q (.ref p) (upd H1 p (.lst ys))) → rr xs H Q)
    {σ : L2.St} {H : Hp} {Q : VK} (q : tN X.K X.mg W (nB g ms) σ H Q) : tCB rr (tA X.K X.mg W ms) σ H Q := by
  obtain ⟨r, env, st, hE, hS, h⟩ := q
  exact ⟨r, env, st, hE, hS, RES.seq h fun ds st1 xs H1 r1 e1 s1 v1 h1 => hr _ H1 r1 st1 ds xs Q s1 v1 h1⟩
theorem fe_callB (ho : BiF X (.builtin id) g) (hg : Gl X x) (hm : X.mg x = none) (hv : bootBuiltins x = some (.builtin id)) (ha : FA X W (e :: es) ms) (hn : x ≠ "__name__" := by decide) (hdb : (x == ("__debug__" : Str)) = false := by decide)
    (he : starEach (e :: es) X.env = (false, eval e X.env) :: starEach es X.env := by rfl) (hpl : (backTo pos (starEach es X.env)).any (·.1) = false := by rfl) : FE X W (.Call (.Name x p) (e :: es) [] pos) (eB g ms) := by
  obtain ⟨rr, h1, h2⟩ := ho
  exact PE.imp (pe_callB h1 hg hm hv ha hn hdb he hpl) fun σ H Q q => sim_eB h2 q
theorem fe_callT (ho : BiF X (.type T) g) (hg : Gl X x) (hm : X.mg x = none) (hv : bootBuiltins x = some (.type T)) (ha : FA X W (e :: es) ms) (hn : x ≠ "__name__" := by decide) (hdb : (x == ("__debug__" : Str)) = false := by decide)
    (he : starEach (e :: es) X.env = (false, eval e X.env) :: starEach es X.env := by rfl) (hpl : (backTo pos (starEach es X.env)).any (·.1) = false := by rfl) : FE X W (.Call (.Name x p) (e :: es) [] pos) (eB g ms) := by
  obtain ⟨rr, h1, h2⟩ := ho
  exact PE.imp (pe_callTy h1 hg hm hv ha hn hdb he hpl) fun σ H Q q => sim_eB h2 q
theorem fn_callB {g : List D → Sto → Res (List D)} (ho : BiN X (.builtin id) g) (hg : Gl X x) (hm : X.mg x = none) (hv : bootBuiltins x = some (.builtin id)) (ha : FA X W (e :: es) ms) (hn : x ≠ "__name__" := by decide) (hdb : (x == ("__debug__" : Str)) = false := by decide)
    (he : starEach (e :: es) X.env = (false, eval e X.env) :: starEach es X.env := by rfl) (hpl : (backTo pos (starEach es X.env)).any (·.1) = false := by rfl) : FN X W (.Call (.Name x p) (e :: es) [] pos) (nB g ms) := by
  obtain ⟨rr, h1, h2⟩ := ho
  exact PE.imp (pe_callB h1 hg hm hv ha hn hdb he hpl) fun σ H Q q => sim_nB h2 q
theorem CallR.or {f : Value} {r r' : List V → Hp → VK → Prop} (h : CallR X f r) (h' : CallR X f r') : CallR X f (fun xs H Q => r xs H Q ∨ r' xs H Q) := by
  intro pins s σ H xs us Q I rs q
  rcases q with q | q
  · exact h pins s σ H xs us Q I rs q
  · exact h' pins s σ H xs us Q I rs q


theorem vds1 {K H r} {d : D} {xs : List V} (h : VDs K H r [d] xs) : ∃ x, xs = [x] ∧ VD K H r d x := by
  obtain ⟨x, t, rfl, h1, h2⟩ := h
  cases h2
  exact ⟨x, rfl, h1⟩
theorem vds2 {K H r} {d e : D} {xs : List V} (h : VDs K H r [d, e] xs) : ∃ x y, xs = [x, y] ∧ VD K H r d x ∧ VD K H r e y := by
  obtain ⟨x, t, rfl, h1, y, u, rfl, h2, h3⟩ := h
  cases h3
  exact ⟨x, y, rfl, h1, h2⟩
def lenB : List D → Sto → Res D
  | [d], st => match seqD d st with
    | some ds => .ok (.int (ds.length : Nat)) st
    | none => match dicD d st with
      | some kvs => .ok (.int (kvs.length : Nat)) st
      | none => match d with
        | .str z => if z.length ≤ sizeLine then .ok (.int (z.length : Nat)) st else .bad
        | _ => .bad
  | _, _ => .bad
theorem bi_len : BiF X (.builtin "len") lenB := ⟨_, CallR.or call_len_seq (CallR.or call_len_str call_lenD), fun E H r st ds xs Q s v h => by
  match ds, v, h with
  | [], _, h => exact h.elim
  | _ :: _ :: _, _, h => exact h.elim
  | [d], v, h =>
    obtain ⟨x, rfl, w⟩ := vds1 v
    unfold lenB at h
    cases q : seqD d st with
    | some es =>
      simp only [q] at h
      obtain ⟨a, ys, rfl, h1, h2⟩ := seqD_v s q w
      exact .inl ⟨a, ys, rfl, h2, by rw [← h1.len]; exact RES.ok h s rfl⟩
    | none =>
      simp only [q] at h
      cases q2 : dicD d st with
      | some kvs =>
        simp only [q2] at h
        obtain ⟨a, kxs, rfl, h1, h2⟩ := dicD_v s q2 w
        exact .inr (.inr ⟨a, kxs, rfl, h2, by rw [← paired_len h1]; exact RES.ok h s rfl⟩)
      | none =>
        simp only [q2] at h
        cases d with
        | str z =>
          cases w
          by_cases hl : z.length ≤ sizeLine
          · simp only [if_pos hl] at h
            exact .inr (.inl ⟨z, rfl, hl, RES.ok h s rfl⟩)
          · simp only [if_neg hl] at h; exact h.elim
        | _ => exact h.elim⟩
def tupB : List D → Sto → Res D
  | [d], st => match d with
    | .tup ds => .ok (.tup ds) st
    | _ => match lstD d st with
      | some ds => .ok (.tup ds) st
      | none => .bad
  | _, _ => .bad
theorem bi_tuple : BiF X (.type "tuple") tupB := ⟨_, call_tupZ, fun E H r st ds xs Q s v h => by
  match ds, v, h with
  | [], _, h => exact h.elim
  | _ :: _ :: _, _, h => exact h.elim
  | [d], v, h =>
    obtain ⟨x, rfl, w⟩ := vds1 v
    by_cases ht : ∃ es, d = .tup es
    · obtain ⟨es, rfl⟩ := ht
      obtain ⟨a, ys, rfl, h1, h2⟩ := id w
      exact ⟨a, ys, rfl, .inr ⟨h1.sq, RES.ok h s w⟩⟩
    · have h' : RES X.K X.mg (RV X.K) E H r (match lstD d st with
        | some ds => .ok (.tup ds) st
        | none => .bad) Q := by
        revert h
        cases d <;> first | exact fun h => h | exact absurd ⟨_, rfl⟩ ht
      cases q : lstD d st with
      | none => simp only [q] at h'; exact h'.elim
      | some es =>
        simp only [q] at h'
        obtain ⟨a, ys, rfl, h1, h2⟩ := lstD_v s q w
        refine ⟨a, ys, rfl, .inl ⟨h2, fun p o ho hp => ?_⟩⟩
        exact RES.ok' h' (Ext.fresh hp) (s.fresh hp) ⟨p, ys, rfl, .inl ⟨s.notin hp, o, ho, upd_same⟩, h1.ext (Ext.fresh hp)⟩⟩
def absB : List D → Sto → Res D
  | [.int i], st => .ok (.int (if i < 0 then -i else i)) st
  | _, _ => .bad
theorem bi_abs : BiF X (.builtin "abs") absB := ⟨_, call_abs, fun E H r st ds xs Q s v h => by
  unfold absB at h
  split at h
  · obtain ⟨x, rfl, w⟩ := vds1 v
    cases w
    exact ⟨_, rfl, RES.ok h s rfl⟩
  · exact h.elim⟩
def intsD : List D → Option (List Int)
  | [] => some []
  | .int i :: r => match intsD r with
    | some ns => some (i :: ns)
    | none => none
  | _ :: _ => none
theorem intsD_eq : ∀ {ds : List D} {ns : List Int}, intsD ds = some ns → ds = ns.map .int
  | [], ns, h => by cases h; rfl
  | d :: ds, ns, h => by
    cases d with
    | int i =>
      unfold intsD at h
      cases q : intsD ds with
      | none => rw [q] at h; cases h
      | some ms => rw [q] at h; cases h; rw [intsD_eq q]; rfl
    | _ => cases h
theorem vds_ints {K H r} : ∀ {ns : List Int} {xs : List V}, VDs K H r (ns.map .int) xs → xs = ns.map V.int
  | [], _, h => h
  | n :: ns, _, h => by
    obtain ⟨x, t, rfl, h1, h2⟩ := h
    cases h1
    rw [vds_ints h2]; rfl
def minI : List Int → Int
  | [] => 0
  | [i] => i
  | i :: r => let m := minI r; if i ≤ m then i else m
theorem minI_eq {ns : List Int} {m : Int} (h0 : ns ≠ []) (h1 : m ∈ ns) (h2 : ∀ y ∈ ns, m ≤ y) : minI ns = m := by
  have mem : ∀ (l : List Int), l ≠ [] → minI l ∈ l ∧ ∀ y ∈ l, minI l ≤ y := by
    intro l
    induction l with
    | nil => exact fun h => absurd rfl h
    | cons a l ih =>
      intro _
      cases l with
      | nil => exact ⟨by simp [minI], by simp [minI]⟩
      | cons b l =>
        obtain ⟨k1, k2⟩ := ih (by simp)
        have key : minI (a :: b :: l) = if a ≤ minI (b :: l) then a else minI (b :: l) := rfl
        rw [key]
        split
        · rename_i hc
          refine ⟨List.mem_cons_self, fun y hy => ?_⟩
          rcases List.mem_cons.mp hy with rfl | hy
          · exact Int.le_refl _
          · exact Int.le_trans hc (k2 y hy)
        · rename_i hc
          refine ⟨List.mem_cons_of_mem _ k1, fun y hy => ?_⟩
          rcases List.mem_cons.mp hy with rfl | hy
          · omega
          · exact k2 y hy
  obtain ⟨k1, k2⟩ := mem ns h0
  exact Int.le_antisymm (k2 _ h1) (h2 _ k1)
def minB : List D → Sto → Res D
  | [.int i, .int j], st => .ok (.int (if j < i then j else i)) st
  | [d], st => match lstD d st with
    | some ds => match intsD ds with
      | some (i :: r) => .ok (.int (minI (i :: r))) st
      | _ => .bad
    | none => .bad
  | _, _ => .bad
theorem bi_min (hc : X.calm = true) : BiF X (.builtin "min") minB := ⟨_, CallR.or (call_min2 hc) (cr_min hc), fun E H r st ds xs Q s v h => by
  unfold minB at h
  split at h
  · obtain ⟨x, y, rfl, w, w'⟩ := vds2 v
    cases w; cases w'
    exact .inl ⟨_, _, rfl, RES.ok h s rfl⟩
  · rename_i d
    obtain ⟨x, rfl, w⟩ := vds1 v
    cases q : lstD d st with
    | none => simp only [q] at h; exact h.elim
    | some es =>
      simp only [q] at h
      split at h
      · rename_i i rr q2
        obtain ⟨a, ys, rfl, h1, h2⟩ := lstD_v s q w
        rw [intsD_eq q2] at h1
        rw [vds_ints h1] at h2
        refine .inr ⟨a, _, rfl, h2, by simp, fun m m1 m2 => ?_⟩
        rw [← minI_eq (by simp) m1 m2]
        exact RES.ok h s rfl
      · exact h.elim
  · exact h.elim⟩
def blsD : List D → Option (List Bool)
  | [] => some []
  | .bl i :: r => match blsD r with
    | some ns => some (i :: ns)
    | none => none
  | _ :: _ => none
theorem blsD_eq : ∀ {ds : List D} {ns : List Bool}, blsD ds = some ns → ds = ns.map .bl
  | [], ns, h => by cases h; rfl
  | d :: ds, ns, h => by
    cases d with
    | bl i =>
      unfold blsD at h
      cases q : blsD ds with
      | none => rw [q] at h; cases h
      | some ms => rw [q] at h; cases h; rw [blsD_eq q]; rfl
    | _ => cases h
theorem vds_bls {K H r} : ∀ {ns : List Bool} {xs : List V}, VDs K H r (ns.map .bl) xs → xs = ns.map V.bl
  | [], _, h => h
  | n :: ns, _, h => by
    obtain ⟨x, t, rfl, h1, h2⟩ := h
    cases h1
    rw [vds_bls h2]; rfl
def allB : List D → Sto → Res D
  | [d], st => match lstD d st with
    | some ds => match blsD ds with
      | some bs => .ok (.bl (bs.all _root_.id)) st
      | none => .bad
    | none => .bad
  | _, _ => .bad
def anyB : List D → Sto → Res D
  | [d], st => match lstD d st with
    | some ds => match blsD ds with
      | some bs => .ok (.bl (bs.any _root_.id)) st
      | none => .bad
    | none => .bad
  | _, _ => .bad
theorem bi_all (hc : X.calm = true) : BiF X (.builtin "all") allB := ⟨_, cr_all hc, fun E H r st ds xs Q s v h => by
  unfold allB at h
  split at h
  · rename_i d
    obtain ⟨x, rfl, w⟩ := vds1 v
    cases q : lstD d st with
    | none => simp only [q] at h; exact h.elim
    | some es =>
      simp only [q] at h
      cases q2 : blsD es with
      | none => simp only [q2] at h; exact h.elim
      | some bs =>
        simp only [q2] at h
        obtain ⟨a, ys, rfl, h1, h2⟩ := lstD_v s q w
        rw [blsD_eq q2] at h1
        rw [vds_bls h1] at h2
        exact ⟨a, bs, rfl, h2, RES.ok h s rfl⟩
  · exact h.elim⟩
theorem bi_any (hc : X.calm = true) : BiF X (.builtin "any") anyB := ⟨_, cr_any hc, fun E H r st ds xs Q s v h => by
  unfold anyB at h
  split at h
  · rename_i d
    obtain ⟨x, rfl, w⟩ := vds1 v
    cases q : lstD d st with
    | none => simp only [q] at h; exact h.elim
    | some es =>
      simp only [q] at h
      cases q2 : blsD es with
      | none => simp only [q2] at h; exact h.elim
      | some bs =>
        simp only [q2] at h
        obtain ⟨a, ys, rfl, h1, h2⟩ := lstD_v s q w
        rw [blsD_eq q2] at h1
        rw [vds_bls h1] at h2
        exact ⟨a, bs, rfl, h2, RES.ok h s rfl⟩
  · exact h.elim⟩
end
end FL

namespace FL
open PySem PySem.Spec PyProof.Rows L2
variable [TabCtx]


inductive Ty where
  | non | bl | int | str | tup | lst | dic
  deriving DecidableEq
def Ty.nm : Ty → String
  | .non => "NoneType"
  | .bl => "bool"
  | .int => "int"
  | .str => "str"
  | .tup => "tuple"
  | .lst => "list"
  | .dic => "dict"
def Ty.le : Ty → Ty → Bool
  | .non, .non => true
  | .bl, .bl => true
  | .bl, .int => true
  | .int, .int => true
  | .str, .str => true
  | .tup, .tup => true
  | .lst, .lst => true
  | .dic, .dic => true
  | _, _ => false
theorem ty_kit (a b : Ty) (hb : b ≠ .non) : kitB a.nm b.nm = some (a.le b) := by
  cases b <;> first | exact absurd rfl hb | skip
  all_goals cases a <;> decide +kernel
def tyD : D → Sto → Option Ty
  | .non, _ => some .non
  | .bl _, _ => some .bl
  | .int _, _ => some .int
  | .str _, _ => some .str
  | .tup _, _ => some .tup
  | .lst _, _ => some .lst
  | .scr _, _ => some .lst
  | .loc l, st => match st[l]? with
    | some (.lst _) => some .lst
    | some (.dic _) => some .dic
    | none => none
  | .exc _ _ _, _ => none
theorem tyD_v {K H r st} {d : D} {x : V} {t : Ty} (s : SR K H r st) (h : tyD d st = some t) (v : VD K H r d x) : TyX K H x (.type t.nm) := by
  cases d with
  | non => cases h; cases v; exact .base .non
  | bl b => cases h; cases v; exact .base (.bl _)
  | int b => cases h; cases v; exact .base (.int _)
  | str b => cases h; cases v; exact .base (.str _)
  | tup ds =>
    cases h
    obtain ⟨a, xs, rfl, h1, h2⟩ := v
    rcases h1 with ⟨_, o, _, h1⟩ | ⟨o, its, n, h1, h3, _⟩
    · exact .fTuple h1
    · exact .kTuple h1 h3
  | lst ds =>
    cases h
    obtain ⟨a, xs, rfl, h1, h2⟩ := v
    exact .base (.lst h1.2)
  | exc _ _ _ => cases h
  | scr ns =>
    cases h
    obtain ⟨a, rfl, h1⟩ := v
    rcases h1 with ⟨_, h1 | ⟨o, h1⟩⟩ | ⟨o, its, n, h1, h3, _⟩
    · exact .base (.lst h1)
    · exact .base (.frz h1)
    · exact .kList h1 h3
  | loc l =>
    obtain ⟨a, rfl, h1⟩ := v
    unfold tyD at h
    cases q : st[l]? with
    | none => simp only [q] at h; cases h
    | some o =>
      obtain ⟨b, ho, e1, e2, e3⟩ := s.obj l o q
      rw [h1] at e1; cases e1
      cases o with
      | lst ds =>
        simp only [q] at h; cases h
        obtain ⟨xs, rfl, e3⟩ := e3
        exact .base (.lst e2)
      | dic kvs =>
        simp only [q] at h; cases h
        obtain ⟨xs, rfl, e3⟩ := e3
        exact .base (.dK e2)
def eIsi (T : Ty) (m : EM) : EM := fun env st => (m env st).bind fun d st1 => match tyD d st1 with
  | some t => .ok (.bl (t.le T)) st1
  | none => .bad
section
variable {X : Cx} {W : WX} {e a b c o : Expr} {es : List Expr} {m ma mb mc mo : EM} {ms : Env → Sto → Res (List D)} {x tx : Str} {p p2 pos apos cpos : Pos} {id T : String} {g : List D → Sto → Res D}
theorem fe_isi {T : Ty} (hT : T ≠ .non) (hg : Gl X "isinstance") (hm : X.mg "isinstance" = none) (hgT : Gl X tx) (hmT : X.mg tx = none) (hv : bootBuiltins tx = some (.type T.nm)) (ha : FE X W a ma)
    (hn : tx ≠ "__name__" := by decide) (hd : (tx == ("__debug__" : Str)) = false := by decide)
    (he : starEach [a, .Name tx p2] X.env = (false, eval a X.env) :: starEach [.Name tx p2] X.env := by rfl) (he2 : starEach [.Name tx p2] X.env = (false, eval (.Name tx p2) X.env) :: starEach [] X.env := by rfl) (hpl : (backTo pos (starEach [.Name tx p2] X.env)).any (·.1) = false := by rfl) :
    FE X W (.Call (.Name "isinstance" p) [a, .Name tx p2] [] pos) (eIsi T ma) :=
  PE.imp (pe_callB call_isi hg hm boot_isinstance (pa_cons ha (pa_cons (pe_bltn hgT hmT hv (v := .ty T.nm) rfl hn hd) pa_nil he2) he) (by decide) (by decide) he hpl) fun σ H Q ⟨r, env, st, hE, hS, h⟩ =>
    ⟨r, env, st, hE, hS, RES.seq h fun d st1 y H1 r1 e1 s1 v1 h1 => by
      cases q : tyD d st1 with
      | none => simp only [q] at h1; exact h1.elim
      | some t =>
        simp only [q] at h1
        exact ⟨y, .ty T.nm, .type t.nm, .type T.nm, _, rfl, .ty _, tyD_v s1 q v1, kit_ty (ty_kit t T hT), RES.ok h1 s1 rfl⟩⟩


def MeF (X : Cx) (id : String) (T : String) (g : D → List D → Sto → Res D) (ok : D → Sto → Bool) : Prop :=
  (∀ {H r st d x}, SR X.K H r st → VD X.K H r d x → ok d st = true → tyV X.K T x H) ∧
  ∃ rr : V → List V → Hp → VK → Prop, MtR X id rr ∧ ∀ (E : XK) H r st d ds x xs Q, SR X.K H r st → VD X.K H r d x → VDs X.K H r ds xs → RES X.K X.mg (RV X.K) E H r (g d ds st) Q → rr x xs H Q
def eMt (ok : D → Sto → Bool) (g : D → List D → Sto → Res D) (mo : EM) (ms : Env → Sto → Res (List D)) : EM := fun env st => (mo env st).bind fun d st1 => if ok d st1 = true then (ms env st1).bind fun ds st2 => g d ds st2 else .bad
variable {name : Str} {ok : D → Sto → Bool} {gm : D → List D → Sto → Res D}
theorem fe_meth (ho : MeF X id T gm ok) (pa : PlainAttrs T) (slot : Slot T name id) (hty : typeOf (.builtin id) = pure (.type "method_descriptor")) (hr : FE X W o mo) (ha : FA X W (e :: es) ms)
    (hbase : attributeBase o name X.env (eval o X.env) = eval o X.env := by rfl)
    (hfew : ((backTo cpos (starEach (e :: es) X.env)).all (fun x => !x.1) && (backToKw cpos (keywordEach [] X.env)).all (fun x => x.1.isSome)
      && decide ((e :: es).length + ([] : List Keyword).length + (if ([] : List Keyword).isEmpty then 0 else 1) < 30)) = true := by rfl)
    (hline : (apos.endLine == cpos.line) = true := by rfl) (hs : starEach (e :: es) X.env = (false, eval e X.env) :: starEach es X.env := by rfl) (hplain : (backTo cpos (starEach es X.env)).any (·.1) = false := by rfl) :
    FE X W (.Call (.Attribute o name apos) (e :: es) [] cpos) (eMt ok gm mo ms) := by
  obtain ⟨h0, rr, h1, h2⟩ := ho
  exact PE.imp (pe_bm pa slot hty h1 hr ha hbase hfew hline hs hplain) fun σ H Q ⟨r, env, st, hE, hS, h⟩ => ⟨r, env, st, hE, hS, RES.seq h fun d st1 x H1 r1 e1 s1 v1 q1 => by
    by_cases hok : ok d st1 = true
    · rw [if_pos hok] at q1
      exact ⟨h0 s1 v1 hok, r1, env, st1, hE.ext e1, s1, RES.seq q1 fun ds st2 xs H2 r2 e2 s2 v2 q2 => h2 _ H2 r2 st2 d ds x xs Q s2 (v1.ext e2) v2 q2⟩
    · rw [if_neg hok] at q1; exact q1.elim⟩
def isLst (d : D) (st : Sto) : Bool := (lstD d st).isSome
theorem isLst_ty {K H r st} {d : D} {x : V} (s : SR K H r st) (v : VD K H r d x) (h : isLst d st = true) : tyV K "list" x H := by
  obtain ⟨ds, q⟩ := Option.isSome_iff_exists.mp h
  obtain ⟨a, xs, rfl, h1, h2⟩ := lstD_v s q v
  exact .inl ⟨rfl, xs, h2⟩
theorem isLoc_v {K H r st} {d : D} {x : V} (s : SR K H r st) (v : VD K H r d x) {l : Nat} {ds : List D} (e : d = .loc l) (q : st[l]? = some (.lst ds)) : ∃ a xs, x = .ref a ∧ r.ad[l]? = some a ∧ H a = some (.lst xs) ∧ VDs K H r ds xs := by
  subst e
  obtain ⟨a, rfl, h1⟩ := v
  obtain ⟨b, ho, e1, e2, xs, rfl, e3⟩ := s.obj l _ q
  rw [h1] at e1; cases e1
  exact ⟨a, xs, rfl, h1, e2, e3⟩
def apD : D → List D → Sto → Res D
  | .loc l, [d], st => match st[l]? with
    | some (.lst ds) => if ds.length < 1000000 then .ok .non (st.set l (.lst (ds ++ [d]))) else .bad
    | _ => .bad
  | _, _, _ => .bad
theorem me_append : MeF X "list.append" "list" apD isLst := ⟨fun s v h => isLst_ty s v h, rAppend, mt_append, fun E H r st d ds x xs Q s v vs h => by
  unfold apD at h
  split at h
  · rename_i l d
    obtain ⟨y, rfl, w⟩ := vds1 vs
    cases q : st[l]? with
    | none => simp only [q] at h; exact h.elim
    | some o =>
      cases o with
      | dic _ => simp only [q] at h; exact h.elim
      | lst es =>
        simp only [q] at h
        by_cases hl : es.length < 1000000
        · rw [if_pos hl] at h
          obtain ⟨a, ys, rfl, h1, h2, h3⟩ := isLoc_v s v rfl q
          refine ⟨a, ys, y, rfl, rfl, h2, by rw [← h3.len]; exact Nat.lt_of_lt_of_le hl (big_ok (Nat.le_refl _)), ?_⟩
          exact RES.ok' h (Ext.set h1) (s.set h1 ⟨_, rfl, h3.app (VDs.one w)⟩) rfl
        · rw [if_neg hl] at h; exact h.elim
  · exact h.elim⟩
theorem VDs.dropLast {K H r} {ds : List D} {xs : List V} (h : VDs K H r ds xs) : VDs K H r ds.dropLast xs.dropLast := by
  rw [List.dropLast_eq_take, List.dropLast_eq_take, h.len]
  exact h.take _
def extD : D → List D → Sto → Res D
  | .loc l, [d], st => match st[l]?, madeD d st with
    | some (.lst ds), some es => if ds.length + es.length < 1000000 then .ok .non (st.set l (.lst (ds ++ es))) else .bad
    | _, _ => .bad
  | _, _, _ => .bad
theorem me_extend : MeF X "list.extend" "list" extD isLst := ⟨fun s v h => isLst_ty s v h, rExtend, mt_extend, fun E H r st d ds x xs Q s v vs h => by
  unfold extD at h
  split at h
  · rename_i l d
    obtain ⟨y, rfl, w⟩ := vds1 vs
    split at h
    · rename_i es zs q q2
      by_cases hl : es.length + zs.length < 1000000
      · rw [if_pos hl] at h
        obtain ⟨a, ys, rfl, h1, h2, h3⟩ := isLoc_v s v rfl q
        obtain ⟨b, ws, rfl, h4, h5⟩ := madeD_v s q2 w
        refine ⟨a, b, ys, ws, rfl, rfl, h2, h5, by rw [← h3.len, ← h4.len]; exact big_ok (Nat.le_of_lt hl), ?_⟩
        exact RES.ok' h (Ext.set h1) (s.set h1 ⟨_, rfl, h3.app h4⟩) rfl
      · rw [if_neg hl] at h; exact h.elim
    · exact h.elim
  · exact h.elim⟩
def insD : D → List D → Sto → Res D
  | .loc l, [.int i, d], st => match st[l]? with
    | some (.lst ds) => if ds.length < 1000000 ∧ 0 ≤ i ∧ i < 2 ^ 62 then .ok .non (st.set l (.lst (ds.take i.toNat ++ [d] ++ ds.drop i.toNat))) else .bad
    | _ => .bad
  | _, _, _ => .bad
theorem me_insert : MeF X "list.insert" "list" insD isLst := ⟨fun s v h => isLst_ty s v h, _, mt_insert, fun E H r st d ds x xs Q s v vs h => by
  unfold insD at h
  split at h
  · rename_i l i d
    obtain ⟨y, z, rfl, w, w2⟩ := vds2 vs
    cases w
    cases q : st[l]? with
    | none => simp only [q] at h; exact h.elim
    | some o =>
      cases o with
      | dic _ => simp only [q] at h; exact h.elim
      | lst es =>
        simp only [q] at h
        by_cases hl : es.length < 1000000 ∧ 0 ≤ i ∧ i < 2 ^ 62
        · rw [if_pos hl] at h
          obtain ⟨l1, l2, l3⟩ := hl
          obtain ⟨a, ys, rfl, h1, h2, h3⟩ := isLoc_v s v rfl q
          refine ⟨a, ys, i, z, rfl, rfl, h2, by rw [← h3.len]; exact Nat.lt_of_lt_of_le l1 (big_ok (Nat.le_refl _)), l2, by omega, ?_⟩
          exact RES.ok' h (Ext.set h1) (s.set h1 ⟨_, rfl, ((h3.take _).app (VDs.one w2)).app (h3.drop _)⟩) rfl
        · rw [if_neg hl] at h; exact h.elim
  · exact h.elim⟩



def insI (i : Int) : List Int → List Int
  | [] => [i]
  | j :: r => if i ≤ j then i :: j :: r else j :: insI i r
def srtI : List Int → List Int
  | [] => []
  | i :: r => insI i (srtI r)
theorem insI_perm (i : Int) : ∀ l : List Int, (insI i l).Perm (i :: l)
  | [] => .refl _
  | j :: r => by
    unfold insI
    split
    · exact .refl _
    · exact ((insI_perm i r).cons j).trans (.swap i j r)
theorem srtI_perm : ∀ l : List Int, (srtI l).Perm l
  | [] => .refl _
  | i :: r => (insI_perm i _).trans ((srtI_perm r).cons i)
theorem insI_mono {i : Int} : ∀ {l : List Int}, l.Pairwise (· ≤ ·) → (insI i l).Pairwise (· ≤ ·)
  | [], _ => by simp [insI]
  | j :: r, h => by
    unfold insI
    split
    · rename_i hc
      refine List.pairwise_cons.mpr ⟨fun b hb => ?_, h⟩
      rcases List.mem_cons.mp hb with rfl | hb
      · exact hc
      · exact Int.le_trans hc ((List.pairwise_cons.mp h).1 b hb)
    · rename_i hc
      refine List.pairwise_cons.mpr ⟨fun b hb => ?_, insI_mono (List.pairwise_cons.mp h).2⟩
      rcases List.mem_cons.mp ((insI_perm i r).mem_iff.mp hb) with rfl | hb
      · omega
      · exact (List.pairwise_cons.mp h).1 b hb
theorem srtI_mono : ∀ l : List Int, (srtI l).Pairwise (· ≤ ·)
  | [] => .nil
  | i :: r => insI_mono (srtI_mono r)
theorem srtI_eq {l m : List Int} (h : m.Perm l) (hm : m.Pairwise (· ≤ ·)) : m = srtI l :=
  List.Perm.eq_of_pairwise (fun a b _ _ h1 h2 => Int.le_antisymm h1 h2) hm (srtI_mono l) (h.trans (srtI_perm l).symm)
def keysI : List (Key × D) → Option (List Int)
  | [] => some []
  | (.inl i, _) :: r => match keysI r with
    | some ns => some (i :: ns)
    | none => none
  | _ :: _ => none
theorem keysI_eq : ∀ {kvs : List (Key × D)} {ns : List Int}, keysI kvs = some ns → kvs.map (·.1) = ns.map Sum.inl
  | [], ns, h => by cases h; rfl
  | (.inl i, d) :: r, ns, h => by
    unfold keysI at h
    cases q : keysI r with
    | none => rw [q] at h; cases h
    | some ms => rw [q] at h; cases h; rw [List.map_cons, keysI_eq q]; rfl
  | (.inr _, _) :: _, _, h => by cases h
def sortB : List D → Sto → Res (List D)
  | [d], st => match dicD d st with
    | some kvs => match keysI kvs with
      | some ns => if ns.length < 64 then .ok ((srtI ns).map .int) st else .bad
      | none => .bad
    | none => match lstD d st with
      | some ds => match intsD ds with
        | some ns => .ok ((srtI ns).map .int) st
        | none => .bad
      | none => .bad
  | _, _ => .bad
theorem paired_keys {K H r} : ∀ {kvs : List (Key × D)} {kxs : List (Key × V)}, Paired (fun (p : Key × D) (q : Key × V) => p.1 = q.1 ∧ VD K H r p.2 q.2) kvs kxs → kvs.map (·.1) = kxs.map (·.1)
  | _, _, .nil => rfl
  | _, _, .cons h t => by rw [List.map_cons, List.map_cons, h.1, paired_keys t]
theorem bn_sorted (hc : X.calm = true) : BiN X (.builtin "sorted") sortB := ⟨_, CallR.or cr_sortedI (call_sortedDI hc), fun E H r st ds xs Q s v h => by
  unfold sortB at h
  split at h
  · rename_i d
    obtain ⟨x, rfl, w⟩ := vds1 v
    cases q : dicD d st with
    | some kvs =>
      simp only [q] at h
      cases q2 : keysI kvs with
      | none => simp only [q2] at h; exact h.elim
      | some ns =>
        simp only [q2] at h
        by_cases hl : ns.length < 64
        · rw [if_pos hl] at h
          obtain ⟨a, kxs, rfl, h1, h2⟩ := dicD_v s q w
          refine .inr ⟨a, kxs, ns, rfl, .inl h2, by rw [← paired_keys h1]; exact keysI_eq q2, hl, fun ys p hy hs hp => ?_⟩
          rw [srtI_eq hy hs]
          exact RES.ok h s (VDs.ints _) p hp
        · rw [if_neg hl] at h; exact h.elim
    | none =>
      simp only [q] at h
      cases q2 : lstD d st with
      | none => simp only [q2] at h; exact h.elim
      | some es =>
        simp only [q2] at h
        cases q3 : intsD es with
        | none => simp only [q3] at h; exact h.elim
        | some ns =>
          simp only [q3] at h
          obtain ⟨a, ys, rfl, h1, h2⟩ := lstD_v s q2 w
          rw [intsD_eq q3] at h1
          rw [vds_ints h1] at h2
          refine .inl ⟨a, ns, rfl, h2, fun ns' p hy hs hp => ?_⟩
          rw [srtI_eq hy hs]
          exact RES.ok h s (VDs.ints _) p hp
  · exact h.elim⟩
end
end FL

namespace FL
open PySem PySem.Spec PyProof.Rows L2
variable [TabCtx]


structure DefAt (K : PySem.W.Frag) (mg : Str → Option Value) (x : Str) (st : Stmt) (ps : List Str) : Prop where
  ex : ∃ f fd, L2.Fun K x x st f fd ∧ mg x = some (.ref f) ∧ Binds K fd ps []
theorem def_ok {P : Program} {w : World} {K : PySem.W.Frag} {mg : Str → Option Value} {base : Heap} {x : Str} {st : Stmt} {N ps : List Str} {k n nl : Nat} {m : SM4} {fz : Bool} (F : DefAt K mg x st ps) (S : FnScope N ps (defScope st)) (hn : ps.length = n) (hl : N.length = nl)
    (hb : ∀ (f : Addr) (cdv : Value) (A : Around) (outer : List PySem.Env) (s : Shared) (H : Hp) (E : XK), Room k (A.deeper (envOfC x (defScope st) s.heap.objs.size f cdv)) →
      FB (cxOf (L2.CX P w) P w K mg base N x (defScope st) f cdv A outer s H E) (fun cls d _ H' => E cls d H') (defBody st) m) : DefOk P w K mg base (L2.CX P w) (k + 1) x n (mFn fz nl m) := by
  subst hn hl
  obtain ⟨f, fd, h1, h2, h3⟩ := F.ex
  exact ⟨f, fd, ps, fn_ok h1 S fun cdv A outer s H E hr => hb f cdv A outer s H E hr, h2, h1.kp, h3⟩
theorem tkD {P : Program} {w : World} {K : PySem.W.Frag} {mg : Str → Option Value} {base : Heap} {x : Str} {sc : Scope} {N : List Str} {f : Addr} {cdv : Value} {A : Around} {outer : List PySem.Env} {s : Shared} {H : Hp} {E : XK} :
    Takes (cxOf (L2.CX P w) P w K mg base N x sc f cdv A outer s H E) (fun cls d _ H' => E cls d H') := takes_of rfl rfl rfl rfl
theorem hxD {P : Program} {w : World} {K : PySem.W.Frag} {mg : Str → Option Value} {base : Heap} {x : Str} {sc : Scope} {N : List Str} {f : Addr} {cdv : Value} {A : Around} {outer : List PySem.Env} {s : Shared} {H : Hp} {E : XK} :
    ∀ σ, PassesAt (L2.CX P w) (cxOf (L2.CX P w) P w K mg base N x sc f cdv A outer s H E) σ (WE (fun cls d _ H' => E cls d H') σ) := fun σ => passAt tkD σ
theorem hpD {P : Program} {w : World} {K : PySem.W.Frag} {mg : Str → Option Value} {base : Heap} {x : Str} {sc : Scope} {N : List Str} {f : Addr} {cdv : Value} {A : Around} {outer : List PySem.Env} {s : Shared} {H : Hp} {E : XK} :
    PassesOwn (model P w) (A.deeper (envOfC x sc s.heap.objs.size f cdv)) (envOfC x sc s.heap.objs.size f cdv) (cxOf (L2.CX P w) P w K mg base N x sc f cdv A outer s H E).xe :=
  passes_of (X := cxOf (L2.CX P w) P w K mg base N x sc f cdv A outer s H E) rfl
theorem blk_in {N N' : List Str} {sc sc' scope : Scope} {own : List (Str × Nat)} (hN : N' = N) (hs : sc' = sc) (h : blkC N sc scope own = true) : BlkOk N' sc' scope own := by
  subst hN hs
  exact blkOk_by h
theorem defAt_mk {K : PySem.W.Frag} {mg : Str → Option Value} {h : Heap} {x : Str} {st : Stmt} {ps : List Str} {f : Addr} {oc : Value} {od an : Option Addr} {osl : Array (Option Value)} {kV doc pm cdv ct : Value} (X : K.In h) (G : h.Ns mainGlobals mg)
    (a : PySem.W.nsIn K mainGlobals x = some (some (.ref f)))
    (l : K.lookup f = some ⟨oc, od, .func (PySem.W.fnOf x x (defArgs st) (defBody st) (defScope st) .none kV doc pm an cdv ct), osl⟩)
    (c : PySem.W.codeIn K cdv x = true) (k : PySem.W.keepIn K (.ref f) = true)
    (b : ∀ F : L2.Fun K x x st f (PySem.W.fnOf x x (defArgs st) (defBody st) (defScope st) .none kV doc pm an cdv ct), Binds K (PySem.W.fnOf x x (defArgs st) (defBody st) (defScope st) .none kV doc pm an cdv ct) ps []) : DefAt K mg x st ps :=
  ⟨f, _, fun_mk l c k, PySem.W.mg_of X G a, b (fun_mk l c k)⟩

theorem const_tup {K : PySem.W.Frag} {mg : Str → Option Value} {h : Heap} {x : Str} {r : Addr} {its : Array Value} {n : Nat} {sl : Array (Option Value)} {xs : List V} {ds : List D} (X : K.In h) (G : h.Ns mainGlobals mg)
    (a : PySem.W.nsIn K mainGlobals x = some (some (.ref r))) (l : K.lookup r = some ⟨.type "tuple", none, .seq its n, sl⟩) (hz : its.size ≤ 1000) (v : Vals xs its.toList) (hd : ∀ H r, VDs K H r ds xs) : ConstD K mg x (.tup ds) :=
  ⟨.ref r, .ref r, PySem.W.mg_of X G a, rfl, fun H ρ => ⟨r, xs, rfl, .inr ⟨_, its, n, l, rfl, rfl, rfl, Nat.le_of_lt (L2.small1000 hz), v⟩, hd H ρ⟩⟩
theorem cx_false {P : Program} {w : World} {H : Hp} {s : Shared} {e : Value} {s' : Shared} (h : L2.CX P w [] H s (fun _ _ _ => False) e s') : False := by
  obtain ⟨a, B, H', cls, d, _, _, _, _, _, _, _, hf⟩ := h
  exact hf
theorem law_sp {K : PySem.W.Frag} {mg : Str → Option Value} {m : Fn} (h : ∀ ns : List Int, ns.length ≤ 63 → ∃ st, m [.scr ns] [] = .ok (.bl true) st) :
    ∀ vs H Q E, (∃ (a : Addr) (ns : List Int), vs = [V.ref a] ∧ SqL K H a (ns.map V.int) ∧ ns.length ≤ 63 ∧ LamX.Tabs TabCtx.tabs H ∧ ∀ H', Q (.bl true) H') → spM K mg 1 m vs H Q E := by
  rintro vs H Q E ⟨a, ns, rfl, hS, hl, hT, q⟩
  obtain ⟨st, e⟩ := h ns hl
  refine ⟨rfl, ⟨[], []⟩, [], [.scr ns], ⟨rfl, List.nodup_nil, (fun l o q => by simp at q), (fun a ha => absurd ha (by simp)), hT⟩, ⟨.ref a, [], rfl, ⟨a, rfl, ?_⟩, rfl⟩, ?_⟩
  · rcases hS with h | h
    · exact .inl ⟨⟨by simp, by simp⟩, h⟩
    · exact .inr h
  · rw [e]
    intro b H' r' _ _ hb
    rw [show b = V.bl true from hb]
    exact q H'
end FL

namespace FL
open PySem PySem.Spec PyProof.Rows L2
variable [TabCtx]


abbrev TKey := List (Int ⊕ List Nat)
def itemsV (sh : Nat → Bool) : Nat → List V → Option TKey
  | _, [] => some []
  | i, .int n :: r => if sh i = true then none else (itemsV sh (i + 1) r).map (Sum.inl n :: ·)
  | i, .str x :: r => if sh i = true then (itemsV sh (i + 1) r).map (Sum.inr x.cps.toList :: ·) else none
  | _, _ :: _ => none
theorem itemsV_raw {sh : Nat → Bool} : ∀ {xs : List V} {us : List Value} (i : Nat) {k : TKey}, Vals xs us → itemsV sh i xs = some k → tupItems sh i us = some k
  | _, _, _, _, .nil, h => h
  | x :: xs, _ :: _, i, k, .cons r t, h => by
    cases x with
    | int n =>
      obtain ⟨tk, rfl⟩ := (show ∃ t, _ = Value.int n t from r)
      unfold itemsV at h
      show (if sh i = true then none else (tupItems sh (i + 1) _).map (Sum.inl n :: ·)) = some k
      by_cases hs : sh i = true
      · rw [if_pos hs] at h; cases h
      · rw [if_neg hs] at h ⊢
        obtain ⟨k', e, rfl⟩ := Option.map_eq_some_iff.mp h
        rw [itemsV_raw (i + 1) t e]; rfl
    | str z =>
      obtain ⟨tk, rfl⟩ := (show ∃ t, _ = Value.str z t from r)
      unfold itemsV at h
      show (if sh i = true then (tupItems sh (i + 1) _).map (Sum.inr z.cps.toList :: ·) else none) = some k
      by_cases hs : sh i = true
      · rw [if_pos hs] at h ⊢
        obtain ⟨k', e, rfl⟩ := Option.map_eq_some_iff.mp h
        rw [itemsV_raw (i + 1) t e]; rfl
      · rw [if_neg hs] at h; cases h
    | _ => cases h
def ltK (a b : TKey) : Bool := (listOrd itemOrd).blt a b
def KeyAt (K : PySem.W.Frag) (H : Hp) (sh : Nat → Bool) (x : V) (k : TKey) : Prop := ∃ t its, x = .ref t ∧ SqT K H t its ∧ its ≠ [] ∧ itemsV sh 0 its = some k
def rSortTG (K : PySem.W.Frag) : List V → Hp → VK → Prop := fun vs H Q => ∃ (a : Addr) (xs : List V) (sh : Nat → Bool), vs = [V.ref a] ∧ SqL K H a xs ∧ (∀ x ∈ xs, ∃ k, KeyAt K H sh x k) ∧
  ∀ (ys : List V) (p : Addr), ys.Perm xs → ys.Pairwise (fun x y => ∀ k k', KeyAt K H sh x k → KeyAt K H sh y k' → ltK k' k = false) → H p = none → Q (.ref p) (upd H p (.lst ys))
section
variable {X : Cx} {pins : List (Addr × Obj)} {σ : L2.St} {H : Hp} {s : Shared}
theorem keyAt_raw (I : Inv X pins σ H s) {sh : Nat → Bool} {t : Addr} {k : TKey} (h : KeyAt X.K H sh (.ref t) k) : G.tupKeyC s.heap sh (.ref t) = some k ∧ ∃ f, TupOf s.heap sh (.ref t) f := by
  obtain ⟨t', its, e, h1, h2, h3⟩ := h
  cases e
  obtain ⟨us, rv, ⟨o, ho, hc, n, hd⟩, _⟩ := I.tuple h1
  have e := itemsV_raw 0 rv h3
  refine ⟨?_, ?_⟩
  · unfold G.tupKeyC
    have e1 : G.isTupObj s.heap (.ref t) = true := by simp [G.isTupObj, ho, hc]
    rw [if_pos e1]
    simp only [tupKey, ho, hd]
    exact e
  · cases rv with
    | nil => exact absurd rfl h2
    | @cons x u xs us r rt =>
      refine ⟨u, t, o, _, n, rfl, ho, hc, hd, by simp, fun hs => ?_, fun hs => ?_⟩
      · cases x with
        | int i => obtain ⟨tk, rfl⟩ := (show ∃ t, _ = Value.int i t from r); exact ⟨_, _, rfl⟩
        | str i => unfold itemsV at h3; rw [if_neg (by rw [hs]; decide)] at h3; cases h3
        | _ => cases h3
      · cases x with
        | str i => obtain ⟨tk, rfl⟩ := (show ∃ t, _ = Value.str i t from r); exact ⟨_, _, rfl⟩
        | int i => unfold itemsV at h3; rw [if_pos hs] at h3; cases h3
        | _ => cases h3
theorem cr_sortTG : CallR X (.builtin "sorted") (rSortTG X.K) := by
  intro pins s σ H vs us Q I r h
  obtain ⟨a, xs, sh, rfl, hs, hx, q⟩ := h
  obtain ⟨its, rv, hl, hz⟩ := I.list hs
  rw [Vals.ref1 r]
  obtain ⟨e1, e2⟩ := bkV_refs rv fun x m => by
    obtain ⟨k, t, _, e, _⟩ := hx x m
    exact ⟨t, e⟩
  have raw : ∀ v ∈ its, ∃ t k, v = Value.ref t ∧ KeyAt X.K H sh (.ref t) k := fun v hv => by
    obtain ⟨t, rfl⟩ := e2 v hv
    have hm : V.ref t ∈ xs := by rw [e1]; exact List.mem_map.mpr ⟨_, hv, rfl⟩
    obtain ⟨k, hk⟩ := hx _ hm
    exact ⟨t, k, rfl, hk⟩
  have hts : ∀ l : List Value, (∀ v ∈ l, v ∈ its) → ∃ fs, TupsOf s.heap sh l fs := by
    intro l
    induction l with
    | nil => exact fun _ => ⟨[], .nil⟩
    | cons v l ih =>
      intro hl
      obtain ⟨fs, h1⟩ := ih fun u hu => hl u (List.mem_cons_of_mem _ hu)
      obtain ⟨t, k, rfl, hk⟩ := raw v (hl v List.mem_cons_self)
      obtain ⟨f, hf⟩ := (keyAt_raw I hk).2
      exact ⟨f :: fs, .cons hf h1⟩
  obtain ⟨fs, hfs⟩ := hts its fun _ h => h
  refine G.sorted_tups (shape := sh) (vs := its) (fs := fs) hl.isList hfs (fun v hv => ?_) (by rw [← rv.length]; exact hz) fun st' hp hso _ => ?_
  · obtain ⟨t, k, rfl, hk⟩ := raw v hv
    exact ⟨k, (keyAt_raw I hk).1⟩
  · -- the sorted list
    have hp' : (arrOf st').toList.Perm (its.zip its) := by
      have := hp
      rw [Array.perm_iff_toList_perm, pairsOf_toList] at this
      exact this
    have hdiag : ∀ p ∈ (arrOf st').toList, p.2 = p.1 ∧ p.1 ∈ its := fun p hpm => by
      have hm := hp'.mem_iff.mp hpm
      have : ∀ l : List Value, p ∈ l.zip l → p.2 = p.1 ∧ p.1 ∈ l := by
        intro l
        induction l with
        | nil => intro h; simp at h
        | cons v l ih =>
          intro h
          rw [List.zip_cons_cons] at h
          rcases List.mem_cons.mp h with rfl | h
          · exact ⟨rfl, List.mem_cons_self⟩
          · exact ⟨(ih h).1, List.mem_cons_of_mem _ (ih h).2⟩
      exact this its hm
    have hout : ((arrOf st').map (·.2)).toList.Perm its := by
      rw [Array.toList_map]
      have := hp'.map (·.2)
      rwa [List.map_snd_zip (Nat.le_refl _)] at this
    obtain ⟨ep, he'⟩ := PyProof.Rows.sortedAll_at s.heap its ((arrOf st').map (·.2))
    have h3 : ∀ u ∈ ((arrOf st').map (·.2)).toList, ∃ a, u = Value.ref a := fun u hu => e2 u (hout.mem_iff.mp hu)
    have hp2 : (((arrOf st').map (·.2)).toList.map bkV).Perm xs := by
      rw [e1]
      exact hout.map bkV
    have hlen : (((arrOf st').map (·.2)).toList.map bkV).length ≤ sizeLine := by
      rw [hp2.length_eq]
      exact hz
    refine ⟨.ref _, upd H (s.heap.objs.size + 1) (.lst (((arrOf st').map (·.2)).toList.map bkV)), I.laid (t' := s.toks) (fun _ _ => PyProof.Rows.sortedAll_old) (Nat.le_succ _) ⟨hlen, ((arrOf st').map (·.2)).toList, ep, bkV_vals h3, he'⟩, rfl, q _ _ hp2 ?_ (I.hok.fresh (Nat.le_succ _))⟩
    rw [List.pairwise_map, List.pairwise_iff_getElem]
    intro i j hi hj hij k k' hk hk'
    have hsz : (pairsOf its).size = ((arrOf st').map (·.2)).toList.length := by
      rw [hout.length_eq, pairsOf_size]
    have hle := hso i j (Nat.le_of_lt hij) (by rw [hsz]; exact hj)
    rw [Array.length_toList, Array.size_map] at hi hj
    have at_ : ∀ (m : Nat) (hm : m < (arrOf st').size) (hm2 : m < ((arrOf st').map (·.2)).toList.length) (z : TKey), KeyAt X.K H sh (bkV ((arrOf st').map (·.2)).toList[m]) z → KK (G.tupKindC s.heap sh) (arrOf st') m = z := by
      intro m hm hm2 z hz2
      have e3 : ((arrOf st').map (·.2)).toList[m] = (arrOf st')[m].2 := by simp
      have hd := hdiag (arrOf st')[m] (by simp)
      unfold KK
      rw [Array.getElem?_eq_getElem hm]
      show (G.tupKeyC s.heap sh (arrOf st')[m].1).getD [] = z
      rw [e3] at hz2
      obtain ⟨t, e4⟩ := e2 _ hd.2
      rw [hd.1, e4] at hz2
      rw [e4, (keyAt_raw I hz2).1]
      rfl
    have k1 := at_ i hi (by rw [Array.length_toList, Array.size_map]; exact hi) k hk
    have k2 := at_ j hj (by rw [Array.length_toList, Array.size_map]; exact hj) k' hk'
    rw [k1, k2] at hle
    exact hle
end

def itemsK (sh : Nat → Bool) : Nat → List D → Option TKey
  | _, [] => some []
  | i, .int n :: r => if sh i = true then none else match itemsK sh (i + 1) r with
    | some k => some (Sum.inl n :: k)
    | none => none
  | i, .str x :: r => if sh i = true then (match itemsK sh (i + 1) r with
    | some k => some (Sum.inr x.cps.toList :: k)
    | none => none) else none
  | _, _ :: _ => none
theorem itemsK_v {K H r} {sh : Nat → Bool} : ∀ {ds : List D} {xs : List V} (i : Nat) {k : TKey}, VDs K H r ds xs → itemsK sh i ds = some k → itemsV sh i xs = some k
  | [], _, _, _, h, e => by cases h; exact e
  | d :: ds, _, i, k, h, e => by
    obtain ⟨x, t, rfl, h1, h2⟩ := h
    cases d with
    | int n =>
      cases h1
      unfold itemsK at e
      unfold itemsV
      by_cases hs : sh i = true
      · rw [if_pos hs] at e; cases e
      · rw [if_neg hs] at e ⊢
        cases q : itemsK sh (i + 1) ds with
        | none => rw [q] at e; cases e
        | some k' => rw [q] at e; cases e; rw [itemsK_v (i + 1) h2 q]; rfl
    | str n =>
      cases h1
      unfold itemsK at e
      unfold itemsV
      by_cases hs : sh i = true
      · rw [if_pos hs] at e ⊢
        cases q : itemsK sh (i + 1) ds with
        | none => rw [q] at e; cases e
        | some k' => rw [q] at e; cases e; rw [itemsK_v (i + 1) h2 q]; rfl
      · rw [if_neg hs] at e; cases e
    | _ => cases e
theorem str_ext {x y : Str} (h : x.cps.toList = y.cps.toList) : x = y := by
  cases x; cases y
  congr
  exact Array.toList_inj.mp h
theorem itemsK_inj {sh : Nat → Bool} : ∀ {ds es : List D} (i : Nat) {k : TKey}, itemsK sh i ds = some k → itemsK sh i es = some k → ds = es
  | [], [], _, _, _, _ => rfl
  | [], e :: es, i, k, h1, h2 => by
    cases h1
    cases e with
    | int n => unfold itemsK at h2; split at h2; · cases h2
               split at h2 <;> cases h2
    | str n => unfold itemsK at h2; split at h2; · split at h2 <;> cases h2
               cases h2
    | _ => cases h2
  | d :: ds, [], i, k, h1, h2 => by
    cases h2
    cases d with
    | int n => unfold itemsK at h1; split at h1; · cases h1
               split at h1 <;> cases h1
    | str n => unfold itemsK at h1; split at h1; · split at h1 <;> cases h1
               cases h1
    | _ => cases h1
  | d :: ds, e :: es, i, k, h1, h2 => by
    have step : ∀ (d : D) (ds : List D) (k : TKey), itemsK sh i (d :: ds) = some k → ∃ k', itemsK sh (i + 1) ds = some k' ∧ ((∃ n, d = .int n ∧ k = Sum.inl n :: k') ∨ ∃ x : Str, d = .str x ∧ k = Sum.inr x.cps.toList :: k') := by
      intro d ds k h
      cases d with
      | int n =>
        unfold itemsK at h
        split at h
        · cases h
        · split at h
          · rename_i k' q; cases h; exact ⟨k', q, .inl ⟨n, rfl, rfl⟩⟩
          · cases h
      | str n =>
        unfold itemsK at h
        split at h
        · split at h
          · rename_i k' q; cases h; exact ⟨k', q, .inr ⟨n, rfl, rfl⟩⟩
          · cases h
        · cases h
      | _ => cases h
    obtain ⟨k1, a1, b1⟩ := step d ds k h1
    obtain ⟨k2, a2, b2⟩ := step e es k h2
    rcases b1 with ⟨n, rfl, rfl⟩ | ⟨x, rfl, rfl⟩
    · rcases b2 with ⟨m, rfl, q⟩ | ⟨m, rfl, q⟩
      · injection q with q1 q2
        cases q1; subst q2
        rw [itemsK_inj (i + 1) a1 a2]
      · injection q with q1 q2; cases q1
    · rcases b2 with ⟨m, rfl, q⟩ | ⟨m, rfl, q⟩
      · injection q with q1 q2; cases q1
      · injection q with q1 q2
        injection q1 with q1
        subst q2
        rw [itemsK_inj (i + 1) a1 a2, str_ext q1]
def insT (p : TKey × D) : List (TKey × D) → List (TKey × D)
  | [] => [p]
  | q :: r => if ltK q.1 p.1 = true then q :: insT p r else p :: q :: r
def srtT : List (TKey × D) → List (TKey × D)
  | [] => []
  | p :: r => insT p (srtT r)
theorem insT_perm (p : TKey × D) : ∀ l, (insT p l).Perm (p :: l)
  | [] => .refl _
  | q :: r => by
    unfold insT
    split
    · exact ((insT_perm p r).cons q).trans (.swap p q r)
    · exact .refl _
theorem srtT_perm : ∀ l, (srtT l).Perm l
  | [] => .refl _
  | p :: r => (insT_perm p _).trans ((srtT_perm r).cons p)
theorem ltK_trans {a b c : TKey} (h1 : ltK b a = false) (h2 : ltK c b = false) : ltK c a = false := by
  cases h : ltK c a with
  | false => rfl
  | true =>
    rcases (listOrd itemOrd).negTrans c b a h with h' | h'
    · rw [show ltK c b = true from h'] at h2; cases h2
    · rw [show ltK b a = true from h'] at h1; cases h1
theorem ltK_asymm {a b : TKey} (h : ltK a b = true) : ltK b a = false := by
  cases h2 : ltK b a with
  | false => rfl
  | true =>
    have := (listOrd itemOrd).trans a b a h h2
    rw [(listOrd itemOrd).irrefl] at this
    cases this
theorem insT_mono {p : TKey × D} : ∀ {l : List (TKey × D)}, l.Pairwise (fun a b => ltK b.1 a.1 = false) → (insT p l).Pairwise (fun a b => ltK b.1 a.1 = false)
  | [], _ => by simp [insT]
  | q :: r, h => by
    obtain ⟨h1, h2⟩ := List.pairwise_cons.mp h
    unfold insT
    split
    · rename_i hc
      refine List.pairwise_cons.mpr ⟨fun b hb => ?_, insT_mono h2⟩
      rcases List.mem_cons.mp ((insT_perm p r).mem_iff.mp hb) with rfl | hb
      · exact ltK_asymm hc
      · exact h1 b hb
    · rename_i hc
      have hc : ltK q.1 p.1 = false := by simpa using hc
      refine List.pairwise_cons.mpr ⟨fun b hb => ?_, h⟩
      rcases List.mem_cons.mp hb with rfl | hb
      · exact hc
      · exact ltK_trans hc (h1 b hb)
theorem srtT_mono : ∀ l : List (TKey × D), (srtT l).Pairwise (fun a b => ltK b.1 a.1 = false)
  | [] => .nil
  | _ :: r => insT_mono (srtT_mono r)
def tupK (sh : Nat → Bool) : List D → Option (List (TKey × D))
  | [] => some []
  | .tup (e :: es) :: r => match itemsK sh 0 (e :: es) with
    | some k => match tupK sh r with
      | some l => some ((k, .tup (e :: es)) :: l)
      | none => none
    | none => none
  | _ :: _ => none
def shapeOf : List D → Nat → Bool
  | .tup es :: _, i => match es[i]? with
    | some (.str _) => true
    | _ => false
  | _, _ => false
def GoodK (sh : Nat → Bool) (p : TKey × D) : Prop := ∃ es, p.2 = .tup es ∧ es ≠ [] ∧ itemsK sh 0 es = some p.1
theorem tupK_eq {sh : Nat → Bool} : ∀ {ds : List D} {l : List (TKey × D)}, tupK sh ds = some l → ds = l.map (·.2) ∧ ∀ p ∈ l, GoodK sh p
  | [], l, h => by cases h; exact ⟨rfl, by simp⟩
  | d :: ds, l, h => by
    cases d with
    | tup es =>
      cases es with
      | nil => cases h
      | cons e es =>
        unfold tupK at h
        cases q : itemsK sh 0 (e :: es) with
        | none => rw [q] at h; cases h
        | some k =>
          rw [q] at h
          cases q2 : tupK sh ds with
          | none => rw [q2] at h; cases h
          | some l' =>
            rw [q2] at h; cases h
            obtain ⟨h1, h2⟩ := tupK_eq q2
            refine ⟨by rw [List.map_cons, ← h1], fun p hp => ?_⟩
            rcases List.mem_cons.mp hp with rfl | hp
            · exact ⟨_, rfl, by simp, q⟩
            · exact h2 p hp
    | _ => cases h
theorem vds_perm {K H r} : ∀ {xs ys : List V}, xs.Perm ys → ∀ {l : List (TKey × D)}, VDs K H r (l.map (·.2)) xs → ∃ l' : List (TKey × D), l'.Perm l ∧ VDs K H r (l'.map (·.2)) ys := by
  intro xs ys h
  induction h with
  | nil => exact fun {l} hv => ⟨l, .refl _, hv⟩
  | cons x _ ih =>
    intro l hv
    cases l with
    | nil => cases hv
    | cons p l =>
      obtain ⟨y, t, e, h1, h2⟩ := hv
      cases e
      obtain ⟨l', hp, hv'⟩ := ih h2
      exact ⟨p :: l', hp.cons p, _, _, rfl, h1, hv'⟩
  | swap x y l0 =>
    intro l hv
    cases l with
    | nil => cases hv
    | cons p l =>
      obtain ⟨_, t, e, h1, h2⟩ := hv
      cases e
      cases l with
      | nil => cases h2
      | cons p' l =>
        obtain ⟨_, t, e, h3, h4⟩ := h2
        cases e
        exact ⟨p' :: p :: l, .swap p p' l, _, _, rfl, h3, _, _, rfl, h1, h4⟩
  | trans _ _ ih1 ih2 =>
    intro l hv
    obtain ⟨l1, p1, v1⟩ := ih1 hv
    obtain ⟨l2, p2, v2⟩ := ih2 v1
    exact ⟨l2, p2.trans p1, v2⟩
def sortT (ds : List D) : Option (List D) := match tupK (shapeOf ds) ds with
  | some l => some ((srtT l).map (·.2))
  | none => none
def sortB2 : List D → Sto → Res (List D)
  | [d], st => match dicD d st with
    | some _ => sortB [d] st
    | none => match lstD d st with
      | some ds => match intsD ds with
        | some _ => sortB [d] st
        | none => match sortT ds with
          | some es => .ok es st
          | none => .bad
      | none => .bad
  | _, _ => .bad
theorem bn_sorted2 {X : Cx} (hc : X.calm = true) : BiN X (.builtin "sorted") sortB2 := by
  obtain ⟨rr, c1, c2⟩ := bn_sorted (X := X) hc
  refine ⟨_, CallR.or c1 cr_sortTG, fun E H r st ds xs Q s v h => ?_⟩
  unfold sortB2 at h
  split at h
  · rename_i d
    split at h
    · exact .inl (c2 E H r st _ xs Q s v h)
    · split at h
      · rename_i es q2
        split at h
        · exact .inl (c2 E H r st _ xs Q s v h)
        · unfold sortT at h
          cases q3 : tupK (shapeOf es) es with
          | none => simp only [q3] at h; exact h.elim
          | some l =>
            simp only [q3] at h
            obtain ⟨x, rfl, w⟩ := vds1 v
            obtain ⟨a, ys, rfl, h1, h2⟩ := lstD_v s q2 w
            obtain ⟨k1, k2⟩ := tupK_eq q3
            rw [k1] at h1
            have key : ∀ (l : List (TKey × D)) (ys : List V), (∀ p ∈ l, GoodK (shapeOf es) p) → VDs X.K H r (l.map (·.2)) ys → ∀ (i : Nat) (p : TKey × D), l[i]? = some p → ∃ y, ys[i]? = some y ∧ KeyAt X.K H (shapeOf es) y p.1 := by
              intro l ys hg hv i p hp
              obtain ⟨y, e1, e2⟩ := hv.get (i := i) (d := p.2) (by rw [List.getElem?_map, hp]; rfl)
              obtain ⟨zs, e3, e4, e5⟩ := hg p (List.mem_of_getElem? hp)
              rw [e3] at e2
              obtain ⟨t, its, rfl, f1, f2⟩ := e2
              refine ⟨_, e1, t, its, rfl, f1.sq, fun z => ?_, itemsK_v 0 f2 e5⟩
              have := f2.len
              rw [z] at this
              cases zs with
              | nil => exact e4 rfl
              | cons _ _ => cases this
            refine .inr ⟨a, ys, shapeOf es, rfl, h2, fun x hx => ?_, fun zs p hp hs hn => ?_⟩
            · obtain ⟨i, hi, e⟩ := List.getElem_of_mem hx
              have hi2 : i < l.length := by
                have := h1.len
                rw [List.length_map] at this
                omega
              obtain ⟨y, e1, e2⟩ := key l ys k2 h1 i l[i] (List.getElem?_eq_getElem hi2)
              rw [List.getElem?_eq_getElem hi, e] at e1
              cases e1
              exact ⟨_, e2⟩
            · obtain ⟨l', p1, v1⟩ := vds_perm hp.symm h1
              have g' : ∀ p ∈ l', GoodK (shapeOf es) p := fun p hp => k2 p (p1.mem_iff.mp hp)
              have m' : l'.Pairwise (fun a b => ltK b.1 a.1 = false) := by
                rw [List.pairwise_iff_getElem] at hs ⊢
                intro i j hi hj hij
                obtain ⟨y1, e1, e2⟩ := key l' zs g' v1 i l'[i] (List.getElem?_eq_getElem hi)
                obtain ⟨y2, e3, e4⟩ := key l' zs g' v1 j l'[j] (List.getElem?_eq_getElem hj)
                obtain ⟨i1, i2⟩ := List.getElem?_eq_some_iff.mp e1
                obtain ⟨j1, j2⟩ := List.getElem?_eq_some_iff.mp e3
                exact hs i j i1 j1 hij _ _ (by rw [i2]; exact e2) (by rw [j2]; exact e4)
              have e : l' = srtT l := by
                refine List.Perm.eq_of_pairwise (fun a b ha hb h1 h2 => ?_) m' (srtT_mono l) (p1.trans (srtT_perm l).symm)
                have ek : a.1 = b.1 := ((listOrd itemOrd).total b.1 a.1 h1 h2).symm
                obtain ⟨d1, f1, _, f2⟩ := g' a ha
                obtain ⟨d2, f3, _, f4⟩ := k2 b ((srtT_perm l).mem_iff.mp hb)
                rw [ek] at f2
                exact Prod.ext ek (by rw [f1, f3, itemsK_inj 0 f2 f4])
              rw [← e] at h
              exact RES.ok h s v1 p hn
      · exact h.elim
  · exact h.elim
end FL

namespace FL
open PySem PySem.Spec PyProof.Rows L2
variable [TabCtx]


section
variable {X : Cx} {W : WX} {a b c d e : Expr} {ta tb tc td : TE} {ma mb mc md m : EM} {ms : Env → Sto → Res (List D)} {x : Str} {p pos p2 pos2 : Pos} {tg : Expr}

theorem PRg.imp {e : Expr} {t t' : L2.St → Hp → (Int → Int → Hp → Prop) → Prop} (h : PRg X e t) (i : ∀ σ H Q, t' σ H Q → t σ H Q) : PRg X e t' := fun pins s σ H Q I q => h pins s σ H Q I (i σ H Q q)

end
end FL

namespace FL
open PySem PySem.Spec PyProof.Rows L2
variable [TabCtx]


def aCons_k2  (env : Env) (d : D) (r : Res (List D)) : Res (List D) := r.bind fun ds st2 => .ok (d :: ds) st2
theorem aCons_o2  (env : Env) (d : D) (ds : List D) (st2 : Sto) : aCons_k2  env d (.ok ds st2) = .ok (d :: ds) st2 := rfl
def aCons_k1 (mr : Env → Sto → Res (List D)) (env : Env) (r : Res (D)) : Res (List D) := r.bind fun d st1 => aCons_k2  env d (mr env st1)
theorem aCons_o1 (mr : Env → Sto → Res (List D)) (env : Env) (d : D) (st1 : Sto) : aCons_k1 mr env (.ok d st1) = aCons_k2  env d (mr env st1) := rfl
theorem aCons_ap (ma : EM) (mr : Env → Sto → Res (List D)) (env : Env) (st : Sto) : aCons ma mr env st = aCons_k1 mr env (ma env st) := rfl
def eTup_k1  (env : Env) (r : Res (List D)) : Res D := r.bind fun ds st1 => if ds.length ≤ 1000 then .ok (.tup ds) st1 else .bad
theorem eTup_o1  (env : Env) (ds : List D) (st1 : Sto) : eTup_k1  env (.ok ds st1) = if ds.length ≤ 1000 then .ok (.tup ds) st1 else .bad := rfl
theorem eTup_ap (ms : Env → Sto → Res (List D)) (env : Env) (st : Sto) : eTup ms env st = eTup_k1  env (ms env st) := rfl
def nLst_k1  (env : Env) (r : Res (List D)) : Res (List D) := r.bind fun ds st1 => if ds.length ≤ 1000 then .ok ds st1 else .bad
theorem nLst_o1  (env : Env) (ds : List D) (st1 : Sto) : nLst_k1  env (.ok ds st1) = if ds.length ≤ 1000 then .ok ds st1 else .bad := rfl
theorem nLst_ap (ms : Env → Sto → Res (List D)) (env : Env) (st : Sto) : nLst ms env st = nLst_k1  env (ms env st) := rfl
def eFrz_k1  (env : Env) (r : Res (List D)) : Res D := r.bind fun ds st1 => .ok (.lst ds) st1
theorem eFrz_o1  (env : Env) (ds : List D) (st1 : Sto) : eFrz_k1  env (.ok ds st1) = .ok (.lst ds) st1 := rfl
theorem eFrz_ap (ms : Env → Sto → Res (List D)) (env : Env) (st : Sto) : eFrz ms env st = eFrz_k1  env (ms env st) := rfl
def eNew_k1  (env : Env) (r : Res (List D)) : Res D := r.bind fun ds st1 => .ok (.loc st1.length) (st1 ++ [.lst ds])
theorem eNew_o1  (env : Env) (ds : List D) (st1 : Sto) : eNew_k1  env (.ok ds st1) = .ok (.loc st1.length) (st1 ++ [.lst ds]) := rfl
theorem eNew_ap (ms : Env → Sto → Res (List D)) (env : Env) (st : Sto) : eNew ms env st = eNew_k1  env (ms env st) := rfl
def eOp_k2 (g : D → D → Sto → Res D) (env : Env) (d : D) (r : Res (D)) : Res D := r.bind fun e st2 => g d e st2
theorem eOp_o2 (g : D → D → Sto → Res D) (env : Env) (d : D) (e : D) (st2 : Sto) : eOp_k2 g env d (.ok e st2) = g d e st2 := rfl
def eOp_k1 (g : D → D → Sto → Res D) (mb : EM) (env : Env) (r : Res (D)) : Res D := r.bind fun d st1 => eOp_k2 g env d (mb env st1)
theorem eOp_o1 (g : D → D → Sto → Res D) (mb : EM) (env : Env) (d : D) (st1 : Sto) : eOp_k1 g mb env (.ok d st1) = eOp_k2 g env d (mb env st1) := rfl
theorem eOp_ap (g : D → D → Sto → Res D) (ma mb : EM) (env : Env) (st : Sto) : eOp g ma mb env st = eOp_k1 g mb env (ma env st) := rfl
def tNotM_k1  (env : Env) (r : Res (Bool)) : Res Bool := r.bind fun k st1 => .ok (!k) st1
theorem tNotM_o1  (env : Env) (k : Bool) (st1 : Sto) : tNotM_k1  env (.ok k st1) = .ok (!k) st1 := rfl
theorem tNotM_ap (ta : Env → Sto → Res Bool) (env : Env) (st : Sto) : tNotM ta env st = tNotM_k1  env (ta env st) := rfl
def sDrop_k1  (env : Env) (r : Res (D)) : SRes := r.on env fun d st1 => .nx env st1
theorem sDrop_o1  (env : Env) (d : D) (st1 : Sto) : sDrop_k1  env (.ok d st1) = .nx env st1 := rfl
theorem sDrop_ap (m : EM) (env : Env) (st : Sto) : sDrop m env st = sDrop_k1  env (m env st) := rfl
def sRet_k1  (env : Env) (r : Res (D)) : SRes := r.on env fun d st1 => .rt d st1
theorem sRet_ap (m : EM) (env : Env) (st : Sto) : sRet m env st = sRet_k1  env (m env st) := rfl
def sSet_k1 (i : Nat) (env : Env) (r : Res (D)) : SRes := r.on env fun d st1 => .nx (env.set i (some d)) st1
theorem sSet_o1 (i : Nat) (env : Env) (d : D) (st1 : Sto) : sSet_k1 i env (.ok d st1) = .nx (env.set i (some d)) st1 := rfl
theorem sSet_ap (i : Nat) (m : EM) (env : Env) (st : Sto) : sSet i m env st = sSet_k1 i env (m env st) := rfl
def sPut_k3  (env : Env) (d : D) (o : D) (r : Res (D)) : SRes := r.on env fun i st3 => match setD o i d st3 with
  | some st4 => .nx env st4
  | none => .bad
theorem sPut_o3  (env : Env) (d : D) (o : D) (i : D) (st3 : Sto) : sPut_k3  env d o (.ok i st3) = match setD o i d st3 with
  | some st4 => .nx env st4
  | none => .bad := rfl
def sPut_k2 (mi : EM) (env : Env) (d : D) (r : Res (D)) : SRes := r.on env fun o st2 => sPut_k3  env d o (mi env st2)
theorem sPut_o2 (mi : EM) (env : Env) (d : D) (o : D) (st2 : Sto) : sPut_k2 mi env d (.ok o st2) = sPut_k3  env d o (mi env st2) := rfl
def sPut_k1 (mo : EM) (mi : EM) (env : Env) (r : Res (D)) : SRes := r.on env fun d st1 => sPut_k2 mi env d (mo env st1)
theorem sPut_o1 (mo : EM) (mi : EM) (env : Env) (d : D) (st1 : Sto) : sPut_k1 mo mi env (.ok d st1) = sPut_k2 mi env d (mo env st1) := rfl
theorem sPut_ap (mv mo mi : EM) (env : Env) (st : Sto) : sPut mv mo mi env st = sPut_k1 mo mi env (mv env st) := rfl
def eSl_k3  (env : Env) (d : D) (lo : Option Int) (r : Res (Option Int)) : Res D := r.bind fun hi st3 => slD d lo hi st3
theorem eSl_o3  (env : Env) (d : D) (lo : Option Int) (hi : Option Int) (st3 : Sto) : eSl_k3  env d lo (.ok hi st3) = slD d lo hi st3 := rfl
def eSl_k2 (mh : OM) (env : Env) (d : D) (r : Res (Option Int)) : Res D := r.bind fun lo st2 => eSl_k3  env d lo (mh env st2)
theorem eSl_o2 (mh : OM) (env : Env) (d : D) (lo : Option Int) (st2 : Sto) : eSl_k2 mh env d (.ok lo st2) = eSl_k3  env d lo (mh env st2) := rfl
def eSl_k1 (ml : OM) (mh : OM) (env : Env) (r : Res (D)) : Res D := r.bind fun d st1 => eSl_k2 mh env d (ml env st1)
theorem eSl_o1 (ml : OM) (mh : OM) (env : Env) (d : D) (st1 : Sto) : eSl_k1 ml mh env (.ok d st1) = eSl_k2 mh env d (ml env st1) := rfl
theorem eSl_ap (ma : EM) (ml mh : OM) (env : Env) (st : Sto) : eSl ma ml mh env st = eSl_k1 ml mh env (ma env st) := rfl
def sFor_k1 (gc : Option (List Nat)) (g : GM) (body : SM4) (env : Env) (r : Res (List D × List (Nat × List D))) : SRes := r.on env fun p st1 => loopF gc p.2 g body p.1 (killE gc env) st1
theorem sFor_o1 (gc : Option (List Nat)) (g : GM) (body : SM4) (env : Env) (p : List D × List (Nat × List D)) (st1 : Sto) : sFor_k1 gc g body env (.ok p st1) = loopF gc p.2 g body p.1 (killE gc env) st1 := rfl
theorem sFor_ap (gc : Option (List Nat)) (mi : IM) (g : GM) (body : SM4) (env : Env) (st : Sto) : sFor gc mi g body env st = sFor_k1 gc g body env (mi env st) := rfl
def nComp_k1 (vs : List Nat) (g : GM) (tt : Env → Sto → Res Bool) (te : EM) (env : Env) (r : Res (List D × List (Nat × List D))) : Res (List D) := r.bind fun p st1 => compL p.2 g tt te (wipeE env vs) p.1 st1 []
theorem nComp_o1 (vs : List Nat) (g : GM) (tt : Env → Sto → Res Bool) (te : EM) (env : Env) (p : List D × List (Nat × List D)) (st1 : Sto) : nComp_k1 vs g tt te env (.ok p st1) = compL p.2 g tt te (wipeE env vs) p.1 st1 [] := rfl
theorem nComp_ap (vs : List Nat) (mi : IM) (g : GM) (tt : Env → Sto → Res Bool) (te : EM) (env : Env) (st : Sto) : nComp vs mi g tt te env st = nComp_k1 vs g tt te env (mi env st) := rfl
def eCall_k1 (n : Nat) (m : Fn) (env : Env) (r : Res (List D)) : Res D := r.bind fun ds st1 => if ds.length = n then m ds st1 else .bad
theorem eCall_o1 (n : Nat) (m : Fn) (env : Env) (ds : List D) (st1 : Sto) : eCall_k1 n m env (.ok ds st1) = if ds.length = n then m ds st1 else .bad := rfl
theorem eCall_ap (n : Nat) (m : Fn) (ms : Env → Sto → Res (List D)) (env : Env) (st : Sto) : eCall n m ms env st = eCall_k1 n m env (ms env st) := rfl
def iSeq_k1  (env : Env) (r : Res (D)) : Res (List D × List (Nat × List D)) := r.bind fun d st1 => match seqD d st1 with
  | some ds => .ok (ds, srcD d ds) st1
  | none => .bad
theorem iSeq_o1  (env : Env) (d : D) (st1 : Sto) : iSeq_k1  env (.ok d st1) = match seqD d st1 with
  | some ds => .ok (ds, srcD d ds) st1
  | none => .bad := rfl
theorem iSeq_ap (m : EM) (env : Env) (st : Sto) : iSeq m env st = iSeq_k1  env (m env st) := rfl
def eIsi_k1 (T : Ty) (env : Env) (r : Res (D)) : Res D := r.bind fun d st1 => match tyD d st1 with
  | some t => .ok (.bl (t.le T)) st1
  | none => .bad
theorem eIsi_o1 (T : Ty) (env : Env) (d : D) (st1 : Sto) : eIsi_k1 T env (.ok d st1) = match tyD d st1 with
  | some t => .ok (.bl (t.le T)) st1
  | none => .bad := rfl
theorem eIsi_ap (T : Ty) (m : EM) (env : Env) (st : Sto) : eIsi T m env st = eIsi_k1 T env (m env st) := rfl

theorem tTru_ap (m : EM) (env : Env) (st : Sto) : tTru m env st = (m env st).bind truD := rfl
theorem eUn_ap (g : D → Sto → Res D) (ma : EM) (env : Env) (st : Sto) : eUn g ma env st = (ma env st).bind g := rfl
theorem eB_ap (g : List D → Sto → Res D) (ms : Env → Sto → Res (List D)) (env : Env) (st : Sto) : eB g ms env st = (ms env st).bind g := rfl
theorem nB_ap (g : List D → Sto → Res (List D)) (ms : Env → Sto → Res (List D)) (env : Env) (st : Sto) : nB g ms env st = (ms env st).bind g := rfl
def sAsg_k2 (q : Res Env) : SRes := match q with
  | .ok env2 st2 => .nx env2 st2
  | _ => .bad
def sAsg_k1 (g : GM) (env : Env) (r : Res D) : SRes := r.on env fun d st1 => sAsg_k2 (g d env st1)
theorem sAsg_ap (m : EM) (g : GM) (env : Env) (st : Sto) : sAsg m g env st = sAsg_k1 g env (m env st) := rfl
theorem sAsg_o1 (g : GM) (env : Env) (d : D) (st : Sto) : sAsg_k1 g env (.ok d st) = sAsg_k2 (g d env st) := rfl
theorem sAsg_o2 (env : Env) (st : Sto) : sAsg_k2 (.ok env st) = .nx env st := rfl
theorem sWhile_ap (n : Nat) (gc : Option (List Nat)) (c : Env → Sto → Res Bool) (body : SM4) (env : Env) (st : Sto) : sWhile n gc c body env st = whileF gc c body n (killE gc env) st := rfl
def asB_k (r : Res D) : Res Bool := r.bind fun d st1 => match d with
  | .bl k => .ok k st1
  | _ => .bad
theorem asB_ap (m : EM) (env : Env) (st : Sto) : asB m env st = asB_k (m env st) := rfl
def tAndM_k (tb : Env → Sto → Res Bool) (env : Env) (r : Res Bool) : Res Bool := r.bind fun k st1 => if k = true then tb env st1 else .ok false st1
theorem tAndM_ap (ta tb : Env → Sto → Res Bool) (env : Env) (st : Sto) : tAndM ta tb env st = tAndM_k tb env (ta env st) := rfl
theorem tAndM_t (tb : Env → Sto → Res Bool) (env : Env) (st : Sto) : tAndM_k tb env (.ok true st) = tb env st := rfl
theorem tAndM_f (tb : Env → Sto → Res Bool) (env : Env) (st : Sto) : tAndM_k tb env (.ok false st) = .ok false st := rfl
def tOrM_k (tb : Env → Sto → Res Bool) (env : Env) (r : Res Bool) : Res Bool := r.bind fun k st1 => if k = true then .ok true st1 else tb env st1
theorem tOrM_ap (ta tb : Env → Sto → Res Bool) (env : Env) (st : Sto) : tOrM ta tb env st = tOrM_k tb env (ta env st) := rfl
theorem tOrM_t (tb : Env → Sto → Res Bool) (env : Env) (st : Sto) : tOrM_k tb env (.ok true st) = .ok true st := rfl
theorem tOrM_f (tb : Env → Sto → Res Bool) (env : Env) (st : Sto) : tOrM_k tb env (.ok false st) = tb env st := rfl
def sIf_k (u v : SM4) (env : Env) (r : Res Bool) : SRes := r.on env fun k st1 => if k = true then u env st1 else v env st1
theorem sIf_ap (t : Env → Sto → Res Bool) (u v : SM4) (env : Env) (st : Sto) : sIf t u v env st = sIf_k u v env (t env st) := rfl
def eAnd_k2 (mb : EM) (env : Env) (d : D) (r : Res Bool) : Res D := r.bind fun k st2 => if k = true then mb env st2 else .ok d st2
def eAnd_k1 (mb : EM) (env : Env) (r : Res D) : Res D := r.bind fun d st1 => eAnd_k2 mb env d (truD d st1)
theorem eAnd_ap (ma mb : EM) (env : Env) (st : Sto) : eAnd ma mb env st = eAnd_k1 mb env (ma env st) := rfl
theorem eAnd_o (mb : EM) (env : Env) (d : D) (st : Sto) : eAnd_k1 mb env (.ok d st) = eAnd_k2 mb env d (truD d st) := rfl
theorem eAnd_t (mb : EM) (env : Env) (d : D) (st : Sto) : eAnd_k2 mb env d (.ok true st) = mb env st := rfl
theorem eAnd_f (mb : EM) (env : Env) (d : D) (st : Sto) : eAnd_k2 mb env d (.ok false st) = .ok d st := rfl
def eOr_k2 (mb : EM) (env : Env) (d : D) (r : Res Bool) : Res D := r.bind fun k st2 => if k = true then .ok d st2 else mb env st2
def eOr_k1 (mb : EM) (env : Env) (r : Res D) : Res D := r.bind fun d st1 => eOr_k2 mb env d (truD d st1)
theorem eOr_ap (ma mb : EM) (env : Env) (st : Sto) : eOr ma mb env st = eOr_k1 mb env (ma env st) := rfl
theorem eOr_o (mb : EM) (env : Env) (d : D) (st : Sto) : eOr_k1 mb env (.ok d st) = eOr_k2 mb env d (truD d st) := rfl
theorem eOr_t (mb : EM) (env : Env) (d : D) (st : Sto) : eOr_k2 mb env d (.ok true st) = .ok d st := rfl
theorem eOr_f (mb : EM) (env : Env) (d : D) (st : Sto) : eOr_k2 mb env d (.ok false st) = mb env st := rfl
def eNot_k2 (r : Res Bool) : Res D := r.bind fun k st2 => .ok (.bl (!k)) st2
def eNot_k1 (r : Res D) : Res D := r.bind fun d st1 => eNot_k2 (truD d st1)
theorem eNot_ap (ma : EM) (env : Env) (st : Sto) : eNot ma env st = eNot_k1 (ma env st) := rfl
theorem eNot_o1 (d : D) (st : Sto) : eNot_k1 (.ok d st) = eNot_k2 (truD d st) := rfl
theorem eNot_o2 (k : Bool) (st : Sto) : eNot_k2 (.ok k st) = .ok (.bl (!k)) st := rfl
def oSome_k (r : Res D) : Res (Option Int) := r.bind fun d st1 => match d with
  | .int i => .ok (some i) st1
  | _ => .bad
theorem oSome_ap (m : EM) (env : Env) (st : Sto) : oSome m env st = oSome_k (m env st) := rfl
theorem oSome_o (i : Int) (st : Sto) : oSome_k (.ok (.int i) st) = .ok (some i) st := rfl
theorem iRange2_ap (ms : Env → Sto → Res (List D)) (env : Env) (st : Sto) : iRange2 ms env st = (ms env st).bind fun ds st1 => match ds with
  | [.int i, .int j] => if smallI i ∧ smallI j then .ok ((List.range (j - i).toNat).map fun k => .int (i + (k : Nat)), []) st1 else .bad
  | _ => .bad := rfl
def iEnum_k (r : Res (List D)) : Res (List D × List (Nat × List D)) := r.bind fun ds st1 => match ds with
  | [d] => match seqD d st1 with
    | some es => .ok (numL es, srcD d es) st1
    | none => .bad
  | _ => .bad
theorem iEnum_ap (ms : Env → Sto → Res (List D)) (env : Env) (st : Sto) : iEnum ms env st = iEnum_k (ms env st) := rfl
theorem iEnum_o (d : D) (st : Sto) {es : List D} (h : seqD d st = some es) : iEnum_k (.ok [d] st) = .ok (numL es, srcD d es) st := by
  show (match seqD d st with
    | some es => Res.ok (numL es, srcD d es) st
    | none => .bad) = _
  rw [h]
def iZip_k (r : Res (List D)) : Res (List D × List (Nat × List D)) := r.bind fun ds st1 => match ds with
  | [d, e] => if isTup d = isTup e then (match seqD d st1, seqD e st1 with
    | some xs, some ys => .ok (pairL xs ys, srcD d xs ++ srcD e ys) st1
    | _, _ => .bad) else .bad
  | _ => .bad
theorem iZip_ap (ms : Env → Sto → Res (List D)) (env : Env) (st : Sto) : iZip ms env st = iZip_k (ms env st) := rfl
theorem iZip_o (d e : D) (st : Sto) {xs ys : List D} (h : isTup d = isTup e) (h1 : seqD d st = some xs) (h2 : seqD e st = some ys) : iZip_k (.ok [d, e] st) = .ok (pairL xs ys, srcD d xs ++ srcD e ys) st := by
  show (if isTup d = isTup e then (match seqD d st, seqD e st with
    | some xs, some ys => Res.ok (pairL xs ys, srcD d xs ++ srcD e ys) st
    | _, _ => .bad) else .bad) = _
  rw [if_pos h, h1, h2]
def eMt_k2 (g : D → List D → Sto → Res D) (d : D) (r : Res (List D)) : Res D := r.bind fun ds st2 => g d ds st2
def eMt_k1 (ok : D → Sto → Bool) (g : D → List D → Sto → Res D) (ms : Env → Sto → Res (List D)) (env : Env) (r : Res D) : Res D := r.bind fun d st1 => if ok d st1 = true then eMt_k2 g d (ms env st1) else .bad
theorem eMt_ap (ok : D → Sto → Bool) (g : D → List D → Sto → Res D) (mo : EM) (ms : Env → Sto → Res (List D)) (env : Env) (st : Sto) : eMt ok g mo ms env st = eMt_k1 ok g ms env (mo env st) := rfl
theorem eMt_o1 (ok : D → Sto → Bool) (g : D → List D → Sto → Res D) (ms : Env → Sto → Res (List D)) (env : Env) (d : D) (st : Sto) (h : ok d st = true) : eMt_k1 ok g ms env (.ok d st) = eMt_k2 g d (ms env st) := if_pos h
theorem eMt_o2 (g : D → List D → Sto → Res D) (d : D) (ds : List D) (st : Sto) : eMt_k2 g d (.ok ds st) = g d ds st := rfl

theorem mulD_j {i j : Int} {st : Sto} (h : MulS i j) : mulD (.int i) (.int j) st = .ok (.int (i * j)) st := if_pos h
theorem mulD_i {i j : Int} {st : Sto} (h : i.natAbs.log2 + j.natAbs.log2 < 1000000) : mulD (.int i) (.int j) st = .ok (.int (i * j)) st := if_pos (.inl h)
theorem modD_i {i j : Int} {st : Sto} (h : 0 < j) : modD (.int i) (.int j) st = .ok (.int (i % j)) st := by
  show (if j = 0 then Res.bad else Res.ok (D.int (i.fmod j)) st) = _
  rw [if_neg (by omega), Int.fmod_eq_emod_of_nonneg _ (by omega)]
theorem fdivD_i {i j : Int} {st : Sto} (h : 0 < j) (h2 : j.natAbs.log2 < 9000) : fdivD (.int i) (.int j) st = .ok (.int (i / j)) st := by
  show (if j = 0 then Res.bad else if j.natAbs.log2 < 9000 then Res.ok (D.int (i.fdiv j)) st else .bad) = _
  rw [if_neg (by omega), if_pos h2, Int.fdiv_eq_ediv_of_nonneg _ (by omega)]
theorem atI_nat {α : Type} {xs : List α} {i : Int} (h0 : 0 ≤ i) : atI xs i = xs[i.toNat]? := by
  unfold atI ixN
  rw [if_pos h0]
  by_cases h : i < xs.length
  · rw [if_pos h]; rfl
  · rw [if_neg h]
    rw [List.getElem?_eq_none (by omega)]; rfl
theorem powD_i {i j : Int} {st : Sto} (h : 0 ≤ j ∧ j ≤ 1000000 ∧ i.natAbs < 2 ^ 64) : powD (.int i) (.int j) st = .ok (.int (i ^ j.toNat)) st := if_pos h
theorem log_small {i : Int} (h1 : -(2 ^ 64) < i) (h2 : i < 2 ^ 64) : i.natAbs.log2 < 64 := by
  by_cases h : i.natAbs = 0
  · rw [h]; decide
  · rw [Nat.log2_lt h]; omega

theorem loopF_nil {gc src g body env st} (h : stillB src st = true) : loopF gc src g body [] env st = .nx env st := if_pos h
theorem loopF_cons {ks : List Nat} {src g body d ds env st env1 st1 env2 st2} (h : stillB src st = true) (h1 : g d env st = .ok env1 st1) (h2 : body env1 st1 = .nx env2 st2) :
    loopF (some ks) src g body (d :: ds) env st = loopF (some ks) src g body ds (ks.foldl (fun e k => e.set k none) env2) (shrink st st2 (okE st.length (ks.foldl (fun e k => e.set k none) env2))) := by
  show (if stillB src st = true then (match g d env st with
    | .ok env1 st1 => (body env1 st1).bind _
    | _ => .bad) else .bad) = _
  rw [if_pos h, h1]
  simp only [h2, SRes.bind_nx]
theorem compL_nil {src g tt te env st acc} (h : stillB src st = true) : compL src g tt te env [] st acc = .ok acc st := if_pos h
end FL

namespace FL
open PySem PySem.Spec PyProof.Rows L2
variable [TabCtx]


abbrev kill (ks : List Nat) (env : Env) : Env := ks.foldl (fun e k => e.set k none) env
theorem shrink_len {st st2 : Sto} {ok : Bool} (h : st2.length = st.length) : shrink st st2 ok = st2 := by
  unfold shrink
  split
  · rw [← h, List.take_length]
  · rfl
mutual
def D.cl : D → Bool
  | .loc _ => false
  | .tup ds => D.cls ds
  | .lst ds => D.cls ds
  | .exc _ _ ds => D.cls ds
  | _ => true
def D.cls : List D → Bool
  | [] => true
  | d :: ds => D.cl d && D.cls ds
end
mutual
theorem D.cl_blw (n : Nat) : ∀ d : D, d.cl = true → d.blw n = true
  | .non, _ => rfl
  | .bl _, _ => rfl
  | .int _, _ => rfl
  | .str _, _ => rfl
  | .scr _, _ => rfl
  | .loc _, h => by simp [D.cl] at h
  | .tup ds, h => by
    unfold D.blw
    exact D.cls_blw n ds (by simpa [D.cl] using h)
  | .lst ds, h => by
    unfold D.blw
    exact D.cls_blw n ds (by simpa [D.cl] using h)
  | .exc _ _ ds, h => by
    unfold D.blw
    exact D.cls_blw n ds (by simpa [D.cl] using h)
theorem D.cls_blw (n : Nat) : ∀ ds : List D, D.cls ds = true → D.blws n ds = true
  | [], _ => rfl
  | d :: ds, h => by
    simp only [D.cls, Bool.and_eq_true] at h
    simp only [D.blws, D.cl_blw n d h.1, D.cls_blw n ds h.2, Bool.and_self]
end
theorem intsD_map : ∀ ns : List Int, intsD (ns.map .int) = some ns
  | [] => rfl
  | n :: r => by
    show (match intsD (r.map .int) with | some ns => some (n :: ns) | none => none) = _
    rw [intsD_map r]
theorem chk_app {n : Nat} {st g : Sto} : chkS n st (st ++ g) = true := chkS_app
theorem fin_nx2 {st g : Sto} {env : Env} {fz : Bool} : fin fz st (.nx env (st ++ g)) = .ok .non st := by
  show Res.ok D.non (shrink st (st ++ g) true) = _
  rw [shrink_same]
end FL

namespace FL
open PySem PySem.Spec PyProof.Rows L2
variable [TabCtx]


theorem lstD_loc {st : Sto} {l : Nat} {ds : List D} (h : st[l]? = some (.lst ds)) : lstD (.loc l) st = some ds := by
  show (match st[l]? with | some (.lst ds) => some ds | _ => none) = _
  rw [h]
theorem seqD_loc {st : Sto} {l : Nat} {ds : List D} (h : st[l]? = some (.lst ds)) : seqD (.loc l) st = some ds := by
  show (match st[l]? with | some (.lst ds) => some ds | _ => none) = _
  rw [h]
theorem dicD_loc {st : Sto} {l : Nat} {ds : List D} (h : st[l]? = some (.lst ds)) : dicD (.loc l) st = none := by
  show (match st[l]? with | some (.dic ds) => some ds | _ => none) = _
  rw [h]
theorem minB_i {st : Sto} {i j : Int} : minB [.int i, .int j] st = .ok (.int (if j < i then j else i)) st := rfl
theorem isLst_loc {st : Sto} {l : Nat} {ds : List D} (h : st[l]? = some (.lst ds)) : isLst (.loc l) st = true := by
  unfold isLst
  rw [lstD_loc h]; rfl
theorem apD_loc {st : Sto} {l : Nat} {ds : List D} {d : D} (h : st[l]? = some (.lst ds)) (hl : ds.length < 1000000) : apD (.loc l) [d] st = .ok .non (st.set l (.lst (ds ++ [d]))) := by
  show (match st[l]? with
    | some (.lst ds) => if ds.length < 1000000 then Res.ok D.non (st.set l (.lst (ds ++ [d]))) else .bad
    | _ => .bad) = _
  rw [h]
  simp only [if_pos hl]
theorem iRange2_i {ms : Env → Sto → Res (List D)} {env : Env} {st st1 : Sto} {i j : Int} (h : ms env st = .ok [.int i, .int j] st1) (h1 : smallI i) (h2 : smallI j) :
    iRange2 ms env st = .ok ((List.range (j - i).toNat).map fun k => .int (i + (k : Nat)), []) st1 := by
  rw [iRange2_ap, h, Res.bind_ok]
  exact if_pos ⟨h1, h2⟩
end FL

namespace FL
open PySem PySem.Spec PyProof.Rows L2
variable [TabCtx]


section
variable {X : Cx} {x n : Str} {c : Value} {i : Nat} {body suite : List Stmt} {b₀ : Stmt} {np pos pos' : Pos} {tb : WX → TS} {ts : TS} {Wout : WX}
end


structure ClsAt (K : PySem.W.Frag) (mg : Str → Option Value) (cls : String) : Prop where
  ex : ∃ C, PySem.W.nsIn K mainGlobals (Str.ofString cls) = some (some (.ref C)) ∧ mg (Str.ofString cls) = some (.ref C) ∧ PySem.W.keepIn K (.ref C) = true ∧
    PySem.W.subIn K (.ref C) (.type "BaseException") = some true ∧ PySem.W.typeIn K (.ref C) = some (.type "type") ∧
    PySem.W.excIn K C [.type "ValueError", .type "Exception", .type "BaseException", .type "object"] "ValueError.__new__" = true
structure NmAt (K : PySem.W.Frag) (mg : Str → Option Value) (cls : String) : Prop where
  ex : ∃ C, PySem.W.nsIn K mainGlobals (Str.ofString cls) = some (some (.ref C)) ∧ mg (Str.ofString cls) = some (.ref C)
def sRaise (cls : String) : SM4 := fun env st => .ex ⟨cls, []⟩ env st
inductive Cl where
  | own (y : String) | ve
def Cl.at (K : PySem.W.Frag) : Cl → Value → Prop
  | .own y, v => ∃ C, PySem.W.nsIn K mainGlobals (Str.ofString y) = some (some (.ref C)) ∧ v = .ref C
  | .ve, v => v = .type "ValueError"
structure IsAt (K : PySem.W.Frag) (cls : String) (y : Cl) (b : Bool) : Prop where
  ex : ∃ C v, PySem.W.nsIn K mainGlobals (Str.ofString cls) = some (some (.ref C)) ∧ ExcC K C ∧ y.at K v ∧ PySem.W.kitOne K (.ref C) v = some b
structure NonAt (K : PySem.W.Frag) (y : Cl) : Prop where
  ex : ∃ v, y.at K v ∧ PySem.W.kitOne K (.type "NoneType") v = some false
structure ExmAt (K : PySem.W.Frag) (cls : String) (y : Cl) (b : Bool) : Prop where
  ex : ∃ C v, PySem.W.nsIn K mainGlobals (Str.ofString cls) = some (some (.ref C)) ∧ y.at K v ∧ PySem.W.exmOne K (.ref C) v = some b
def tabB (tab : List (String × Bool)) (cls : String) : Option Bool := match tab with
  | [] => none
  | p :: r => if cls = p.1 then some p.2 else tabB r cls
section
variable {X : Cx} {W : WX} {a : Expr} {ma : EM} {p p2 p3 pos : Pos} {j : Nat} {m : Str}
theorem fs_raise {cls : String} {x : Str} (hx : x = Str.ofString cls) (hc : X.calm = true) (tk : Takes X W) (c : ClsAt X.K X.mg cls) (hg : Gl X x) (hd : (x == ("__debug__" : Str)) = false := by decide) :
    FS X W (.Raise (some (.Call (.Name x p) [.Constant (.str m) j p2] [] p3)) none pos) (sRaise cls) := by
  subst hx
  obtain ⟨C, c0, c1, c2, c3, c4, c5⟩ := c.ex
  exact PS.imp (ps_raise hc tk (pmk_own PySem.F.excBase_ValueError c5 c1 c2 (raises_own c3 c4) hg hd)) fun D σ H ⟨r, env, st, hE, hS, h⟩ =>
    h (.ref C) none σ H r (Ext.refl _ _) hS hE ⟨⟨C, c0, rfl⟩, rfl⟩


structure ClNm (X : Cx) (x : Str) (y : Cl) : Prop where
  pe : ∃ cv v, y.at X.K v ∧ (∀ u, RelV cv u → u = v) ∧ ClsV cv v ∧ ∀ pos, PE X (.Name x pos) (tC cv)
end
end FL

namespace FL
open PySem PySem.Spec PyProof.Rows L2
variable [TabCtx]


structure ClVal (X : Cx) (x : Str) (y : Cl) : Prop where
  ex : ∃ v, y.at X.K v ∧ Names X x v
section
variable {X : Cx} {W : WX} {x n : Str} {i : Nat} {body suite : List Stmt} {b₀ : Stmt} {np pos pos' : Pos} {m u : SM4} {y : Cl} {tab : List (String × Bool)}

end
end FL

namespace FL
open PySem PySem.Spec PyProof.Rows L2
variable [TabCtx]



def fuelB : Nat := 10 ^ 700
theorem fuelB_lt {n : Nat} (h : n < 2 ^ 2000) : n < fuelB := Nat.lt_of_lt_of_le h (by decide +kernel)
theorem log_lt {i : Int} {k : Nat} (h : i.natAbs < 2 ^ k) (hk : 0 < k) : i.natAbs.log2 < k := by
  by_cases h0 : i.natAbs = 0
  · rw [h0]; exact hk
  · exact (Nat.log2_lt h0).mpr h
theorem mulD_b {i j : Int} {st : Sto} (h : i.natAbs < 2 ^ 2000) (h' : j.natAbs < 2 ^ 2000) : mulD (.int i) (.int j) st = .ok (.int (i * j)) st :=
  mulD_i (by have := log_lt h (by decide); have := log_lt h' (by decide); omega)
theorem mul_lt {i j : Int} {a b : Nat} (h : i.natAbs < 2 ^ a) (h' : j.natAbs < 2 ^ b) : (i * j).natAbs < 2 ^ (a + b) := by
  rw [Int.natAbs_mul, Nat.pow_add]
  exact Nat.mul_lt_mul'' h h'
theorem add_lt {i j : Int} {a : Nat} (h : i.natAbs < 2 ^ a) (h' : j.natAbs < 2 ^ a) : (i + j).natAbs < 2 ^ (a + 1) := by
  have := Int.natAbs_add_le i j
  rw [Nat.pow_succ]; omega
theorem lt_mono {i : Int} {a b : Nat} (h : i.natAbs < 2 ^ a) (hab : a ≤ b) : i.natAbs < 2 ^ b := Nat.lt_of_lt_of_le h (Nat.pow_le_pow_right (by decide) hab)
theorem absB_i {i : Int} {st : Sto} : absB [.int i] st = .ok (.int (i.natAbs : Nat)) st := by
  show Res.ok (D.int (if i < 0 then -i else i)) st = _
  congr 2
  split <;> omega
end FL

namespace FL
open PySem PySem.Spec PyProof.Rows L2
variable [TabCtx]

def Sz (k : Nat) (i : Int) : Prop := i.natAbs < 2 ^ k
theorem sz_mul {k : Nat} {a b : Int} (h1 : Sz (k / 2) a) (h2 : Sz (k / 2) b) : Sz k (a * b) := lt_mono (mul_lt h1 h2) (by omega)
theorem sz_add {k : Nat} {a b : Int} (h0 : 0 < k) (h1 : Sz (k - 1) a) (h2 : Sz (k - 1) b) : Sz k (a + b) := lt_mono (add_lt h1 h2) (by omega)
theorem sz_mod {k : Nat} {a b : Int} (h0 : 0 < b) (h1 : Sz k b) : Sz k (a % b) := by
  have := Int.emod_nonneg a (show b ≠ 0 by omega)
  have := Int.emod_lt_of_pos a h0
  unfold Sz at *; omega
theorem sz_div {k : Nat} {a b : Int} (h0 : 0 < b) (h1 : Sz k a) : Sz k (a / b) := by
  have h : (a / b).natAbs ≤ a.natAbs := by
    by_cases ha : 0 ≤ a
    · have := Int.ediv_nonneg ha (Int.le_of_lt h0)
      have := Int.ediv_le_self b ha
      omega
    · have h2 : a / b < 0 := Int.ediv_neg_of_neg_of_pos (by omega) h0
      have h3 : a ≤ a / b := by
        have h5 := Int.le_ediv_iff_mul_le (a := a) (b := a) h0
        rw [h5]
        have h6 : (-a) * 1 ≤ (-a) * b := Int.mul_le_mul_of_nonneg_left (by omega) (by omega)
        rw [Int.neg_mul, Int.neg_mul] at h6
        omega
      omega
  exact Nat.lt_of_le_of_lt h h1
theorem mulD_z {a b : Int} {st : Sto} (h1 : Sz 2000 a) (h2 : Sz 2000 b) : mulD (.int a) (.int b) st = .ok (.int (a * b)) st := mulD_b h1 h2
example {x y : Int} (hx : ∀ k, 100 ≤ k → Sz k x) (hy : ∀ k, 13 ≤ k → Sz k y) (y0 : 0 < y) (st : Sto) : mulD (.int (x * x + 10 % y)) (.int (x / y)) st = .ok (.int ((x * x + 10 % y) * (x / y))) st := by
  simp (maxDischargeDepth := 30) only [mulD_z, sz_mul, sz_add, sz_div, sz_mod, hx, hy, y0, Nat.reduceLeDiff, Nat.reduceDiv, Nat.reduceSub, Nat.reduceLT]
end FL

namespace FL
open PySem PySem.Spec PyProof.Rows L2
variable [TabCtx]
theorem cut_to {α : Type} {xs : List α} {i : Int} (h : 0 ≤ i) : cutL xs none (some i) = xs.take i.toNat := by
  unfold cutL HT.sIx
  simp only [List.drop_zero, Nat.sub_zero]
  rw [if_neg (by omega), List.take_eq_take_iff]
  omega
theorem cut_from {α : Type} {xs : List α} {i : Int} (h : 0 ≤ i) : cutL xs (some i) none = xs.drop i.toNat := by
  unfold cutL HT.sIx
  simp only []
  rw [if_neg (by omega)]
  by_cases hl : i.toNat ≤ xs.length
  · rw [Nat.min_eq_left hl, List.take_of_length_le (by rw [List.length_drop]; omega)]
  · rw [Nat.min_eq_right (by omega), List.drop_length, List.take_nil, List.drop_eq_nil_of_le (by omega)]
def D.flt : Nat → D → Bool
  | _, .loc _ => false
  | k + 1, .tup ds => ds.all (D.flt k)
  | k + 1, .lst ds => ds.all (D.flt k)
  | k + 1, .exc _ _ ds => ds.all (D.flt k)
  | 0, .tup _ => false
  | 0, .lst _ => false
  | 0, .exc _ _ _ => false
  | _, _ => true
theorem mapQ_id {f : D → Option D} : ∀ {ds : List D}, (∀ d ∈ ds, f d = some d) → mapQ f ds = some ds
  | [], _ => rfl
  | d :: ds, h => by
    unfold mapQ
    rw [h d List.mem_cons_self]
    simp only
    rw [mapQ_id fun e he => h e (List.mem_cons_of_mem _ he)]
theorem frz_flt {st : Sto} {n : Nat} : ∀ {k m : Nat} {d : D}, D.flt k d = true → k ≤ m → D.frz st n m d = some d
  | 0, m, d, h, hm => by
    cases d <;> first | (cases m <;> rfl) | (simp [D.flt] at h)
  | k + 1, 0, d, h, hm => by omega
  | k + 1, m + 1, d, h, hm => by
    cases d with
    | tup ds =>
      unfold D.frz
      rw [mapQ_id fun e he => frz_flt (k := k) (List.all_eq_true.mp (by simpa [D.flt] using h) e he) (by omega)]
    | lst ds =>
      unfold D.frz
      rw [mapQ_id fun e he => frz_flt (k := k) (List.all_eq_true.mp (by simpa [D.flt] using h) e he) (by omega)]
    | exc c ns ds =>
      unfold D.frz
      rw [mapQ_id fun e he => frz_flt (k := k) (List.all_eq_true.mp (by simpa [D.flt] using h) e he) (by omega)]
    | loc l => simp [D.flt] at h
    | _ => rfl
theorem flt_map {α : Type} {f : α → D} {k : Nat} (h : ∀ a, D.flt k (f a) = true) (l : List α) : (l.map f).all (D.flt k) = true := by
  rw [List.all_map, List.all_eq_true]
  exact fun a _ => h a
end FL

namespace FL
open PySem PySem.Spec PyProof.Rows L2
variable [TabCtx]
theorem comp_map {α : Type} {g : GM} {tt : Env → Sto → Res Bool} {te : EM} {st : Sto} {env : Env} {enc : α → D} {p : α → Bool} {f : α → D} : ∀ {l : List α} {acc : List D},
    (∀ a ∈ l, ∃ env1, g (enc a) env st = .ok env1 st ∧ tt env1 st = .ok (p a) st ∧ (p a = true → te env1 st = .ok (f a) st)) → acc.length + l.length ≤ 1000000 →
    compL [] g tt te env (l.map enc) st acc = .ok (acc ++ (l.filter p).map f) st
  | [], acc, _, _ => by rw [List.map_nil, compL_nil rfl, List.filter_nil, List.map_nil, List.append_nil]
  | a :: l, acc, h, hl => by
    obtain ⟨env1, h1, h2, h3⟩ := h a List.mem_cons_self
    have hl' : acc.length < 1000000 := by rw [List.length_cons] at hl; omega
    rw [List.map_cons]
    unfold compL
    rw [if_pos (show stillB [] st = true from rfl), h1]
    simp only [h2]
    cases hp : p a with
    | true =>
      simp only [if_true, h3 hp, if_pos hl', List.filter_cons, hp]
      rw [comp_map (l := l) (fun b hb => h b (List.mem_cons_of_mem _ hb)) (by rw [List.length_append, List.length_singleton]; rw [List.length_cons] at hl; omega)]
      simp
    | false =>
      simp only [Bool.false_eq_true, if_false, List.filter_cons, hp]
      exact comp_map (l := l) (fun b hb => h b (List.mem_cons_of_mem _ hb)) (by rw [List.length_cons] at hl; omega)
theorem filter_tt {α : Type} (l : List α) : l.filter (fun _ => true) = l := List.filter_eq_self.mpr fun _ _ => rfl
theorem comp_map0 {α : Type} {g : GM} {te : EM} {st : Sto} {env : Env} {enc : α → D} {f : α → D} {l : List α} {acc : List D}
    (h : ∀ a ∈ l, ∃ env1, g (enc a) env st = .ok env1 st ∧ te env1 st = .ok (f a) st) (hl : acc.length + l.length ≤ 1000000) :
    compL [] g noTest te env (l.map enc) st acc = .ok (acc ++ l.map f) st := by
  rw [comp_map (p := fun _ => true) (f := f) (fun a ha => by
    obtain ⟨env1, h1, h2⟩ := h a ha
    exact ⟨env1, h1, rfl, fun _ => h2⟩) hl, filter_tt]

theorem sort_any {ds : List D} {st : Sto} {d : D} (hd : dicD d st = none) (hl : lstD d st = some ds) (hn : intsD ds = none) {l : List (TKey × D)} (hk : tupK (shapeOf ds) ds = some l) : sortB2 [d] st = .ok ((srtT l).map (·.2)) st := by
  show (match dicD d st with
    | some _ => sortB [d] st
    | none => match lstD d st with
      | some ds => match intsD ds with
        | some _ => sortB [d] st
        | none => match sortT ds with
          | some es => Res.ok es st
          | none => .bad
      | none => .bad) = _
  rw [hd, hl]
  simp only [hn]
  unfold sortT
  rw [hk]
theorem eqD_of {a b : D} {st : Sto} {k : Bool} (h : eqB st a b = some k) : eqD a b st = .ok (.bl k) st := by
  show (match eqB st a b with | some b => Res.ok (D.bl b) st | none => .bad) = _
  rw [h]
theorem neD_of {a b : D} {st : Sto} {k : Bool} (h : eqB st a b = some k) : neD a b st = .ok (.bl (!k)) st := by
  show (match eqB st a b with | some b => Res.ok (D.bl (!b)) st | none => .bad) = _
  rw [h]
end FL

namespace FL
open PySem PySem.Spec PyProof.Rows L2
variable [TabCtx]

@[reducible] def cI (i : Int) : D := .int i
@[reducible] def cB (b : Bool) : D := .bl b
@[reducible] def cS (x : Str) : D := .str x
@[reducible] def cD (d : D) : D := d
@[reducible] def cU (_ : Unit) : D := .non
@[reducible] def cZ (l : List Int) : D := .scr l
@[reducible] def cP0 (_ : Unit) : D := .tup []
@[reducible] def cP1 {α : Type} (c : α → D) (a : α) : D := .tup [c a]
@[reducible] def cP2 {α β : Type} (ca : α → D) (cb : β → D) (p : α × β) : D := .tup [ca p.1, cb p.2]
@[reducible] def cP3 {α β γ : Type} (ca : α → D) (cb : β → D) (cc : γ → D) (p : α × β × γ) : D := .tup [ca p.1, cb p.2.1, cc p.2.2]
@[reducible] def cP4 {α β γ δ : Type} (ca : α → D) (cb : β → D) (cc : γ → D) (cd : δ → D) (p : α × β × γ × δ) : D := .tup [ca p.1, cb p.2.1, cc p.2.2.1, cd p.2.2.2]
@[reducible] def cP5 {α β γ δ ε : Type} (ca : α → D) (cb : β → D) (cc : γ → D) (cd : δ → D) (ce : ε → D) (p : α × β × γ × δ × ε) : D := .tup [ca p.1, cb p.2.1, cc p.2.2.1, cd p.2.2.2.1, ce p.2.2.2.2]
@[reducible] def cL {α : Type} (c : α → D) (l : List α) : D := .lst (l.map c)
@[reducible] def cT {α : Type} (c : α → D) (l : List α) : D := .tup (l.map c)
def cO {α : Type} (c : α → D) : Option α → D
  | none => .non
  | some a => c a
def Flat {α : Type} (k : Nat) (c : α → D) : Prop := ∀ a, D.flt k (c a) = true
theorem fl_I {k} : Flat k cI := fun a => by cases k <;> rfl
theorem fl_B {k} : Flat k cB := fun a => by cases k <;> rfl
theorem fl_S {k} : Flat k cS := fun a => by cases k <;> rfl
theorem fl_L {α : Type} {c : α → D} {k} (h : Flat k c) : Flat (k + 1) (cL c) := fun l => by
  show (l.map c).all (D.flt k) = true
  exact flt_map h l
theorem fl_T {α : Type} {c : α → D} {k} (h : Flat k c) : Flat (k + 1) (cT c) := fun l => by
  show (l.map c).all (D.flt k) = true
  exact flt_map h l
theorem fl_P2 {α β : Type} {ca : α → D} {cb : β → D} {k} (h1 : Flat k ca) (h2 : Flat k cb) : Flat (k + 1) (cP2 ca cb) := fun p => by
  show [ca p.1, cb p.2].all (D.flt k) = true
  simp [h1 p.1, h2 p.2]
theorem fl_P3 {α β γ : Type} {ca : α → D} {cb : β → D} {cc : γ → D} {k} (h1 : Flat k ca) (h2 : Flat k cb) (h3 : Flat k cc) : Flat (k + 1) (cP3 ca cb cc) := fun p => by
  show [ca p.1, cb p.2.1, cc p.2.2].all (D.flt k) = true
  simp [h1 p.1, h2 p.2.1, h3 p.2.2]
theorem fl_P4 {α β γ δ : Type} {ca : α → D} {cb : β → D} {cc : γ → D} {cd : δ → D} {k} (h1 : Flat k ca) (h2 : Flat k cb) (h3 : Flat k cc) (h4 : Flat k cd) : Flat (k + 1) (cP4 ca cb cc cd) := fun p => by
  show [ca p.1, cb p.2.1, cc p.2.2.1, cd p.2.2.2].all (D.flt k) = true
  simp [h1 p.1, h2 p.2.1, h3 p.2.2.1, h4 p.2.2.2]
theorem fl_P5 {α β γ δ ε : Type} {ca : α → D} {cb : β → D} {cc : γ → D} {cd : δ → D} {ce : ε → D} {k} (h1 : Flat k ca) (h2 : Flat k cb) (h3 : Flat k cc) (h4 : Flat k cd) (h5 : Flat k ce) : Flat (k + 1) (cP5 ca cb cc cd ce) := fun p => by
  show [ca p.1, cb p.2.1, cc p.2.2.1, cd p.2.2.2.1, ce p.2.2.2.2].all (D.flt k) = true
  simp [h1 p.1, h2 p.2.1, h3 p.2.2.1, h4 p.2.2.2.1, h5 p.2.2.2.2]
theorem fl_O {α : Type} {c : α → D} {k} (h : Flat k c) : Flat k (cO c) := fun a => by
  cases a with
  | none => cases k <;> rfl
  | some a => exact h a

def EqE {α : Type} [DecidableEq α] (k : Nat) (c : α → D) : Prop := ∃ p : α → PyData, (∀ st a, toPy k st (c a) = some (p a)) ∧ ∀ a b, PyData.eqv (p a) (p b) = decide (a = b)
theorem eq_I {k} : EqE k cI := ⟨.int, fun st a => by cases k <;> rfl, fun a b => by simp [PyData.eqv]; rfl⟩
theorem eq_B {k} : EqE k cB := ⟨.bool, fun st a => by cases k <;> rfl, fun a b => by cases a <;> cases b <;> rfl⟩
theorem mapO_map {α β γ : Type} {f : β → Option γ} {g : α → β} {h : α → γ} : ∀ {l : List α}, (∀ a ∈ l, f (g a) = some (h a)) → mapO f (l.map g) = some (l.map h)
  | [], _ => rfl
  | a :: l, q => by
    show mapO f (g a :: l.map g) = _
    unfold mapO
    rw [q a List.mem_cons_self, mapO_map fun b hb => q b (List.mem_cons_of_mem _ hb)]
    rfl
theorem eqvAll_mapP {α : Type} [DecidableEq α] {p : α → PyData} (h : ∀ a b, PyData.eqv (p a) (p b) = decide (a = b)) : ∀ l l' : List α, PyData.eqvAll (l.map p) (l'.map p) = decide (l = l')
  | [], [] => by simp [PyData.eqvAll]
  | [], _ :: _ => by simp [PyData.eqvAll]
  | _ :: _, [] => by simp [PyData.eqvAll]
  | a :: l, b :: l' => by
    simp only [List.map_cons, PyData.eqvAll, h, eqvAll_mapP h l l', List.cons.injEq, Bool.decide_and]
theorem eq_T {α : Type} [DecidableEq α] {c : α → D} {k} (h : EqE k c) : EqE (k + 1) (cT c) := by
  obtain ⟨p, h1, h2⟩ := h
  refine ⟨fun l => .tuple (l.map p), fun st l => ?_, fun a b => ?_⟩
  · show (mapO (toPy k st) (l.map c)).map PyData.tuple = _
    rw [mapO_map fun a _ => h1 st a]; rfl
  · simp only [PyData.eqv]
    exact eqvAll_mapP h2 a b
theorem eq_P2 {α β : Type} [DecidableEq α] [DecidableEq β] {ca : α → D} {cb : β → D} {k} (h1 : EqE k ca) (h2 : EqE k cb) : EqE (k + 1) (cP2 ca cb) := by
  obtain ⟨p, p1, p2⟩ := h1
  obtain ⟨q, q1, q2⟩ := h2
  refine ⟨fun x => .tuple [p x.1, q x.2], fun st x => ?_, fun x y => ?_⟩
  · show (mapO (toPy k st) [ca x.1, cb x.2]).map PyData.tuple = _
    simp [mapO, p1, q1]
  · simp [PyData.eqv, PyData.eqvAll, p2, q2, Prod.ext_iff, Bool.decide_and]
theorem eq_P3 {α β γ : Type} [DecidableEq α] [DecidableEq β] [DecidableEq γ] {ca : α → D} {cb : β → D} {cc : γ → D} {k} (h1 : EqE k ca) (h2 : EqE k cb) (h3 : EqE k cc) : EqE (k + 1) (cP3 ca cb cc) := by
  obtain ⟨p, p1, p2⟩ := h1
  obtain ⟨q, q1, q2⟩ := h2
  obtain ⟨r, r1, r2⟩ := h3
  refine ⟨fun x => .tuple [p x.1, q x.2.1, r x.2.2], fun st x => ?_, fun x y => ?_⟩
  · show (mapO (toPy k st) [ca x.1, cb x.2.1, cc x.2.2]).map PyData.tuple = _
    simp [mapO, p1, q1, r1]
  · simp [PyData.eqv, PyData.eqvAll, p2, q2, r2, Prod.ext_iff, Bool.decide_and]
theorem eq_P4 {α β γ δ : Type} [DecidableEq α] [DecidableEq β] [DecidableEq γ] [DecidableEq δ] {ca : α → D} {cb : β → D} {cc : γ → D} {cd : δ → D} {k} (h1 : EqE k ca) (h2 : EqE k cb) (h3 : EqE k cc) (h4 : EqE k cd) : EqE (k + 1) (cP4 ca cb cc cd) := by
  obtain ⟨p, p1, p2⟩ := h1
  obtain ⟨q, q1, q2⟩ := h2
  obtain ⟨r, r1, r2⟩ := h3
  obtain ⟨s, s1, s2⟩ := h4
  refine ⟨fun x => .tuple [p x.1, q x.2.1, r x.2.2.1, s x.2.2.2], fun st x => ?_, fun x y => ?_⟩
  · show (mapO (toPy k st) [ca x.1, cb x.2.1, cc x.2.2.1, cd x.2.2.2]).map PyData.tuple = _
    simp [mapO, p1, q1, r1, s1]
  · simp [PyData.eqv, PyData.eqvAll, p2, q2, r2, s2, Prod.ext_iff, Bool.decide_and]
theorem eqB_c {α : Type} [DecidableEq α] {c : α → D} (h : EqE 40 c) {a b : α} {st : Sto} : eqB st (c a) (c b) = some (decide (a = b)) := by
  obtain ⟨p, p1, p2⟩ := h
  unfold eqB
  split
  · rename_i i j e1 e2
    have h1 := p1 [] a
    have h2 := p1 [] b
    rw [e1] at h1; rw [e2] at h2
    have h3 := p2 a b
    rw [← Option.some.inj h1, ← Option.some.inj h2] at h3
    rw [← h3]
    congr 1
  · rw [p1, p1]
    simp only [p2]
theorem eq_c {α : Type} [DecidableEq α] {c : α → D} (h : EqE 40 c) {a b : α} {st : Sto} : eqD (c a) (c b) st = .ok (cB (decide (a = b))) st := eqD_of (eqB_c h)
theorem ne_c {α : Type} [DecidableEq α] {c : α → D} (h : EqE 40 c) {a b : α} {st : Sto} : neD (c a) (c b) st = .ok (cB (!decide (a = b))) st := neD_of (eqB_c h)
end FL

namespace FL
open PySem PySem.Spec PyProof.Rows L2
variable [TabCtx]

section
variable {env : Env} {S : Sto} {m ma mb mc : EM} {ms : Env → Sto → Res (List D)} {ta tb : Env → Sto → Res Bool}
theorem ev_v {i : Nat} {d : D} (h : env[i]? = some (some d)) : eV i env S = .ok d S := by unfold eV; rw [h]
theorem ev_op {g : D → D → Sto → Res D} {a b : D} {r : Res D} (ha : ma env S = .ok a S) (hb : mb env S = .ok b S) (hg : g a b S = r) : eOp g ma mb env S = r := by
  rw [eOp_ap, ha, eOp_o1, hb, eOp_o2, hg]
theorem ev_un {g : D → Sto → Res D} {a : D} {r : Res D} (ha : ma env S = .ok a S) (hg : g a S = r) : eUn g ma env S = r := by
  rw [eUn_ap, ha, Res.bind_ok, hg]
theorem ev_nil : aNil env S = .ok [] S := rfl
theorem ev_cons {a : D} {ds : List D} (ha : ma env S = .ok a S) (hs : ms env S = .ok ds S) : aCons ma ms env S = .ok (a :: ds) S := by
  rw [aCons_ap, ha, aCons_o1, hs, aCons_o2]
theorem ev_tup {ds : List D} (h : ms env S = .ok ds S) (hl : Nat.ble ds.length 1000 = true) : eTup ms env S = .ok (.tup ds) S := by
  rw [eTup_ap, h, eTup_o1, if_pos (Nat.le_of_ble_eq_true hl)]
theorem ev_lst {ds : List D} (h : ms env S = .ok ds S) (hl : Nat.ble ds.length 1000 = true) : nLst ms env S = .ok ds S := by
  rw [nLst_ap, h, nLst_o1, if_pos (Nat.le_of_ble_eq_true hl)]
theorem ev_frz {ds : List D} (h : ms env S = .ok ds S) : eFrz ms env S = .ok (.lst ds) S := by
  rw [eFrz_ap, h, eFrz_o1]
theorem ev_call {n : Nat} {f : Fn} {ds : List D} {r : Res D} (h : ms env S = .ok ds S) (hl : ds.length = n) (hf : f ds S = r) : eCall n f ms env S = r := by
  rw [eCall_ap, h, eCall_o1, if_pos hl, hf]
theorem ev_B {g : List D → Sto → Res D} {ds : List D} {r : Res D} (h : ms env S = .ok ds S) (hg : g ds S = r) : eB g ms env S = r := by
  rw [eB_ap, h, Res.bind_ok, hg]
theorem ev_nB {g : List D → Sto → Res (List D)} {ds : List D} {r : Res (List D)} (h : ms env S = .ok ds S) (hg : g ds S = r) : nB g ms env S = r := by
  rw [nB_ap, h, Res.bind_ok, hg]
theorem tt_B {k : Bool} (h : m env S = .ok (cB k) S) : asB m env S = .ok k S := by rw [asB_ap, h]; rfl
theorem tt_tru {d : D} {k : Bool} (h : m env S = .ok d S) (ht : truD d S = .ok k S) : tTru m env S = .ok k S := by rw [tTru_ap, h, Res.bind_ok, ht]
theorem tt_and {a b : Bool} (ha : ta env S = .ok a S) (hb : a = true → tb env S = .ok b S) : tAndM ta tb env S = .ok (a && b) S := by
  rw [tAndM_ap, ha]
  cases a with
  | true => rw [tAndM_t, hb rfl]; rfl
  | false => rw [tAndM_f]; rfl
theorem tt_or {a b : Bool} (ha : ta env S = .ok a S) (hb : a = false → tb env S = .ok b S) : tOrM ta tb env S = .ok (a || b) S := by
  rw [tOrM_ap, ha]
  cases a with
  | true => rw [tOrM_t]; rfl
  | false => rw [tOrM_f, hb rfl]; rfl
theorem tt_not {a : Bool} (ha : ta env S = .ok a S) : tNotM ta env S = .ok (!a) S := by rw [tNotM_ap, ha, tNotM_o1]
theorem ev_andB {a b : Bool} (ha : ma env S = .ok (cB a) S) (hb : a = true → mb env S = .ok (cB b) S) : eAnd ma mb env S = .ok (cB (a && b)) S := by
  rw [eAnd_ap, ha, eAnd_o]
  show eAnd_k2 mb env (.bl a) (.ok a S) = _
  cases a with
  | true => rw [eAnd_t, hb rfl]; rfl
  | false => rw [eAnd_f]; rfl
theorem ev_orB {a b : Bool} (ha : ma env S = .ok (cB a) S) (hb : a = false → mb env S = .ok (cB b) S) : eOr ma mb env S = .ok (cB (a || b)) S := by
  rw [eOr_ap, ha, eOr_o]
  show eOr_k2 mb env (.bl a) (.ok a S) = _
  cases a with
  | true => rw [eOr_t]; rfl
  | false => rw [eOr_f, hb rfl]; rfl
theorem ev_notD {d : D} {k : Bool} (ha : ma env S = .ok d S) (ht : truD d S = .ok k S) : eNot ma env S = .ok (cB (!k)) S := by
  rw [eNot_ap, ha, eNot_o1, ht, eNot_o2]
theorem ev_oSome {i : Int} (h : m env S = .ok (cI i) S) : oSome m env S = .ok (some i) S := by rw [oSome_ap, h, oSome_o]
theorem ev_sl {ml mh : OM} {d : D} {lo hi : Option Int} {r : Res D} (h : m env S = .ok d S) (hl : ml env S = .ok lo S) (hh : mh env S = .ok hi S) (hs : slD d lo hi S = r) : eSl m ml mh env S = r := by
  rw [eSl_ap, h, eSl_o1, hl, eSl_o2, hh, eSl_o3, hs]
theorem ev_isi {d : D} {t T : Ty} (h : m env S = .ok d S) (ht : tyD d S = some t) : eIsi T m env S = .ok (cB (t.le T)) S := by
  rw [eIsi_ap, h, eIsi_o1, ht]
theorem ev_mt {ok : D → Sto → Bool} {g : D → List D → Sto → Res D} {d : D} {ds : List D} {r : Res D} (h : m env S = .ok d S) (hk : ok d S = true) (hs : ms env S = .ok ds S) (hg : g d ds S = r) : eMt ok g m ms env S = r := by
  rw [eMt_ap, h, eMt_o1 _ _ _ _ _ _ hk, hs, eMt_o2, hg]
end

def MulK (a b : Int) : Prop := MulS a b
def DivOk (b : Int) : Prop := b ≠ 0 ∧ b.natAbs.log2 < 9000
theorem mul_c {a b : Int} {S : Sto} (h : MulK a b) : mulD (cI a) (cI b) S = .ok (cI (a * b)) S := mulD_j h
theorem div_k {a b : Int} {S : Sto} (h : 0 < b) (h2 : b.natAbs.log2 < 9000) : fdivD (cI a) (cI b) S = .ok (cI (a / b)) S := fdivD_i h h2
theorem mod_k {a b : Int} {S : Sto} (h : 0 < b) : modD (cI a) (cI b) S = .ok (cI (a % b)) S := modD_i h
theorem div_c {a b : Int} {S : Sto} (h : DivOk b) : fdivD (cI a) (cI b) S = .ok (cI (a.fdiv b)) S := by
  show (if b = 0 then Res.bad else if b.natAbs.log2 < 9000 then Res.ok (D.int (a.fdiv b)) S else .bad) = _
  rw [if_neg h.1, if_pos h.2]
theorem mod_c {a b : Int} {S : Sto} (h : b ≠ 0) : modD (cI a) (cI b) S = .ok (cI (a.fmod b)) S := by
  show (if b = 0 then Res.bad else Res.ok (D.int (a.fmod b)) S) = _
  rw [if_neg h]
theorem pow_c {a b : Int} {S : Sto} (h : 0 ≤ b ∧ b ≤ 1000000 ∧ a.natAbs < 2 ^ 64) {r : Int} (hr : a ^ b.toNat = r) : powD (cI a) (cI b) S = .ok (cI r) S := by rw [← hr]; exact powD_i h

def getI {α : Type} [Inhabited α] (xs : List α) (i : Int) : α := xs.getD (if i < 0 then i + (xs.length : Int) else i).toNat default
def IxOk (n : Nat) (i : Int) : Prop := -(n : Int) ≤ i ∧ i < n
theorem atI_c {α : Type} [Inhabited α] {xs : List α} {i : Int} (h : IxOk xs.length i) : atI xs i = some (getI xs i) := by
  obtain ⟨h1, h2⟩ := h
  unfold getI
  by_cases h0 : 0 ≤ i
  · rw [atI_nat h0, if_neg (by omega), List.getD_eq_getElem?_getD, List.getElem?_eq_getElem (by omega)]; rfl
  · unfold atI ixN
    rw [if_neg h0, if_pos (by omega), if_pos (by omega), List.getD_eq_getElem?_getD]
    simp only [Option.bind_some]
    rw [Int.add_comm]
    rw [List.getElem?_eq_getElem (by omega)]; rfl
theorem atI_map {α β : Type} {f : α → β} {xs : List α} {i : Int} : atI (xs.map f) i = (atI xs i).map f := by
  unfold atI
  rw [List.length_map]
  cases ixN xs.length i with
  | none => rfl
  | some n => simp
theorem sq_L {α : Type} {c : α → D} {xs : List α} {S : Sto} : seqD (cL c xs) S = some (xs.map c) := rfl
theorem sq_T {α : Type} {c : α → D} {xs : List α} {S : Sto} : seqD (cT c xs) S = some (xs.map c) := rfl
theorem sq_Z {xs : List Int} {S : Sto} : seqD (cZ xs) S = some (xs.map cI) := rfl
theorem ls_L {α : Type} {c : α → D} {xs : List α} {S : Sto} : lstD (cL c xs) S = some (xs.map c) := rfl
theorem md_L {α : Type} {c : α → D} {xs : List α} {S : Sto} : madeD (cL c xs) S = some (xs.map c) := rfl
theorem lk {st : Sto} {o : List SO} {i : Nat} {x : SO} (h : o[i]? = some x) : (st ++ o)[st.length + i]? = some x := by
  rw [List.getElem?_append_right (by omega), show st.length + i - st.length = i by omega, h]
theorem sq_M {st : Sto} {o : List SO} {i : Nat} {ds : List D} (h : o[i]? = some (.lst ds)) : seqD (.loc (st.length + i)) (st ++ o) = some ds := seqD_loc (lk h)
theorem ls_M {st : Sto} {o : List SO} {i : Nat} {ds : List D} (h : o[i]? = some (.lst ds)) : lstD (.loc (st.length + i)) (st ++ o) = some ds := lstD_loc (lk h)
theorem md_M {st : Sto} {o : List SO} {i : Nat} {ds : List D} (h : o[i]? = some (.lst ds)) : madeD (.loc (st.length + i)) (st ++ o) = some ds := by
  show (match (st ++ o)[st.length + i]? with | some (.lst ds) => some ds | _ => none) = _
  rw [lk h]
theorem st_set {st : Sto} {o : List SO} {i : Nat} {x : SO} : (st ++ o).set (st.length + i) x = st ++ o.set i x := by
  rw [List.set_append_right _ _ (by omega), show st.length + i - st.length = i by omega]
theorem len_c {α : Type} {c : α → D} {xs : List α} {d : D} {S : Sto} (h : seqD d S = some (xs.map c)) : lenB [d] S = .ok (cI (xs.length : Nat)) S := by
  show (match seqD d S with
    | some ds => Res.ok (D.int (ds.length : Nat)) S
    | none => _) = _
  rw [h]
  simp only [List.length_map]
theorem ix_c {α : Type} [Inhabited α] {c : α → D} {xs : List α} {d : D} {i : Int} {S : Sto} (h : seqD d S = some (xs.map c)) (hi : IxOk xs.length i) : ixD d (cI i) S = .ok (c (getI xs i)) S := by
  have key : (match atI (xs.map c) i with | some x => Res.ok x S | none => .bad) = Res.ok (c (getI xs i)) S := by
    rw [atI_map, atI_c hi]; rfl
  have k2 : ixD d (cI i) S = (match seqD d S with
      | some ds => (match atI ds i with | some x => Res.ok x S | none => .bad)
      | none => match dicD d S with
        | some kvs => (match dget kvs (Sum.inl i) with | some x => .ok x S | none => .bad)
        | none => .bad) := by
    cases d with
    | str z => cases h
    | _ => rfl
  rw [k2, h]
  exact key
theorem cutL_map {α β : Type} {f : α → β} {xs : List α} {lo hi : Option Int} : cutL (xs.map f) lo hi = (cutL xs lo hi).map f := by
  unfold cutL
  rw [List.length_map, ← List.map_drop, ← List.map_take]
theorem sl_l {α : Type} {c : α → D} {xs : List α} {d : D} {lo hi : Option Int} {S : Sto} (h : lstD d S = some (xs.map c)) : slD d lo hi S = .ok (cL c (cutL xs lo hi)) S := by
  have key : (match lstD d S with | some ds => Res.ok (D.lst (cutL ds lo hi)) S | none => .bad) = Res.ok (cL c (cutL xs lo hi)) S := by
    rw [h]
    simp only [cutL_map]
  cases d <;> first | exact key | cases h
theorem add_l {α : Type} {c : α → D} {xs ys : List α} {d e : D} {S : Sto} (h1 : madeD d S = some (xs.map c)) (h2 : madeD e S = some (ys.map c)) (hl : xs.length + ys.length ≤ 1000000) : addD d e S = .ok (cL c (xs ++ ys)) S := by
  have key : (match madeD d S, madeD e S with
    | some xs, some ys => if xs.length + ys.length ≤ 1000000 then Res.ok (D.lst (xs ++ ys)) S else .bad
    | _, _ => .bad) = Res.ok (cL c (xs ++ ys)) S := by
    rw [h1, h2]
    simp only [List.length_map, if_pos hl, cL, List.map_append]
  cases d <;> first | (cases e <;> first | exact key | cases h2) | cases h1
theorem tup_c {α : Type} {c : α → D} {xs : List α} {d : D} {S : Sto} (h : lstD d S = some (xs.map c)) : tupB [d] S = .ok (cT c xs) S := by
  have key : (match lstD d S with | some ds => Res.ok (D.tup ds) S | none => .bad) = Res.ok (cT c xs) S := by rw [h]
  cases d <;> first | exact key | cases h
theorem blsD_map : ∀ l : List Bool, blsD (l.map .bl) = some l
  | [] => rfl
  | b :: l => by
    show (match blsD (l.map .bl) with | some ns => some (b :: ns) | none => none) = _
    rw [blsD_map l]
theorem all_c {xs : List Bool} {d : D} {S : Sto} (h : lstD d S = some (xs.map cB)) : allB [d] S = .ok (cB (xs.all id)) S := by
  show (match lstD d S with
    | some ds => match blsD ds with
      | some l => Res.ok (D.bl (l.all id)) S
      | none => .bad
    | none => .bad) = _
  rw [h]
  simp only [show xs.map cB = xs.map D.bl from rfl, blsD_map]
theorem any_c {xs : List Bool} {d : D} {S : Sto} (h : lstD d S = some (xs.map cB)) : anyB [d] S = .ok (cB (xs.any id)) S := by
  show (match lstD d S with
    | some ds => match blsD ds with
      | some l => Res.ok (D.bl (l.any id)) S
      | none => .bad
    | none => .bad) = _
  rw [h]
  simp only [show xs.map cB = xs.map D.bl from rfl, blsD_map]
theorem abs_c {i : Int} {S : Sto} : absB [cI i] S = .ok (cI (i.natAbs : Nat)) S := absB_i
theorem min2_c {i j : Int} {S : Sto} : minB [cI i, cI j] S = .ok (cI (min i j)) S := by
  rw [minB_i]
  congr 2
  omega

def rngI (a b : Int) : List Int := (List.range (b - a).toNat).map fun (k : Nat) => a + (k : Int)
theorem it_seq {α : Type} {c : α → D} {xs : List α} {d : D} {m : EM} {env : Env} {S : Sto} (h : m env S = .ok d S) (hs : seqD d S = some (xs.map c)) : iSeq m env S = .ok (xs.map c, srcD d (xs.map c)) S := by
  rw [iSeq_ap, h, iSeq_o1, hs]
theorem it_rng2 {ms : Env → Sto → Res (List D)} {env : Env} {S : Sto} {i j : Int} (h : ms env S = .ok [cI i, cI j] S) (h1 : smallI i) (h2 : smallI j) : iRange2 ms env S = .ok ((rngI i j).map cI, []) S := by
  rw [iRange2_i h h1 h2]
  unfold rngI
  rw [List.map_map]
  rfl
def enumI {α : Type} (xs : List α) : List (Int × α) := xs.zipIdx.map fun p => ((p.2 : Int), p.1)
theorem numL_map {α : Type} {c : α → D} {xs : List α} : numL (xs.map c) = (enumI xs).map (cP2 cI c) := by
  unfold numL enumI
  rw [List.zipIdx_map, List.map_map, List.map_map]
  rfl
theorem it_enum {α : Type} {c : α → D} {xs : List α} {d : D} {ms : Env → Sto → Res (List D)} {env : Env} {S : Sto} (h : ms env S = .ok [d] S) (hs : seqD d S = some (xs.map c)) : iEnum ms env S = .ok ((enumI xs).map (cP2 cI c), srcD d (xs.map c)) S := by
  rw [iEnum_ap, h, iEnum_o _ _ hs, numL_map]
theorem it_zip {α β : Type} {c : α → D} {c' : β → D} {xs : List α} {ys : List β} {d e : D} {ms : Env → Sto → Res (List D)} {env : Env} {S : Sto} (h : ms env S = .ok [d, e] S) (hk : isTup d = isTup e) (hs : seqD d S = some (xs.map c)) (hs' : seqD e S = some (ys.map c')) :
    iZip ms env S = .ok ((xs.zip ys).map (cP2 c c'), srcD d (xs.map c) ++ srcD e (ys.map c')) S := by
  rw [iZip_ap, h, iZip_o _ _ _ hk hs hs']
  unfold pairL
  rw [List.zip_map, List.map_map]
  rfl

theorem ev_comp0 {α β : Type} {cx : α → D} {cy : β → D} {vs : List Nat} {mi : IM} {g : GM} {te : EM} {env : Env} {S : Sto} {xs : List α} {f : α → β} (hi : mi env S = .ok (xs.map cx, []) S)
    (hb : ∀ x ∈ xs, ∃ env1, g (cx x) (wipeE env vs) S = .ok env1 S ∧ te env1 S = .ok (cy (f x)) S) (hl : xs.length ≤ 1000000) :
    nComp vs mi g noTest te env S = .ok ((xs.map f).map cy) S := by
  rw [nComp_ap, hi, nComp_o1]
  simp only
  rw [comp_map0 (f := fun x => cy (f x)) hb (by simpa using hl), List.nil_append, List.map_map]
  rfl
end FL

namespace FL
open PySem PySem.Spec PyProof.Rows L2
variable [TabCtx]

theorem frz_blw {st : Sto} {n : Nat} : ∀ {k : Nat} {d e : D}, d.blw n = true → D.frz st n k d = some e → e = d := by
  intro k
  induction k with
  | zero =>
    intro d e h1 h2
    cases d <;> first | (cases h2; rfl) | cases h2
  | succ k ih =>
    have hq : ∀ {ds es : List D}, D.blws n ds = true → mapQ (D.frz st n k) ds = some es → es = ds := by
      intro ds
      induction ds with
      | nil => intro es _ h; cases h; rfl
      | cons d ds ih2 =>
        intro es h1 h2
        simp only [D.blws, Bool.and_eq_true] at h1
        unfold mapQ at h2
        cases q : D.frz st n k d with
        | none => rw [q] at h2; cases h2
        | some e =>
          rw [q] at h2
          simp only at h2
          cases q2 : mapQ (D.frz st n k) ds with
          | none => rw [q2] at h2; cases h2
          | some es' =>
            rw [q2] at h2
            cases h2
            rw [ih h1.1 q, ih2 h1.2 q2]
    intro d e h1 h2
    cases d with
    | loc l =>
      unfold D.frz at h2
      rw [if_pos (by simpa [D.blw] using h1)] at h2
      cases h2; rfl
    | tup ds =>
      unfold D.frz at h2
      cases q : mapQ (D.frz st n k) ds with
      | none => rw [q] at h2; cases h2
      | some es => rw [q] at h2; cases h2; rw [hq (by simpa [D.blw] using h1) q]
    | lst ds =>
      unfold D.frz at h2
      cases q : mapQ (D.frz st n k) ds with
      | none => rw [q] at h2; cases h2
      | some es => rw [q] at h2; cases h2; rw [hq (by simpa [D.blw] using h1) q]
    | exc c ns ds =>
      unfold D.frz at h2
      cases q : mapQ (D.frz st n k) ds with
      | none => rw [q] at h2; cases h2
      | some es => rw [q] at h2; cases h2; rw [hq (by simpa [D.blw] using h1) q]
    | _ => cases h2; rfl
def RtP (st : Sto) (r : SRes) (d : D) : Prop := ∃ d' o, r = .rt d' (st ++ o) ∧ D.frz (st ++ o) st.length 30 d' = some d
theorem RtP.fin {st : Sto} {r : SRes} {d : D} (h : RtP st r d) : fin true st r = .ok d st := by
  obtain ⟨d', o, rfl, h⟩ := h
  show finD true st (st ++ o) d' = _
  unfold finD
  rw [if_pos chk_app]
  by_cases hb : d'.blw st.length = true
  · rw [if_pos hb, frz_blw hb h, List.take_left]
  · rw [if_neg hb, if_pos rfl, h, List.take_left]
theorem RtP.enter {st : Sto} {b : SM4} {env : Env} {d : D} (h : RtP st (b env (st ++ [])) d) : FL.fin true st (b env st) = .ok d st := by
  have := h.fin
  rwa [List.append_nil] at this
def NxP (r : SRes) (P : Env → Sto → Prop) : Prop := ∃ env S, r = .nx env S ∧ P env S
def MxP {σ ρ : Type} (st : Sto) (r : SRes) (o : σ ⊕ ρ) (P : σ → Env → Sto → Prop) (e : ρ → D) : Prop := match o with
  | .inl s => NxP r (P s)
  | .inr v => RtP st r (e v)
theorem NxP.enter {st : Sto} {b : SM4} {env : Env} {P : Env → Sto → Prop} (h : NxP (b env (st ++ [])) P) (hp : ∀ e S, P e S → ∃ o, S = st ++ o) : FL.fin true st (b env st) = .ok .non st := by
  obtain ⟨e, S, h1, h2⟩ := h
  obtain ⟨o, rfl⟩ := hp e S h2
  rw [List.append_nil] at h1
  rw [h1]
  exact fin_nx2
section
variable {env env' : Env} {S S' : Sto} {st : Sto} {o o' : List SO} {m : EM} {u v : SM4} {d : D} {P : Env → Sto → Prop} {σ τ ρ : Type} {e : ρ → D}
theorem rt_nx (h : u env S = .nx env' S') (k : RtP st (v env' S') d) : RtP st (sSeq u v env S) d := by
  show RtP st ((u env S).bind v) d
  rw [h]; exact k
theorem nx_nx (h : u env S = .nx env' S') (k : NxP (v env' S') P) : NxP (sSeq u v env S) P := by
  show NxP ((u env S).bind v) P
  rw [h]; exact k
theorem mx_nx {t : σ ⊕ ρ} {Q : σ → Env → Sto → Prop} (h : u env S = .nx env' S') (k : MxP st (v env' S') t Q e) : MxP st (sSeq u v env S) t Q e := by
  show MxP st ((u env S).bind v) t Q e
  rw [h]; exact k
theorem rt_N (h : NxP (u env S) P) (k : ∀ env' S', P env' S' → RtP st (v env' S') d) : RtP st (sSeq u v env S) d := by
  obtain ⟨env', S', h, hp⟩ := h
  exact rt_nx h (k _ _ hp)
theorem nx_N {Q : Env → Sto → Prop} (h : NxP (u env S) P) (k : ∀ env' S', P env' S' → NxP (v env' S') Q) : NxP (sSeq u v env S) Q := by
  obtain ⟨env', S', h, hp⟩ := h
  exact nx_nx h (k _ _ hp)
theorem mx_N {t : σ ⊕ ρ} {Q : σ → Env → Sto → Prop} (h : NxP (u env S) P) (k : ∀ env' S', P env' S' → MxP st (v env' S') t Q e) : MxP st (sSeq u v env S) t Q e := by
  obtain ⟨env', S', h, hp⟩ := h
  exact mx_nx h (k _ _ hp)
theorem nx_end (h : P env S) : NxP (sNext env S) P := ⟨env, S, rfl, h⟩
theorem mx_end {s : σ} {Q : σ → Env → Sto → Prop} (h : Q s env S) : MxP st (sNext env S) (.inl s) Q e := ⟨env, S, rfl, h⟩
theorem rt_ret {v : SM4} (h : m env (st ++ o) = .ok d (st ++ o)) {x : D} (hf : D.frz (st ++ o) st.length 30 d = some x) : RtP st (sSeq (sRet m) v env (st ++ o)) x := by
  refine ⟨d, o, ?_, hf⟩
  show ((sRet m) env (st ++ o)).bind v = _
  rw [sRet_ap, h]; rfl
theorem rt_stop (h : RtP st (u env S) d) : RtP st (sSeq u v env S) d := by
  obtain ⟨d', o, h, hf⟩ := h
  refine ⟨d', o, ?_, hf⟩
  show (u env S).bind v = _
  rw [h]; rfl
theorem fz_c {α : Type} {c : α → D} (h : Flat 20 c) {a : α} {S : Sto} {n : Nat} : D.frz S n 30 (c a) = some (c a) := frz_flt (h a) (by decide)
theorem fz_c' {α : Type} {k : Nat} {c : α → D} (h : Flat k c) (hk : k ≤ 20) {a : α} {S : Sto} {n m : Nat} (hm : 20 ≤ m) : D.frz S n m (c a) = some (c a) := frz_flt (h a) (by omega)
theorem fz_M {α : Type} {c : α → D} (h : Flat 19 c) {xs : List α} {i m : Nat} (ho : o[i]? = some (.lst (xs.map c))) : D.frz (st ++ o) st.length (m + 20) (.loc (st.length + i)) = some (cL c xs) := by
  show (if st.length + i < st.length then _ else match (st ++ o)[st.length + i]? with
    | some (.lst ds) => (match mapQ (D.frz (st ++ o) st.length (m + 19)) ds with
      | some es => some (D.lst es)
      | none => none)
    | _ => none) = _
  rw [if_neg (by omega), lk ho]
  simp only
  rw [mapQ_id fun x hx => by
    obtain ⟨a, _, rfl⟩ := List.mem_map.mp hx
    exact frz_flt (h a) (by omega)]
theorem fz_tup {ds es : List D} {S : Sto} {n k : Nat} (h : mapQ (D.frz S n k) ds = some es) : D.frz S n (k + 1) (.tup ds) = some (.tup es) := by
  unfold D.frz
  rw [h]
theorem fz_nil {S : Sto} {n k : Nat} : mapQ (D.frz S n k) [] = some [] := rfl
theorem fz_cons {x y : D} {ds es : List D} {S : Sto} {n k : Nat} (h : D.frz S n k x = some y) (hs : mapQ (D.frz S n k) ds = some es) : mapQ (D.frz S n k) (x :: ds) = some (y :: es) := by
  unfold mapQ
  rw [h, hs]

theorem do_set {i : Nat} (h : m env S = .ok d S') : sSet i m env S = .nx (env.set i (some d)) S' := by rw [sSet_ap, h, sSet_o1]
theorem do_asg {g : GM} (h : m env S = .ok d S) (hg : g d env S = .ok env' S) : sAsg m g env S = .nx env' S := by rw [sAsg_ap, h, sAsg_o1, hg, sAsg_o2]
theorem do_drop (h : m env S = .ok d S') : sDrop m env S = .nx env S' := by rw [sDrop_ap, h, sDrop_o1]
theorem ev_new {i : Nat} {ms : Env → Sto → Res (List D)} {ds : List D} (h : ms env (st ++ o) = .ok ds (st ++ o)) (hi : o.length = i) : eNew ms env (st ++ o) = .ok (.loc (st.length + i)) (st ++ (o ++ [.lst ds])) := by
  rw [eNew_ap, h, eNew_o1, List.length_append, hi, List.append_assoc]
theorem isLst_M {i : Nat} {ds : List D} (h : o[i]? = some (.lst ds)) : isLst (.loc (st.length + i)) (st ++ o) = true := isLst_loc (lk h)
theorem ap_M {α : Type} {c : α → D} {xs : List α} {i : Nat} {x : α} (h : o[i]? = some (.lst (xs.map c))) (hl : xs.length < 1000000) : apD (.loc (st.length + i)) [c x] (st ++ o) = .ok .non (st ++ o.set i (.lst ((xs ++ [x]).map c))) := by
  rw [apD_loc (lk h) (by simpa using hl), st_set]
  simp
theorem ext_M {α : Type} {c : α → D} {xs ys : List α} {i : Nat} {d : D} (h : o[i]? = some (.lst (xs.map c))) (hd : madeD d (st ++ o) = some (ys.map c)) (hl : xs.length + ys.length < 1000000) : extD (.loc (st.length + i)) [d] (st ++ o) = .ok .non (st ++ o.set i (.lst ((xs ++ ys).map c))) := by
  show (match (st ++ o)[st.length + i]?, madeD d (st ++ o) with
    | some (.lst ds), some es => if ds.length + es.length < 1000000 then Res.ok D.non ((st ++ o).set (st.length + i) (.lst (ds ++ es))) else .bad
    | _, _ => .bad) = _
  rw [lk h, hd]
  simp only [List.length_map, if_pos hl, st_set, List.map_append]
def setI {α : Type} (xs : List α) (i : Int) (x : α) : List α := xs.set (if i < 0 then i + (xs.length : Int) else i).toNat x
theorem put_M {α : Type} {c : α → D} {xs : List α} {i : Nat} {x : α} {j : Int} {mv mo mi : EM} (hv : mv env (st ++ o) = .ok (c x) (st ++ o)) (ho : mo env (st ++ o) = .ok (.loc (st.length + i)) (st ++ o)) (hi : mi env (st ++ o) = .ok (cI j) (st ++ o))
    (h : o[i]? = some (.lst (xs.map c))) (hj : IxOk xs.length j) : sPut mv mo mi env (st ++ o) = .nx env (st ++ o.set i (.lst ((setI xs j x).map c))) := by
  rw [sPut_ap, hv, sPut_o1, ho, sPut_o2, hi, sPut_o3]
  have e : setD (.loc (st.length + i)) (cI j) (c x) (st ++ o) = some (st ++ o.set i (.lst ((setI xs j x).map c))) := by
    show (match (st ++ o)[st.length + i]? with
      | some (.lst ds) => (match ixN ds.length j with
          | some n => some ((st ++ o).set (st.length + i) (.lst (ds.set n (c x))))
          | none => none)
      | some (.dic kvs) => _
      | none => none) = _
    rw [lk h]
    obtain ⟨h1, h2⟩ := hj
    have e1 : ixN (xs.map c).length j = some (if j < 0 then j + (xs.length : Int) else j).toNat := by
      rw [List.length_map]
      unfold ixN
      by_cases h0 : 0 ≤ j
      · rw [if_pos h0, if_pos h2, if_neg (by omega)]
      · rw [if_neg h0, if_pos (by omega), if_pos (by omega), Int.add_comm]
    simp only [e1, st_set]
    unfold setI
    rw [List.map_set]
  rw [e]

section
variable {t : Env → Sto → Res Bool} {c : Bool} {A B : SM4}
theorem sIf_yes (h : t env S = .ok true S) : sIf t A B env S = A env S := by rw [sIf_ap, h, sIf_yes']
where sIf_yes' : sIf_k A B env (.ok true S) = A env S := rfl
theorem sIf_no (h : t env S = .ok false S) : sIf t A B env S = B env S := by rw [sIf_ap, h]; rfl
theorem if_N {P : σ → Env → Sto → Prop} {x y : σ} (h : t env S = .ok c S) (ha : c = true → NxP (A env S) (P x)) (hb : c = false → NxP (B env S) (P y)) : NxP (sIf t A B env S) (P (if c = true then x else y)) := by
  cases c with
  | true => rw [sIf_yes h]; exact ha rfl
  | false => rw [sIf_no h]; exact hb rfl
theorem if_M {P : σ → Env → Sto → Prop} {x y : σ ⊕ ρ} (h : t env S = .ok c S) (ha : c = true → MxP st (A env S) x P e) (hb : c = false → MxP st (B env S) y P e) : MxP st (sIf t A B env S) (if c = true then x else y) P e := by
  cases c with
  | true => rw [sIf_yes h]; exact ha rfl
  | false => rw [sIf_no h]; exact hb rfl
theorem if_RX {x y : ρ} (h : t env S = .ok c S) (ha : c = true → RtP st (A env S) (e x)) (hb : c = false → RtP st (sSeq B v env S) (e y)) : RtP st (sSeq (sIf t A B) v env S) (e (if c = true then x else y)) := by
  cases c with
  | true =>
    refine rt_stop ?_
    rw [sIf_yes h]; exact ha rfl
  | false =>
    show RtP st ((sIf t A B env S).bind v) _
    rw [sIf_no h]; exact hb rfl
theorem mx_stop {P : σ → Env → Sto → Prop} {x : ρ} (h : RtP st (u env S) (e x)) : MxP st (sSeq u v env S) (.inr x) P e := rt_stop h
theorem if_MX {P : σ → Env → Sto → Prop} {x : ρ} {y : σ ⊕ ρ} (h : t env S = .ok c S) (ha : c = true → RtP st (A env S) (e x)) (hb : c = false → MxP st (sSeq B v env S) y P e) : MxP st (sSeq (sIf t A B) v env S) (if c = true then .inr x else y) P e := by
  cases c with
  | true =>
    refine mx_stop ?_
    rw [sIf_yes h]; exact ha rfl
  | false =>
    show MxP st ((sIf t A B env S).bind v) _ _ _
    rw [sIf_no h]; exact hb rfl
end
def outR (t : σ ⊕ ρ) (k : σ → ρ) : ρ := match t with
  | .inl s => k s
  | .inr r => r
def outM (t : σ ⊕ ρ) (k : σ → τ ⊕ ρ) : τ ⊕ ρ := match t with
  | .inl s => k s
  | .inr r => .inr r
theorem rt_M {P : σ → Env → Sto → Prop} {t : σ ⊕ ρ} {k : σ → ρ} (h : MxP st (u env S) t P e) (hk : ∀ s env' S', t = .inl s → P s env' S' → RtP st (v env' S') (e (k s))) : RtP st (sSeq u v env S) (e (outR t k)) := by
  cases t with
  | inl s => exact rt_N h fun env' S' hp => hk s env' S' rfl hp
  | inr r => exact rt_stop h
theorem mx_M {P : σ → Env → Sto → Prop} {Q : τ → Env → Sto → Prop} {t : σ ⊕ ρ} {k : σ → τ ⊕ ρ} (h : MxP st (u env S) t P e) (hk : ∀ s env' S', t = .inl s → P s env' S' → MxP st (v env' S') (k s) Q e) : MxP st (sSeq u v env S) (outM t k) Q e := by
  cases t with
  | inl s => exact mx_N h fun env' S' hp => hk s env' S' rfl hp
  | inr r => exact mx_stop h
end

def cFold {σ X : Type} (c : σ → X → Prop) (t : σ → X → σ) : List X → σ → Prop
  | [], _ => True
  | x :: xs, s => c s x ∧ cFold c t xs (t s x)
theorem for_N {σ X : Type} {E : σ → Env} {O : σ → List SO} {cx : X → D} {c : σ → X → Prop} {t : σ → X → σ} {ks : List Nat} {src : List (Nat × List D)} {g : GM} {body : SM4} {st : Sto}
    (hs : ∀ s, stillB src (st ++ O s) = true) (hl : ∀ s s', (O s).length = (O s').length)
    (hb : ∀ s x, c s x → ∃ env1, g (cx x) (E s) (st ++ O s) = .ok env1 (st ++ O s) ∧ NxP (body env1 (st ++ O s)) (fun env S => kill ks env = E (t s x) ∧ S = st ++ O (t s x))) :
    ∀ (xs : List X) (s : σ), cFold c t xs s → loopF (some ks) src g body (xs.map cx) (E s) (st ++ O s) = .nx (E (xs.foldl t s)) (st ++ O (xs.foldl t s))
  | [], s, _ => loopF_nil (hs s)
  | x :: xs, s, ⟨h1, h2⟩ => by
    obtain ⟨env1, k1, env2, S2, k2, k3, rfl⟩ := hb s x h1
    rw [List.map_cons, loopF_cons (hs s) k1 k2, show ks.foldl (fun e k => e.set k none) env2 = kill ks env2 from rfl, k3,
      shrink_len (by rw [List.length_append, List.length_append, hl (t s x) s])]
    exact for_N hs hl hb xs (t s x) h2
theorem do_for {σ X : Type} {E : σ → Env} {O : σ → List SO} {cx : X → D} {c : σ → X → Prop} {t : σ → X → σ} {ks : List Nat} {src : List (Nat × List D)} {mi : IM} {g : GM} {body : SM4} {st : Sto} {env : Env} {xs : List X} {s : σ}
    (hi : mi env (st ++ O s) = .ok (xs.map cx, src) (st ++ O s)) (hk : kill ks env = E s) (hs : ∀ s, stillB src (st ++ O s) = true) (hl : ∀ s s', (O s).length = (O s').length)
    (hb : ∀ s x, c s x → ∃ env1, g (cx x) (E s) (st ++ O s) = .ok env1 (st ++ O s) ∧ NxP (body env1 (st ++ O s)) (fun env S => kill ks env = E (t s x) ∧ S = st ++ O (t s x)))
    (hc : cFold c t xs s) : sFor (some ks) mi g body env (st ++ O s) = .nx (E (xs.foldl t s)) (st ++ O (xs.foldl t s)) := by
  rw [sFor_ap, hi, sFor_o1]
  show loopF (some ks) src g body (xs.map cx) (kill ks env) (st ++ O s) = _
  rw [hk]
  exact for_N hs hl hb xs s hc

def forR {σ X ρ : Type} (t : σ → X → σ ⊕ ρ) : List X → σ → σ ⊕ ρ
  | [], s => .inl s
  | x :: xs, s => match t s x with
    | .inl s' => forR t xs s'
    | .inr r => .inr r
def cForR {σ X ρ : Type} (c : σ → X → Prop) (t : σ → X → σ ⊕ ρ) : List X → σ → Prop
  | [], _ => True
  | x :: xs, s => c s x ∧ ∀ s', t s x = .inl s' → cForR c t xs s'
theorem for_M {σ X ρ : Type} {E : σ → Env} {O : σ → List SO} {cx : X → D} {e : ρ → D} {c : σ → X → Prop} {t : σ → X → σ ⊕ ρ} {ks : List Nat} {src : List (Nat × List D)} {g : GM} {body : SM4} {st : Sto}
    (hs : ∀ s, stillB src (st ++ O s) = true) (hl : ∀ s s', (O s).length = (O s').length)
    (hb : ∀ s x, c s x → ∃ env1, g (cx x) (E s) (st ++ O s) = .ok env1 (st ++ O s) ∧ MxP st (body env1 (st ++ O s)) (t s x) (fun s' env S => kill ks env = E s' ∧ S = st ++ O s') e) :
    ∀ (xs : List X) (s : σ), cForR c t xs s → MxP st (loopF (some ks) src g body (xs.map cx) (E s) (st ++ O s)) (forR t xs s) (fun s' env S => env = E s' ∧ S = st ++ O s') e
  | [], s, _ => ⟨_, _, loopF_nil (hs s), rfl, rfl⟩
  | x :: xs, s, ⟨h1, h2⟩ => by
    obtain ⟨env1, k1, k2⟩ := hb s x h1
    unfold forR
    cases q : t s x with
    | inl s' =>
      rw [q] at k2
      obtain ⟨env2, S2, k2, k3, rfl⟩ := k2
      rw [List.map_cons, loopF_cons (hs s) k1 k2, show ks.foldl (fun e k => e.set k none) env2 = kill ks env2 from rfl, k3,
        shrink_len (by rw [List.length_append, List.length_append, hl s' s])]
      exact for_M hs hl hb xs s' (h2 s' q)
    | inr r =>
      rw [q] at k2
      obtain ⟨d', o, k2, k3⟩ := k2
      refine ⟨d', o, ?_, k3⟩
      rw [List.map_cons]
      show (if stillB src (st ++ O s) = true then (match g (cx x) (E s) (st ++ O s) with
        | .ok env1 st1 => (body env1 st1).bind _
        | _ => .bad) else .bad) = _
      rw [if_pos (hs s), k1]
      simp only [k2, SRes.bind_rt]
theorem do_forM {σ X ρ : Type} {E : σ → Env} {O : σ → List SO} {cx : X → D} {e : ρ → D} {c : σ → X → Prop} {t : σ → X → σ ⊕ ρ} {ks : List Nat} {src : List (Nat × List D)} {mi : IM} {g : GM} {body : SM4} {st : Sto} {env : Env} {xs : List X} {s : σ}
    (hi : mi env (st ++ O s) = .ok (xs.map cx, src) (st ++ O s)) (hk : kill ks env = E s) (hs : ∀ s, stillB src (st ++ O s) = true) (hl : ∀ s s', (O s).length = (O s').length)
    (hb : ∀ s x, c s x → ∃ env1, g (cx x) (E s) (st ++ O s) = .ok env1 (st ++ O s) ∧ MxP st (body env1 (st ++ O s)) (t s x) (fun s' env S => kill ks env = E s' ∧ S = st ++ O s') e)
    (hc : cForR c t xs s) : MxP st (sFor (some ks) mi g body env (st ++ O s)) (forR t xs s) (fun s' env S => env = E s' ∧ S = st ++ O s') e := by
  rw [sFor_ap, hi, sFor_o1]
  show MxP st (loopF (some ks) src g body (xs.map cx) (kill ks env) (st ++ O s)) _ _ _
  rw [hk]
  exact for_M hs hl hb xs s hc

def whT {σ : Type} (b : σ → Bool) (t : σ → σ) : Nat → σ → σ
  | 0, s => s
  | n + 1, s => if b s = true then whT b t n (t s) else s
def whC {σ : Type} (cb : σ → Prop) (b : σ → Bool) (c : σ → Prop) (t : σ → σ) : Nat → σ → Prop
  | 0, _ => False
  | n + 1, s => cb s ∧ (b s = true → c s ∧ whC cb b c t n (t s))
theorem while_N {σ : Type} {E : σ → Env} {O : σ → List SO} {cb c : σ → Prop} {b : σ → Bool} {t : σ → σ} {ks : List Nat} {tc : Env → Sto → Res Bool} {body : SM4} {st : Sto}
    (hl : ∀ s s', (O s).length = (O s').length)
    (ht : ∀ s, cb s → tc (E s) (st ++ O s) = .ok (b s) (st ++ O s))
    (hb : ∀ s, b s = true → c s → NxP (body (E s) (st ++ O s)) (fun env S => kill ks env = E (t s) ∧ S = st ++ O (t s))) :
    ∀ (n : Nat) (s : σ), whC cb b c t n s → whileF (some ks) tc body n (E s) (st ++ O s) = .nx (E (whT b t n s)) (st ++ O (whT b t n s))
  | 0, s, h => h.elim
  | n + 1, s, ⟨h1, h2⟩ => by
    show ((tc (E s) (st ++ O s)).on (E s) _) = _
    rw [ht s h1]
    unfold whT
    cases q : b s with
    | false => simp only [Res.on_ok, Bool.false_eq_true, if_false]
    | true =>
      obtain ⟨h3, h4⟩ := h2 q
      obtain ⟨env2, S2, k2, k3, rfl⟩ := hb s q h3
      simp only [Res.on_ok, if_true, k2, SRes.bind_nx]
      rw [show ks.foldl (fun e k => e.set k none) env2 = kill ks env2 from rfl, k3, shrink_len (by rw [List.length_append, List.length_append, hl (t s) s])]
      exact while_N hl ht hb n (t s) h4
theorem do_while {σ : Type} {E : σ → Env} {O : σ → List SO} {cb c : σ → Prop} {b : σ → Bool} {t : σ → σ} {ks : List Nat} {tc : Env → Sto → Res Bool} {body : SM4} {st : Sto} {n : Nat} {env : Env} {s : σ}
    (hk : kill ks env = E s) (hl : ∀ s s', (O s).length = (O s').length)
    (ht : ∀ s, cb s → tc (E s) (st ++ O s) = .ok (b s) (st ++ O s))
    (hb : ∀ s, b s = true → c s → NxP (body (E s) (st ++ O s)) (fun env S => kill ks env = E (t s) ∧ S = st ++ O (t s)))
    (hc : whC cb b c t n s) : sWhile n (some ks) tc body env (st ++ O s) = .nx (E (whT b t n s)) (st ++ O (whT b t n s)) := by
  rw [sWhile_ap]
  show whileF (some ks) tc body n (kill ks env) (st ++ O s) = _
  rw [hk]
  exact while_N hl ht hb n s hc
end FL

namespace FL
open PySem PySem.Spec PyProof.Rows L2
variable [TabCtx]
theorem NxP.mono {r : SRes} {P Q : Env → Sto → Prop} (h : NxP r P) (i : ∀ e S, P e S → Q e S) : NxP r Q := by
  obtain ⟨e, S, h1, h2⟩ := h
  exact ⟨e, S, h1, i _ _ h2⟩
theorem MxP.mono {σ ρ : Type} {st : Sto} {r : SRes} {o : σ ⊕ ρ} {P Q : σ → Env → Sto → Prop} {e : ρ → D} (h : MxP st r o P e) (i : ∀ s e S, P s e S → Q s e S) : MxP st r o Q e := by
  cases o with
  | inl s => exact NxP.mono h (i s)
  | inr v => exact h
theorem is_O {α : Type} {c : α → D} (h : ∀ a, isNon (c a) = false) {a : Option α} {S : Sto} : isD (cO c a) .non S = .ok (cB a.isNone) S := by
  cases a with
  | none => rfl
  | some a => show Res.ok (D.bl (isNon (c a))) S = _; rw [h]; rfl
theorem dic_M {st : Sto} {o : List SO} {i : Nat} {ds : List D} (h : o[i]? = some (.lst ds)) : dicD (.loc (st.length + i)) (st ++ o) = none := dicD_loc (lk h)

theorem sort_I {xs : List Int} {d : D} {S : Sto} (h : lstD d S = some (xs.map cI)) (hd : dicD d S = none) : sortB2 [d] S = .ok ((srtI xs).map cI) S := by
  have e : intsD (xs.map cI) = some xs := intsD_map xs
  show (match dicD d S with
    | some _ => sortB [d] S
    | none => match lstD d S with
      | some ds => match intsD ds with
        | some _ => sortB [d] S
        | none => _
      | none => .bad) = _
  rw [hd, h]
  simp only [e]
  show (match dicD d S with
    | some _ => _
    | none => match lstD d S with
      | some ds => match intsD ds with
        | some ns => Res.ok ((srtI ns).map D.int) S
        | none => .bad
      | none => .bad) = _
  rw [hd, h]
  simp only [e]
def insY {α : Type} (key : α → TKey) (a : α) : List α → List α
  | [] => [a]
  | b :: r => if ltK (key b) (key a) = true then b :: insY key a r else a :: b :: r
def srtY {α : Type} (key : α → TKey) : List α → List α
  | [] => []
  | a :: r => insY key a (srtY key r)
theorem insY_map {α : Type} {key : α → TKey} {c : α → D} {a : α} : ∀ {l : List α}, insT (key a, c a) (l.map fun x => (key x, c x)) = (insY key a l).map fun x => (key x, c x)
  | [] => rfl
  | b :: l => by
    rw [List.map_cons]
    unfold insT insY
    split
    · rw [List.map_cons, insY_map]
    · rfl
theorem srtY_map {α : Type} {key : α → TKey} {c : α → D} : ∀ {l : List α}, srtT (l.map fun x => (key x, c x)) = (srtY key l).map fun x => (key x, c x)
  | [] => rfl
  | a :: l => by
    rw [List.map_cons]
    unfold srtT srtY
    rw [srtY_map, insY_map]
def isStrD : D → Bool
  | .str _ => true
  | _ => false
def KeyOk {α : Type} (c : α → D) (key : α → TKey) : Prop := ∃ sh : Nat → Bool, ∀ a, ∃ e es, c a = .tup (e :: es) ∧ itemsK sh 0 (e :: es) = some (key a) ∧ ∀ r, shapeOf (c a :: r) = sh
theorem key_P {α : Type} {c : α → D} {key : α → TKey} (sh : List Bool) {e : α → D} {es : α → List D} (h1 : ∀ a, c a = .tup (e a :: es a) ∧ (e a :: es a).map isStrD = sh) (h2 : ∀ a, itemsK (fun i => sh.getD i false) 0 (e a :: es a) = some (key a)) : KeyOk c key := by
  refine ⟨fun i => sh.getD i false, fun a => ⟨e a, es a, (h1 a).1, h2 a, fun r => ?_⟩⟩
  funext i
  rw [(h1 a).1, ← (h1 a).2]
  show (match (e a :: es a)[i]? with | some (.str _) => true | _ => false) = _
  rw [List.getD_eq_getElem?_getD, List.getElem?_map]
  cases (e a :: es a)[i]? with
  | none => rfl
  | some d => cases d <;> rfl
theorem tupK_map {α : Type} {c : α → D} {key : α → TKey} {sh : Nat → Bool} (h : ∀ a, ∃ e es, c a = .tup (e :: es) ∧ itemsK sh 0 (e :: es) = some (key a)) : ∀ xs : List α, tupK sh (xs.map c) = some (xs.map fun a => (key a, c a))
  | [] => rfl
  | a :: xs => by
    obtain ⟨e, es, h1, h2⟩ := h a
    rw [List.map_cons, List.map_cons, h1]
    unfold tupK
    rw [h2, tupK_map h xs]
theorem sort_Y {α : Type} {c : α → D} {key : α → TKey} (hk : KeyOk c key) {xs : List α} {d : D} {S : Sto} (hd : dicD d S = none) (h : lstD d S = some (xs.map c)) : sortB2 [d] S = .ok ((srtY key xs).map c) S := by
  obtain ⟨sh, hk⟩ := hk
  cases xs with
  | nil => exact sort_I (xs := []) h hd
  | cons a xs =>
    obtain ⟨e, es, h1, h2, h3⟩ := hk a
    have hn : intsD ((a :: xs).map c) = none := by rw [List.map_cons, h1]; rfl
    rw [sort_any hd h hn (l := (a :: xs).map fun a => (key a, c a)) (by
      rw [List.map_cons, h3]
      exact tupK_map (fun a => by obtain ⟨e, es, k1, k2, _⟩ := hk a; exact ⟨e, es, k1, k2⟩) (a :: xs)), srtY_map, List.map_map]
    rfl
theorem insY_perm {α : Type} {key : α → TKey} {a : α} : ∀ l, (insY key a l).Perm (a :: l)
  | [] => .refl _
  | q :: r => by
    unfold insY
    split
    · exact ((insY_perm r).cons q).trans (.swap a q r)
    · exact .refl _
theorem srtY_perm {α : Type} {key : α → TKey} : ∀ l : List α, (srtY key l).Perm l
  | [] => .refl _
  | p :: r => (insY_perm _).trans ((srtY_perm r).cons p)
theorem insY_mono {α : Type} {key : α → TKey} {p : α} : ∀ {l : List α}, l.Pairwise (fun a b => ltK (key b) (key a) = false) → (insY key p l).Pairwise (fun a b => ltK (key b) (key a) = false)
  | [], _ => by simp [insY]
  | q :: r, h => by
    obtain ⟨h1, h2⟩ := List.pairwise_cons.mp h
    unfold insY
    split
    · rename_i hc
      refine List.pairwise_cons.mpr ⟨fun b hb => ?_, insY_mono h2⟩
      rcases List.mem_cons.mp ((insY_perm r).mem_iff.mp hb) with rfl | hb
      · exact ltK_asymm hc
      · exact h1 b hb
    · rename_i hc
      have hc : ltK (key q) (key p) = false := by simpa using hc
      refine List.pairwise_cons.mpr ⟨fun b hb => ?_, h⟩
      rcases List.mem_cons.mp hb with rfl | hb
      · exact hc
      · exact ltK_trans hc (h1 b hb)
theorem srtY_mono {α : Type} {key : α → TKey} : ∀ l : List α, (srtY key l).Pairwise (fun a b => ltK (key b) (key a) = false)
  | [] => .nil
  | _ :: r => insY_mono (srtY_mono r)

theorem ev_nCat {α : Type} {c : α → D} {xs ys : List α} {ma mb : EM} {env : Env} {d e : D} {S : Sto} (ha : ma env S = .ok d S) (hb : mb env S = .ok e S) (h1 : madeD d S = some (xs.map c)) (h2 : madeD e S = some (ys.map c)) (hl : xs.length + ys.length ≤ 1000000) :
    nCat ma mb env S = .ok ((xs ++ ys).map c) S := by
  show (ma env S).bind _ = _
  rw [ha]
  show (mb env S).bind _ = _
  rw [hb]
  show (match madeD d S, madeD e S with
    | some xs, some ys => if xs.length + ys.length ≤ 1000000 then Res.ok (xs ++ ys) S else .bad
    | _, _ => .bad) = _
  rw [h1, h2]
  simp only [List.length_map, if_pos hl, List.map_append]
def insI2 {α : Type} (xs : List α) (i : Int) (x : α) : List α := xs.take i.toNat ++ [x] ++ xs.drop i.toNat
theorem ins_M {α : Type} {c : α → D} {xs : List α} {st : Sto} {o : List SO} {i : Nat} {j : Int} {x : α} (h : o[i]? = some (.lst (xs.map c))) (hl : xs.length < 1000000 ∧ 0 ≤ j ∧ j < 2 ^ 62) :
    insD (.loc (st.length + i)) [cI j, c x] (st ++ o) = .ok .non (st ++ o.set i (.lst ((insI2 xs j x).map c))) := by
  show (match (st ++ o)[st.length + i]? with
    | some (.lst ds) => if ds.length < 1000000 ∧ 0 ≤ j ∧ j < 2 ^ 62 then Res.ok D.non ((st ++ o).set (st.length + i) (.lst (ds.take j.toNat ++ [c x] ++ ds.drop j.toNat))) else .bad
    | _ => .bad) = _
  rw [lk h]
  simp only [List.length_map, if_pos hl, st_set]
  unfold insI2
  simp

def hasK {α : Type} (l : List (Int × α)) (k : Int) : Bool := l.any fun p => decide (p.1 = k)
def putK {α : Type} (l : List (Int × α)) (k : Int) (a : α) : List (Int × α) := if hasK l k = true then l.map (fun p => if p.1 = k then (p.1, a) else p) else l ++ [(k, a)]
end FL

namespace FL
open PySem
variable [TabCtx]

def shI (t b : Int) : Int := if b < 0 then -(Int.gcd t b : Int) else (Int.gcd t b : Int)
def lowI (t b : Int) : Int × Int := (t.fdiv (shI t b), b.fdiv (shI t b))
theorem gcdI_pos {t b : Int} (hb : b ≠ 0) : 0 < Int.gcd t b := Int.gcd_pos_of_ne_zero_right _ hb
theorem gcdI_le {t b : Int} (hb : b ≠ 0) : Int.gcd t b ≤ b.natAbs := Nat.gcd_le_right _ (by omega)
theorem shI_ne {t b : Int} (hb : b ≠ 0) : shI t b ≠ 0 := by
  have := gcdI_pos (t := t) hb
  unfold shI
  split <;> omega
theorem shI_abs {t b : Int} : (shI t b).natAbs = Int.gcd t b := by unfold shI; split <;> omega
theorem neg_mul_neg_pos' {s v : Int} (hs : s < 0) (h : s * v < 0) : 0 < v := by
  rcases Int.lt_or_le 0 v with h1 | h1
  · exact h1
  · have := Int.mul_nonneg_of_nonpos_of_nonpos (Int.le_of_lt hs) h1
    omega
theorem pos_mul_pos' {s v : Int} (hs : 0 < s) (h : 0 < s * v) : 0 < v := by
  rcases Int.lt_or_le 0 v with h1 | h1
  · exact h1
  · have := Int.mul_nonpos_of_nonneg_of_nonpos (Int.le_of_lt hs) h1
    omega
theorem lowI_facts {t b : Int} (hb : b ≠ 0) : 1 ≤ (lowI t b).2 ∧ Int.gcd (lowI t b).1 (lowI t b).2 = 1 ∧ (lowI t b).1 * b = t * (lowI t b).2 ∧ (lowI t b).1.natAbs ≤ t.natAbs ∧ (lowI t b).2.natAbs ≤ b.natAbs := by
  have hg := gcdI_pos (t := t) hb
  have hs := shI_ne (t := t) hb
  have ea := shI_abs (t := t) (b := b)
  have d1 : shI t b ∣ t := by
    rw [← Int.natAbs_dvd_natAbs, ea]
    exact Nat.gcd_dvd_left _ _
  have d2 : shI t b ∣ b := by
    rw [← Int.natAbs_dvd_natAbs, ea]
    exact Nat.gcd_dvd_right _ _
  obtain ⟨u, hu⟩ := d1
  obtain ⟨v, hv⟩ := d2
  have ex : t.fdiv (shI t b) = u := by
    have : (shI t b * u).fdiv (shI t b) = u := Int.mul_fdiv_cancel_left _ hs
    rw [← hu] at this
    exact this
  have ey : b.fdiv (shI t b) = v := by
    have : (shI t b * v).fdiv (shI t b) = v := Int.mul_fdiv_cancel_left _ hs
    rw [← hv] at this
    exact this
  have hp : 0 < v := by
    by_cases hneg : b < 0
    · have : shI t b < 0 := by unfold shI; rw [if_pos hneg]; omega
      exact neg_mul_neg_pos' this (by rw [← hv]; exact hneg)
    · have : 0 < shI t b := by unfold shI; rw [if_neg hneg]; omega
      exact pos_mul_pos' this (by rw [← hv]; omega)
  unfold lowI
  simp only [ex, ey]
  refine ⟨by omega, ?_, ?_, ?_, ?_⟩
  · have h1 : Int.gcd (shI t b * u) (shI t b * v) = (shI t b).natAbs * Int.gcd u v := Int.gcd_mul_left ..
    rw [← hu, ← hv, ea] at h1
    have h2 : Int.gcd t b * 1 = Int.gcd t b * Int.gcd u v := by rw [Nat.mul_one]; exact h1
    exact (Nat.eq_of_mul_eq_mul_left hg h2).symm
  · calc u * b = u * (shI t b * v) := by rw [← hv]
      _ = (shI t b * u) * v := by rw [← Int.mul_assoc, Int.mul_comm u]
      _ = t * v := by rw [← hu]
  · have : t.natAbs = (shI t b).natAbs * u.natAbs := by conv => lhs; rw [hu, Int.natAbs_mul]
    rw [this]
    exact Nat.le_mul_of_pos_left _ (by omega)
  · have : b.natAbs = (shI t b).natAbs * v.natAbs := by conv => lhs; rw [hv, Int.natAbs_mul]
    rw [this]
    exact Nat.le_mul_of_pos_left _ (by omega)
theorem lowI_low {x y : Int} (hy : 1 ≤ y) (hg : Int.gcd x y = 1) : lowI x y = (x, y) := by
  have e : shI x y = 1 := by unfold shI; rw [if_neg (by omega), hg]; rfl
  unfold lowI
  rw [e, Int.fdiv_one, Int.fdiv_one]
theorem dvd_cop {k m n : Int} (h : k ∣ m * n) (hg : Int.gcd k m = 1) : k ∣ n := by
  rw [← Int.natAbs_dvd_natAbs] at h ⊢
  rw [Int.natAbs_mul] at h
  exact Nat.Coprime.dvd_of_dvd_mul_left hg h
theorem lowI_inj {t b t' b' : Int} (hb : b ≠ 0) (hb' : b' ≠ 0) (h : t * b' = t' * b) : lowI t b = lowI t' b' := by
  obtain ⟨p1, p2, p3, _, _⟩ := lowI_facts (t := t) hb
  obtain ⟨q1, q2, q3, _, _⟩ := lowI_facts (t := t') hb'
  generalize lowI t b = p at *
  generalize lowI t' b' = q at *
  obtain ⟨x, y⟩ := p
  obtain ⟨u, v⟩ := q
  simp only at *
  have hbb : b * b' ≠ 0 := Int.mul_ne_zero hb hb'
  have e : x * v = u * y := by
    have h1 : (x * v) * (b * b') = (u * y) * (b * b') := by
      calc (x * v) * (b * b') = (x * b) * (v * b') := by
            rw [Int.mul_assoc, Int.mul_assoc]; congr 1; rw [← Int.mul_assoc, ← Int.mul_assoc, Int.mul_comm v b]
        _ = (t * y) * (v * b') := by rw [p3]
        _ = (t * b') * (y * v) := by
            rw [Int.mul_assoc, Int.mul_assoc]; congr 1; rw [← Int.mul_assoc, Int.mul_comm]
        _ = (t' * b) * (y * v) := by rw [h]
        _ = (t' * v) * (y * b) := by
            rw [Int.mul_assoc, Int.mul_assoc]; congr 1; rw [Int.mul_comm y v, ← Int.mul_assoc, Int.mul_comm b v, Int.mul_assoc, Int.mul_comm b y]
        _ = (u * b') * (y * b) := by rw [q3]
        _ = (u * y) * (b * b') := by
            rw [Int.mul_assoc, Int.mul_assoc]; congr 1; rw [Int.mul_comm b' (y * b), Int.mul_assoc]
    exact Int.eq_of_mul_eq_mul_right hbb h1
  have d1 : x ∣ u := by
    have : x ∣ y * u := ⟨v, by rw [Int.mul_comm, ← e]⟩
    exact dvd_cop this p2
  have d2 : y ∣ v := by
    have : y ∣ x * v := ⟨u, by rw [e, Int.mul_comm]⟩
    exact dvd_cop this (by rw [Int.gcd_comm]; exact p2)
  have d3 : v ∣ y := by
    have : v ∣ u * y := ⟨x, by rw [← e, Int.mul_comm]⟩
    exact dvd_cop this (by rw [Int.gcd_comm]; exact q2)
  have ey : y = v := Int.dvd_antisymm (by omega) (by omega) d2 d3
  subst ey
  have : x = u := Int.eq_of_mul_eq_mul_right (by omega : y ≠ 0) e
  rw [this]

theorem gcd_wh {cb c : Int × Int → Prop} {b : Int × Int → Bool} {t : Int × Int → Int × Int} (hcb : ∀ s, cb s) (hb : ∀ x y, 0 ≤ y → b (x, y) = decide (0 < y)) (hc : ∀ x y, 0 < y → c (x, y)) (ht : ∀ x y, t (x, y) = (y, Int.fmod x y)) :
    ∀ (n : Nat) (x y : Int), 0 ≤ x → 0 ≤ y → y.toNat < n → whC cb b c t n (x, y) ∧ whT b t n (x, y) = ((Int.gcd x y : Int), 0)
  | 0, _, _, _, _, h => absurd h (by omega)
  | n + 1, x, y, hx, hy, hn => by
    unfold whC whT
    rw [hb x y hy, ht]
    by_cases h0 : 0 < y
    · have h1 := Int.emod_nonneg x (show y ≠ 0 by omega)
      have h2 := Int.emod_lt_of_pos x h0
      have em : Int.fmod x y = x % y := Int.fmod_eq_emod_of_nonneg _ (by omega)
      obtain ⟨i1, i2⟩ := gcd_wh hcb hb hc ht n y (Int.fmod x y) (by omega) (by omega) (by omega)
      rw [decide_eq_true h0]
      refine ⟨⟨hcb _, fun _ => ⟨hc x y h0, i1⟩⟩, ?_⟩
      rw [if_pos rfl, i2, em]
      congr 1
      have : Int.gcd y (x % y) = Int.gcd x y := by
        rw [Int.gcd_comm x y]
        have k := Int.gcd_add_mul_left_right y (x % y) (x / y)
        rw [Int.emod_add_mul_ediv] at k
        exact k.symm
      rw [this]
    · have e0 : y = 0 := by omega
      subst e0
      refine ⟨⟨hcb _, fun h => absurd h (by simp)⟩, ?_⟩
      simp only [Int.lt_irrefl, decide_false, Bool.false_eq_true, if_false, Int.gcd_zero_right]
      congr 1
      omega

theorem mulOk_of {a b : Int} (h : a.natAbs < 2 ^ 2000) (h' : b.natAbs < 2 ^ 2000) : MulK a b := by
  have := log_lt h (by decide); have := log_lt h' (by decide)
  exact Or.inl (by omega)
theorem mulOk_s {a b : Int} (h : -(2 ^ 64) < a ∧ a < 2 ^ 64) (h' : -(2 ^ 64) < b ∧ b < 2 ^ 64) : MulK a b := by
  have := log_small h.1 h.2; have := log_small h'.1 h'.2
  exact Or.inl (by omega)
theorem divOk_of {b : Int} (h0 : b ≠ 0) (h : b.natAbs < 2 ^ 2000) : DivOk b := ⟨h0, by have := log_lt h (by decide); omega⟩
theorem divOk_sh {t b : Int} (hb : b ≠ 0) (h : b.natAbs < 2 ^ 2000) : DivOk (shI t b) := divOk_of (shI_ne hb) (by rw [shI_abs]; exact Nat.lt_of_le_of_lt (gcdI_le hb) h)
theorem fuelB_gt {y : Int} (h : y.natAbs < 2 ^ 2000) : y.toNat < fuelB := fuelB_lt (by omega)
theorem small_I {i : Int} (h : -1000000000 ≤ i ∧ i ≤ 1000000000) : smallI i := h

theorem cFold_inv {σ X : Type} {c : σ → X → Prop} {t : σ → X → σ} (P : σ → Prop) : ∀ {xs : List X} {s : σ}, (∀ s x, x ∈ xs → P s → c s x ∧ P (t s x)) → P s → cFold c t xs s ∧ P (xs.foldl t s)
  | [], s, _, hp => ⟨trivial, hp⟩
  | x :: xs, s, h, hp => by
    obtain ⟨h1, h2⟩ := h s x List.mem_cons_self hp
    obtain ⟨h3, h4⟩ := cFold_inv P (xs := xs) (s := t s x) (fun s y hy => h s y (List.mem_cons_of_mem _ hy)) h2
    exact ⟨⟨h1, h3⟩, h4⟩
theorem cFold_pre {σ X : Type} {c : σ → X → Prop} {t : σ → X → σ} (P : List X → σ → Prop) {xs : List X} : ∀ {ys pre : List X} {s : σ}, xs = pre ++ ys → (∀ pre x post s, xs = pre ++ x :: post → P pre s → c s x ∧ P (pre ++ [x]) (t s x)) → P pre s → cFold c t ys s ∧ P xs (ys.foldl t s)
  | [], pre, s, e, _, hp => ⟨trivial, by rw [e, List.append_nil]; exact hp⟩
  | x :: ys, pre, s, e, h, hp => by
    obtain ⟨h1, h2⟩ := h pre x ys s e hp
    obtain ⟨h3, h4⟩ := cFold_pre P (xs := xs) (ys := ys) (pre := pre ++ [x]) (by rw [e, List.append_assoc]; rfl) h h2
    exact ⟨⟨h1, h3⟩, h4⟩
theorem cFold_pre0 {σ X : Type} {c : σ → X → Prop} {t : σ → X → σ} (P : List X → σ → Prop) {xs : List X} {s : σ} (h : ∀ pre x post s, xs = pre ++ x :: post → P pre s → c s x ∧ P (pre ++ [x]) (t s x)) (h0 : P [] s) : cFold c t xs s ∧ P xs (xs.foldl t s) :=
  cFold_pre P (ys := xs) (pre := []) rfl h h0
theorem any_congr {α : Type} {p q : α → Bool} : ∀ {l : List α}, (∀ x ∈ l, p x = q x) → l.any p = l.any q
  | [], _ => rfl
  | a :: l, h => by rw [List.any_cons, List.any_cons, h a List.mem_cons_self, any_congr fun x hx => h x (List.mem_cons_of_mem _ hx)]
theorem cForR_all {σ X ρ : Type} {c : σ → X → Prop} {t : σ → X → σ ⊕ ρ} : ∀ {xs : List X} {s : σ}, (∀ s x, x ∈ xs → c s x) → cForR c t xs s
  | [], _, _ => trivial
  | x :: xs, s, h => ⟨h s x List.mem_cons_self, fun s' _ => cForR_all fun s y hy => h s y (List.mem_cons_of_mem _ hy)⟩
theorem forR_unit {X ρ : Type} {t : Unit → X → Unit ⊕ ρ} {p : X → Bool} {r : ρ} : ∀ {xs : List X}, (∀ x ∈ xs, t () x = if p x = true then .inr r else .inl ()) → forR t xs () = if xs.any p = true then .inr r else .inl ()
  | [], _ => rfl
  | x :: xs, h => by
    unfold forR
    rw [h x List.mem_cons_self, List.any_cons]
    cases p x with
    | true => rfl
    | false =>
      simp only [Bool.false_eq_true, if_false, Bool.false_or]
      exact forR_unit fun y hy => h y (List.mem_cons_of_mem _ hy)
theorem forR_find {X ρ : Type} {t : Unit → X → Unit ⊕ ρ} {f : X → Option ρ} : ∀ {xs : List X}, (∀ x ∈ xs, t () x = match f x with | some r => .inr r | none => .inl ()) → forR t xs () = match xs.findSome? f with | some r => .inr r | none => .inl ()
  | [], _ => rfl
  | x :: xs, h => by
    unfold forR
    rw [h x List.mem_cons_self, List.findSome?_cons]
    cases f x with
    | some r => rfl
    | none => exact forR_find fun y hy => h y (List.mem_cons_of_mem _ hy)

theorem getI_nat {α : Type} [Inhabited α] {xs : List α} {k : Nat} : getI xs (k : Int) = xs.getD k default := by
  unfold getI
  rw [if_neg (by omega)]
  rfl
theorem getI_ge {α : Type} [Inhabited α] {xs : List α} {i : Int} (h : 0 ≤ i) : getI xs i = xs.getD i.toNat default := by
  unfold getI
  rw [if_neg (by omega)]
theorem getI_mem {α : Type} [Inhabited α] {xs : List α} {i : Int} (h : IxOk xs.length i) : getI xs i ∈ xs := by
  obtain ⟨h1, h2⟩ := h
  unfold getI
  rw [List.getD_eq_getElem?_getD, List.getElem?_eq_getElem (by split <;> omega)]
  exact List.getElem_mem _
theorem getI_map {α β : Type} [Inhabited α] [Inhabited β] {f : α → β} {xs : List α} {i : Int} (h : IxOk xs.length i) : getI (xs.map f) i = f (getI xs i) := by
  obtain ⟨h1, h2⟩ := h
  unfold getI
  rw [List.length_map, List.getD_eq_getElem?_getD, List.getD_eq_getElem?_getD, List.getElem?_map, List.getElem?_eq_getElem (by split <;> omega)]
  rfl
theorem ixOk_of {n : Nat} {i : Int} (h : 0 ≤ i) (h2 : i < n) : IxOk n i := ⟨by omega, h2⟩
theorem mem_rngI {a b x : Int} : x ∈ rngI a b ↔ a ≤ x ∧ x < b := by
  unfold rngI
  rw [List.mem_map]
  constructor
  · rintro ⟨k, hk, rfl⟩
    rw [List.mem_range] at hk
    omega
  · intro h
    exact ⟨(x - a).toNat, by rw [List.mem_range]; omega, by omega⟩
theorem enumI_map {α β : Type} {f : α → β} {xs : List α} : enumI (xs.map f) = (enumI xs).map fun p => (p.1, f p.2) := by
  unfold enumI
  rw [List.zipIdx_map, List.map_map, List.map_map]
  rfl
theorem mem_enumI {α : Type} {xs : List α} {p : Int × α} : p ∈ enumI xs ↔ ∃ k : Nat, p.1 = (k : Int) ∧ xs[k]? = some p.2 := by
  unfold enumI
  rw [List.mem_map]
  constructor
  · rintro ⟨⟨x, k⟩, h, rfl⟩
    rw [List.mem_zipIdx_iff_getElem?] at h
    exact ⟨k, rfl, h⟩
  · rintro ⟨k, h1, h2⟩
    exact ⟨(p.2, k), by rw [List.mem_zipIdx_iff_getElem?]; exact h2, by obtain ⟨a, b⟩ := p; simp only at h1; rw [h1]⟩
theorem enumI_len {α : Type} {xs : List α} : (enumI xs).length = xs.length := by unfold enumI; simp
theorem fmod_pos {a b : Int} (h : 0 < b) : Int.fmod a b = a % b := Int.fmod_eq_emod_of_nonneg _ (by omega)
theorem fmod_b {a b : Int} (h : 0 < b) : 0 ≤ Int.fmod a b ∧ Int.fmod a b < b := by
  rw [fmod_pos h]
  exact ⟨Int.emod_nonneg _ (by omega), Int.emod_lt_of_pos _ h⟩
end FL

namespace FL
open PySem PySem.Spec PyProof.Rows L2
variable [TabCtx]

theorem fz_D {d : D} (h : D.flt 20 d = true) {S : Sto} {n : Nat} : D.frz S n 30 d = some d := frz_flt h (by decide)
def eqR (a b : D) : Bool := (eqB [] a b).getD false
def EqOkR (a b : D) : Prop := ∀ st, eqB st a b = some (eqR a b)
theorem ne_R {a b : D} {S : Sto} (h : EqOkR a b) : neD a b S = .ok (cB (!eqR a b)) S := neD_of (h S)
end FL

namespace FL
open PySem PySem.Spec PyProof.Rows L2
variable [TabCtx]


section
variable {st : Sto} {o : List SO} {l : Nat}
end
def RtK (st : Sto) (r : SRes) (o : SO) : Prop := r = .rt (.loc st.length) (st ++ [o])
theorem frz_dic {st : Sto} {kvs : List (Key × D)} : D.frz (st ++ [.dic kvs]) st.length 30 (.loc st.length) = none := by
  show (if st.length < st.length then _ else match (st ++ [SO.dic kvs])[st.length]? with
    | some (.lst ds) => _
    | _ => none) = _
  rw [if_neg (by omega)]
  have : (st ++ [SO.dic kvs])[st.length]? = some (.dic kvs) := by
    have := lk (st := st) (o := [SO.dic kvs]) (i := 0) (x := .dic kvs) rfl
    simpa using this
  rw [this]
theorem RtK.fin {st : Sto} {r : SRes} {kvs : List (Key × D)} (h : RtK st r (.dic kvs)) : FL.fin true st r = .ok (.loc st.length) (st ++ [.dic kvs]) := by
  rw [h]
  show finD true st (st ++ [.dic kvs]) (.loc st.length) = _
  unfold finD
  rw [if_pos chk_app, if_neg (by simp [D.blw]), if_pos rfl, frz_dic]
theorem RtK.enter {st : Sto} {b : SM4} {env : Env} {kvs : List (Key × D)} (h : RtK st (b env (st ++ [])) (.dic kvs)) : FL.fin true st (b env st) = .ok (.loc st.length) (st ++ [.dic kvs]) := by
  have := h.fin
  rwa [List.append_nil] at this
end FL

namespace FL
open PySem PySem.Spec PyProof.Rows L2
variable [TabCtx]

section
variable {X : Cx}
def rBestT (K : PySem.W.Frag) (up : Bool) : List V → Hp → VK → Prop := fun vs H Q => ∃ (p : Addr) (ns : List Int), vs = [V.ref p] ∧ SqT K H p (ns.map V.int) ∧ ns ≠ [] ∧ ∀ m, m ∈ ns → (∀ j ∈ ns, if up = true then j ≤ m else m ≤ j) → Q (.int m) H
theorem numAt_list {ns : List Int} {its : List Value} (hi : IntsAre its ns) {i : Nat} {v : Value} (h : its.toArray[i]? = some v) : ∃ t, v = Value.int (ns.getD i 0) t := by
  rw [List.getElem?_toArray] at h
  obtain ⟨hl, e⟩ := List.getElem?_eq_some_iff.mp h
  have hn : i < ns.length := by rw [← hi.length]; exact hl
  have := hi
  clear h
  induction hi generalizing i with
  | nil => exact absurd hl (Nat.not_lt_zero _)
  | cons y t r ih =>
    cases i with
    | zero => exact ⟨t, by rw [← e] <;> rfl⟩
    | succ i => exact ih (i := i) (Nat.lt_of_succ_lt_succ hl) e (Nat.lt_of_succ_lt_succ hn) r
theorem cr_minT (hc : X.calm = true) : CallR X (.builtin "min") (rBestT X.K false) := by
  intro pins s σ H vs us Q I r h
  obtain ⟨p, ns, rfl, hq, hne, q⟩ := h
  rw [Vals.ref1 r]
  obtain ⟨its, rv, pl, hz⟩ := I.tuple hq
  have hi := rv.ints
  have hT : s.heap.IsTuple p its.toArray := by
    obtain ⟨o, e, c, n, d⟩ := pl
    exact ⟨o, e, c, n, d⟩
  have hlt : p < s.heap.objs.size := by obtain ⟨_, e, _⟩ := hT; exact Heap.lt_size e
  have hsz : its.toArray.size = ns.length := by rw [List.size_toArray, hi.length]
  have hpos : 0 < ns.length := List.length_pos_iff.mpr hne
  refine call_min_walk (wpAny_pyIter_tuple hT ?_)
  refine ⟨_, _, _, _, _, _, _, rfl, Walks.tuple (A := X.A.in1) (I.ok.hd hc) s.heap.objs.size p (Nat.ne_of_lt hlt) its.toArray, ⟨⟨_, Heap.get?_push_size _ rfl, rfl, rfl⟩, hT.push _⟩, fun b hb => ?_, by rw [hsz]; exact hpos,
    CmpOf.ints_lt (fun i => ns.getD i 0) (fun i v hv => numAt_list hi hv), fun v h' tk hP hk => ?_⟩
  · rcases List.mem_cons.mp hb with rfl | hb
    · show _ < (s.heap.push _).objs.size
      rw [Heap.size_push]
      exact Nat.lt_succ_self _
    · show _ < (s.heap.push _).objs.size
      rw [Heap.size_push, List.mem_singleton.mp hb]
      exact Nat.lt_succ_of_lt hlt
  · obtain ⟨t, rfl⟩ := numAt_list hi hP
    obtain ⟨b1, b2⟩ := argBest_lt (fun i => ns.getD i 0) (its.toArray.size - 1)
    refine ⟨.int _, H, I.kept (t' := tk) fun b u e => hk b u (fun hmem => ?_) (Heap.get?_push_of_some _ e), ⟨t, rfl⟩, q _ ?_ fun j hj => ?_⟩
    · have e2 := Heap.lt_size e
      rw [List.mem_singleton.mp hmem] at e2
      exact Nat.lt_irrefl _ e2
    · have hb : argBest (fun i j => decide (ns.getD i 0 < ns.getD j 0)) (its.toArray.size - 1) < ns.length := by omega
      rw [List.getD_eq_getElem?_getD, List.getElem?_eq_getElem hb]
      exact List.getElem_mem hb
    · obtain ⟨i, hl, e⟩ := List.getElem_of_mem hj
      have := b2 i (by omega)
      simp only [Bool.false_eq_true, if_false]
      rw [← e, show ns[i] = ns.getD i 0 from by rw [List.getD_eq_getElem?_getD, List.getElem?_eq_getElem hl] <;> rfl]
      exact this
def minC : List D → Sto → Res D
  | [.tup ds], st => match intsD ds with
    | some (i :: r) => .ok (.int (minI (i :: r))) st
    | _ => .bad
  | l, st => minB l st
theorem bi_minC (hc : X.calm = true) : BiF X (.builtin "min") minC := by
  obtain ⟨rr, c1, c2⟩ := bi_min hc
  refine ⟨_, CallR.or (cr_minT hc) c1, fun E H r st ds xs Q s v h => ?_⟩
  unfold minC at h
  split at h
  · rename_i ds
    obtain ⟨x, rfl, w⟩ := vds1 v
    split at h
    · rename_i i rr q2
      obtain ⟨a, ys, rfl, h1, h2⟩ := id w
      rw [intsD_eq q2] at h2
      have h3 := h1.sq
      rw [vds_ints h2] at h3
      refine .inl ⟨a, _, rfl, h3, by simp, fun m m1 m2 => ?_⟩
      rw [← minI_eq (by simp) m1 (fun j hj => by simpa using m2 j hj)]
      exact RES.ok h s rfl
    · exact h.elim
  · exact .inr (c2 E H r st _ xs Q s v h)
theorem minC2_c {i j : Int} {S : Sto} : minC [cI i, cI j] S = .ok (cI (min i j)) S := min2_c
end
end FL

namespace FL
open PySem PySem.Spec PyProof.Rows L2
variable [TabCtx]

section
variable {P : Program} {w : World} {A : Around} {E : Value → Shared → Prop} {s : Shared}
set_option maxHeartbeats 6400000 in
end
section
variable {X : Cx}
def rSetL (K : PySem.W.Frag) (w : World) : List V → Hp → VK → Prop := fun vs H Q => ∃ (a : Addr) (ns : List Int), vs = [V.ref a] ∧ SqL K H a (ns.map V.int) ∧ ns.length + 1 < scanBound ∧
  ∀ p c, H p = none → c ≤ ns.length → Q (.ref p) (upd H p (SetO w p (fun j => decide (j ∈ ns)) c))
end
end FL

namespace FL
open PySem PySem.Spec PyProof.Rows L2
variable [TabCtx]

section
variable {X : Cx} {W : WX} {es : List Expr} {e : Expr} {ms : Env → Sto → Res (List D)} {x y : Str} {p pos p2 pos2 : Pos}
end

section
variable {X : Cx}
section
variable {W : WX} {o e : Expr} {es : List Expr} {mo : EM} {ms : Env → Sto → Res (List D)} {apos cpos : Pos}
end
end

section
variable {X : Cx} {W : WX}
end
end FL

namespace FL
open PySem PySem.Spec PyProof.Rows L2
variable [TabCtx]

section
variable {X : Cx}
end
section
variable {X : Cx} {W : WX} {es : List Expr} {e : Expr} {ms : Env → Sto → Res (List D)} {x y : Str} {p pos p2 pos2 : Pos}
end
end FL

namespace FL
open PySem PySem.Spec PyProof.Rows L2
variable [TabCtx]

def clsS : Stmt → Nat → Stmt
  | .ClassDef _ _ _ body _ _ _ _ _ _ _, j => body.getD j (.Pass ⟨0, 0, 0, 0⟩)
  | s, _ => s
structure BaseAt (K : PySem.W.Frag) (mg : Str → Option Value) (b : String) : Prop where
  ex : ∃ B, mg (Str.ofString b) = some (.ref B) ∧ PySem.W.readsIn K B (.type "type") = true ∧ PySem.W.specialIn K (.ref B) "__getattribute__" = some (some (.builtin "type.__getattribute__")) ∧
    PySem.W.findCls K (.ref B) (.type "type") "__init__" = some (.val (.builtin "ValueError.__init__"))
section
variable {X : Cx} {e : Expr} {es : List Expr} {ta : TA} {p1 p2 pos : Pos}
theorem pe_base {b : String} {x : Str} {pl : Sem Bool} (hx : x = Str.ofString b) (hg : Gl X x) (B : BaseAt X.K X.mg b) (ha : PA X (e :: es) ta) (hd : (x == ("__debug__" : Str)) = false := by decide)
    (hc : eval (.Call (.Attribute (.Name x p1) "__init__" p2) (e :: es) [] pos) X.env = (do
      let ov ← eval (.Name x p1) X.env
      standAt p2.atName
      let (f, first) ← holding [ov] (getMethod ov "__init__" pl)
      callWith pos f first (backTo pos (starEach (e :: es) X.env)) (backToKw pos (keywordEach [] X.env))) := by rfl)
    (he : starEach (e :: es) X.env = (false, eval e X.env) :: starEach es X.env := by rfl) (hpl : (backTo pos (starEach es X.env)).any (·.1) = false := by rfl) :
    PE X (.Call (.Attribute (.Name x p1) "__init__" p2) (e :: es) [] pos) (tVeI X.K ta) := by
  subst hx
  obtain ⟨C, c1, c2, c3, c4⟩ := B.ex
  refine ⟨fun pins s σ H Q I h => ?_⟩
  refine PySem.W.methodCall_KW (ld_glob I hg c1 ?_ hd) hc
  refine PySem.W.method_cls I.kIn c3 (PySem.W.cls_value I.kIn c2 c4 (by decide +kernel) ?_)
  show wpAny _ _ (callWith pos (Value.builtin "ValueError.__init__") [] (backTo pos (starEach (e :: es) X.env)) []) _ _ _
  refine PyProof.Rows.callWith_method1 (thn (ha.run pos pins _ σ H _ (I.tok _) h) fun us s1 ⟨vs, H1, I1, r1, a, D, ws, ev, hl, T, ea, q⟩ => ?_) he hpl
  subst ev
  cases r1 with
  | @cons _ u0 _ ur ra rw' =>
    obtain rfl : u0 = Value.ref a := ra
    have hlen : ur.length ≤ sizeLine := by
      rw [← Paired.length rw', sizeLine_eq]
      omega
    exact oinit_ok T I1 ea hlen fun s' J => ⟨.non, H1, J, rfl, q⟩
end
def spIni (K : PySem.W.Frag) (fs : List Str) : Sp := fun vs H Q _ => vs.length = fs.length + 1 ∧ ∃ (a C : Addr) (ys : List V), vs = .ref a :: ys ∧ H a = some (exo a C none) ∧ OexC K C ∧ (∀ f ∈ fs, PySem.W.findIn K (.ref C) f = some none) ∧
  ∀ dx H', H dx = none → dx ≠ a → H' a = some (exo a C (some dx)) → H' dx = some (exd dx (fs.zip ys).reverse) → (∀ b, b ≠ a → b ≠ dx → H' b = H b) → Q .non H'
structure ClsF (P : Program) (w : World) (K : PySem.W.Frag) (mg : Str → Option Value) (base : Heap) (CX : CXT) (cls : String) (k : Nat) (fs : List Str) : Prop where
  ex : ∃ C fI fd ps, PySem.W.nsIn K mainGlobals (Str.ofString cls) = some (some (.ref C)) ∧ mg (Str.ofString cls) = some (.ref C) ∧ OexC K C ∧ (∀ f ∈ fs, PySem.W.findIn K (.ref C) f = some none) ∧
    PySem.W.findIn K (.ref C) "__init__" = some (some (.ref fI)) ∧ PySem.W.typeIn K (.ref fI) = some (.type "function") ∧ FnOk P w K mg base CX k fI fd ps (spIni K fs) ∧ Binds K fd ps []
def sRaiseF (cls : String) (fs : List Str) (ms : Env → Sto → Res (List D)) : SM4 := fun env st => (ms env st).on env fun ds st1 => if ds.length = fs.length then .ex ⟨cls, (fs.zip ds).reverse⟩ env st1 else .bad
theorem zip_paired {K H r} : ∀ {fs : List Str} {ds : List D} {vs : List V}, VDs K H r ds vs → Paired (fun (p : Str × D) (q : Str × V) => p.1 = q.1 ∧ VD K H r p.2 q.2) (fs.zip ds) (fs.zip vs)
  | [], _, _, _ => .nil
  | f :: fs, [], _, h => by cases h; exact .nil
  | f :: fs, d :: ds, _, h => by
    obtain ⟨x, t, rfl, h1, h2⟩ := h
    exact .cons ⟨rfl, h1⟩ (zip_paired h2)
theorem paired_rev {α β : Type} {F : α → β → Prop} : ∀ {l₁ : List α} {l₂ : List β}, Paired F l₁ l₂ → Paired F l₁.reverse l₂.reverse
  | _, _, .nil => .nil
  | _, _, .cons r t => by
    rw [List.reverse_cons, List.reverse_cons]
    exact paired_app (paired_rev t) (.cons r .nil)
section
variable {X : Cx} {W : WX} {e : Expr} {es : List Expr} {ms : Env → Sto → Res (List D)} {x : Str} {p pos pos2 : Pos} {k : Nat}
theorem fs_raiseF {cls : String} {fs : List Str} (hx : x = Str.ofString cls) (hne' : fs ≠ [] ∧ fs.length ≤ 10) (hc : X.calm = true) (tk : Takes X W) (c : ClsF X.prog X.w X.K X.mg X.base (L2.CX X.prog X.w) cls k fs) (hr : Room (k + 1) X.A) (hg : Gl X x) (ha : FA X W (e :: es) ms)
    (hd : (x == ("__debug__" : Str)) = false := by decide) (he : starEach (e :: es) X.env = (false, eval e X.env) :: starEach es X.env := by rfl) (hpl : (backTo pos2 (starEach es X.env)).any (·.1) = false := by rfl) :
    FS X W (.Raise (some (.Call (.Name x p) (e :: es) [] pos2)) none pos) (sRaiseF cls fs ms) := by
  subst hx
  obtain ⟨C, fI, fd, ps, c0, c1, c2, c3, c4, c5, c6, c7⟩ := c.ex
  have hpass : Passes (L2.CX X.prog X.w) X (fun _ _ _ => False) := fun pins σ H s e s' I h => by
    obtain ⟨a, B, H', cls, d, _, _, _, _, _, _, _, hf⟩ := h
    exact hf.elim
  refine PS.imp (ps_raise hc tk (pmk_oex c2 c4 c5 c6 hr c7 Paired.nil hpass hg c1 ha hd he hpl)) fun D σ H ⟨r, env, st, hE, hS, h⟩ =>
    ⟨r, env, st, hE, hS, RS.on hE h fun ds st1 vs H1 r1 e1 s1 v1 h1 => ?_⟩
  by_cases hl : ds.length = fs.length
  · rw [if_pos hl] at h1
    have hvl := v1.len
    have h10 := hne'.2
    refine ⟨by omega, fun a na => ⟨by simp; omega, a, C, vs, by simp, upd_same, c2, c3, fun dx H' ndx hne k1 k2 k3 => ⟨rfl, dx, _, k1, k2, by rw [upd_ne hne] at ndx; exact ndx, ?_⟩⟩⟩
    have hdx : H1 dx = none := by rw [upd_ne hne] at ndx; exact ndx
    have eh : upd (del H' a) dx (HO.xd (fs.zip vs).reverse) = upd H1 dx (HO.xd (fs.zip vs).reverse) := by
      funext b
      by_cases hb : b = dx
      · rw [hb, upd_same, upd_same]
      · rw [upd_ne hb, upd_ne hb]
        by_cases hba : b = a
        · rw [hba, del_same, na]
        · rw [del_ne hba, k3 b hba hb, upd_ne hba]
    rw [eh]
    have ef : Ext H1 r1 (upd H1 dx (HO.xd (fs.zip vs).reverse)) r1 := Ext.fresh hdx
    refine h1 (.ref C) (some dx) σ _ r1 ef (s1.fresh hdx) ((hE.ext e1).ext ef) ⟨⟨C, c0, rfl⟩, ?_⟩
    have hp := paired_imp (fun _ _ (q : _ ∧ _) => (⟨q.1, VD.ext ef _ _ q.2⟩ : _ ∧ _)) (paired_rev (zip_paired (fs := fs) v1))
    have hnn : (fs.zip ds).reverse ≠ [] := by
      cases fs with
      | nil => exact absurd rfl hne'.1
      | cons f fs =>
        cases ds with
        | nil => simp at hl
        | cons d ds => simp
    cases hq : (fs.zip ds).reverse with
    | nil => exact absurd hq hnn
    | cons p0 ps0 =>
      rw [hq] at hp
      exact ⟨dx, _, rfl, s1.notin hdx, upd_same, hp⟩
  · rw [if_neg hl] at h1; exact h1.elim
end

def tIni1 (K : PySem.W.Frag) (f1 m : Str) : TS := tSeq (tDrop (tVeI K (tCons (tVar 0) (tCons (tC (.str m)) tNil)))) (tOst K f1 (tVar 0) (tVar 1))
section
variable {P : Program} {w : World} {K : PySem.W.Frag} {mg : Str → Option Value} {base : Heap} {qual : Str} {st : Stmt} {fd : FuncData}
theorem ini_ok1 {f : Addr} {f1 m : Str} (F : L2.Fun K "__init__" qual st f fd) (S : FnScope ["self", f1] ["self", f1] (defScope st))
    (hb : ∀ (cdv : Value) (A : Around) (outer : List PySem.Env) (s : Shared) (H : Hp) (E : XK), PSs (cxOf (L2.CX P w) P w K mg base ["self", f1] qual (defScope st) f cdv A outer s H E) (defBody st) (tIni1 K f1 m)) :
    FnOk P w K mg base (L2.CX P w) 2 f fd ["self", f1] (spIni K [f1]) := by
  refine F.okX S (fun vs H Q E h => h.1) fun cdv A outer s H vs Q E hr h => ?_
  obtain ⟨hl, a, C, ys, rfl, ha, hC, hf, q⟩ := h
  refine ⟨_, hb cdv A outer s H E, ?_⟩
  match ys, hl with
  | [y], _ =>
    refine ⟨.ref a, rfl, a, C, [.str m], rfl, by simp, hC, ha, ?_⟩
    refine ⟨y, rfl, .ref a, rfl, a, C, rfl, hC, hf f1 List.mem_cons_self, .inl ⟨ha, fun dx h1 h2 => ?_⟩⟩
    refine q dx _ h1 h2 upd_same (by rw [upd_ne h2, upd_same]; rfl) fun b h3 h4 => by rw [upd_ne h3, upd_ne h4]
end

section
variable {X : Cx} {W : WX} {a : Expr} {ma : EM} {p p2 p3 pos : Pos} {j : Nat} {m : Str}
structure FldAt (K : PySem.W.Frag) (cls : String) (f : Str) : Prop where
  ex : ∃ C, PySem.W.nsIn K mainGlobals (Str.ofString cls) = some (some (.ref C)) ∧ XfC K C ∧ PySem.W.findIn K (.ref C) f = some none
end
end FL

namespace FL
open PySem PySem.Spec PyProof.Rows L2
variable [TabCtx]

structure HdR where
  x : Str
  np : Pos
  n : Str
  i : Nat
  c : Value
  b₀ : Stmt
  suite : List Stmt
  ps : Pos
  ts : TS
structure HdR.Ok (X : Cx) (h : HdR) : Prop where
  at_ : X.N[h.i]? = some h.n
  loc : X.env.kindOf h.n = some .local
  nm : Names X h.x h.c
  su : ∀ (a : Addr) (pn : List (Addr × Obj)), PSs (X.suite a pn) (h.b₀ :: h.suite) h.ts
section
variable {X : Cx} {body : List Stmt} {pos : Pos} {tb : WX → TS} {Wout : WX} {h0 : HdR} {hs : List HdR}
end
def hdl : List (Nat × List (String × Bool) × SM4) → Exc → SM4
  | [], x => fun env st => .ex x env st
  | (i, tab, u) :: r, x => fun env st => match tabB tab x.cls with
    | some true => (match u (env.set i (some (.exc x.cls (x.fs.map (·.1)) (x.fs.map (·.2))))) st with
      | .nx env2 st2 => .nx (env2.set i none) st2
      | .rt d st2 => .rt d st2
      | _ => .bad)
    | some false => hdl r x env st
    | none => .bad
section
variable {X : Cx} {W : WX}
structure Clz (X : Cx) (h : HdR) (c : Nat × List (String × Bool) × SM4) : Prop where
  i : h.i = c.1
  ex : ∃ y, y.at X.K h.c ∧ ∀ q ∈ c.2.1, ExmAt X.K q.1 y q.2
  ts : h.ts = tS X.K X.mg E0W c.2.2
variable {x1 x2 n1 n2 : Str} {i1 i2 : Nat} {body s1 s2 : List Stmt} {b1 b2 : Stmt} {np1 np2 pos p1 p2 : Pos} {m u1 u2 : SM4} {y1 y2 : Cl} {t1 t2 : List (String × Bool)}
end

structure ClsR (K : PySem.W.Frag) (mg : Str → Option Value) (cls qual : String) (st : Stmt) (ps fs : List Str) : Prop where
  ex : ∃ C fI fd, PySem.W.nsIn K mainGlobals (Str.ofString cls) = some (some (.ref C)) ∧ mg (Str.ofString cls) = some (.ref C) ∧ OexC K C ∧ (∀ f ∈ fs, PySem.W.findIn K (.ref C) f = some none) ∧
    PySem.W.findIn K (.ref C) "__init__" = some (some (.ref fI)) ∧ PySem.W.typeIn K (.ref fI) = some (.type "function") ∧ L2.Fun K "__init__" (Str.ofString qual) st fI fd ∧ Binds K fd ps []
section
variable {P : Program} {w : World} {K : PySem.W.Frag} {mg : Str → Option Value} {base : Heap} {cls qual : String} {st : Stmt}
theorem ClsR.ok1 {f1 m : Str} (c : ClsR K mg cls qual st ["self", f1] [f1]) (S : FnScope ["self", f1] ["self", f1] (defScope st))
    (hb : ∀ (f : Addr) (cdv : Value) (A : Around) (outer : List PySem.Env) (s : Shared) (H : Hp) (E : XK), PSs (cxOf (L2.CX P w) P w K mg base ["self", f1] (Str.ofString qual) (defScope st) f cdv A outer s H E) (defBody st) (tIni1 K f1 m)) : ClsF P w K mg base (L2.CX P w) cls 2 [f1] := by
  obtain ⟨C, fI, fd, c1, c2, c3, c4, c5, c6, c7, c8⟩ := c.ex
  exact ⟨C, fI, fd, _, c1, c2, c3, c4, c5, c6, ini_ok1 c7 S fun cdv A outer s H E => hb fI cdv A outer s H E, c8⟩
end
theorem clsR_mk {K : PySem.W.Frag} {mg : Str → Option Value} {h : Heap} {cls qual : String} {st : Stmt} {ps fs : List Str} {C fI N : Addr} {nm q : Str} {bs bm : List Value} {sn : List Str} {sub : List Value} {ab : Bool} {col : Option Bool} {dd : Option Addr} {k0 k1 k2 k3 k5 : Option Value}
    {oc kV doc pm cdv ct : Value} {od an : Option Addr} {osl : Array (Option Value)} (X : K.In h) (G : h.Ns mainGlobals mg)
    (a : PySem.W.nsIn K mainGlobals (Str.ofString cls) = some (some (.ref C))) (xL : K.lookup C = some (excClassObj nm q C N bs bm true sn sub ab col dd k0 k1 k2 k3 k5 "ValueError.__new__")) (hbm : PySem.HandSPX.refsVE bm = true)
    (sa : PySem.W.findIn K (.ref C) "__setattr__" = some (some (.builtin "object.__setattr__"))) (eC : PySem.W.subIn K (.ref C) (.type "BaseException") = some true) (tC : PySem.W.typeIn K (.ref C) = some (.type "type")) (kC : PySem.W.keepIn K (.ref C) = true)
    (nf : ∀ f ∈ fs, PySem.W.findIn K (.ref C) f = some none) (a1 : PySem.W.findIn K (.ref C) "__init__" = some (some (.ref fI))) (t1 : PySem.W.typeIn K (.ref fI) = some (.type "function"))
    (l1 : K.lookup fI = some ⟨oc, od, .func (PySem.W.fnOf "__init__" (Str.ofString qual) (defArgs st) (defBody st) (defScope st) .none kV doc pm an cdv ct), osl⟩) (c1 : PySem.W.codeIn K cdv (Str.ofString qual) = true) (k1 : PySem.W.keepIn K (.ref fI) = true)
    (b : ∀ F : L2.Fun K "__init__" (Str.ofString qual) st fI (PySem.W.fnOf "__init__" (Str.ofString qual) (defArgs st) (defBody st) (defScope st) .none kV doc pm an cdv ct), Binds K (PySem.W.fnOf "__init__" (Str.ofString qual) (defArgs st) (defBody st) (defScope st) .none kV doc pm an cdv ct) ps []) : ClsR K mg cls qual st ps fs :=
  ⟨C, fI, _, a, PySem.W.mg_of X G a, ⟨⟨nm, q, N, bs, bm, sn, sub, ab, col, dd, k0, _, k2, k3, k5, xL, hbm⟩, sa, eC, tC, kC⟩, nf, a1, t1, fun_mk l1 c1 k1, b (fun_mk l1 c1 k1)⟩
end FL

namespace FL
open PySem PySem.Spec PyProof.Rows L2
variable [TabCtx]

abbrev OC := D ⊕ Exc
def flatX (x : Exc) : Bool := x.fs.all fun p => D.flt 20 p.2
mutual
theorem flt_blw {n : Nat} : ∀ {k : Nat} (d : D), D.flt k d = true → d.blw n = true
  | k, .non, _ => rfl
  | k, .bl _, _ => rfl
  | k, .int _, _ => rfl
  | k, .str _, _ => rfl
  | k, .scr _, _ => rfl
  | 0, .tup _, h => by simp [D.flt] at h
  | k + 1, .tup ds, h => by
    show D.blws n ds = true
    exact flt_blws ds (by simpa [D.flt] using h)
  | 0, .lst _, h => by simp [D.flt] at h
  | k + 1, .lst ds, h => by
    show D.blws n ds = true
    exact flt_blws ds (by simpa [D.flt] using h)
  | 0, .loc _, h => by simp [D.flt] at h
  | k + 1, .loc _, h => by simp [D.flt] at h
  | 0, .exc _ _ _, h => by simp [D.flt] at h
  | k + 1, .exc _ _ ds, h => by
    show D.blws n ds = true
    exact flt_blws ds (by simpa [D.flt] using h)
theorem flt_blws {n : Nat} : ∀ {k : Nat} (ds : List D), (∀ d ∈ ds, D.flt k d = true) → D.blws n ds = true
  | k, [], _ => rfl
  | k, d :: ds, h => by
    show (d.blw n && D.blws n ds) = true
    rw [flt_blw d (h d List.mem_cons_self), flt_blws ds fun e he => h e (List.mem_cons_of_mem _ he)]
    rfl
end
def RxP (st : Sto) (r : SRes) (o : OC) : Prop := match o with
  | .inl d => RtP st r d
  | .inr x => (∃ env o', r = .ex x env (st ++ o')) ∧ flatX x = true
def xE {α : Type} (c : α → D) : α ⊕ Exc → OC
  | .inl v => .inl (c v)
  | .inr x => .inr x
def resX {α : Type} (c : α → D) (o : α ⊕ Exc) (st : Sto) : Res D := match o with
  | .inl v => .ok (c v) st
  | .inr x => .ex x st
theorem RxP.enter {α : Type} {c : α → D} {st : Sto} {b : SM4} {env : Env} {t : α ⊕ Exc} (h : RxP st (b env (st ++ [])) (xE c t)) : FL.fin true st (b env st) = resX c t st := by
  cases t with
  | inl v => exact RtP.enter h
  | inr x =>
    obtain ⟨⟨e, o', h⟩, hf⟩ := h
    rw [List.append_nil] at h
    rw [h]
    show Res.ex x (shrink st (st ++ o') (x.fs.all fun p => p.2.blw st.length)) = _
    have hb : (x.fs.all fun p => p.2.blw st.length) = true := by
      rw [List.all_eq_true]
      intro p hp
      exact flt_blw _ (List.all_eq_true.mp hf p hp)
    rw [hb, shrink_same]
    rfl
def MyP {σ ρ : Type} (st : Sto) (r : SRes) (o : σ ⊕ ρ) (P : σ → Env → Sto → Prop) (e : ρ → OC) : Prop := match o with
  | .inl s => NxP r (P s)
  | .inr v => RxP st r (e v)
section
variable {env env' : Env} {S S' : Sto} {st : Sto} {o o' : List SO} {m : EM} {u v : SM4} {d : OC} {P : Env → Sto → Prop} {σ τ ρ : Type} {e : ρ → OC}
theorem rx_nx (h : u env S = .nx env' S') (k : RxP st (v env' S') d) : RxP st (sSeq u v env S) d := by
  show RxP st ((u env S).bind v) d
  rw [h]; exact k
theorem my_nx {t : σ ⊕ ρ} {Q : σ → Env → Sto → Prop} (h : u env S = .nx env' S') (k : MyP st (v env' S') t Q e) : MyP st (sSeq u v env S) t Q e := by
  show MyP st ((u env S).bind v) t Q e
  rw [h]; exact k
theorem rx_N (h : NxP (u env S) P) (k : ∀ env' S', P env' S' → RxP st (v env' S') d) : RxP st (sSeq u v env S) d := by
  obtain ⟨env', S', h, hp⟩ := h
  exact rx_nx h (k _ _ hp)
theorem my_end {s : σ} {Q : σ → Env → Sto → Prop} (h : Q s env S) : MyP st (sNext env S) (.inl s) Q e := ⟨env, S, rfl, h⟩
theorem rx_ret {v : SM4} {d : D} (h : m env (st ++ o) = .ok d (st ++ o)) {x : D} (hf : D.frz (st ++ o) st.length 30 d = some x) : RxP st (sSeq (sRet m) v env (st ++ o)) (.inl x) := rt_ret (v := v) h hf
theorem rx_raise {v : SM4} {x : Exc} (h : u env (st ++ o) = .ex x env (st ++ o)) (hf : flatX x = true) : RxP st (sSeq u v env (st ++ o)) (.inr x) := by
  refine ⟨⟨env, o, ?_⟩, hf⟩
  show (u env (st ++ o)).bind v = _
  rw [h]; rfl
theorem rx_stop (h : RxP st (u env S) d) : RxP st (sSeq u v env S) d := by
  cases d with
  | inl d => exact rt_stop h
  | inr x =>
    obtain ⟨⟨e, o', h⟩, hf⟩ := h
    refine ⟨⟨e, o', ?_⟩, hf⟩
    show (u env S).bind v = _
    rw [h]; rfl
section
variable {t : Env → Sto → Res Bool} {c : Bool} {A B : SM4}
theorem iy_RX {x y : ρ} (h : t env S = .ok c S) (ha : c = true → RxP st (A env S) (e x)) (hb : c = false → RxP st (sSeq B v env S) (e y)) : RxP st (sSeq (sIf t A B) v env S) (e (if c = true then x else y)) := by
  cases c with
  | true =>
    refine rx_stop ?_
    rw [sIf_yes h]; exact ha rfl
  | false =>
    show RxP st ((sIf t A B env S).bind v) _
    rw [sIf_no h]; exact hb rfl
theorem my_stop {P : σ → Env → Sto → Prop} {x : ρ} (h : RxP st (u env S) (e x)) : MyP st (sSeq u v env S) (.inr x) P e := rx_stop h
theorem iy_MX {P : σ → Env → Sto → Prop} {x : ρ} {y : σ ⊕ ρ} (h : t env S = .ok c S) (ha : c = true → RxP st (A env S) (e x)) (hb : c = false → MyP st (sSeq B v env S) y P e) : MyP st (sSeq (sIf t A B) v env S) (if c = true then .inr x else y) P e := by
  cases c with
  | true =>
    refine my_stop ?_
    rw [sIf_yes h]; exact ha rfl
  | false =>
    show MyP st ((sIf t A B env S).bind v) _ _ _
    rw [sIf_no h]; exact hb rfl
end
theorem rx_M {P : σ → Env → Sto → Prop} {t : σ ⊕ ρ} {k : σ → ρ} (h : MyP st (u env S) t P e) (hk : ∀ s env' S', t = .inl s → P s env' S' → RxP st (v env' S') (e (k s))) : RxP st (sSeq u v env S) (e (outR t k)) := by
  cases t with
  | inl s => exact rx_N h fun env' S' hp => hk s env' S' rfl hp
  | inr r => exact rx_stop h
end
theorem for_Y {σ X ρ : Type} {E : σ → Env} {O : σ → List SO} {cx : X → D} {e : ρ → OC} {c : σ → X → Prop} {t : σ → X → σ ⊕ ρ} {ks : List Nat} {src : List (Nat × List D)} {g : GM} {body : SM4} {st : Sto}
    (hs : ∀ s, stillB src (st ++ O s) = true) (hl : ∀ s s', (O s).length = (O s').length)
    (hb : ∀ s x, c s x → ∃ env1, g (cx x) (E s) (st ++ O s) = .ok env1 (st ++ O s) ∧ MyP st (body env1 (st ++ O s)) (t s x) (fun s' env S => kill ks env = E s' ∧ S = st ++ O s') e) :
    ∀ (xs : List X) (s : σ), cForR c t xs s → MyP st (loopF (some ks) src g body (xs.map cx) (E s) (st ++ O s)) (forR t xs s) (fun s' env S => env = E s' ∧ S = st ++ O s') e
  | [], s, _ => ⟨_, _, loopF_nil (hs s), rfl, rfl⟩
  | x :: xs, s, ⟨h1, h2⟩ => by
    obtain ⟨env1, k1, k2⟩ := hb s x h1
    unfold forR
    cases q : t s x with
    | inl s' =>
      rw [q] at k2
      obtain ⟨env2, S2, k2, k3, rfl⟩ := k2
      rw [List.map_cons, loopF_cons (hs s) k1 k2, show ks.foldl (fun e k => e.set k none) env2 = kill ks env2 from rfl, k3,
        shrink_len (by rw [List.length_append, List.length_append, hl s' s])]
      exact for_Y hs hl hb xs s' (h2 s' q)
    | inr r =>
      rw [q] at k2
      have key : ∀ z : SRes, body env1 (st ++ O s) = z → (∀ e2 s2, z ≠ .nx e2 s2) → loopF (some ks) src g body ((x :: xs).map cx) (E s) (st ++ O s) = z := fun z hz hn => by
        rw [List.map_cons]
        show (if stillB src (st ++ O s) = true then (match g (cx x) (E s) (st ++ O s) with
          | .ok env1 st1 => (body env1 st1).bind _
          | _ => .bad) else .bad) = _
        rw [if_pos (hs s), k1]
        simp only [hz]
        cases z with
        | nx e2 s2 => exact absurd rfl (hn e2 s2)
        | _ => rfl
      cases qe : e r with
      | inl d =>
        have k3 : RxP st (body env1 (st ++ O s)) (e r) := k2
        rw [qe] at k3
        obtain ⟨d', o, k4, k5⟩ := k3
        show RxP st _ (e r)
        rw [qe, key _ k4 (fun _ _ z => nomatch z)]
        exact ⟨d', o, rfl, k5⟩
      | inr x' =>
        have k3 : RxP st (body env1 (st ++ O s)) (e r) := k2
        rw [qe] at k3
        obtain ⟨⟨e', o, k4⟩, k5⟩ := k3
        show RxP st _ (e r)
        rw [qe, key _ k4 (fun _ _ z => nomatch z)]
        exact ⟨⟨e', o, rfl⟩, k5⟩
theorem do_forY {σ X ρ : Type} {E : σ → Env} {O : σ → List SO} {cx : X → D} {e : ρ → OC} {c : σ → X → Prop} {t : σ → X → σ ⊕ ρ} {ks : List Nat} {src : List (Nat × List D)} {mi : IM} {g : GM} {body : SM4} {st : Sto} {env : Env} {xs : List X} {s : σ}
    (hi : mi env (st ++ O s) = .ok (xs.map cx, src) (st ++ O s)) (hk : kill ks env = E s) (hs : ∀ s, stillB src (st ++ O s) = true) (hl : ∀ s s', (O s).length = (O s').length)
    (hb : ∀ s x, c s x → ∃ env1, g (cx x) (E s) (st ++ O s) = .ok env1 (st ++ O s) ∧ MyP st (body env1 (st ++ O s)) (t s x) (fun s' env S => kill ks env = E s' ∧ S = st ++ O s') e)
    (hc : cForR c t xs s) : MyP st (sFor (some ks) mi g body env (st ++ O s)) (forR t xs s) (fun s' env S => env = E s' ∧ S = st ++ O s') e := by
  rw [sFor_ap, hi, sFor_o1]
  show MyP st (loopF (some ks) src g body (xs.map cx) (kill ks env) (st ++ O s)) _ _ _
  rw [hk]
  exact for_Y hs hl hb xs s hc


section
variable {env env' : Env} {S S' : Sto} {st : Sto} {o o' : List SO} {m : EM} {ms : Env → Sto → Res (List D)} {u v : SM4} {α β σ : Type} {T : α ⊕ Exc} {c : β → D}
theorem dx_raiseF {cls : String} {fs : List Str} {ds : List D} (h : ms env S = .ok ds S) (hl : ds.length = fs.length) : sRaiseF cls fs ms env S = .ex ⟨cls, (fs.zip ds).reverse⟩ env S := by
  show (ms env S).on env _ = _
  rw [h]
  simp only [Res.on_ok, if_pos hl]
theorem fx_nil {cls : String} : flatX ⟨cls, []⟩ = true := rfl
theorem fx_cons {cls : String} {f : Str} {d : D} {fs : List (Str × D)} (h : D.flt 20 d = true) (h2 : flatX ⟨cls, fs⟩ = true) : flatX ⟨cls, (f, d) :: fs⟩ = true := by
  unfold flatX at *
  rw [List.all_cons, h2]
  simp only [h, Bool.and_self]
end

@[reducible] def cX (x : Exc) : D := .exc x.cls (x.fs.map (·.1)) (x.fs.map (·.2))
def okX (tab : List (String × Bool)) (x : Exc) : Prop := (tabB tab x.cls).isSome = true
section
variable {env : Env} {S : Sto} {m : EM}
end

section
variable {env : Env} {S : Sto} {α τ : Type} {T : α ⊕ Exc} {P : τ → Env → Sto → Prop} {m u u1 u2 : SM4} {i i1 i2 : Nat} {tab t1 t2 : List (String × Bool)}
end
theorem MyP.mono {σ ρ : Type} {st : Sto} {r : SRes} {o : σ ⊕ ρ} {P Q : σ → Env → Sto → Prop} {e : ρ → OC} (h : MyP st r o P e) (i : ∀ s e S, P s e S → Q s e S) : MyP st r o Q e := by
  cases o with
  | inl s => exact NxP.mono h (i s)
  | inr v => exact h
theorem NxP.at {r : SRes} {P : Env → Sto → Prop} {env : Env} {S : Sto} (h : r = .nx env S) (hp : P env S) : NxP r P := ⟨env, S, h, hp⟩

section
variable {X : Cx} {W : WX} {ms : Env → Sto → Res (List D)} {i j : Nat} {x y : Str} {a b : Expr} {px py pt : Pos} {kt k2 pt2} {pos : Pos}
end

theorem cO_sub {α : Type} [Inhabited α] {c : α → D} {v : Option α} {F : D → Prop} (h : v.isNone = false) (k : F (c (v.getD default))) : F (cO c v) := by
  cases v with
  | none => cases h
  | some a => exact k
theorem ev_get {α : Type} [Inhabited α] {c : α → D} {v : Option α} {m : EM} {env : Env} {S : Sto} (h : m env S = .ok (cO c v) S) (hk : v.isSome = true) : m env S = .ok (c (v.getD default)) S := by
  cases v with
  | none => cases hk
  | some a => exact h

theorem eqB_M {α : Type} [DecidableEq α] {c : α → D} (h : EqE 39 c) {xs ys : List α} {st : Sto} {o : List SO} {i : Nat} (ho : o[i]? = some (.lst (xs.map c))) : eqB (st ++ o) (.loc (st.length + i)) (.lst (ys.map c)) = some (decide (xs = ys)) := by
  obtain ⟨p, p1, p2⟩ := h
  have e1 : toPy 40 (st ++ o) (.loc (st.length + i)) = some (.list (xs.map p)) := by
    show (match (st ++ o)[st.length + i]? with
      | some (.lst ds) => (mapO (toPy 39 (st ++ o)) ds).map PyData.list
      | _ => _) = _
    rw [lk ho]
    simp only
    rw [mapO_map fun a _ => p1 _ a]; rfl
  have e2 : toPy 40 (st ++ o) (.lst (ys.map c)) = some (.list (ys.map p)) := by
    show (mapO (toPy 39 (st ++ o)) (ys.map c)).map PyData.list = _
    rw [mapO_map fun a _ => p1 _ a]; rfl
  unfold eqB
  rw [e1, e2]
  simp only [PyData.eqv]
  rw [eqvAll_mapP p2]
theorem ne_M {α : Type} [DecidableEq α] {c : α → D} (h : EqE 39 c) {xs ys : List α} {st : Sto} {o : List SO} {i : Nat} (ho : o[i]? = some (.lst (xs.map c))) : neD (.loc (st.length + i)) (cL c ys) (st ++ o) = .ok (cB (!decide (xs = ys))) (st ++ o) := neD_of (eqB_M h ho)

end FL

namespace FL
open PySem PySem.Spec PyProof.Rows L2
variable [TabCtx]
open SrtO

section
variable {prog : Program} {w : World} {A : Around} {E : Value → Shared → Prop} {s : Shared}
end
variable {X : Cx}
end FL

namespace FL
open PySem PySem.Spec PyProof.Rows L2
variable [TabCtx]

section
variable {α : Type} {c : α → D} {xs : List α} {S : Sto} {l : Nat} {x : α} {env : Env}
end
structure NetS (S : Sto) (lt lh : Nat) (ls : List Nat) (tt : List (List Int)) (homes : List Int) : Prop where
  t : S[lt]? = some (.lst (ls.map D.loc))
  h : S[lh]? = some (.lst (homes.map cI))
  len : ls.length = tt.length
  at_ : ∀ i : Nat, i < tt.length → S[ls.getD i 0]? = some (.lst ((tt.getD i []).map cI))
  nd : (lt :: lh :: ls).Nodup
section
variable {S : Sto} {lt lh : Nat} {ls : List Nat} {tt : List (List Int)} {homes : List Int} {env : Env}
theorem NetS.ne (h : NetS S lt lh ls tt homes) {i : Nat} (hi : i < tt.length) : ls.getD i 0 ≠ lt ∧ ls.getD i 0 ≠ lh ∧ lt ≠ lh := by
  have hi2 : i < ls.length := by rw [h.len]; exact hi
  have hm : ls.getD i 0 ∈ ls := by rw [List.getD_eq_getElem?_getD, List.getElem?_eq_getElem hi2]; exact List.getElem_mem hi2
  have n1 := List.nodup_cons.mp h.nd
  have n2 := List.nodup_cons.mp n1.2
  refine ⟨fun e => n1.1 ?_, fun e => n2.1 ?_, fun e => n1.1 ?_⟩
  · rw [← e]; exact List.mem_cons_of_mem _ hm
  · rw [← e]; exact hm
  · rw [e]; exact List.mem_cons_self
theorem NetS.inj (h : NetS S lt lh ls tt homes) {i j : Nat} (hi : i < tt.length) (hj : j < tt.length) (e : ls.getD i 0 = ls.getD j 0) : i = j := by
  have hi2 : i < ls.length := by rw [h.len]; exact hi
  have hj2 : j < ls.length := by rw [h.len]; exact hj
  rw [List.getD_eq_getElem?_getD, List.getElem?_eq_getElem hi2, List.getD_eq_getElem?_getD, List.getElem?_eq_getElem hj2] at e
  exact (List.getElem_inj (List.nodup_cons.mp (List.nodup_cons.mp h.nd).2).2).mp e
end
end FL

namespace FL
open PySem PySem.Spec PyProof.Rows L2
variable [TabCtx]

section
variable {X : Cx} {W : WX} {ss : List Stmt} {m m1 m2 : SM4}
end
end FL

namespace FL
open PySem PySem.Spec PyProof.Rows L2
variable [TabCtx]


end FL

namespace FL
open PySem PySem.Spec PyProof.Rows L2
variable [TabCtx]

theorem RES.mono {α β : Type} {K : PySem.W.Frag} {mg : Str → Option Value} {R : Hp → Rho → α → β → Prop} {E : Value → Option Addr → Hp → Prop} {H H1 : Hp} {r r1 : Rho} {st : Sto} {m : Res α} {Q : β → Hp → Prop} (h : RES K mg R E H r m Q) (e : Ext H r H1 r1) (s : SR K H1 r1 st) : RES K mg R E H1 r1 m Q := by
  cases m with
  | ok a st2 => exact fun b H' r' e2 s2 q => h b H' r' (e.trans s e2) s2 q
  | ex x st2 => exact fun cls d H' r' e2 s2 q => h cls d H' r' (e.trans s e2) s2 q
  | bad => exact h
theorem XR.ext {K : PySem.W.Frag} {mg : Str → Option Value} {H H' : Hp} {r r' : Rho} {x : Exc} {cls : Value} {d : Option Addr} (h : XR K mg H r x cls d) (e : Ext H r H' r') : XR K mg H' r' x cls d := by
  obtain ⟨h1, h2⟩ := h
  refine ⟨h1, ?_⟩
  cases q : x.fs with
  | nil => rw [q] at h2; exact h2
  | cons p ps =>
    rw [q] at h2
    obtain ⟨dd, vs, y1, y2, y3, y4⟩ := h2
    refine ⟨dd, vs, y1, e.new y2 y3, e.keep _ _ y2.1 (fun ps z => by cases z) y3, ?_⟩
    exact paired_imp (fun a b w => ⟨w.1, VD.ext e _ _ w.2⟩) y4
section
variable {X : Cx} {Ng : List Str} {x a q yc yf ye xc : Str} {sg : Scope} {g : Addr} {cdg : Value} {ic iff ie : Nat} {tab : List (String × Bool)} {y : Cl} {mU mR : SM4} {b₀ : Stmt} {suite rest : List Stmt}
  {j1 j2 : Option Str} {p1 p2 p3 p4 p5 p6 p7 p8 p9 p10 p11 p12 p13 : Pos}
end
end FL

namespace FL
open PySem PySem.Spec PyProof.Rows L2
variable [TabCtx]

section
variable {X : Cx} {Ng : List Str} {x a : Str} {ic iff ie : Nat} {tab : List (String × Bool)} {mU mR : SM4}
end

end FL

namespace FL
open PySem PySem.Spec PyProof.Rows L2 LamX

structure DefAtC (K : PySem.W.Frag) (mg : Str → Option Value) (x : Str) (st : Stmt) (ps : List Str) (c : Addr) : Prop where
  ex : ∃ f fd, L2.Fun K x x st f fd ∧ mg x = some (.ref f) ∧ Binds K fd ps [] ∧ fd.code = .ref c
variable [TabCtx]
end FL

namespace FL
open PySem PySem.Spec PyProof.Rows L2

section
variable {P : Program} {w : World} {A : Around} {E : Value → Shared → Prop} {s : Shared} {l : Addr} {its : Array Value} {ks : List (Addr × List Int)}
end
end FL

namespace FL
open PySem PySem.Spec PyProof.Rows L2
variable [TabCtx]

section
variable {P : Program} {w : World} {A : Around} {E : Value → Shared → Prop} {s : Shared}
end
end FL
namespace FL
open PySem PySem.Spec PyProof.Rows L2
variable [TabCtx]
section
variable {X : Cx}
end
section
variable {X : Cx} {W : WX} {es : List Expr} {e : Expr} {ms : Env → Sto → Res (List D)} {x y : Str} {p pos p2 pos2 : Pos}
end
end FL

namespace FL
open PySem PySem.Spec PyProof.Rows L2
variable [TabCtx]

section
variable {X : Cx} {W : WX} {o a e : Expr} {m mo ma : EM} {pos p2 apos cpos : Pos}
end
end FL

namespace FL
open PySem PySem.Spec PyProof.Rows L2
variable [TabCtx]

section
variable {X : Cx} {W : WX} {e1 e2 e3 e4 : Expr} {m1 m2 m3 m4 : EM} {pos : Pos}
end
end FL

namespace FL
open PySem PySem.Spec PyProof.Rows L2
variable [TabCtx]

section
variable {X : Cx} {W : WX} {x : Str} {body suite : List Stmt} {b₀ : Stmt} {np pos pos' : Pos} {m u : SM4} {y : Cl} {tab : List (String × Bool)}
end
end FL

namespace FL
open PySem PySem.Spec PyProof.Rows L2
variable [TabCtx]

section
variable {prog : Program} {w : World} {A : Around} {E : Value → Shared → Prop} {s : Shared}
end

end FL

namespace FL
open PySem PySem.Spec PyProof.Rows L2
variable [TabCtx]

section
variable {X : Cx} {W : WX} {e1 e2 : Expr} {m1 m2 : EM} {pos : Pos}
end
end FL

namespace FL
open PySem PySem.Spec PyProof.Rows L2
variable [TabCtx]

end FL

namespace FL
open PySem PySem.Spec PyProof.Rows L2
variable [TabCtx]
open SrtO

theorem srt_unique {α : Type} {lt : α → α → Bool} (O : Swo lt) : ∀ {l m : List α}, Srtd lt l → Srtd lt m → Stb lt l m → l = m
  | [], m, _, _, s => (s.perm.nil_eq)
  | x :: l, [], _, _, s => absurd s.perm.length_eq (by simp)
  | x :: l, y :: m, h1, h2, s => by
    have hy : lt y x = false := by
      rcases List.mem_cons.mp (s.perm.mem_iff.mpr (List.mem_cons_self (a := y) (l := m))) with e | e
      · rw [e]; exact O.refl x
      · exact srtd_head h1 y e
    have hx : lt x y = false := by
      rcases List.mem_cons.mp (s.perm.mem_iff.mp (List.mem_cons_self (a := x) (l := l))) with e | e
      · rw [e]; exact O.refl y
      · exact srtd_head h2 x e
    have c := s.cls x
    rw [List.filter_cons, if_pos (eqv_iff.mpr ⟨O.refl x, O.refl x⟩), List.filter_cons, if_pos (eqv_iff.mpr ⟨hx, hy⟩)] at c
    obtain ⟨rfl, -⟩ := List.cons.inj c
    rw [srt_unique O (List.pairwise_cons.mp h1).2 (List.pairwise_cons.mp h2).2 ⟨List.Perm.cons_inv s.perm, fun z => by
      have c2 := s.cls z
      rw [List.filter_cons, List.filter_cons] at c2
      split at c2
      · exact (List.cons.inj c2).2
      · exact c2⟩]
def leI (kz : List (Int × Int)) (i j : Nat) : Bool := !lexB (kz.getD j (0, 0)) (kz.getD i (0, 0))
def srtP (kz : List (Int × Int)) : List Nat := (List.range kz.length).mergeSort (leI kz)
theorem leI_trans (kz : List (Int × Int)) : ∀ a b c, leI kz a b = true → leI kz b c = true → leI kz a c = true := fun a b c h1 h2 => by
  unfold leI at *
  simp only [Bool.not_eq_true', lexB_no] at *
  omega
theorem leI_total (kz : List (Int × Int)) : ∀ a b, (leI kz a b || leI kz b a) = true := fun a b => by
  unfold leI
  cases h : lexB (kz.getD b (0, 0)) (kz.getD a (0, 0)) with
  | false => rfl
  | true =>
    have h1 := lexB_iff.mp h
    have : lexB (kz.getD a (0, 0)) (kz.getD b (0, 0)) = false := lexB_no.mpr (by omega)
    rw [this]; rfl
theorem srtP_perm (kz : List (Int × Int)) : (srtP kz).Perm (List.range kz.length) := List.mergeSort_perm _ _
theorem srtP_srtd (kz : List (Int × Int)) : Srtd (fun i j : Nat => lexB (kz.getD i (0, 0)) (kz.getD j (0, 0))) (srtP kz) := by
  have h := List.pairwise_mergeSort (leI_trans kz) (leI_total kz) (List.range kz.length)
  exact h.imp fun {a b} q => by
    unfold leI at q
    simpa using q
theorem srtP_stb (kz : List (Int × Int)) : Stb (fun i j : Nat => lexB (kz.getD i (0, 0)) (kz.getD j (0, 0))) (srtP kz) (List.range kz.length) := by
  refine ⟨srtP_perm kz, fun x => ?_⟩
  have hs : ((List.range kz.length).filter (eqv (fun i j : Nat => lexB (kz.getD i (0, 0)) (kz.getD j (0, 0))) x)).Sublist (srtP kz) := by
    refine List.sublist_mergeSort (leI_trans kz) (leI_total kz) ?_ List.filter_sublist
    refine List.pairwise_iff_forall_sublist.mpr fun {a b} hab => ?_
    have ha := (List.mem_filter.mp (hab.subset (by simp : a ∈ [a, b]))).2
    have hb := (List.mem_filter.mp (hab.subset (by simp : b ∈ [a, b]))).2
    rw [eqv_iff] at ha hb
    unfold leI
    have h1 := lexB_no.mp ha.1
    have h2 := lexB_no.mp ha.2
    have h3 := lexB_no.mp hb.1
    have h4 := lexB_no.mp hb.2
    have : lexB (kz.getD b (0, 0)) (kz.getD a (0, 0)) = false := lexB_no.mpr (by omega)
    rw [this]; rfl
  have hf := hs.filter (eqv (fun i j : Nat => lexB (kz.getD i (0, 0)) (kz.getD j (0, 0))) x)
  rw [List.filter_filter] at hf
  simp only [Bool.and_self] at hf
  exact (hf.eq_of_length ((srtP_perm kz).symm.filter _).length_eq).symm
theorem srtP_out {kf : Value → Int × Int} {kvs its : List Value} {kz : List (Int × Int)} {out : List Keyed} (hl : kvs.length = kz.length) (hi : its.length = kz.length) (hk : ∀ i, i < kz.length → kf (kvs.getD i .none) = kz.getD i (0, 0))
    (h1 : Srtd (lt2 fun v u => lexB (kf v) (kf u)) out) (h2 : Stb (lt2 fun v u => lexB (kf v) (kf u)) out (kvs.zip its)) : out.map (·.2) = (srtP kz).map fun i => its.getD i .none := by
  have ez : kvs.zip its = (List.range kz.length).map fun i => (kvs.getD i .none, its.getD i .none) := by
    apply List.ext_getElem
    · simp [hl, hi]
    · intro i g1 g2
      simp only [List.length_map, List.length_range] at g2
      simp [List.getD, List.getElem?_eq_getElem (show i < kvs.length by omega), List.getElem?_eq_getElem (show i < its.length by omega)]
  have hmem : ∀ i ∈ srtP kz, i < kz.length := fun i hm => by simpa using (srtP_perm kz).mem_iff.mp hm
  have e : out = (srtP kz).map fun i => (kvs.getD i .none, its.getD i .none) := by
    refine srt_unique (swo2 (swo_lex kf)) h1 ?_ (h2.trans ?_)
    · rw [Srtd, List.pairwise_map]
      refine List.Pairwise.imp_of_mem (fun {a b} ha hb q => ?_) (srtP_srtd kz)
      show lexB (kf _) (kf _) = false
      rw [hk _ (hmem _ ha), hk _ (hmem _ hb)]
      exact q
    · rw [ez]
      refine ⟨((srtP_perm kz).map _).symm, fun x => ?_⟩
      rw [List.filter_map, List.filter_map]
      congr 1
      by_cases hx : ∃ i, i < kz.length ∧ eqv (lt2 fun v u => lexB (kf v) (kf u)) x (kvs.getD i .none, its.getD i .none) = true
      · obtain ⟨i, hil, hie⟩ := hx
        have hie' := eqv_iff.mp hie
        have hie1 : lexB (kf x.1) (kf (kvs.getD i .none)) = false := hie'.1
        have hie2 : lexB (kf (kvs.getD i .none)) (kf x.1) = false := hie'.2
        rw [hk i hil] at hie1 hie2
        have hc := (srtP_stb kz).cls i
        have hcong : ∀ (l : List Nat), (∀ j ∈ l, j < kz.length) → l.filter (eqv (lt2 fun v u => lexB (kf v) (kf u)) x ∘ fun i => (kvs.getD i .none, its.getD i .none)) = l.filter (eqv (fun i j : Nat => lexB (kz.getD i (0, 0)) (kz.getD j (0, 0))) i) := by
          intro l hlm
          refine List.filter_congr fun j hj => ?_
          have a1 := lexB_no.mp hie1
          have a2 := lexB_no.mp hie2
          rw [Bool.eq_iff_iff]
          show eqv _ x (kvs.getD j .none, its.getD j .none) = true ↔ _
          rw [eqv_iff, eqv_iff]
          show lexB (kf x.1) (kf (kvs.getD j .none)) = false ∧ lexB (kf (kvs.getD j .none)) (kf x.1) = false ↔ _
          rw [hk j (hlm j hj), lexB_no, lexB_no, lexB_no, lexB_no]
          omega
        rw [hcong _ (fun j hj => by simpa using hj), hcong _ hmem, hc]
      · have hno : ∀ (l : List Nat), (∀ j ∈ l, j < kz.length) → l.filter (eqv (lt2 fun v u => lexB (kf v) (kf u)) x ∘ fun i => (kvs.getD i .none, its.getD i .none)) = [] := fun l hlm =>
          List.filter_eq_nil_iff.mpr fun j hj hq => hx ⟨j, hlm j hj, hq⟩
        rw [hno _ (fun j hj => by simpa using hj), hno _ hmem]
  rw [e, List.map_map]
  rfl
end FL

namespace FL
open PySem PySem.Spec PyProof.Rows L2
variable [TabCtx]
open SrtO
section
variable {prog : Program} {w : World} {A : Around} {E : Value → Shared → Prop} {s : Shared}
theorem sorted_key_pre {l f : Addr} {vs : List Value} {Q : Value → Shared → Prop} (hl : s.heap.IsList l vs.toArray) (hz : vs.length ≤ sizeLine)
    (h : ∀ (h' : Heap) (a kS : Addr) (e1 : Nat), (∀ b o, s.heap.get? b = some o → h'.get? b = some o) → s.heap.objs.size ≤ a → a < kS → h'.get? a = some (seqObj "list" #[] e1) → h'.get? kS = some (seqObj "list" #[] 0) →
      wpAny (model prog w) A.in1.in1 (ksk_rest a (.ref f) false vs.toArray e1 (.ref kS)) (fun r s' => r = .done (.ret .none) ∧ Q (.ref a) s') E { s with heap := h' }) :
    wpAny (model prog w) A (call (.builtin "sorted") [.ref l] [(Str.ofString "key", .ref f)]) Q E s := by
  refine call_function_entry_kw kind_sorted plain_sorted entry_sorted (ksk_s1 _ _) ?_
  unfold Builtin.«sorted»
  refine wpAny_bind (m := checkCount "sorted" 1 1 _) (wpAny_pure ?_)
  refine wpAny_bind (collect_list hl ?_ hz)
  refine wpAny_bind (wpAny_newList ?_ hz)
  have hsz : ((s.heap.push (seqObj "list" #[] 0)).update s.heap.objs.size (Obj.mapSeq (· ++ vs.toArray))).objs.size = s.heap.objs.size + 1 := by
    rw [Heap.size_update, size_push']
  have hoL : (((s.heap.push (seqObj "list" #[] 0)).update s.heap.objs.size (Obj.mapSeq (· ++ vs.toArray))).push (seqObj "list" vs.toArray 0)).get? (s.heap.objs.size + 1) = some (seqObj "list" vs.toArray 0) := by
    rw [← hsz]; exact Heap.get?_push_size _ rfl
  have keep : ∀ b o, s.heap.get? b = some o → b ≠ s.heap.objs.size + 1 ∧ (((s.heap.push (seqObj "list" #[] 0)).update s.heap.objs.size (Obj.mapSeq (· ++ vs.toArray))).push (seqObj "list" vs.toArray 0)).get? b = some o := fun b o q => by
    have hlt : b < s.heap.objs.size := Heap.lt_size q
    refine ⟨Nat.ne_of_lt (Nat.lt_succ_of_lt hlt), Heap.get?_push_of_some _ ?_⟩
    rw [Heap.get?_update_ne _ _ _ _ (Nat.ne_of_lt hlt)]
    exact Heap.get?_push_of_some _ q
  show wpAny _ _ _ _ _ { s with heap := ((s.heap.push (seqObj "list" #[] 0)).update s.heap.objs.size (Obj.mapSeq (· ++ vs.toArray))).push (seqObj "list" vs.toArray 0) }
  rw [hsz]
  refine wpAny_bind (wpAny_holding (wpAny_call_entry_kw slot_list_sort ⟨_, hoL, rfl⟩ entry_list_sort ?body (ksk_l1 _ _)))
  case body =>
    show wpAny (model prog w) A.in1.in1 (Builtin.«list.sort» ⟨[.ref (s.heap.objs.size + 1)], [(Str.ofString "key", .ref f)]⟩) _ _ _
    rw [ksk_t1]
    generalize hg : ((s.heap.push (seqObj "list" #[] 0)).update s.heap.objs.size (Obj.mapSeq (· ++ vs.toArray))).push (seqObj "list" vs.toArray 0) = h1 at hoL keep
    obtain ⟨e1, ho1⟩ : ∃ e1, (h1.update (s.heap.objs.size + 1) (Obj.mapSeq fun _ => (#[] : Array Value))).get? (s.heap.objs.size + 1) = some (seqObj "list" #[] e1) := ⟨_, get?_update_seq hoL fun _ => #[]⟩
    have hlt1 : s.heap.objs.size + 1 < h1.objs.size := Heap.lt_size hoL
    have hkS : ((h1.update (s.heap.objs.size + 1) (Obj.mapSeq fun _ => (#[] : Array Value))).push (seqObj "tuple" vs.toArray 0)).objs.size = h1.objs.size + 1 := by rw [size_push', Heap.size_update]
    unfold ksk_tree
    refine wpAny_bind (listItems_at hoL rfl ?_)
    refine wpAny_bind (listUpdate_at hoL rfl ?_ (by rw [List.size_toArray]; exact hz) (Nat.zero_le _))
    refine wpAny_bind (seqEpoch_at ho1 rfl ?_)
    refine wpAny_bind (wpAny_newTuple ?_ (by show vs.length ≤ _; exact hz))
    refine wpAny_bind (wpAny_newList ?_ (Nat.zero_le _))
    refine wpAny_holding ?_
    refine wpAny_mono (h (((h1.update (s.heap.objs.size + 1) (Obj.mapSeq fun _ => (#[] : Array Value))).push (seqObj "tuple" vs.toArray 0)).push (seqObj "list" #[] 0)) (s.heap.objs.size + 1) _ e1 (fun b o q => ?_) (Nat.le_succ _) ?_ ?_ (Heap.get?_push_size _ rfl)) (fun r s' hr => ?_) fun _ _ x => x
    · obtain ⟨k1, k2⟩ := keep b o q
      refine Heap.get?_push_of_some _ (Heap.get?_push_of_some _ ?_)
      rw [Heap.get?_update_ne _ _ _ _ k1]
      exact k2
    · rw [hkS]; exact Nat.lt_succ_of_lt hlt1
    · exact Heap.get?_push_of_some _ (Heap.get?_push_of_some _ ho1)
    · obtain ⟨rfl, hq⟩ := hr
      exact ⟨_, rfl, wpAny_pure ⟨_, rfl, hq⟩⟩
end
def emptyAt (a : Addr) (e1 : Nat) : HO := .ext fun h => h.get? a = some (seqObj "list" #[] e1)
def pairOf (h : Heap) : Value → Int × Int
  | .ref t => match h.get? t with
    | some o => match o.data with
      | .seq its _ => match its.toList with
        | [.int x _, .int y _] => (x, y)
        | _ => (0, 0)
      | _ => (0, 0)
    | none => (0, 0)
  | _ => (0, 0)
theorem pairOf_is {h : Heap} {v : Value} {x y : Int} (p : Srt.IsPair h v x y) : pairOf h v = (x, y) := by
  obtain ⟨a, o, t, u, n, rfl, ho, hc, hd⟩ := p
  unfold pairOf
  simp only [ho, hd]
variable {X : Cx} {pins : List (Addr × Obj)} {σ : L2.St}
theorem key_pair {H : Hp} {s : Shared} (I : Inv X pins σ H s) {t : Addr} {a b : Int} (h : SqT X.K H t [.int a, .int b]) : Srt.IsPair s.heap (.ref t) a b := by
  obtain ⟨us, rv, ⟨o, ho, hc, n, hd⟩, _⟩ := I.tuple h
  obtain ⟨u1, u2, rfl, ri, rj⟩ := vals2 rv
  obtain ⟨t1, rfl⟩ := ri
  obtain ⟨t2, rfl⟩ := rj
  exact ⟨t, o, t1, t2, n, rfl, ho, hc, hd⟩
theorem ksk_rest_inv {P : PySem.Fin → Shared → Prop} {E : Value → Shared → Prop} {f a kS : Addr} {e1 : Nat} {xs : List V} {vs : List Value} (J : Nat → List V → Hp → Prop) {H0 : Hp} {s0 : Shared} (I0 : Inv X pins σ H0 s0) (hak : a < kS)
    (ha : s0.heap.get? a = some (seqObj "list" #[] e1))
    (rv : Vals xs vs) (hz : vs.length ≤ sizeLine) (j0 : J 0 [] H0) (jA : ∀ i ks H, J i ks H → H a = some (emptyAt a e1) ∧ H kS = some (.lst ks) ∧ ks.length = i)
    (step : ∀ i x ks H s, xs[i]? = some x → J i ks H → Inv X pins σ H s → ∀ u, RelV x u → wpAny (model X.prog X.w) X.A.in1.in1 (call (.ref f) [u]) (EP X pins σ fun kv H2 => H2 a = some (emptyAt a e1) ∧ H2 kS = some (.lst ks) ∧ J (i + 1) (ks ++ [kv]) (upd H2 kS (.lst (ks ++ [kv])))) (fun _ _ => False) s)
    (fin : ∀ ks H s, J xs.length ks H → Inv X pins σ H s → ∃ kz : List (Int × Int), kz.length = ks.length ∧ (∀ i, i < ks.length → ∃ t, ks[i]? = some (V.ref t) ∧ SqT X.K H t [.int (kz.getD i (0, 0)).1, .int (kz.getD i (0, 0)).2]) ∧
      ∀ s', Inv X pins σ (upd (upd H kS (.lst [])) a (.lst ((srtP kz).map fun i => xs.getD i .non))) s' → P (.done (.ret .none)) s') :
    wpAny (model X.prog X.w) X.A.in1.in1 (ksk_rest a (.ref f) false vs.toArray e1 (.ref kS)) P E s0 := by
  have hlen : xs.length = vs.length := rv.length
  unfold ksk_rest
  refine wpAny_bind (wpAny_rule ?_)
  first
    | rw [List.forIn_toArray]
    | (rw [← Array.forIn_toList]; simp only [List.toList_toArray])
    | rw [← Array.forIn_toList]
  refine wpAny_bind (ksk_fold (fun i s' => ∃ ks H, J i ks H ∧ Inv X pins σ H s') vs 0 s0 ⟨[], H0, j0, I0⟩ ?step ?done)
  case step =>
    rintro j v s1 hx ⟨ks, H, hJ, I⟩
    simp only [Nat.zero_add] at hJ ⊢
    have hj : j < vs.length := (List.getElem?_eq_some_iff.mp hx).1
    obtain ⟨x, hxx⟩ : ∃ x, xs[j]? = some x := ⟨_, List.getElem?_eq_getElem (by omega)⟩
    obtain ⟨u, hu, ru⟩ := rv.get hxx
    rw [hx] at hu
    obtain rfl := Option.some.inj hu
    refine wpAny_bind (wpAny_attempt (wpAny_mono (step j x ks H s1 hxx hJ I v ru) (fun k s2 hk => ?_) fun _ _ hF => hF.elim))
    obtain ⟨kv, H2, I2, rk, ha2, hk2, hJ2⟩ := hk
    obtain ⟨hzk, its, n, rvk, hok⟩ := I2.hok kS _ hk2
    have hkl := (jA _ _ _ hJ).2.2
    have hlk : its.length = j := by rw [← rvk.length, hkl]
    have ea : its.toArray.push k = (its ++ [k]).toArray := by simp
    obtain ⟨c2, hc2⟩ : ∃ c2, (s2.heap.update kS (Obj.mapSeq (·.push k))).get? kS = some (seqObj "list" (its ++ [k]).toArray c2) := ⟨_, by rw [← ea]; exact get?_update_seq hok (·.push k)⟩
    try dsimp only
    refine wpAny_bind (listUpdate_at hok rfl ?_ (by rw [List.size_toArray]; omega) (Nat.le_trans (Nat.le_of_eq (Array.size_push ..)) (by rw [List.size_toArray]; omega)))
    refine wpAny_pure ⟨rfl, ks ++ [kv], _, hJ2, I2.write (e := kS) (t' := s2.toks) (by rw [hk2]; trivial) (.inl rfl) (fun b u hb hu => ?_) ⟨_, hc2⟩ ⟨by rw [List.length_append, List.length_singleton, hkl]; omega, its ++ [k], c2, rvk.append (.cons rk .nil), hc2⟩⟩
    show (s2.heap.update kS _).get? b = some u
    rw [Heap.get?_update_ne _ _ _ _ hb]
    exact hu
  case done =>
    rintro s2 ⟨ks, H, hJ, I⟩
    rw [Nat.zero_add, ← hlen] at hJ
    obtain ⟨hA, hK, hkl⟩ := jA _ _ _ hJ
    obtain ⟨kz, hkz, hkt, hfin⟩ := fin ks H s2 hJ I
    obtain ⟨hzk, kvs, n, rvk, hok⟩ := I.hok kS _ hK
    have hoa : s2.heap.get? a = some (seqObj "list" #[] e1) := (I.hok a _ hA).1
    have hkvl : kvs.length = vs.length := by rw [← rvk.length, hkl, hlen]
    have hkzl : kz.length = vs.length := by rw [hkz, hkl, hlen]
    have hkp : ∀ i, i < vs.length → ∃ v, kvs[i]? = some v ∧ Srt.IsPair s2.heap v (kz.getD i (0, 0)).1 (kz.getD i (0, 0)).2 := fun i hi => by
      obtain ⟨t, h1, h2⟩ := hkt i (by omega)
      obtain ⟨u, hu, ru⟩ := rvk.get h1
      obtain rfl : u = .ref t := ru
      exact ⟨_, hu, key_pair I h2⟩
    have hkpm : ∀ v ∈ kvs, Srt.IsPair s2.heap v (pairOf s2.heap v).1 (pairOf s2.heap v).2 := fun v hv => by
      obtain ⟨i, hi, e⟩ := List.getElem_of_mem hv
      obtain ⟨v', e', hp⟩ := hkp i (by omega)
      rw [List.getElem?_eq_getElem hi, e] at e'
      obtain rfl := Option.some.inj e'
      rw [pairOf_is hp]
      exact hp
    try dsimp only
    refine wpAny_bind (listItems_at hok rfl ?_)
    -- the end
    have tail : ∀ st' : SortSt, Srtd (lt2 fun v u => lexB (pairOf s2.heap v) (pairOf s2.heap u)) (arrOf st').toList → Stb (lt2 fun v u => lexB (pairOf s2.heap v) (pairOf s2.heap u)) (arrOf st').toList (kvs.zip vs) → failedOf st' = none →
        wpAny (model X.prog X.w) X.A.in1.in1 (ksk_tail a false e1 (.ref kS) st') P E s2 := by
      intro st' h1 h2 hf
      have hout : (arrOf st').toList.map (·.2) = (srtP kz).map fun i => vs.getD i .none := srtP_out (by omega) (by omega) (fun i hi => by
        obtain ⟨v, e, hp⟩ := hkp i (by omega)
        rw [List.getD, e]
        exact pairOf_is hp) h1 h2
      have hmem : ∀ i ∈ srtP kz, i < kz.length := fun i hm => by simpa using (srtP_perm kz).mem_iff.mp hm
      have hvals : Vals ((srtP kz).map fun i => xs.getD i .non) ((srtP kz).map fun i => vs.getD i .none) := by
        have : ∀ l : List Nat, (∀ i ∈ l, i < vs.length) → Vals (l.map fun i => xs.getD i .non) (l.map fun i => vs.getD i .none) := by
          intro l
          induction l with
          | nil => exact fun _ => .nil
          | cons i l ih =>
            intro hl
            have hi := hl i List.mem_cons_self
            obtain ⟨u, hu, ru⟩ := rv.get (i := i) (x := xs[i]'(by omega)) (List.getElem?_eq_getElem (by omega))
            rw [List.map_cons, List.map_cons]
            refine .cons ?_ (ih fun j hj => hl j (List.mem_cons_of_mem _ hj))
            rw [List.getD, List.getD, hu, List.getElem?_eq_getElem (show i < xs.length by omega)]
            exact ru
        exact this _ fun i hi => by rw [← hkzl]; exact hmem i hi
      have ho : (arrOf st').map (·.2) = ((srtP kz).map fun i => vs.getD i .none).toArray := by
        apply Array.toList_inj.mp
        rw [Array.toList_map, hout]
      have hsl : ((srtP kz).map fun i => vs.getD i .none).length = vs.length := by rw [List.length_map, (srtP_perm kz).length_eq, List.length_range, hkzl]
      have hne : a ≠ kS := Nat.ne_of_lt hak
      obtain ⟨ck, hck⟩ : ∃ ck, (s2.heap.update kS (Obj.mapSeq fun _ => (#[] : Array Value))).get? kS = some (seqObj "list" #[] ck) := ⟨_, get?_update_seq hok fun _ => #[]⟩
      have hoa2 : (s2.heap.update kS (Obj.mapSeq fun _ => (#[] : Array Value))).get? a = some (seqObj "list" #[] e1) := by
        rw [Heap.get?_update_ne _ _ _ _ hne]; exact hoa
      obtain ⟨ca, hca⟩ : ∃ ca, ((s2.heap.update kS (Obj.mapSeq fun _ => (#[] : Array Value))).update a (Obj.mapSeq fun _ => ((srtP kz).map fun i => vs.getD i .none).toArray)).get? a = some (seqObj "list" ((srtP kz).map fun i => vs.getD i .none).toArray ca) :=
        ⟨_, get?_update_seq hoa2 fun _ => ((srtP kz).map fun i => vs.getD i .none).toArray⟩
      unfold ksk_tail
      try dsimp only
      rw [ho, if_neg (by simp)]
      refine wpAny_bind (listUpdate_at hok rfl ?_ (by rw [List.size_toArray]; omega) (Nat.zero_le _))
      refine wpAny_bind (wpAny_letGo ?_)
      refine wpAny_bind (seqEpoch_at hoa2 rfl ?_)
      refine wpAny_bind (listUpdate_at hoa2 rfl ?_ (Nat.zero_le _) (by rw [List.size_toArray, hsl]; omega))
      rw [hf]
      simp only [bne_self_eq_false, Bool.false_eq_true, if_false]
      refine wpAny_pure (hfin _ ?_)
      have I1 : Inv X pins σ (upd H kS (.lst [])) { s2 with heap := s2.heap.update kS (Obj.mapSeq fun _ => (#[] : Array Value)), toks := s2.toks } := I.write (e := kS) (by rw [hK]; trivial) (.inl rfl) (fun b u hb hu => by
        rw [Heap.get?_update_ne _ _ _ _ hb]; exact hu) ⟨_, hck⟩ ⟨Nat.zero_le _, [], ck, .nil, hck⟩
      have hA1 : upd H kS (.lst []) a = some (emptyAt a e1) := by rw [upd_ne hne]; exact hA
      exact I1.write (e := a) (by rw [hA1]; trivial) (.inl rfl) (fun b u hb hu => by
        show ((s2.heap.update kS _).update a _).get? b = some u
        rw [Heap.get?_update_ne _ _ _ _ hb]; exact hu) ⟨_, hca⟩ ⟨by rw [List.length_map, (srtP_perm kz).length_eq, List.length_range, hkzl]; exact hz, _, ca, hvals, hca⟩
    unfold ksk_end
    try dsimp only
    have ezl : (kvs.toArray.zip vs.toArray).toList = kvs.zip vs := by rw [ksk_zip]
    rw [if_neg (by simp)]
    by_cases h2 : vs.toArray.size < 2
    · rw [if_pos h2, if_pos h2]
      refine wpAny_bind (wpAny_pure ?_)
      rw [StateT.run_pure]
      refine wpAny_bind (wpAny_pure ?_)
      try dsimp only
      rw [List.size_toArray] at h2
      refine tail (SortSt.mk' general' (kvs.toArray.zip vs.toArray) #[] 7 none) ?_ ?_ rfl
      · show Srtd _ (kvs.toArray.zip vs.toArray).toList
        rw [ezl]
        match kvs, vs, h2 with
        | [], _, _ => exact List.Pairwise.nil
        | _ :: _, [], _ => exact List.Pairwise.nil
        | k :: ks, [v], _ => rw [List.zip_cons_cons, List.zip_nil_right]; exact srtd_one _
      · show Stb _ (kvs.toArray.zip vs.toArray).toList _
        rw [ezl]
        exact Stb.refl _
    · rw [if_neg h2, if_neg h2]
      rw [List.size_toArray] at h2
      obtain ⟨κ, hkind, hT⟩ := pairs_sortableO (prog := X.prog) (w := X.w) (A := X.A.in1.in1) (s := s2) (a := kS) (vs := kvs) (k := pairOf s2.heap) (by omega) hkpm (fun o e => by
        rw [hok] at e
        cases e
        intro c
        exact absurd (Value.type.inj c) (by decide)) s2.heap fun b o _ e => e
      refine wpAny_bind (hkind _ _ ?_)
      have hall : AllL (fun p : Keyed => p.1 ∈ kvs) (kvs.toArray.zip vs.toArray).toList := fun p hm => by
        rw [ezl] at hm
        exact (List.of_mem_zip hm).1
      refine wpAny_bind (wpAny_mono (wpS_sortO (st0 := SortSt.mk' κ (kvs.toArray.zip vs.toArray) #[] 7 none)
        (Q := fun _ st' => Srtd (lt2 fun v u => lexB (pairOf s2.heap v) (pairOf s2.heap u)) (arrOf st').toList ∧ Stb (lt2 fun v u => lexB (pairOf s2.heap v) (pairOf s2.heap u)) (arrOf st').toList (kvs.zip vs) ∧ failedOf st' = none) (swo2 (swo_lex _)) hT rfl hall rfl rfl fun st' a1 a2 a3 => ⟨a1, by rw [← ezl]; exact a2, a3⟩) ?_ fun _ _ e => e)
      rintro ⟨⟨⟩, st'⟩ s' ⟨rfl, hp1, hp2, hf⟩
      try dsimp only
      exact tail st' hp1 hp2 hf

theorem nx_empty {h : Heap} {a : Addr} {e1 : Nat} (hw : h.get? a = some (seqObj "list" #[] e1)) : Nx (emptyAt a e1) := by
  refine ⟨fun ps z => (by unfold emptyAt at z; cases z), fun c q z => ?_⟩
  unfold emptyAt LamX.CodeO at z
  injection z with z1
  have k := congrFun z1 h
  obtain ⟨oc, vs, t, k1, k2, k3⟩ := (Eq.mp k hw : ∃ (oc : Obj) (vs : Array Value) (t : Tok), h.get? c = some oc ∧ oc.data = .fields vs ∧ vs[1]? = some (.str q t))
  have hca : a ≠ c := by
    rintro rfl
    rw [hw] at k1
    cases k1
    cases k2
  have k' := congrFun z1 (h.update c fun o => { o with data := .freed })
  have hw' : (h.update c fun o => { o with data := .freed }).get? a = some (seqObj "list" #[] e1) := by
    rw [Heap.get?_update_ne _ _ _ _ hca]; exact hw
  obtain ⟨oc', vs', t', k1', _⟩ := (Eq.mp k' hw' : ∃ (oc : Obj) (vs : Array Value) (t : Tok), (h.update c fun o => { o with data := .freed }).get? c = some oc ∧ oc.data = .fields vs ∧ vs[1]? = some (.str q t))
  have hfr : (h.update c fun o => { o with data := .freed }).get? c = none := by
    cases q : (h.update c fun o => { o with data := .freed }).get? c with
    | none => rfl
    | some o =>
      have := (Heap.get?_eq_some _ _ _).mp q
      rw [Heap.objs_update_self, ((Heap.get?_eq_some _ _ _).mp k1).1] at this
      obtain ⟨e1, e2⟩ := this
      cases e1
      cases e2
  rw [hfr] at k1'
  cases k1'
def stoB : Sto → Sto → Bool
  | [], [] => true
  | a :: as, b :: bs => SO.beq a b && stoB as bs
  | _, _ => false
theorem stoB_eq : ∀ {a b : Sto}, stoB a b = true → a = b
  | [], [], _ => rfl
  | [], _ :: _, h => by simp [stoB] at h
  | _ :: _, [], h => by simp [stoB] at h
  | a :: as, b :: bs, h => by
    unfold stoB at h
    rw [Bool.and_eq_true] at h
    rw [SO.beq_eq h.1, stoB_eq h.2]
theorem stoB_refl : ∀ a : Sto, stoB a a = true
  | [] => rfl
  | a :: as => by simp [stoB, SO.beq_refl, stoB_refl as]
def keysP (mf : Fn) (st : Sto) : List D → Option (List (Int × Int))
  | [] => some []
  | d :: ds => match mf [d] st with
    | .ok (.tup [.int a, .int b]) st' => if stoB st' st = true then (keysP mf st ds).map ((a, b) :: ·) else none
    | _ => none
def tupI (p : Int × Int) : D := .tup [.int p.1, .int p.2]
theorem keysP_is {mf : Fn} {st : Sto} : ∀ {ds : List D} {kz : List (Int × Int)}, keysP mf st ds = some kz → kz.length = ds.length ∧ ∀ (i : Nat) (d : D), ds[i]? = some d → ∃ p, kz[i]? = some p ∧ mf [d] st = .ok (tupI p) st
  | [], kz, h => by cases h; exact ⟨rfl, fun i d q => by simp at q⟩
  | d :: ds, kz, h => by
    unfold keysP at h
    split at h
    · rename_i a b st' hm
      split at h
      · rename_i hs
        obtain ⟨kz', e, rfl⟩ := Option.map_eq_some_iff.mp h
        obtain ⟨h1, h2⟩ := keysP_is e
        obtain rfl := stoB_eq hs
        refine ⟨by simp [h1], fun i d' q => ?_⟩
        cases i with
        | zero => simp at q; subst q; exact ⟨(a, b), rfl, hm⟩
        | succ i => simpa using h2 i d' (by simpa using q)
      · cases h
    · cases h
theorem keysP_map {mf : Fn} {st : Sto} {α : Type} {enc : α → D} {k : α → Int × Int} : ∀ {l : List α}, (∀ a ∈ l, mf [enc a] st = .ok (tupI (k a)) st) → keysP mf st (l.map enc) = some (l.map k)
  | [], _ => rfl
  | a :: l, h => by
    rw [List.map_cons]
    unfold keysP
    rw [h a List.mem_cons_self]
    show (if stoB st st = true then (keysP mf st (l.map enc)).map ((k a) :: ·) else none) = _
    rw [if_pos (stoB_refl st), keysP_map fun b hb => h b (List.mem_cons_of_mem _ hb)]
    rfl
def sortK (mf : Fn) : List D → Sto → Res (List D)
  | [d], st => match lstD d st with
    | some ds => match keysP mf st ds with
      | some kz => .ok ((srtP kz).map fun i => ds.getD i .non) st
      | none => .bad
    | none => .bad
  | _, _ => .bad
def rSortK (X : Cx) (f : Addr) (mf : Fn) : List V → List V → Hp → VK → Prop := fun vs zs H Q => zs = [V.ref f] ∧ ∃ (E : XK) (r : Rho) (st : Sto) (ds : List D), SR X.K H r st ∧ VDs X.K H r ds vs ∧ RES X.K X.mg (RVs X.K) E H r (sortK mf ds st) (fun ys H1 => ∀ p, H1 p = none → Q (.ref p) (upd H1 p (.lst ys)))
theorem vds_map {K : PySem.W.Frag} {H : Hp} {r : Rho} {ds : List D} {xs : List V} (h : VDs K H r ds xs) : ∀ {l : List Nat}, (∀ i ∈ l, i < ds.length) → VDs K H r (l.map fun i => ds.getD i .non) (l.map fun i => xs.getD i .non)
  | [], _ => rfl
  | i :: l, hl => by
    have hi := hl i List.mem_cons_self
    obtain ⟨x, h1, h2⟩ := h.get (List.getElem?_eq_getElem hi)
    refine ⟨xs.getD i .non, l.map fun i => xs.getD i .non, rfl, ?_, vds_map h fun j hj => hl j (List.mem_cons_of_mem _ hj)⟩
    show VD K H r (ds.getD i .non) (xs.getD i .non)
    rw [List.getD, List.getD, h1, List.getElem?_eq_getElem hi]
    exact h2
theorem cr_sortK {k : Nat} {f : Addr} {fd : FuncData} {ps : List Str} {mf : Fn} (F : FnOk X.prog X.w X.K X.mg X.base (L2.CX X.prog X.w) k f fd ps (spM X.K X.mg 1 mf)) (hb : Binds X.K fd ps []) (hr : Room (k + 2) X.A) :
    CallRK X (.builtin "sorted") [Str.ofString "key"] (rSortK X f mf) := by
  intro pins s σ H vs zs us ws Q I rv rz h
  obtain ⟨rfl, E, r, st, ds0, hS, hV, h⟩ := h
  unfold sortK at h
  split at h
  · rename_i d
    obtain ⟨x0, rfl, hV1⟩ := vds1 hV
    cases ql : lstD d st with
    | none => simp only [ql] at h; exact h.elim
    | some ds =>
      simp only [ql] at h
      cases qk : keysP mf st ds with
      | none => simp only [qk] at h; exact h.elim
      | some kz =>
        simp only [qk] at h
        obtain ⟨l, xs, rfl, hVs, hs⟩ := lstD_v hS ql hV1
        obtain ⟨its, rvx, hl, hz⟩ := I.list hs
        obtain ⟨hkl, hkm⟩ := keysP_is qk
        have hdl : ds.length = xs.length := hVs.len
        obtain rfl := Vals.ref1 rv
        obtain ⟨w1, rfl, e1⟩ := vals1 rz
        obtain rfl : w1 = Value.ref f := e1
        refine sorted_key_pre (f := f) hl.isList (by rw [← rvx.length]; exact hz) fun h' a kS e1 keep hsa hak h1 h2 => ?_
        have hna : H a = none := I.hok.fresh hsa
        have hnk : H kS = none := I.hok.fresh (Nat.le_trans hsa (Nat.le_of_lt hak))
        have hne : a ≠ kS := Nat.ne_of_lt hak
        obtain ⟨G, g1, g2⟩ := restrict h' fun b => decide (b ≠ kS)
        have gk : ∀ b o, b ≠ kS → h'.get? b = some o → G.get? b = some o := fun b o hbk e => by
          rw [g1 b (decide_eq_true hbk)]; exact e
        have gb : ∀ b o, G.get? b = some o → h'.get? b = some o := fun b o e => by
          by_cases hbk : b = kS
          · rw [g2 b (by simp [hbk])] at e; cases e
          · rw [g1 b (decide_eq_true hbk)] at e; exact e
        have gn : G.get? kS = none := g2 kS (by simp)
        have hN : Nx (emptyAt a e1) := nx_empty h1
        have I1 : Inv X pins σ (upd H a (emptyAt a e1)) { s with heap := G, toks := s.toks } := I.laid (fun b u hu => gk b u (fun z => by
          have := Heap.lt_size hu
          rw [z] at this
          exact Nat.lt_irrefl _ (Nat.lt_of_lt_of_le this (Nat.le_trans hsa (Nat.le_of_lt hak)))) (keep b u hu)) hsa ⟨gk a _ hne h1, ⟨_, gk a _ hne h1⟩, fun x y p q => q _ p⟩
        have I2 : Inv X pins σ (upd (upd H a (emptyAt a e1)) kS (.lst [])) { s with heap := h', toks := s.toks } := I1.laidN (h' := h') (a := kS) (o := .lst []) (t' := s.toks) gb gn (by rw [upd_ne (Ne.symm hne)]; exact hnk) ⟨Nat.zero_le _, [], 0, .nil, h2⟩
        have hnk1 : upd H a (emptyAt a e1) kS = none := by rw [upd_ne (Ne.symm hne)]; exact hnk
        have eA : Ext H r (upd H a (emptyAt a e1)) (r.add a) := Ext.apart hna
        have sA := hS.add (o := emptyAt a e1) hna hN
        have eK : Ext (upd H a (emptyAt a e1)) (r.add a) (upd (upd H a (emptyAt a e1)) kS (.lst [])) ((r.add a).add kS) := Ext.apart hnk1
        have sK := sA.add (o := .lst []) hnk1
        have keepD : ∀ {D : Addr} {Ha Hb : Hp} {ra rb : Rho} {sa : Sto}, Ext Ha ra Hb rb → SR X.K Ha ra sa → D ∈ ra.pv → ∀ {o}, Ha D = some o → Hb D = some o := fun {D Ha Hb ra rb sa} e s hp {o} h => e.keep D o (s.apart D hp).1 (by
          obtain ⟨_, o2, n, h2⟩ := s.apart D hp
          rw [h2] at h; cases h; exact n.1) h
        refine ksk_rest_inv (X := X) (pins := pins) (σ := σ) (xs := xs) (vs := its) (kS := kS) (fun i ks Hc => ∃ r2, a ∈ r2.pv ∧ kS ∈ r2.pv ∧ Hc a = some (emptyAt a e1) ∧ Hc kS = some (.lst ks) ∧ ks.length = i ∧ Ext H r Hc r2 ∧ SR X.K Hc r2 st ∧ VDs X.K Hc r2 ((kz.take i).map tupI) ks)
          I2 hak h1 rvx (by rw [← rvx.length]; exact hz) ⟨_, List.mem_cons_of_mem _ List.mem_cons_self, List.mem_cons_self, by rw [upd_ne hne]; exact upd_same, upd_same, rfl, eA.trans sA eK, sK, rfl⟩
          (fun i ks Hc ⟨r2, _, _, q1, q2, q3, _⟩ => ⟨q1, q2, q3⟩) ?step ?fin
        case step =>
          rintro i x ks Hc sc hx ⟨r2, pa, pk, ha, hk, hkli, eE, sR, vR⟩ Ic u ru
          obtain ⟨d', hd', vd⟩ := hVs.getD hx
          obtain ⟨p, hp, hm⟩ := hkm i d' hd'
          have hrK : Room k X.A.in1.in1 := hr.in1.in1
          have hbb := hb sc [u] Ic.kIn (by rw [List.append_nil]; show 1 = _; rw [← F.len [x] H (fun _ _ => True) (fun _ _ _ => True) ⟨rfl, r, st, [d'], hS, ⟨x, [], rfl, vd, rfl⟩, by rw [hm]; exact fun _ _ _ _ _ _ => trivial⟩]; rfl)
          rw [List.append_nil] at hbb
          refine wpAny_call (codeAny_mono (F.run X.A.in1.in1 X.stack sc Hc ⟨[u], []⟩ [u] [x] (fun kv H2 => H2 a = some (emptyAt a e1) ∧ H2 kS = some (.lst ks) ∧ ∃ r2, a ∈ r2.pv ∧ kS ∈ r2.pv ∧ upd H2 kS (.lst (ks ++ [kv])) a = some (emptyAt a e1) ∧ upd H2 kS (.lst (ks ++ [kv])) kS = some (.lst (ks ++ [kv])) ∧ (ks ++ [kv]).length = i + 1 ∧ Ext H r (upd H2 kS (.lst (ks ++ [kv]))) r2 ∧ SR X.K (upd H2 kS (.lst (ks ++ [kv]))) r2 st ∧ VDs X.K (upd H2 kS (.lst (ks ++ [kv]))) r2 ((kz.take (i + 1)).map tupI) (ks ++ [kv]))
            (fun _ _ _ => False) hrK Ic.env0.in1.in1 hbb (.cons ru .nil) ⟨rfl, r2, st, [d'], sR, ⟨x, [], rfl, vd.ext eE, rfl⟩, ?_⟩) fun rs s' hq => ?_)
          · rw [hm]
            intro kv H' r' e' s' vk
            have pa' : a ∈ r'.pv := by
              obtain ⟨t, q, rfl, _⟩ := e'.pre
              exact List.mem_append_right _ pa
            have pk' : kS ∈ r'.pv := by
              obtain ⟨t, q, rfl, _⟩ := e'.pre
              exact List.mem_append_right _ pk
            have ha' := keepD e' sR pa ha
            have hk' := keepD e' sR pk hk
            have eE' := eE.trans sR e'
            have hH : ∀ b, b ≠ kS → upd H' kS (.lst (ks ++ [kv])) b = H' b := fun b hb => upd_ne hb
            refine ⟨ha', hk', r', pa', pk', by rw [upd_ne hne]; exact ha', upd_same, by rw [List.length_append, hkli]; rfl, ⟨eE'.pre, fun b o h3 n h4 => by rw [upd_ne (ne_of_none h4 hnk)]; exact eE'.keep b o h3 n h4⟩,
              s'.free (r' := r') pk' hH rfl (fun _ h => h) (fun b hb => ⟨hb, fun _ => ⟨_, nx_lst, upd_same⟩⟩), ?_⟩
            have e3 : (kz.take (i + 1)).map tupI = (kz.take i).map tupI ++ [tupI p] := by rw [List.take_add_one, hp]; simp
            rw [e3]
            exact VDs.free pk' hH rfl (fun _ h => h) _ _ ((VDs.ext e' _ _ vR).app (VDs.one vk))
          · cases rs with
            | error e =>
              obtain ⟨_, _, _, _, _, _, _, _, _, _, _, _, hF⟩ := (hq : L2.CX X.prog X.w X.stack Hc sc (fun _ _ _ => False) e s')
              exact hF
            | ok fl =>
              cases fl with
              | ret u' => exact Ic.after hq
              | next => exact False.elim hq
              | brk => exact False.elim hq
              | cont => exact False.elim hq
        case fin =>
          rintro ks Hc sc ⟨r2, pa, pk, ha, hk, hkli, eE, sR, vR⟩ Ic
          have hkzl : kz.length = xs.length := by rw [hkl, hdl]
          rw [← hkzl, List.take_length] at vR
          refine ⟨kz, by rw [hkli]; exact hkzl, fun i hi => ?_, fun s' I' => ⟨rfl, .ref a, _, I', rfl, ?_⟩⟩
          · have hi' : i < kz.length := by omega
            obtain ⟨v, h3, h4⟩ := vR.get (i := i) (d := tupI kz[i]) (by rw [List.getElem?_map, List.getElem?_eq_getElem hi']; rfl)
            obtain ⟨t, ys, rfl, hT, hV2⟩ := h4
            refine ⟨t, h3, ?_⟩
            obtain ⟨y1, t1, rfl, hy1, hV3⟩ := hV2
            obtain ⟨y2, t2, rfl, hy2, hV4⟩ := hV3
            cases hV4
            cases hy1
            cases hy2
            have eg : kz.getD i (0, 0) = kz[i] := by rw [List.getD, List.getElem?_eq_getElem hi']; rfl
            rw [eg]
            exact hT.sq
          · have hH : ∀ b, b ≠ kS → upd Hc kS (.lst []) b = Hc b := fun b hb => upd_ne hb
            have s3 : SR X.K (upd Hc kS (.lst [])) r2 st := sR.free (r' := r2) pk hH rfl (fun _ h => h) fun b hb => ⟨hb, fun _ => ⟨_, nx_lst, upd_same⟩⟩
            have e3 : Ext H r (upd Hc kS (.lst [])) r2 := ⟨eE.pre, fun b o h3 n h4 => by rw [upd_ne (ne_of_none h4 hnk)]; exact eE.keep b o h3 n h4⟩
            have v3 := VDs.free (r' := r2) pk hH rfl (fun _ h => h) _ _ (VDs.ext eE _ _ hVs)
            have hH2 : ∀ b, b ≠ a → rmH (upd Hc kS (.lst [])) a b = upd Hc kS (.lst []) b := fun b hb => rmH_ne hb
            have k := RES.ok' h (ext_rem hS e3 hna) (s3.free (r' := r2.rem a) pa hH2 rfl (fun b hb => out_rem hb) fun b hb => ⟨(List.mem_filter.mp hb).1, fun e => by
              have := (List.mem_filter.mp hb).2
              rw [e] at this; simp at this⟩) (vds_map (VDs.free (r' := r2.rem a) pa hH2 rfl (fun b hb => out_rem hb) _ _ v3) fun i hi => by
                have := (srtP_perm kz).mem_iff.mp hi
                rw [List.mem_range] at this
                omega) a rmH_same
            have eu : upd (rmH (upd Hc kS (.lst [])) a) a (.lst ((srtP kz).map fun i => xs.getD i .non)) = upd (upd Hc kS (.lst [])) a (.lst ((srtP kz).map fun i => xs.getD i .non)) := by
              funext b
              by_cases hb : b = a
              · subst hb; rw [upd_same, upd_same]
              · rw [upd_ne hb, upd_ne hb, rmH_ne hb]
            rw [eu] at k
            exact k
  · exact h.elim
section
variable {W : WX} {e : Expr} {ms : Env → Sto → Res (List D)} {x y : Str} {p p2 p3 pos : Pos} {k : Nat} {mf : Fn}
theorem fn_sortKey (G : DefOk X.prog X.w X.K X.mg X.base (L2.CX X.prog X.w) k y 1 mf) (hr : Room (k + 2) X.A) (hg : Gl X x) (hm : X.mg x = none) (hv : bootBuiltins x = some (.builtin "sorted")) (gy : Gl X y) (ha : FA X W [e] ms)
    (hn : x ≠ "__name__" := by decide) (hdb : (x == ("__debug__" : Str)) = false := by decide) (hdy : (y == ("__debug__" : Str)) = false := by decide)
    (he : backTo pos (starEach [e] X.env) = (false, eval e X.env) :: backTo pos (starEach [] X.env) := by rfl) (hpl : (backTo pos (starEach [e] X.env)).any (·.1) = false := by rfl)
    (hall : (backToKw pos (keywordEach [⟨some (Str.ofString "key"), .Name y p2, p3⟩] X.env)).all (·.1.isSome) = true := by rfl) (hnone : (backToKw pos (keywordEach [⟨some (Str.ofString "key"), .Name y p2, p3⟩] X.env)).any (·.1.isNone) = false := by rfl)
    (hks : (backToKw pos (keywordEach [⟨some (Str.ofString "key"), .Name y p2, p3⟩] X.env)).filterMap (·.1) = [Str.ofString "key"] := by rfl) :
    FN X W (.Call (.Name x p) [e] [⟨some (Str.ofString "key"), .Name y p2, p3⟩] pos) (nB (sortK mf) ms) := by
  obtain ⟨f, fd, ps, h1, h2, h3, h4⟩ := G.ex
  refine PE.imp (pe_callBK (cr_sortK h1 h4 hr) hg hm hv ha (pk_cons (pe_glob (v := .ref f) gy h2 rfl hdy) pk_nil) hn hdb he hpl hall hnone hks) fun σ H Q q => ?_
  obtain ⟨r, env, st, hE, hS, h⟩ := q
  exact ⟨r, env, st, hE, hS, RES.seq h fun ds st1 xs H1 r1 e1 s1 v1 hh => ⟨rfl, WE W σ, r1, st1, ds, s1, v1, hh⟩⟩
end
end FL

namespace FL
open PySem PySem.Spec PyProof.Rows L2
variable [TabCtx]

def ChkO (n : Nat) : List SO → List SO → Prop
  | [], [] => True
  | o :: os, o' :: os' => (o' = o ∨ o'.blw n = true) ∧ ChkO n os os'
  | _, _ => False
theorem ChkO.len {n : Nat} : ∀ {os os' : List SO}, ChkO n os os' → os'.length = os.length
  | [], [], _ => rfl
  | _ :: _, _ :: _, h => by simp [ChkO.len h.2]
  | [], _ :: _, h => h.elim
  | _ :: _, [], h => h.elim
section
variable {st : Sto} {O0 O1 g : List SO} {b : SM4} {E0 : Env} {P1 P2 : Env → Sto → Prop} {S : Sto} {n : Nat} {e e' r : Option D} {es es' rs : Env}
end
end FL

namespace FL
open PySem PySem.Spec PyProof.Rows L2
variable [TabCtx]

inductive W (ν : Type) where
  | r (t : Str) (ds : List D) | v (t : Str) (x : ν)
  deriving Inhabited
def W.val {ν : Type} [Inhabited ν] : W ν → ν
  | .v _ x => x
  | _ => default
section
variable {ν : Type} [Inhabited ν] {c : ν → D} {w : W ν} {S : Sto}
end
end FL

namespace FL
open PySem PySem.Spec PyProof.Rows L2
variable [TabCtx]

section
variable {α : Type} {c : α → D} {n m : Nat} {f : Nat → Nat → α} {st : Sto} {env : Env}
end
end FL

namespace FL
open PySem PySem.Spec PyProof.Rows L2
variable [TabCtx]

section
variable {α : Type} {c : α → D} {st : Sto} {o : List SO} {env : Env} {m1 m2 m3 m4 : EM} {k1 k2 : Int} {v1 v2 : α} {i : Nat}
end
end FL

namespace FL
open PySem
variable [TabCtx]

end FL

namespace FL
open PySem PySem.Spec PyProof.Rows L2
variable [TabCtx]

section
variable {α : Type} {c : α → D} {st : Sto} {o : List SO} {env : Env} {m1 m2 : EM} {k1 : Int} {v1 : α} {i : Nat}
end
end FL

namespace FL
open PySem
variable [TabCtx]

end FL

namespace FL
open PySem
variable [TabCtx]
end FL

namespace FL
open PySem PySem.Spec PyProof.Rows L2 SrtO
variable [TabCtx]
def srtKy {α : Type} (key : α → Int × Int) (xs : List α) : List α := xs.mergeSort fun a b => !lexB (key b) (key a)
theorem srtKy_map {α : Type} {key : α → Int × Int} {c : α → D} {xs : List α} : ((srtP (xs.map key)).map fun i => (xs.map c).getD i .non) = (srtKy key xs).map c := by
  cases xs with
  | nil => simp [srtP, srtKy]
  | cons x0 xs =>
    have ez : (x0 :: xs) = (List.range (x0 :: xs).length).map fun i => (x0 :: xs).getD i x0 := by
      apply List.ext_getElem
      · simp
      · intro i g1 g2
        simp [List.getD, List.getElem?_eq_getElem g1]
    have h1 : ((List.range (x0 :: xs).length).mergeSort (leI ((x0 :: xs).map key))).map (fun i => (x0 :: xs).getD i x0) = ((List.range (x0 :: xs).length).map fun i => (x0 :: xs).getD i x0).mergeSort fun a b => !lexB (key b) (key a) := by
      refine List.map_mergeSort fun a ha b hb => ?_
      rw [List.mem_range] at ha hb
      unfold leI
      simp only [List.getD, List.getElem?_map, List.getElem?_eq_getElem ha, List.getElem?_eq_getElem hb, Option.map_some, Option.getD_some]
    rw [← ez] at h1
    unfold srtKy
    rw [← h1, List.map_map]
    unfold srtP
    rw [List.length_map]
    refine List.map_congr_left fun i hi => ?_
    have hi' : i < (x0 :: xs).length := by
      have := (List.mergeSort_perm _ _).mem_iff.mp hi
      simpa using this
    simp only [Function.comp, List.getD, List.getElem?_map, List.getElem?_eq_getElem hi', Option.map_some, Option.getD_some]
theorem sortK_c {α : Type} {c : α → D} {key : α → Int × Int} {mf : Fn} {xs : List α} {d : D} {S : Sto} (h : lstD d S = some (xs.map c)) (hk : ∀ x ∈ xs, mf [c x] S = .ok (tupI (key x)) S) : sortK mf [d] S = .ok ((srtKy key xs).map c) S := by
  unfold sortK
  simp only [h, keysP_map hk]
  rw [srtKy_map]
theorem srtKy_perm {α : Type} {key : α → Int × Int} {xs : List α} : (srtKy key xs).Perm xs := List.mergeSort_perm _ _
theorem srtKy_mono {α : Type} {key : α → Int × Int} {xs : List α} : (srtKy key xs).Pairwise fun a b => lexB (key b) (key a) = false := by
  have h := List.pairwise_mergeSort (le := fun a b => !lexB (key b) (key a)) (fun a b c h1 h2 => by
    simp only [Bool.not_eq_true', lexB_no] at *
    omega) (fun a b => by
    cases h : lexB (key b) (key a) with
    | false => rfl
    | true =>
      have h1 := lexB_iff.mp h
      have : lexB (key a) (key b) = false := lexB_no.mpr (by omega)
      rw [this]; rfl) xs
  exact h.imp fun q => by simpa using q
end FL

namespace FL
open PySem
variable [TabCtx]

theorem lt_scaled {s t a b : Int} (hs : 0 < s) (ht : 0 < t) : (lowI (a * s) t).1 * (lowI (b * s) t).2 < (lowI (b * s) t).1 * (lowI (a * s) t).2 ↔ a < b := by
  obtain ⟨p1, _, p3, _, _⟩ := lowI_facts (t := a * s) (b := t) (by omega)
  obtain ⟨q1, _, q3, _, _⟩ := lowI_facts (t := b * s) (b := t) (by omega)
  generalize lowI (a * s) t = p at *
  generalize lowI (b * s) t = q at *
  have e1 : (p.1 * q.2) * t = a * (s * (p.2 * q.2)) := by
    calc (p.1 * q.2) * t = (p.1 * t) * q.2 := by ac_rfl
      _ = a * s * p.2 * q.2 := by rw [p3]
      _ = _ := by ac_rfl
  have e2 : (q.1 * p.2) * t = b * (s * (p.2 * q.2)) := by
    calc (q.1 * p.2) * t = (q.1 * t) * p.2 := by ac_rfl
      _ = b * s * q.2 * p.2 := by rw [q3]
      _ = _ := by ac_rfl
  have hk : 0 < s * (p.2 * q.2) := Int.mul_pos hs (Int.mul_pos (by omega) (by omega))
  constructor
  · intro h
    have := Int.mul_lt_mul_of_pos_right h ht
    rw [e1, e2] at this
    exact Int.lt_of_mul_lt_mul_right this (Int.le_of_lt hk)
  · intro h
    have := Int.mul_lt_mul_of_pos_right h hk
    rw [← e1, ← e2] at this
    exact Int.lt_of_mul_lt_mul_right this (Int.le_of_lt ht)
abbrev Bx := Int × Int × Int × Int
abbrev Fr := Int × Int
abbrev Rc := Fr × Fr × Fr × Fr
def scN (s t n : Int) : Fr := lowI (n * s) t
def scR (s t : Int) (b : Bx) : Rc := (scN s t b.1, scN s t b.2.1, scN s t b.2.2.1, scN s t b.2.2.2)
def Sc (s t : Int) : Prop := (0 < s ∧ s.natAbs < 2 ^ 200) ∧ (0 < t ∧ t.natAbs < 2 ^ 200)
def Sm (n : Int) : Prop := n.natAbs < 2 ^ 200
def BxS (b : Bx) : Prop := Sm b.1 ∧ Sm b.2.1 ∧ Sm b.2.2.1 ∧ Sm b.2.2.2
theorem sm_of {n : Int} (h : -(2 ^ 60) < n ∧ n < 2 ^ 60) : Sm n := lt_mono (a := 60) (by omega) (by decide)
theorem sc_of {s t : Int} (h : 0 < s ∧ s < 2 ^ 60) (h' : 0 < t ∧ t < 2 ^ 60) : Sc s t := ⟨⟨h.1, lt_mono (a := 60) (by omega) (by decide)⟩, h'.1, lt_mono (a := 60) (by omega) (by decide)⟩
theorem scN_sz {s t n : Int} (h : Sc s t) (hn : Sm n) : (scN s t n).1.natAbs < 2 ^ 400 ∧ 1 ≤ (scN s t n).2 ∧ (scN s t n).2.natAbs < 2 ^ 400 := by
  obtain ⟨h1, h2⟩ := h
  unfold scN
  obtain ⟨p1, p2, p3, p4, p5⟩ := lowI_facts (t := n * s) (b := t) (by omega)
  refine ⟨Nat.lt_of_le_of_lt p4 (mul_lt hn h1.2), p1, lt_mono (Nat.lt_of_le_of_lt p5 h2.2) (by decide)⟩
theorem scN_inj {s t a b : Int} (h : Sc s t) : scN s t a = scN s t b ↔ a = b := by
  constructor
  · intro q
    have k1 := lt_scaled (a := a) (b := b) h.1.1 h.2.1
    have k2 := lt_scaled (a := b) (b := a) h.1.1 h.2.1
    unfold scN at q
    rw [q] at k1 k2
    omega
  · intro q; rw [q]
theorem scN_zero {s t : Int} (h : Sc s t) : scN s t 0 = (0, 1) := by
  unfold scN
  rw [Int.zero_mul]
  have h2 := h.2.1
  obtain ⟨p1, p2, p3, p4, p5⟩ := lowI_facts (t := 0) (b := t) (by omega)
  have e1 : (lowI 0 t).1 = 0 := by omega
  rw [e1, Int.gcd_zero_left] at p2
  have e2 : (lowI 0 t).2 = 1 := by omega
  exact Prod.ext e1 e2

def insU (x : Int) : List Int → List Int
  | [] => [x]
  | y :: r => if y < x then y :: insU x r else if y = x then y :: r else x :: y :: r
def risU (l : List Int) : List Int := l.foldl (fun s x => insU x s) []
theorem mem_insU {x z : Int} : ∀ {l : List Int}, z ∈ insU x l ↔ z = x ∨ z ∈ l
  | [] => by simp [insU]
  | y :: r => by
    unfold insU
    split
    · rw [List.mem_cons, mem_insU, List.mem_cons]
      constructor
      · rintro (h | h | h) <;> simp [h]
      · rintro (h | h | h) <;> simp [h]
    · split
      · rename_i e
        rw [List.mem_cons, ← e]
        constructor
        · intro h; exact .inr h
        · rintro (h | h)
          · exact .inl h
          · exact h
      · rw [List.mem_cons]
theorem insU_sorted {x : Int} : ∀ {l : List Int}, l.Pairwise (· < ·) → (insU x l).Pairwise (· < ·)
  | [], _ => by simp [insU]
  | y :: r, h => by
    obtain ⟨h1, h2⟩ := List.pairwise_cons.mp h
    unfold insU
    split
    · rename_i hc
      refine List.pairwise_cons.mpr ⟨fun z hz => ?_, insU_sorted h2⟩
      rcases mem_insU.mp hz with rfl | hz
      · exact hc
      · exact h1 z hz
    · split
      · exact h
      · refine List.pairwise_cons.mpr ⟨fun z hz => ?_, h⟩
        rcases List.mem_cons.mp hz with rfl | hz
        · omega
        · have := h1 z hz; omega
theorem foldU {l : List Int} : ∀ {s : List Int}, s.Pairwise (· < ·) → (l.foldl (fun s x => insU x s) s).Pairwise (· < ·) ∧ ∀ z, z ∈ l.foldl (fun s x => insU x s) s ↔ z ∈ l ∨ z ∈ s := by
  induction l with
  | nil => intro s h; exact ⟨h, fun z => by simp⟩
  | cons x l ih =>
    intro s h
    obtain ⟨h1, h2⟩ := ih (s := insU x s) (insU_sorted h)
    refine ⟨h1, fun z => ?_⟩
    rw [List.foldl_cons, h2 z, mem_insU, List.mem_cons]
    constructor
    · rintro (h | h | h) <;> simp [h]
    · rintro ((h | h) | h) <;> simp [h]
theorem risU_sorted {l : List Int} : (risU l).Pairwise (· < ·) := (foldU .nil).1
theorem mem_risU {l : List Int} {z : Int} : z ∈ risU l ↔ z ∈ l := by
  have := (foldU (l := l) (s := []) .nil).2 z
  unfold risU
  rw [this]; simp
def nbr {α : Type} (l : List α) : List (α × α) := l.zip (l.drop 1)
theorem nbr_cons {α : Type} {a b : α} {l : List α} : nbr (a :: b :: l) = (a, b) :: nbr (b :: l) := rfl
theorem nbr_map {α β : Type} {f : α → β} {l : List α} : nbr (l.map f) = (nbr l).map fun p => (f p.1, f p.2) := by
  unfold nbr
  rw [← List.map_drop, List.zip_map]
  rfl
theorem nbr_gap : ∀ {l : List Int} {p q : Int}, l.Pairwise (· < ·) → (p, q) ∈ nbr l → p < q ∧ p ∈ l ∧ q ∈ l ∧ ∀ z ∈ l, z ≤ p ∨ q ≤ z
  | [], p, q, _, h => by simp [nbr] at h
  | [a], p, q, _, h => by simp [nbr] at h
  | a :: b :: l, p, q, hs, h => by
    obtain ⟨h1, h2⟩ := List.pairwise_cons.mp hs
    rw [nbr_cons] at h
    have hab := h1 b List.mem_cons_self
    rcases List.mem_cons.mp h with e | h
    · cases e
      refine ⟨hab, List.mem_cons_self, by simp, fun z hz => ?_⟩
      rcases List.mem_cons.mp hz with rfl | hz
      · exact .inl (Int.le_refl _)
      · rcases List.mem_cons.mp hz with rfl | hz
        · exact .inr (Int.le_refl _)
        · exact .inr (Int.le_of_lt ((List.pairwise_cons.mp h2).1 z hz))
    · obtain ⟨k1, k2, k3, k4⟩ := nbr_gap h2 h
      refine ⟨k1, List.mem_cons_of_mem _ k2, List.mem_cons_of_mem _ k3, fun z hz => ?_⟩
      rcases List.mem_cons.mp hz with rfl | hz
      · exact .inl (Int.le_of_lt (h1 p k2))
      · exact k4 z hz
theorem nbr_find : ∀ {l : List Int} {a c x : Int}, l.Pairwise (· < ·) → a ∈ l → c ∈ l → a ≤ x → x < c → ∃ p q, (p, q) ∈ nbr l ∧ p ≤ x ∧ x < q
  | [], a, c, x, _, ha, _, _, _ => by simp at ha
  | [b], a, c, x, _, ha, hc, h1, h2 => by
    rw [List.mem_singleton] at ha hc
    omega
  | b :: d :: l, a, c, x, hs, ha, hc, h1, h2 => by
    obtain ⟨k1, k2⟩ := List.pairwise_cons.mp hs
    rw [nbr_cons]
    have hba : b ≤ a := by
      rcases List.mem_cons.mp ha with rfl | ha
      · exact Int.le_refl _
      · exact Int.le_of_lt (k1 a ha)
    by_cases hd : x < d
    · exact ⟨b, d, List.mem_cons_self, by omega, hd⟩
    · have hc2 : c ∈ d :: l := by
        rcases List.mem_cons.mp hc with rfl | hc
        · have := k1 d List.mem_cons_self; omega
        · exact hc
      obtain ⟨p, q, h3, h4, h5⟩ := nbr_find (a := d) (c := c) (x := x) k2 List.mem_cons_self hc2 (by omega) h2
      exact ⟨p, q, List.mem_cons_of_mem _ h3, h4, h5⟩

inductive Look where
  | no (k : Int) | out (k : Int) | overlap (j k : Int) | gap (b : Bx) | covers
  deriving DecidableEq
def noneB (b : Bx) : Bool := decide (b.2.2.1 < b.1) || (decide (b.2.2.2 < b.2.1) || (decide (b.1 = b.2.2.1) != decide (b.2.1 = b.2.2.2)))
def outB (w h : Int) (b : Bx) : Bool := decide (b.1 < 0) || (decide (b.2.1 < 0) || (decide (w < b.2.2.1) || decide (h < b.2.2.2)))
def meetB (a b : Bx) : Bool := decide (a.1 ≠ a.2.2.1 ∧ b.1 ≠ b.2.2.1 ∧ (a.1 < b.2.2.1 ∧ b.1 < a.2.2.1) ∧ a.2.1 < b.2.2.2 ∧ b.2.1 < a.2.2.2)
def covB (c : Bx) (bs : List Bx) : Bool := bs.any fun b => decide ((b.1 ≤ c.1 ∧ b.2.1 ≤ c.2.1) ∧ c.2.2.1 ≤ b.2.2.1 ∧ c.2.2.2 ≤ b.2.2.2)
def acrossP (w : Int) (bs : List Bx) : List Int := risU ([0, w] ++ bs.map (·.1) ++ bs.map (·.2.2.1))
def upwardP (h : Int) (bs : List Bx) : List Int := risU ([0, h] ++ bs.map (·.2.1) ++ bs.map (·.2.2.2))
def gapP (w h : Int) (bs : List Bx) : Option Bx := (nbr (upwardP h bs)).findSome? fun u => (nbr (acrossP w bs)).findSome? fun a => if covB (a.1, u.1, a.2, u.2) bs = true then none else some (a.1, u.1, a.2, u.2)
def overP (bs : List Bx) : Option (Int × Int) := (enumI bs).findSome? fun p => (rngI (p.1 + 1) (bs.length : Int)).findSome? fun k => if meetB p.2 (getI bs k) = true then some (p.1, k) else none
def firstP (p : Bx → Bool) (bs : List Bx) : Option Int := (enumI bs).findSome? fun x => if p x.2 = true then some x.1 else none
def seenP (w h : Int) (bs : List Bx) : Look := match firstP noneB bs with
  | some k => .no k
  | none => match firstP (outB w h) bs with
    | some k => .out k
    | none => match overP bs with
      | some p => .overlap p.1 p.2
      | none => match gapP w h bs with
        | some b => .gap b
        | none => .covers
theorem firstP_none {p : Bx → Bool} {bs : List Bx} : firstP p bs = none ↔ ∀ b ∈ bs, p b = false := by
  unfold firstP
  rw [List.findSome?_eq_none_iff]
  constructor
  · intro h b hb
    obtain ⟨k, hk⟩ := List.getElem?_of_mem hb
    have := h ((k : Int), b) (mem_enumI.mpr ⟨k, rfl, hk⟩)
    cases q : p b with
    | false => rfl
    | true => simp [q] at this
  · intro h x hx
    obtain ⟨k, _, hk⟩ := mem_enumI.mp hx
    rw [h _ (List.mem_of_getElem? hk)]
    rfl
theorem overP_none {bs : List Bx} : overP bs = none ↔ bs.Pairwise fun a b => meetB a b = false := by
  unfold overP
  rw [List.findSome?_eq_none_iff, List.pairwise_iff_getElem]
  constructor
  · intro h i j hi hj hij
    have := h ((i : Int), bs[i]) (mem_enumI.mpr ⟨i, rfl, List.getElem?_eq_getElem hi⟩)
    rw [List.findSome?_eq_none_iff] at this
    have := this (j : Int) (mem_rngI.mpr ⟨by simp only; omega, by omega⟩)
    rw [getI_nat, List.getD_eq_getElem?_getD, List.getElem?_eq_getElem hj] at this
    simp only [Option.getD_some] at this
    cases q : meetB bs[i] bs[j] with
    | false => rfl
    | true => simp [q] at this
  · intro h x hx
    obtain ⟨i, e, hi⟩ := mem_enumI.mp hx
    obtain ⟨hi1, hi2⟩ := List.getElem?_eq_some_iff.mp hi
    rw [List.findSome?_eq_none_iff]
    intro k hk
    rw [mem_rngI] at hk
    have hk2 : k.toNat < bs.length := by omega
    have := h i k.toNat hi1 hk2 (by omega)
    rw [getI_ge (by omega), List.getD_eq_getElem?_getD, List.getElem?_eq_getElem hk2]
    simp only [Option.getD_some]
    rw [← hi2]
    simp only [this, Bool.false_eq_true, if_false]
def cellIn (b : Bx) (x y : Int) : Prop := (b.1 ≤ x ∧ x < b.2.2.1) ∧ b.2.1 ≤ y ∧ y < b.2.2.2
theorem noneB_f {b : Bx} : noneB b = false ↔ b.1 ≤ b.2.2.1 ∧ b.2.1 ≤ b.2.2.2 ∧ (b.1 = b.2.2.1 ↔ b.2.1 = b.2.2.2) := by
  unfold noneB
  simp only [Bool.or_eq_false_iff, decide_eq_false_iff_not, bne_eq_false_iff_eq, decide_eq_decide]
  omega
theorem outB_f {w h : Int} {b : Bx} : outB w h b = false ↔ 0 ≤ b.1 ∧ 0 ≤ b.2.1 ∧ b.2.2.1 ≤ w ∧ b.2.2.2 ≤ h := by
  unfold outB
  simp only [Bool.or_eq_false_iff, decide_eq_false_iff_not]
  omega
theorem gapP_none {w h : Int} {bs : List Bx} (hw : 0 ≤ w) (hh : 0 ≤ h) (hin : ∀ b ∈ bs, outB w h b = false) (hval : ∀ b ∈ bs, noneB b = false) : gapP w h bs = none ↔ ∀ x y, 0 ≤ x → x < w → 0 ≤ y → y < h → ∃ b ∈ bs, cellIn b x y := by
  have mu : ∀ z, z ∈ upwardP h bs ↔ z = 0 ∨ z = h ∨ (∃ b ∈ bs, b.2.1 = z) ∨ ∃ b ∈ bs, b.2.2.2 = z := fun z => by
    unfold upwardP
    rw [mem_risU]
    simp [or_assoc]
  have ma : ∀ z, z ∈ acrossP w bs ↔ z = 0 ∨ z = w ∨ (∃ b ∈ bs, b.1 = z) ∨ ∃ b ∈ bs, b.2.2.1 = z := fun z => by
    unfold acrossP
    rw [mem_risU]
    simp [or_assoc]
  unfold gapP
  rw [List.findSome?_eq_none_iff]
  constructor
  · intro hg x y x0 x1 y0 y1
    obtain ⟨p, q, k1, k2, k3⟩ := nbr_find (l := upwardP h bs) risU_sorted ((mu 0).mpr (.inl rfl)) ((mu h).mpr (.inr (.inl rfl))) y0 y1
    obtain ⟨r, s, l1, l2, l3⟩ := nbr_find (l := acrossP w bs) risU_sorted ((ma 0).mpr (.inl rfl)) ((ma w).mpr (.inr (.inl rfl))) x0 x1
    have h1 := hg (p, q) k1
    rw [List.findSome?_eq_none_iff] at h1
    have h2 := h1 (r, s) l1
    have hc : covB (r, p, s, q) bs = true := by
      cases c : covB (r, p, s, q) bs with
      | true => rfl
      | false => simp [c] at h2
    unfold covB at hc
    obtain ⟨b, hb, hb2⟩ := List.any_eq_true.mp hc
    rw [decide_eq_true_eq] at hb2
    refine ⟨b, hb, ?_⟩
    unfold cellIn
    simp only at hb2
    omega
  · intro hg u hu
    obtain ⟨p, q⟩ := u
    obtain ⟨k1, k2, k3, k4⟩ := nbr_gap risU_sorted hu
    rw [List.findSome?_eq_none_iff]
    intro v hv
    obtain ⟨r, s⟩ := v
    obtain ⟨l1, l2, l3, l4⟩ := nbr_gap risU_sorted hv
    have p0 : 0 ≤ p ∧ q ≤ h := by
      refine ⟨?_, ?_⟩
      · rcases (mu p).mp k2 with e | e | ⟨b, hb, e⟩ | ⟨b, hb, e⟩ <;> first | omega | (have := hin b hb; have := hval b hb; rw [outB_f] at *; rw [noneB_f] at *; omega)
      · rcases (mu q).mp k3 with e | e | ⟨b, hb, e⟩ | ⟨b, hb, e⟩ <;> first | omega | (have := hin b hb; have := hval b hb; rw [outB_f] at *; rw [noneB_f] at *; omega)
    have r0 : 0 ≤ r ∧ s ≤ w := by
      refine ⟨?_, ?_⟩
      · rcases (ma r).mp l2 with e | e | ⟨b, hb, e⟩ | ⟨b, hb, e⟩ <;> first | omega | (have := hin b hb; have := hval b hb; rw [outB_f] at *; rw [noneB_f] at *; omega)
      · rcases (ma s).mp l3 with e | e | ⟨b, hb, e⟩ | ⟨b, hb, e⟩ <;> first | omega | (have := hin b hb; have := hval b hb; rw [outB_f] at *; rw [noneB_f] at *; omega)
    obtain ⟨b, hb, hc⟩ := hg r p r0.1 (by omega) p0.1 (by omega)
    unfold cellIn at hc
    have hc2 : covB (r, p, s, q) bs = true := by
      unfold covB
      refine List.any_eq_true.mpr ⟨b, hb, ?_⟩
      rw [decide_eq_true_eq]
      have e1 := l4 b.2.2.1 ((ma _).mpr (.inr (.inr (.inr ⟨b, hb, rfl⟩))))
      have e2 := k4 b.2.2.2 ((mu _).mpr (.inr (.inr (.inr ⟨b, hb, rfl⟩))))
      simp only
      omega
    simp only [hc2, if_true]
def Tiles (w h : Int) (bs : List Bx) : Prop := (∀ b ∈ bs, noneB b = false ∧ outB w h b = false) ∧ bs.Pairwise (fun a b => meetB a b = false) ∧ ∀ x y, 0 ≤ x → x < w → 0 ≤ y → y < h → ∃ b ∈ bs, cellIn b x y
theorem covers_iff {w h : Int} {bs : List Bx} (hw : 0 ≤ w) (hh : 0 ≤ h) : seenP w h bs = .covers ↔ Tiles w h bs := by
  unfold seenP Tiles
  cases q1 : firstP noneB bs with
  | some k =>
    have : ¬ ∀ b ∈ bs, noneB b = false := fun hn => by rw [firstP_none.mpr hn] at q1; cases q1
    simp only [reduceCtorEq, false_iff]
    exact fun q => this fun b hb => (q.1 b hb).1
  | none =>
    rw [firstP_none] at q1
    cases q2 : firstP (outB w h) bs with
    | some k =>
      have : ¬ ∀ b ∈ bs, outB w h b = false := fun hn => by rw [firstP_none.mpr hn] at q2; cases q2
      simp only [reduceCtorEq, false_iff]
      exact fun q => this fun b hb => (q.1 b hb).2
    | none =>
      rw [firstP_none] at q2
      cases q3 : overP bs with
      | some k =>
        simp only [reduceCtorEq, false_iff]
        intro q
        rw [overP_none.mpr q.2.1] at q3
        cases q3
      | none =>
        rw [overP_none] at q3
        have k := gapP_none hw hh q2 q1
        cases q4 : gapP w h bs with
        | some b =>
          rw [q4] at k
          simp only [reduceCtorEq, false_iff]
          exact fun q => by have := k.mpr q.2.2; cases this
        | none =>
          simp only [true_iff]
          exact ⟨fun b hb => ⟨q1 b hb, q2 b hb⟩, q3, k.mp q4⟩
end FL
namespace FL
open PySem

def posU (x : Int) (l : List Int) : Nat := (l.takeWhile fun y => decide (y < x)).length
theorem insU_pos {x : Int} : ∀ {l : List Int}, insU x l = if posU x l = l.length ∨ l[posU x l]? ≠ some x then l.take (posU x l) ++ [x] ++ l.drop (posU x l) else l
  | [] => rfl
  | y :: r => by
    unfold insU posU
    rw [List.takeWhile_cons]
    by_cases h : y < x
    · have ih := insU_pos (x := x) (l := r)
      unfold posU at ih
      rw [if_pos h, decide_eq_true h]
      simp only [if_true, List.length_cons, List.getElem?_cons_succ, List.take_succ_cons, List.drop_succ_cons, List.cons_append]
      rw [ih]
      by_cases c : (List.takeWhile (fun y => decide (y < x)) r).length = r.length ∨ r[(List.takeWhile (fun y => decide (y < x)) r).length]? ≠ some x
      · rw [if_pos c, if_pos (by rcases c with c | c; exact .inl (by omega); exact .inr c)]
      · rw [if_neg c, if_neg (fun q => c (by rcases q with q | q; exact .inl (by omega); exact .inr q))]
    · rw [if_neg h, decide_eq_false h]
      simp only [Bool.false_eq_true, if_false, List.length_nil, List.getElem?_cons_zero, List.take_zero, List.drop_zero, List.nil_append, List.length_cons]
      by_cases e : y = x
      · rw [if_pos e, if_neg (by rw [e]; simp)]
      · rw [if_neg e, if_pos (.inr (by simpa using e))]
        rfl
theorem count_wh {cb c : Int → Prop} {b : Int → Bool} {p : Nat → Bool} {m : Nat} (hb : ∀ k : Nat, k ≤ m → b (k : Int) = decide (k < m ∧ p k = true)) (hcb : ∀ k : Nat, k ≤ m → cb (k : Int)) (hc : ∀ s, c s) :
    ∀ (n k : Nat), k ≤ m → m - k < n → whC cb b c (fun s => s + 1) n (k : Int) ∧ ∃ j : Nat, whT b (fun s => s + 1) n (k : Int) = (j : Int) ∧ k ≤ j ∧ j ≤ m ∧ (∀ i, k ≤ i → i < j → p i = true) ∧ (j < m → p j = false)
  | 0, k, _, h => absurd h (by omega)
  | n + 1, k, hk, h => by
    unfold whC whT
    rw [hb k hk]
    by_cases q : k < m ∧ p k = true
    · obtain ⟨i1, j, i2, i3, i4, i5, i6⟩ := count_wh hb hcb hc n (k + 1) (by omega) (by omega)
      have e : ((k : Int) + 1) = ((k + 1 : Nat) : Int) := by omega
      refine ⟨⟨hcb k hk, fun _ => ⟨hc _, by rw [e]; exact i1⟩⟩, j, ?_, by omega, i4, fun i h1 h2 => ?_, i6⟩
      · rw [if_pos (decide_eq_true q), e, i2]
      · by_cases ei : i = k
        · rw [ei]; exact q.2
        · exact i5 i (by omega) h2
    · rw [decide_eq_false q]
      refine ⟨⟨hcb k hk, fun h => by cases h⟩, k, by simp, Nat.le_refl _, hk, fun i h1 h2 => by omega, fun h1 => ?_⟩
      cases r : p k with
      | false => rfl
      | true => exact absurd ⟨h1, r⟩ q
theorem posU_of {x : Int} {j : Nat} : ∀ {l : List Int}, j ≤ l.length → (∀ i, i < j → l.getD i 0 < x) → (j < l.length → ¬ l.getD j 0 < x) → j = posU x l := by
  induction j with
  | zero =>
    intro l _ _ h
    cases l with
    | nil => rfl
    | cons y r =>
      unfold posU
      rw [List.takeWhile_cons, decide_eq_false (by simpa using h (by simp))]
      rfl
  | succ j ih =>
    intro l hl h1 h2
    cases l with
    | nil => simp at hl
    | cons y r =>
      unfold posU
      rw [List.takeWhile_cons, decide_eq_true (by simpa using h1 0 (by omega))]
      simp only [if_true, List.length_cons]
      have := ih (l := r) (by simpa using hl) (fun i hi => by simpa using h1 (i + 1) (by omega)) (fun hi => by simpa using h2 (by simpa using hi))
      unfold posU at this
      omega
theorem fuelB_big {n : Nat} (h : n ≤ 100000) : n < fuelB := by
  have : (100001 : Nat) < fuelB := by decide +kernel
  omega
def lookD (s t : Int) : Look → D
  | .no k => cP2 cS cI ("no", k)
  | .out k => cP2 cS cI ("out", k)
  | .overlap j k => cP3 cS cI cI ("overlap", j, k)
  | .gap b => cP5 cS (cP2 cI cI) (cP2 cI cI) (cP2 cI cI) (cP2 cI cI) ("gap", scN s t b.1, scN s t b.2.1, scN s t b.2.2.1, scN s t b.2.2.2)
  | .covers => cP1 cS "covers"
theorem outM_find {X ρ : Type} {f : X → Option ρ} {xs : List X} {r : Unit ⊕ ρ} (h : r = match xs.findSome? f with | some r => .inr r | none => .inl ()) (k : Unit → Unit ⊕ ρ) (hk : k () = .inl ()) : outM r k = match xs.findSome? f with | some r => .inr r | none => .inl () := by
  rw [h]
  cases xs.findSome? f with
  | none => exact hk
  | some r => rfl
theorem findSome_congr {X ρ : Type} {f g : X → Option ρ} : ∀ {xs : List X}, (∀ x ∈ xs, f x = g x) → xs.findSome? f = xs.findSome? g
  | [], _ => rfl
  | x :: xs, h => by rw [List.findSome?_cons, List.findSome?_cons, h x List.mem_cons_self, findSome_congr fun y hy => h y (List.mem_cons_of_mem _ hy)]
end FL

namespace FL
open PySem
variable [TabCtx]

def CutP (b : Bx) (l : List Bx) : Prop :=
  l = [b] ∨ (∃ x, b.1 < x ∧ x < b.2.2.1 ∧ l = [(b.1, b.2.1, x, b.2.2.2), (x, b.2.1, b.2.2.1, b.2.2.2)]) ∨
  (∃ y, b.2.1 < y ∧ y < b.2.2.2 ∧ (l = [(b.1, b.2.1, b.2.2.1, y), (b.1, y, b.2.2.1, b.2.2.2)] ∨ l = [(b.1, y, b.2.2.1, b.2.2.2), (b.1, b.2.1, b.2.2.1, y)])) ∨
  (∃ x x' y y', b.1 < x ∧ x < x' ∧ x' < b.2.2.1 ∧ b.2.1 < y ∧ y < y' ∧ y' < b.2.2.2 ∧
    (l = [(b.1, b.2.1, x', y), (x', b.2.1, b.2.2.1, y'), (x, y', b.2.2.1, b.2.2.2), (b.1, y, x, b.2.2.2), (x, y, x', y')] ∨
     l = [(x, b.2.1, b.2.2.1, y), (x', y, b.2.2.1, b.2.2.2), (b.1, y', x', b.2.2.2), (b.1, b.2.1, x, y'), (x, y, x', y')] ∨
     l = [(x, b.2.1, b.2.2.1, y), (b.1, b.2.1, x, y'), (b.1, y', x', b.2.2.2), (x', y, b.2.2.1, b.2.2.2), (x, y, x', y')]))
def BxP (w h : Int) (b : Bx) : Prop := (0 ≤ b.1 ∧ b.1 < b.2.2.1 ∧ b.2.2.1 ≤ w) ∧ (0 ≤ b.2.1 ∧ b.2.1 < b.2.2.2 ∧ b.2.2.2 ≤ h)
theorem cut_pos {w h : Int} {b : Bx} {l : List Bx} (hb : BxP w h b) (hc : CutP b l) : ∀ x ∈ l, BxP w h x := by
  obtain ⟨a, y0, r, g⟩ := b
  unfold BxP at *
  simp only at hb
  intro q hq
  rcases hc with rfl | ⟨x, h1, h2, rfl⟩ | ⟨y, h1, h2, rfl | rfl⟩ | ⟨x, x', y, y', h1, h2, h3, h4, h5, h6, rfl | rfl | rfl⟩
  · rw [List.mem_singleton.mp hq]; exact hb
  · simp only [List.mem_cons, List.not_mem_nil, or_false] at hq h1 h2
    rcases hq with rfl | rfl <;> simp only <;> omega
  · simp only [List.mem_cons, List.not_mem_nil, or_false] at hq h1 h2
    rcases hq with rfl | rfl <;> simp only <;> omega
  · simp only [List.mem_cons, List.not_mem_nil, or_false] at hq h1 h2
    rcases hq with rfl | rfl <;> simp only <;> omega
  all_goals
    simp only [List.mem_cons, List.not_mem_nil, or_false] at hq h1 h2 h3 h4 h5 h6
    rcases hq with rfl | rfl | rfl | rfl | rfl <;> simp only <;> omega
def Disj (a b : Bx) : Prop := ∀ x y, ¬ (cellIn a x y ∧ cellIn b x y)
theorem Disj.symm {a b : Bx} (h : Disj a b) : Disj b a := fun x y q => h x y ⟨q.2, q.1⟩
theorem cut_cells {b : Bx} {l : List Bx} (hc : CutP b l) (hb : b.1 < b.2.2.1 ∧ b.2.1 < b.2.2.2) : (∀ p ∈ l, ∀ x y, cellIn p x y → cellIn b x y) ∧ (∀ x y, cellIn b x y → ∃ p ∈ l, cellIn p x y) ∧ l.Pairwise Disj := by
  obtain ⟨a, y0, r, g⟩ := b
  simp only at hb
  unfold Disj cellIn
  rcases hc with rfl | ⟨x, h1, h2, rfl⟩ | ⟨y, h1, h2, rfl | rfl⟩ | ⟨x, x', y, y', h1, h2, h3, h4, h5, h6, rfl | rfl | rfl⟩
  · exact ⟨fun p hp x y h => by rw [List.mem_singleton.mp hp] at h; exact h, fun x y h => ⟨_, List.mem_singleton.mpr rfl, h⟩, by simp⟩
  · simp only at h1 h2
    refine ⟨fun p hp u v h => ?_, fun u v h => ?_, ?_⟩
    · simp only [List.mem_cons, List.not_mem_nil, or_false] at hp
      rcases hp with rfl | rfl <;> simp only at h ⊢ <;> omega
    · simp only [List.mem_cons, List.not_mem_nil, or_false, exists_eq_or_imp, exists_eq_left] at h ⊢
      omega
    · simp only [List.pairwise_cons, List.mem_cons, List.not_mem_nil, or_false, forall_eq, false_implies, implies_true, List.Pairwise.nil, and_true]
      intro u v; omega
  · simp only at h1 h2
    refine ⟨fun p hp u v h => ?_, fun u v h => ?_, ?_⟩
    · simp only [List.mem_cons, List.not_mem_nil, or_false] at hp
      rcases hp with rfl | rfl <;> simp only at h ⊢ <;> omega
    · simp only [List.mem_cons, List.not_mem_nil, or_false, exists_eq_or_imp, exists_eq_left] at h ⊢
      omega
    · simp only [List.pairwise_cons, List.mem_cons, List.not_mem_nil, or_false, forall_eq, false_implies, implies_true, List.Pairwise.nil, and_true]
      intro u v; omega
  · simp only at h1 h2
    refine ⟨fun p hp u v h => ?_, fun u v h => ?_, ?_⟩
    · simp only [List.mem_cons, List.not_mem_nil, or_false] at hp
      rcases hp with rfl | rfl <;> simp only at h ⊢ <;> omega
    · simp only [List.mem_cons, List.not_mem_nil, or_false, exists_eq_or_imp, exists_eq_left] at h ⊢
      omega
    · simp only [List.pairwise_cons, List.mem_cons, List.not_mem_nil, or_false, forall_eq, false_implies, implies_true, List.Pairwise.nil, and_true]
      intro u v; omega
  all_goals
    simp only at h1 h2 h3 h4 h5 h6
    refine ⟨fun p hp u v h => ?_, fun u v h => ?_, ?_⟩
    · simp only [List.mem_cons, List.not_mem_nil, or_false] at hp
      rcases hp with rfl | rfl | rfl | rfl | rfl <;> simp only at h ⊢ <;> omega
    · simp only [List.mem_cons, List.not_mem_nil, or_false, exists_eq_or_imp, exists_eq_left] at h ⊢
      omega
    · simp only [List.pairwise_cons, List.mem_cons, List.not_mem_nil, or_false, forall_eq_or_imp, forall_eq, false_implies, implies_true, List.Pairwise.nil, and_true]
      refine ⟨⟨?_, ?_, ?_, ?_⟩, ⟨?_, ?_, ?_⟩, ⟨?_, ?_⟩, ?_⟩ <;> intro u v <;> omega

def Til (w h : Int) (bs : List Bx) : Prop := (∀ b ∈ bs, BxP w h b) ∧ bs.Pairwise Disj ∧ ∀ x y, 0 ≤ x → x < w → 0 ≤ y → y < h → ∃ b ∈ bs, cellIn b x y
theorem Til.perm {w h : Int} {bs cs : List Bx} (t : Til w h bs) (p : cs.Perm bs) : Til w h cs :=
  ⟨fun b hb => t.1 b (p.mem_iff.mp hb), (p.pairwise_iff fun q => Disj.symm q).mpr t.2.1, fun x y a b c d => by
    obtain ⟨e, he, hc⟩ := t.2.2 x y a b c d
    exact ⟨e, p.mem_iff.mpr he, hc⟩⟩
theorem Til.one {w h : Int} (hw : 0 < w) (hh : 0 < h) : Til w h [(0, 0, w, h)] :=
  ⟨fun b hb => by rw [List.mem_singleton.mp hb]; unfold BxP; simp only; omega, by simp, fun x y a b c d => ⟨_, List.mem_singleton.mpr rfl, ⟨⟨a, b⟩, c, d⟩⟩⟩
theorem Til.cut {w h : Int} {pre post parts bs : List Bx} {b : Bx} (t : Til w h (pre ++ b :: post)) (hc : CutP b parts) (p : bs.Perm (pre ++ parts ++ post)) : Til w h bs := by
  have t1 : Til w h (b :: (pre ++ post)) := t.perm (List.perm_middle.symm)
  have hb := t1.1 b List.mem_cons_self
  obtain ⟨c1, c2, c3⟩ := cut_cells hc ⟨hb.1.2.1, hb.2.2.1⟩
  have p2 : bs.Perm (parts ++ (pre ++ post)) := p.trans (by
    rw [← List.append_assoc]
    exact List.Perm.append_right _ List.perm_append_comm)
  obtain ⟨d1, d2⟩ := List.pairwise_cons.mp t1.2.1
  refine Til.perm ⟨fun x hx => ?_, ?_, fun x y h1 h2 h3 h4 => ?_⟩ p2
  · rcases List.mem_append.mp hx with hx | hx
    · exact cut_pos hb hc x hx
    · exact t1.1 x (List.mem_cons_of_mem _ hx)
  · refine List.pairwise_append.mpr ⟨c3, d2, fun u hu v hv x y q => ?_⟩
    exact d1 v hv x y ⟨c1 u hu x y q.1, q.2⟩
  · obtain ⟨e, he, hce⟩ := t1.2.2 x y h1 h2 h3 h4
    rcases List.mem_cons.mp he with rfl | he
    · obtain ⟨u, hu, hcu⟩ := c2 x y hce
      exact ⟨u, List.mem_append_left _ hu, hcu⟩
    · exact ⟨e, List.mem_append_right _ he, hce⟩
theorem meetB_t {a b : Bx} : meetB a b = true ↔ a.1 ≠ a.2.2.1 ∧ b.1 ≠ b.2.2.1 ∧ (a.1 < b.2.2.1 ∧ b.1 < a.2.2.1) ∧ a.2.1 < b.2.2.2 ∧ b.2.1 < a.2.2.2 := by
  unfold meetB
  rw [decide_eq_true_eq]
theorem meetB_f {a b : Bx} (ha : a.1 < a.2.2.1 ∧ a.2.1 < a.2.2.2) (hb : b.1 < b.2.2.1 ∧ b.2.1 < b.2.2.2) : meetB a b = false ↔ Disj a b := by
  constructor
  · intro h x y q
    have : meetB a b = true := meetB_t.mpr (by unfold cellIn at q; omega)
    rw [this] at h; cases h
  · intro h
    cases q : meetB a b with
    | false => rfl
    | true =>
      have := meetB_t.mp q
      refine absurd ?_ (h (max a.1 b.1) (max a.2.1 b.2.1))
      unfold cellIn
      omega
def isPt (b : Bx) : Bool := decide (b.1 = b.2.2.1)
def BxQ (w h : Int) (b : Bx) : Prop := BxP w h b ∨ (b.1 = b.2.2.1 ∧ b.2.1 = b.2.2.2 ∧ 0 ≤ b.1 ∧ b.1 ≤ w ∧ 0 ≤ b.2.1 ∧ b.2.1 ≤ h)
theorem bxQ_f {w h : Int} {b : Bx} (q : BxQ w h b) : noneB b = false ∧ outB w h b = false := by
  rw [noneB_f, outB_f]
  unfold BxQ BxP at q
  omega
theorem pt_cell {b : Bx} {x y : Int} (h : isPt b = true) : ¬ cellIn b x y := by
  unfold isPt at h
  unfold cellIn
  simp only [decide_eq_true_eq] at h
  omega
theorem tiles_bare {w h : Int} {bs : List Bx} (q : ∀ b ∈ bs, BxQ w h b) : Tiles w h bs ↔ Til w h (bs.filter fun b => !isPt b) := by
  have hp : ∀ b ∈ bs, isPt b = false → BxP w h b := fun b hb h => by
    rcases q b hb with k | k
    · exact k
    · unfold isPt at h; simp [k.1] at h
  constructor
  · rintro ⟨h1, h2, h3⟩
    refine ⟨fun b hb => ?_, ?_, fun x y a b c d => ?_⟩
    · obtain ⟨k1, k2⟩ := List.mem_filter.mp hb
      exact hp b k1 (by simpa using k2)
    · refine List.Pairwise.imp_of_mem (fun {a b} ha hb h => ?_) (h2.filter _)
      obtain ⟨k1, k2⟩ := List.mem_filter.mp ha
      obtain ⟨l1, l2⟩ := List.mem_filter.mp hb
      have pa := hp a k1 (by simpa using k2)
      have pb := hp b l1 (by simpa using l2)
      exact (meetB_f ⟨pa.1.2.1, pa.2.2.1⟩ ⟨pb.1.2.1, pb.2.2.1⟩).mp h
    · obtain ⟨e, he, hc⟩ := h3 x y a b c d
      refine ⟨e, List.mem_filter.mpr ⟨he, ?_⟩, hc⟩
      cases k : isPt e with
      | false => rfl
      | true => exact absurd hc (pt_cell k)
  · rintro ⟨h1, h2, h3⟩
    refine ⟨fun b hb => bxQ_f (q b hb), ?_, fun x y a b c d => ?_⟩
    · have key : ∀ l : List Bx, (∀ b ∈ l, BxQ w h b) → (l.filter fun b => !isPt b).Pairwise Disj → l.Pairwise fun a b => meetB a b = false := by
        intro l
        induction l with
        | nil => intro _ _; exact .nil
        | cons a l ih =>
          intro hq hd
          refine List.pairwise_cons.mpr ⟨fun b hb => ?_, ih (fun b hb => hq b (List.mem_cons_of_mem _ hb)) ?_⟩
          · cases ka : isPt a with
            | true =>
              cases m : meetB a b with
              | false => rfl
              | true => have := meetB_t.mp m; unfold isPt at ka; simp only [decide_eq_true_eq] at ka; omega
            | false =>
              cases kb : isPt b with
              | true =>
                cases m : meetB a b with
                | false => rfl
                | true => have := meetB_t.mp m; unfold isPt at kb; simp only [decide_eq_true_eq] at kb; omega
              | false =>
                rw [List.filter_cons, ka] at hd
                simp only [Bool.not_false, if_true] at hd
                have hab := (List.pairwise_cons.mp hd).1 b (List.mem_filter.mpr ⟨hb, by rw [kb]; rfl⟩)
                have pa : BxP w h a := by
                  rcases hq a List.mem_cons_self with k | k
                  · exact k
                  · unfold isPt at ka; simp [k.1] at ka
                have pb : BxP w h b := by
                  rcases hq b (List.mem_cons_of_mem _ hb) with k | k
                  · exact k
                  · unfold isPt at kb; simp [k.1] at kb
                exact (meetB_f ⟨pa.1.2.1, pa.2.2.1⟩ ⟨pb.1.2.1, pb.2.2.1⟩).mpr hab
          · rw [List.filter_cons] at hd
            split at hd
            · exact (List.pairwise_cons.mp hd).2
            · exact hd
      exact key bs q h2
    · obtain ⟨e, he, hc⟩ := h3 x y a b c d
      exact ⟨e, (List.mem_filter.mp he).1, hc⟩
end FL
namespace FL
open PySem
theorem look_eq {s t : Int} {l : Look} : EqOkR (lookD s t l) (cP1 cS "covers") ∧ eqR (lookD s t l) (cP1 cS "covers") = decide (l = .covers) := by
  have k : ∀ st, eqB st (lookD s t l) (cP1 cS "covers") = some (decide (l = .covers)) := fun st => by
    cases l with
    | covers => rfl
    | no k => rfl
    | out k => rfl
    | overlap j k => rfl
    | gap b => rfl
  refine ⟨fun st => ?_, ?_⟩
  · unfold eqR
    rw [k, k]; rfl
  · unfold eqR
    rw [k]; rfl
end FL

namespace FL
open PySem
variable [TabCtx]

section
variable {α : Type} [Inhabited α]
end


section
variable (f : Int → Int) (n : Nat)
structure Inj : Prop where
  to : ∀ x : Int, 0 ≤ x → x < n → 0 ≤ f x ∧ f x < n
  inj : ∀ x y : Int, 0 ≤ x → x < n → 0 ≤ y → y < n → f x = f y → x = y
structure Walk (s : Int) (ring : List Int) (here : Int) : Prop where
  ne : ring ≠ []
  hd : getI ring 0 = s
  nd : ring.Nodup
  sub : ∀ x ∈ ring, 0 ≤ x ∧ x < n
  ch : ∀ k : Nat, k + 1 < ring.length → f (getI ring k) = getI ring (k + 1 : Nat)
  last : f (getI ring (-1)) = here
theorem getI_app1 {ring : List Int} {h : Int} {k : Nat} (hk : k < ring.length) : getI (ring ++ [h]) k = getI ring k := by
  rw [getI_nat, getI_nat, List.getD_eq_getElem?_getD, List.getD_eq_getElem?_getD, List.getElem?_append_left hk]
theorem getI_app2 {ring : List Int} {h : Int} : getI (ring ++ [h]) (ring.length : Nat) = h := by
  rw [getI_nat, List.getD_eq_getElem?_getD, List.getElem?_append_right (Nat.le_refl _)]
  simp
theorem getI_last {ring : List Int} (h : ring ≠ []) : getI ring (-1) = getI ring (ring.length - 1 : Nat) := by
  have := List.length_pos_iff.mpr h
  unfold getI
  rw [if_pos (by omega), if_neg (by omega)]
  congr 1
  omega
theorem getI_in {ring : List Int} {x : Int} (h : x ∈ ring) : ∃ k : Nat, k < ring.length ∧ getI ring k = x := by
  obtain ⟨k, hk, e⟩ := List.getElem_of_mem h
  exact ⟨k, hk, by rw [getI_nat, List.getD_eq_getElem?_getD, List.getElem?_eq_getElem hk, ← e]; rfl⟩
theorem getI_of {ring : List Int} {k : Nat} (h : k < ring.length) : getI ring k ∈ ring := getI_mem ⟨by omega, by omega⟩
theorem nd_get {ring : List Int} (h : ring.Nodup) {i j : Nat} (hi : i < ring.length) (hj : j < ring.length) (e : getI ring i = getI ring j) : i = j := by
  rw [getI_nat, getI_nat, List.getD_eq_getElem?_getD, List.getD_eq_getElem?_getD, List.getElem?_eq_getElem hi, List.getElem?_eq_getElem hj] at e
  exact (List.getElem_inj h).mp e
variable {f n}
theorem Walk.fresh {s here : Int} {ring : List Int} (I : Inj f n) (w : Walk f n s ring here) (h : here ≠ s) : here ∉ ring := fun hm => by
  obtain ⟨k, hk, e⟩ := getI_in hm
  have hl := List.length_pos_iff.mpr w.ne
  cases k with
  | zero => exact h (e.symm.trans w.hd)
  | succ k =>
    have h1 := w.ch k hk
    rw [e, ← w.last, getI_last w.ne] at h1
    have a1 := w.sub _ (getI_of (k := k) (by omega))
    have a2 := w.sub _ (getI_of (ring := ring) (k := ring.length - 1) (by omega))
    have := nd_get w.nd (by omega) (by omega) (I.inj _ _ a1.1 a1.2 a2.1 a2.2 h1)
    omega
theorem Walk.here_in {s here : Int} {ring : List Int} (I : Inj f n) (w : Walk f n s ring here) : 0 ≤ here ∧ here < n := by
  have a2 := w.sub _ (getI_mem (i := -1) ⟨by have := List.length_pos_iff.mpr w.ne; omega, by omega⟩)
  rw [← w.last]
  exact I.to _ a2.1 a2.2
theorem Walk.next {s here : Int} {ring : List Int} (I : Inj f n) (w : Walk f n s ring here) (h : here ≠ s) : Walk f n s (ring ++ [here]) (f here) where
  ne := by simp
  hd := by
    have := getI_app1 (h := here) (List.length_pos_iff.mpr w.ne)
    exact this.trans w.hd
  nd := by
    rw [List.nodup_append]
    refine ⟨w.nd, by simp, fun a ha b hb => ?_⟩
    rw [List.mem_singleton.mp hb]
    exact fun e => w.fresh I h (e ▸ ha)
  sub := fun x hx => by
    rcases List.mem_append.mp hx with hx | hx
    · exact w.sub x hx
    · rw [List.mem_singleton.mp hx]; exact w.here_in I
  ch := fun k hk => by
    rw [List.length_append, List.length_singleton] at hk
    by_cases hk2 : k + 1 < ring.length
    · rw [getI_app1 (by omega), getI_app1 hk2]; exact w.ch k hk2
    · have e : k + 1 = ring.length := by omega
      rw [getI_app1 (by omega), e, getI_app2, ← w.last, getI_last w.ne]
      congr 2
      omega
  last := by
    rw [getI_last (by simp), List.length_append, List.length_singleton, show ring.length + 1 - 1 = ring.length by omega, getI_app2]
def Ring (f : Int → Int) (n : Nat) (s : Int) (ring : List Int) : Prop := Walk f n s ring s
theorem Walk.one {s : Int} (h : 0 ≤ s ∧ s < n) : Walk f n s [s] (f s) where
  ne := by simp
  hd := rfl
  nd := by simp
  sub := fun x hx => by rw [List.mem_singleton.mp hx]; exact h
  ch := fun k hk => by simp at hk
  last := rfl
theorem Ring.round {s : Int} {ring : List Int} (w : Ring f n s ring) {k : Nat} (hk : k < ring.length) : f (getI ring ((k : Int) - 1)) = getI ring k := by
  cases k with
  | zero => exact w.last.trans w.hd.symm
  | succ k =>
    rw [show (((k + 1 : Nat) : Int) - 1) = (k : Int) by omega]
    exact w.ch k hk
theorem Ring.back {s : Int} {ring : List Int} (w : Ring f n s ring) {x : Int} (h : x ∈ ring) : ∃ y ∈ ring, f y = x := by
  obtain ⟨k, hk, e⟩ := getI_in h
  exact ⟨_, getI_mem (i := (k : Int) - 1) ⟨by omega, by omega⟩, by rw [w.round hk, e]⟩
theorem Ring.on {s : Int} {ring : List Int} (w : Ring f n s ring) {x : Int} (h : x ∈ ring) : f x ∈ ring := by
  obtain ⟨k, hk, e⟩ := getI_in h
  by_cases hk2 : k + 1 < ring.length
  · rw [← e, w.ch k hk2]; exact getI_of hk2
  · have e2 : k = ring.length - 1 := by omega
    rw [← e, e2, ← getI_last w.ne, w.last, ← w.hd]
    exact getI_of (k := 0) (by omega)
theorem Ring.off {s : Int} {ring : List Int} (I : Inj f n) (w : Ring f n s ring) {x : Int} (h0 : 0 ≤ x ∧ x < n) (h : f x ∈ ring) : x ∈ ring := by
  obtain ⟨y, hy, e⟩ := w.back h
  have hs := w.sub y hy
  rw [← I.inj y x hs.1 hs.2 h0.1 h0.2 e]
  exact hy
theorem Ring.apart {s s2 : Int} {r1 r2 : List Int} (I : Inj f n) (w1 : Ring f n s r1) (w2 : Ring f n s2 r2) (h : s2 ∉ r1) : ∀ x ∈ r2, x ∉ r1 := fun x hx => by
  obtain ⟨k, hk, e⟩ := getI_in hx
  subst e
  clear hx
  induction k with
  | zero => exact fun hm => h (w2.hd ▸ hm)
  | succ k ih =>
    intro hm
    rw [← w2.ch k hk] at hm
    exact ih (by omega) (w1.off I (w2.sub _ (getI_of (by omega))) hm)
end
end FL

namespace FL
open PySem
variable [TabCtx]

theorem til_right {w h d : Int} {bs : List Bx} (t : Til w h bs) (hw : 0 ≤ w) (hd : 0 < d) (hh : 0 < h) : Til (w + d) h (bs ++ [(w, 0, w + d, h)]) := by
  obtain ⟨t1, t2, t3⟩ := t
  refine ⟨fun b hb => ?_, ?_, fun x y a b c e => ?_⟩
  · rcases List.mem_append.mp hb with hb | hb
    · have := t1 b hb
      unfold BxP at *
      omega
    · rw [List.mem_singleton.mp hb]
      unfold BxP
      simp only
      omega
  · refine List.pairwise_append.mpr ⟨t2, by simp, fun u hu v hv x y q => ?_⟩
    rw [List.mem_singleton.mp hv] at q
    have := t1 u hu
    unfold BxP cellIn at *
    simp only at q
    omega
  · by_cases hx : x < w
    · obtain ⟨b', hb, hc⟩ := t3 x y a hx c e
      exact ⟨b', List.mem_append_left _ hb, hc⟩
    · refine ⟨_, List.mem_append_right _ (List.mem_singleton.mpr rfl), ?_⟩
      unfold cellIn
      simp only
      omega
theorem til_top {w h d : Int} {bs : List Bx} (t : Til w h bs) (hh : 0 ≤ h) (hd : 0 < d) (hw : 0 < w) : Til w (h + d) (bs ++ [(0, h, w, h + d)]) := by
  obtain ⟨t1, t2, t3⟩ := t
  refine ⟨fun b hb => ?_, ?_, fun x y a b c e => ?_⟩
  · rcases List.mem_append.mp hb with hb | hb
    · have := t1 b hb
      unfold BxP at *
      omega
    · rw [List.mem_singleton.mp hb]
      unfold BxP
      simp only
      omega
  · refine List.pairwise_append.mpr ⟨t2, by simp, fun u hu v hv x y q => ?_⟩
    rw [List.mem_singleton.mp hv] at q
    have := t1 u hu
    unfold BxP cellIn at *
    simp only at q
    omega
  · by_cases hy : y < h
    · obtain ⟨b', hb, hc⟩ := t3 x y a b c hy
      exact ⟨b', List.mem_append_left _ hb, hc⟩
    · refine ⟨_, List.mem_append_right _ (List.mem_singleton.mpr rfl), ?_⟩
      unfold cellIn
      simp only
      omega
theorem til_four {w h x y : Int} {pre post bs : List Bx} {b : Bx} (t : Til w h (pre ++ b :: post)) (hx : b.1 < x ∧ x < b.2.2.1) (hy : b.2.1 < y ∧ y < b.2.2.2)
    (p : bs.Perm (pre ++ [(b.1, b.2.1, x, y), (x, b.2.1, b.2.2.1, y), (b.1, y, x, b.2.2.2), (x, y, b.2.2.1, b.2.2.2)] ++ post)) : Til w h bs := by
  have t1 := t.cut (parts := [(b.1, b.2.1, x, b.2.2.2), (x, b.2.1, b.2.2.1, b.2.2.2)]) (.inr (.inl ⟨x, hx.1, hx.2, rfl⟩)) (.refl _)
  have t2 := Til.cut (pre := pre) (b := (b.1, b.2.1, x, b.2.2.2)) (post := (x, b.2.1, b.2.2.1, b.2.2.2) :: post) (parts := [(b.1, b.2.1, x, y), (b.1, y, x, b.2.2.2)]) (by simpa using t1) (.inr (.inr (.inl ⟨y, hy.1, hy.2, .inl rfl⟩))) (.refl _)
  have t3 := Til.cut (pre := pre ++ [(b.1, b.2.1, x, y), (b.1, y, x, b.2.2.2)]) (b := (x, b.2.1, b.2.2.1, b.2.2.2)) (post := post) (parts := [(x, b.2.1, b.2.2.1, y), (x, y, b.2.2.1, b.2.2.2)]) (by simpa using t2) (.inr (.inr (.inl ⟨y, hy.1, hy.2, .inl rfl⟩))) (.refl _)
  refine t3.perm (p.trans ?_)
  simp only [List.append_assoc]
  refine List.Perm.append_left _ ?_
  simp only [List.cons_append, List.nil_append]
  refine List.Perm.cons _ (List.Perm.swap _ _ _)
theorem til_tiles {w h : Int} {bs : List Bx} (t : Til w h bs) : Tiles w h bs := by
  refine (tiles_bare fun b hb => .inl (t.1 b hb)).mpr ?_
  have : bs.filter (fun b => !isPt b) = bs := List.filter_eq_self.mpr fun b hb => by
    have := t.1 b hb
    unfold BxP at this
    unfold isPt
    simp; omega
  rw [this]; exact t
theorem split_at {α : Type} [Inhabited α] {bs : List α} {j : Int} (h0 : 0 ≤ j) (h1 : j < bs.length) : bs = bs.take j.toNat ++ getI bs j :: bs.drop (j + 1).toNat := by
  rw [show (j + 1).toNat = j.toNat + 1 by omega, getI_ge h0, List.getD_eq_getElem?_getD, List.getElem?_eq_getElem (by omega), Option.getD_some, ← List.drop_eq_getElem_cons, List.take_append_drop]
theorem scN_z {s t n : Int} (h : Sc s t) : (scN s t n).1 = 0 ↔ n = 0 := by
  constructor
  · intro q
    obtain ⟨p1, _, p3, _, _⟩ := lowI_facts (t := n * s) (b := t) (by have := h.2.1; omega)
    unfold scN at q
    rw [q, Int.zero_mul] at p3
    have h1 := h.1.1
    rcases Int.mul_eq_zero.mp p3.symm with e | e
    · rcases Int.mul_eq_zero.mp e with e | e <;> omega
    · omega
  · intro q
    rw [q, scN_zero h]
def sqB (q : Int × Int × Int) : Bx := (q.1, q.2.1, q.1 + q.2.2, q.2.1 + q.2.2)
end FL

namespace FL
open PySem
variable [TabCtx]

theorem scN_one {n : Int} : scN 1 1 n = (n, 1) := by
  unfold scN
  rw [Int.mul_one]
  exact lowI_low (by omega) (by simp)

end FL

namespace FL
open PySem
variable [TabCtx]

abbrev Pc := Int × Int × Int
def exT (B : List Pc) : List Int := B.flatMap fun p => List.replicate (p.2.1 - p.1).toNat p.2.2
def Ch : Int → List Pc → Int → Prop
  | a, [], b => a = b
  | a, p :: r, b => p.1 = a ∧ a < p.2.1 ∧ Ch p.2.1 r b
def Ad : List Pc → Prop
  | p :: q :: r => p.2.2 ≠ q.2.2 ∧ Ad (q :: r)
  | _ => True
theorem ch_app {x y : List Pc} : ∀ {a b : Int}, Ch a (x ++ y) b ↔ ∃ m, Ch a x m ∧ Ch m y b := by
  induction x with
  | nil =>
    intro a b
    constructor
    · intro h; exact ⟨a, rfl, h⟩
    · rintro ⟨m, h1, h2⟩
      have : a = m := h1
      rw [this]; exact h2
  | cons p r ih =>
    intro a b
    constructor
    · rintro ⟨h1, h2, h3⟩
      obtain ⟨m, h4, h5⟩ := ih.mp h3
      exact ⟨m, ⟨h1, h2, h4⟩, h5⟩
    · rintro ⟨m, ⟨h1, h2, h3⟩, h4⟩
      exact ⟨h1, h2, ih.mpr ⟨m, h3, h4⟩⟩
theorem ch_le : ∀ {x : List Pc} {a b : Int}, Ch a x b → a ≤ b ∧ ∀ p ∈ x, a ≤ p.1 ∧ p.1 < p.2.1 ∧ p.2.1 ≤ b
  | [], a, b, h => by
    have : a = b := h
    exact ⟨by omega, by simp⟩
  | p :: r, a, b, ⟨h1, h2, h3⟩ => by
    obtain ⟨h4, h5⟩ := ch_le h3
    refine ⟨by omega, fun q hq => ?_⟩
    rcases List.mem_cons.mp hq with rfl | hq
    · omega
    · have := h5 q hq; omega
theorem ex_app {x y : List Pc} : exT (x ++ y) = exT x ++ exT y := by unfold exT; rw [List.flatMap_append]
theorem ex_one {p : Pc} : exT [p] = List.replicate (p.2.1 - p.1).toNat p.2.2 := by unfold exT; simp
theorem ex_cons {p : Pc} {x : List Pc} : exT (p :: x) = List.replicate (p.2.1 - p.1).toNat p.2.2 ++ exT x := by unfold exT; simp
theorem ex_len : ∀ {x : List Pc} {a b : Int}, Ch a x b → ((exT x).length : Int) = b - a
  | [], a, b, h => by
    have : a = b := h
    unfold exT
    simp; omega
  | p :: r, a, b, ⟨h1, h2, h3⟩ => by
    have := ex_len h3
    rw [ex_cons, List.length_append, List.length_replicate]
    omega
theorem ex_mem {x : List Pc} {v : Int} (h : v ∈ exT x) : ∃ p ∈ x, p.2.2 = v := by
  unfold exT at h
  obtain ⟨p, hp, hv⟩ := List.mem_flatMap.mp h
  exact ⟨p, hp, (List.eq_of_mem_replicate hv).symm⟩
theorem ad_snoc {x : List Pc} {p q : Pc} : Ad (x ++ [p, q]) ↔ Ad (x ++ [p]) ∧ p.2.2 ≠ q.2.2 := by
  induction x with
  | nil => simp [Ad]
  | cons a r ih =>
    cases r with
    | nil => simp [Ad]
    | cons b r =>
      simp only [List.cons_append] at ih ⊢
      unfold Ad
      rw [ih, and_assoc]
theorem ad_lvl {x : List Pc} {p q : Pc} (h : Ad (x ++ [p])) (e : q.2.2 = p.2.2) : Ad (x ++ [q]) := by
  induction x with
  | nil => simp [Ad]
  | cons a r ih =>
    cases r with
    | nil =>
      simp only [List.cons_append, List.nil_append] at h ⊢
      exact ⟨by rw [e]; exact h.1, trivial⟩
    | cons b r =>
      simp only [List.cons_append] at ih h ⊢
      exact ⟨h.1, ih h.2⟩
theorem ad_mid {x y : List Pc} {p q : Pc} (h : Ad (x ++ p :: q :: y)) : p.2.2 ≠ q.2.2 := by
  induction x with
  | nil => exact h.1
  | cons a r ih =>
    cases r with
    | nil => exact h.2.1
    | cons b r => exact ih h.2
def jnP (s : List Pc) (x : Pc) : List Pc := match s.getLast? with
  | some p => if p.2.2 = x.2.2 then s.dropLast ++ [(p.1, x.2.1, x.2.2)] else s ++ [x]
  | none => s ++ [x]
theorem jn_nil {x : Pc} : jnP [] x = [x] := rfl
theorem jn_snoc {s : List Pc} {p x : Pc} : jnP (s ++ [p]) x = if p.2.2 = x.2.2 then s ++ [(p.1, x.2.1, x.2.2)] else s ++ [p, x] := by
  unfold jnP
  rw [List.getLast?_concat]
  simp only [List.dropLast_concat]
  split
  · rfl
  · simp
theorem snoc_cases {α : Type} (l : List α) : l = [] ∨ ∃ s a, l = s ++ [a] := by
  cases h : l.getLast? with
  | none => exact .inl (List.getLast?_eq_none_iff.mp h)
  | some a =>
    obtain ⟨s, hs⟩ := List.getLast?_eq_some_iff.mp h
    exact .inr ⟨s, a, hs⟩
theorem jn_step {a m b : Int} {s : List Pc} {x : Pc} (h : Ch a s m) (had : Ad s) (h1 : x.1 = m) (h2 : m < x.2.1) : Ch a (jnP s x) x.2.1 ∧ Ad (jnP s x) ∧ exT (jnP s x) = exT s ++ exT [x] ∧ (jnP s x).length ≤ s.length + 1 ∧ jnP s x ≠ [] := by
  rcases snoc_cases s with rfl | ⟨s', p, rfl⟩
  · have hm : a = m := h
    rw [jn_nil]
    exact ⟨⟨by omega, by omega, rfl⟩, trivial, rfl, by simp, by simp⟩
  · rw [jn_snoc]
    obtain ⟨k, h3, h4, h5, h6⟩ := ch_app.mp h
    have h7 : p.2.1 = m := h6
    split
    · rename_i e
      refine ⟨ch_app.mpr ⟨k, h3, h4, by simp only; omega, rfl⟩, ad_lvl had e.symm, ?_, by simp, by simp⟩
      rw [ex_app, ex_app, ex_one, ex_one, ex_one, List.append_assoc]
      simp only
      rw [e, List.replicate_append_replicate]
      congr 2
      omega
    · rename_i e
      refine ⟨?_, ad_snoc.mpr ⟨had, e⟩, by rw [show s' ++ [p, x] = (s' ++ [p]) ++ [x] by simp, ex_app], by simp, by simp⟩
      rw [show s' ++ [p, x] = (s' ++ [p]) ++ [x] by simp]
      exact ch_app.mpr ⟨m, h, h1, h2, rfl⟩
theorem join_f {a : Int} : ∀ {l s : List Pc} {m b : Int}, Ch a s m → Ad s → Ch m l b → Ch a (l.foldl jnP s) b ∧ Ad (l.foldl jnP s) ∧ exT (l.foldl jnP s) = exT s ++ exT l ∧ (l.foldl jnP s).length ≤ s.length + l.length
  | [], s, m, b, h, had, hc => by
    have : m = b := hc
    subst this
    refine ⟨h, had, by simp [exT], by simp⟩
  | x :: l, s, m, b, h, had, ⟨h1, h2, h3⟩ => by
    obtain ⟨k1, k2, k3, k4, k5⟩ := jn_step (b := b) h had h1 h2
    obtain ⟨j1, j2, j3, j4⟩ := join_f k1 k2 h3
    rw [List.foldl_cons]
    refine ⟨j1, j2, ?_, by rw [List.length_cons]; omega⟩
    rw [j3, k3, List.append_assoc, ← ex_app]
    rfl

structure Hi (B pre post : List Pc) (p : Pc) : Prop where
  eq : B = pre ++ p :: post
  lt : ∀ q ∈ pre, q.2.2 < p.2.2
  le : ∀ q ∈ post, q.2.2 ≤ p.2.2
theorem enumI_get {α : Type} {xs : List α} {k : Nat} : (enumI xs)[k]? = (xs[k]?).map fun a => ((k : Int), a) := by
  unfold enumI
  rw [List.getElem?_map, List.getElem?_zipIdx]
  cases xs[k]? <;> simp
theorem enumI_snd {α : Type} {xs : List α} : (enumI xs).map (·.2) = xs := by
  refine List.ext_getElem? fun k => ?_
  rw [List.getElem?_map, enumI_get]
  cases xs[k]? <;> rfl
theorem enumI_split {α : Type} {xs : List α} {pre post : List (Int × α)} {x : Int × α} (h : enumI xs = pre ++ x :: post) : x.1 = (pre.length : Int) ∧ xs = pre.map (·.2) ++ x.2 :: post.map (·.2) := by
  constructor
  · have := congrArg (fun l => l[pre.length]?) h
    simp only [List.getElem?_append_right (Nat.le_refl _), Nat.sub_self, List.getElem?_cons_zero, enumI_get] at this
    cases q : xs[pre.length]? with
    | none => rw [q] at this; cases this
    | some a => rw [q] at this; cases this; rfl
  · have := congrArg (fun l => l.map (·.2)) h
    rw [enumI_snd, List.map_append, List.map_cons] at this
    exact this
theorem hi_fold {B : List Pc} (hB : B ≠ []) {c : Int → Int × Pc → Prop} {t : Int → Int × Pc → Int} (hc : ∀ f x, IxOk B.length f → c f x) (ht : ∀ f x, t f x = if decide ((getI B f).2.2 < x.2.2.2) = true then x.1 else f) :
    cFold c t (enumI B) 0 ∧ ∃ pre p post, Hi B pre post p ∧ (enumI B).foldl t 0 = (pre.length : Int) := by
  have hl := List.length_pos_iff.mpr hB
  obtain ⟨k1, k2⟩ := cFold_pre0 (c := c) (t := t) (xs := enumI B) (s := 0) (fun done f => (done = [] ∧ f = 0) ∨ ∃ a p r, done.map (·.2) = a ++ p :: r ∧ f = (a.length : Int) ∧ (∀ q ∈ a, q.2.2 < p.2.2) ∧ ∀ q ∈ r, q.2.2 ≤ p.2.2) (fun done x post f e P => by
    obtain ⟨e1, e2⟩ := enumI_split e
    rcases P with ⟨rfl, rfl⟩ | ⟨a, p, r, h1, rfl, h3, h4⟩
    · refine ⟨hc _ _ (ixOk_of (by omega) (by omega)), .inr ⟨[], x.2, [], rfl, ?_, by simp, by simp⟩⟩
      rw [ht]
      simp only [List.length_nil] at e1
      split
      · exact e1
      · rfl
    · have hB2 : B = a ++ p :: (r ++ x.2 :: post.map (·.2)) := by rw [e2, h1]; simp
      have hg : getI B (a.length : Int) = p := by
        rw [getI_nat, List.getD_eq_getElem?_getD, hB2, List.getElem?_append_right (Nat.le_refl _)]
        simp
      have hlen := congrArg List.length hB2
      rw [List.length_append, List.length_cons] at hlen
      refine ⟨hc _ _ (ixOk_of (by omega) (by omega)), .inr ?_⟩
      rw [ht, hg]
      split
      · rename_i q
        rw [decide_eq_true_eq] at q
        refine ⟨a ++ p :: r, x.2, [], by rw [List.map_append, h1]; rfl, ?_, fun y hy => ?_, by simp⟩
        · rw [e1, ← h1, List.length_map]
        · rcases List.mem_append.mp hy with hy | hy
          · have := h3 y hy; omega
          · rcases List.mem_cons.mp hy with rfl | hy
            · exact q
            · have := h4 y hy; omega
      · rename_i q
        rw [decide_eq_true_eq] at q
        refine ⟨a, p, r ++ [x.2], by rw [List.map_append, h1]; simp, rfl, h3, fun y hy => ?_⟩
        rcases List.mem_append.mp hy with hy | hy
        · exact h4 y hy
        · rw [List.mem_singleton.mp hy]; omega) (.inl ⟨rfl, rfl⟩)
  refine ⟨k1, ?_⟩
  rcases k2 with ⟨h1, _⟩ | ⟨a, p, r, h1, h2, h3, h4⟩
  · have h0 := congrArg List.length h1
    rw [enumI_len, List.length_nil] at h0
    omega
  · rw [enumI_snd] at h1
    exact ⟨a, p, r, ⟨h1, h3, h4⟩, h2⟩

def hangP (pre post : List Pc) (p : Pc) (sz : Int) : List Pc := pre ++ [(p.1, p.1 + sz, p.2.2 - sz)] ++ (if p.1 + sz < p.2.1 then [(p.1 + sz, p.2.1, p.2.2)] else []) ++ post
theorem hang_f {a b sz : Int} {pre post : List Pc} {p : Pc} (h : Ch a (pre ++ p :: post) b) (h1 : 1 ≤ sz) (h2 : sz ≤ p.2.1 - p.1) :
    Ch a (hangP pre post p sz) b ∧ exT (hangP pre post p sz) = exT pre ++ List.replicate sz.toNat (p.2.2 - sz) ++ List.replicate (p.2.1 - p.1 - sz).toNat p.2.2 ++ exT post := by
  obtain ⟨m, c1, c2, c3, c4⟩ := ch_app.mp h
  unfold hangP
  by_cases q : p.1 + sz < p.2.1
  · rw [if_pos q]
    refine ⟨?_, ?_⟩
    · rw [List.append_assoc, List.append_assoc]
      exact ch_app.mpr ⟨m, c1, ⟨c2, by simp only; omega, rfl, by simp only; omega, c4⟩⟩
    · rw [ex_app, ex_app, ex_app, ex_one, ex_one]
      simp only
      rw [show p.1 + sz - p.1 = sz by omega, show p.2.1 - (p.1 + sz) = p.2.1 - p.1 - sz by omega]
  · rw [if_neg q]
    have e : p.1 + sz = p.2.1 := by omega
    refine ⟨?_, ?_⟩
    · rw [List.append_nil, List.append_assoc]
      exact ch_app.mpr ⟨m, c1, ⟨c2, by simp only; omega, by simp only; rw [e]; exact c4⟩⟩
    · rw [ex_app, ex_app, ex_app, ex_one]
      simp only
      rw [show p.1 + sz - p.1 = sz by omega, show (p.2.1 - p.1 - sz).toNat = 0 by omega]
      simp [exT]

end FL

namespace K52
open PySem PySem.Spec PyProof.Rows L2 FL
variable [TabCtx]

def topS (i : Nat) : Stmt := PySem.Challenge.pw_currentfloor_k52_sizes_there_and_back.main.body.getD i (.Pass ⟨0, 0, 0, 0⟩)
def k_NOUGHT : D := (.tup [(.int 0), (.int 1)])

abbrev s_l_cell_at : Stmt := topS 31
theorem sc_l_cell_at : FnScope ["_law_script", "_law_k", "_law_cell"] ["_law_script", "_law_k"] (defScope s_l_cell_at) := ⟨rfl, rfl, rfl, by decide +kernel, rfl, by decide +kernel, by decide +kernel⟩
def b_l_cell_at_1a : SM4 := sSeq (sSet 2 (eOp modD (eOp ixD (eV 0) (eV 1)) (eOp powD (eC (.int 10)) (eC (.int 18))))) sNext
def b_l_cell_at_2 : SM4 := sSeq (sRet (eOp modD (eOp mulD (eOp modD (eOp addD (eOp mulD (eV 2) (eC (.int 48271))) (eOp mulD (eC (.int 16807)) (eV 1))) (eC (.int 2147483647))) (eC (.int 69621))) (eC (.int 2147483629)))) sNext
def b_l_cell_at_1 : SM4 := sSeq (sIf (asB (eOp ltD (eV 1) (eB lenB (aCons (eV 0) (aNil))))) (b_l_cell_at_1a) (sNext)) b_l_cell_at_2
def b_l_cell_at : SM4 := sSeq (sSet 2 (eC (.int 0))) b_l_cell_at_1
def m_l_cell_at : Fn := mFn true 3 b_l_cell_at

abbrev s_l_place : Stmt := topS 33
theorem sc_l_place : FnScope ["_law_square"] ["_law_square"] (defScope s_l_place) := ⟨rfl, rfl, rfl, by decide +kernel, rfl, by decide +kernel, by decide +kernel⟩
def b_l_place : SM4 := sSeq (sRet (eTup (aCons (eOp subD (eUn negD (eOp ixD (eV 0) (eC (.int 1)))) (eOp ixD (eV 0) (eC (.int 2)))) (aCons (eOp ixD (eV 0) (eC (.int 0))) (aNil))))) sNext
def m_l_place : Fn := mFn true 1 b_l_place

abbrev s_l_hung : Stmt := topS 34
theorem sc_l_hung : FnScope ["_law_squares"] ["_law_squares"] (defScope s_l_hung) := ⟨rfl, rfl, rfl, by decide +kernel, rfl, by decide +kernel, by decide +kernel⟩
def b_l_hung : SM4 := sSeq (sRet (eFrz (nB (sortK m_l_place) (aCons (eV 0) (aNil))))) sNext
def m_l_hung : Fn := mFn true 1 b_l_hung

abbrev s_l_square_floor : Stmt := topS 32
theorem sc_l_square_floor : FnScope ["_law_script", "_law_first", "_law_last", "_law_most", "_law_side", "_law_squares", "_law_wide", "_law_high", "_law_k", "_law_cell", "_law_at", "_law_left", "_law_low", "_law_size", "_law_half"] ["_law_script", "_law_first", "_law_last", "_law_most"] (defScope s_l_square_floor) := ⟨rfl, rfl, rfl, by decide +kernel, rfl, by decide +kernel, by decide +kernel⟩
def b_l_square_floor_4a_3a_1 : SM4 := sSeq (sSet 6 (eOp addD (eV 6) (eV 7))) sNext
def b_l_square_floor_4a_3a : SM4 := sSeq (sDrop (eMt isLst apD (eV 5) (aCons (eTup (aCons (eV 6) (aCons (eC (.int 0)) (aCons (eV 7) (aNil))))) (aNil)))) b_l_square_floor_4a_3a_1
def b_l_square_floor_4a_3b_0a_1 : SM4 := sSeq (sSet 7 (eOp addD (eV 7) (eV 6))) sNext
def b_l_square_floor_4a_3b_0a : SM4 := sSeq (sDrop (eMt isLst apD (eV 5) (aCons (eTup (aCons (eC (.int 0)) (aCons (eV 7) (aCons (eV 6) (aNil))))) (aNil)))) b_l_square_floor_4a_3b_0a_1
def b_l_square_floor_4a_3b_0b_0a_2 : SM4 := sSeq (sDrop (eMt isLst extD (eV 5) (aCons (eFrz (nLst (aCons (eTup (aCons (eOp addD (eV 11) (eV 14)) (aCons (eV 12) (aCons (eV 14) (aNil))))) (aCons (eTup (aCons (eV 11) (aCons (eOp addD (eV 12) (eV 14)) (aCons (eV 14) (aNil))))) (aCons (eTup (aCons (eOp addD (eV 11) (eV 14)) (aCons (eOp addD (eV 12) (eV 14)) (aCons (eV 14) (aNil))))) (aNil)))))) (aNil)))) sNext
def b_l_square_floor_4a_3b_0b_0a_1 : SM4 := sSeq (sPut (eTup (aCons (eV 11) (aCons (eV 12) (aCons (eV 14) (aNil))))) (eV 5) (eV 10)) b_l_square_floor_4a_3b_0b_0a_2
def b_l_square_floor_4a_3b_0b_0a : SM4 := sSeq (sSet 14 (eOp fdivD (eV 13) (eC (.int 2)))) b_l_square_floor_4a_3b_0b_0a_1
def b_l_square_floor_4a_3b_0b : SM4 := sSeq (sIf (tAndM (asB (eOp leD (eOp addD (eB lenB (aCons (eV 5) (aNil))) (eC (.int 3))) (eV 3))) (asB (eOp eqD (eOp modD (eV 13) (eC (.int 2))) (eC (.int 0))))) (b_l_square_floor_4a_3b_0b_0a) (sNext)) sNext
def b_l_square_floor_4a_3b : SM4 := sSeq (sIf (tAndM (asB (eOp eqD (eOp modD (eV 9) (eC (.int 3))) (eC (.int 1)))) (asB (eOp ltD (eB lenB (aCons (eV 5) (aNil))) (eV 3)))) (b_l_square_floor_4a_3b_0a) (b_l_square_floor_4a_3b_0b)) sNext
def b_l_square_floor_4a_3 : SM4 := sSeq (sIf (tAndM (asB (eOp eqD (eOp modD (eV 9) (eC (.int 3))) (eC (.int 0)))) (asB (eOp ltD (eB lenB (aCons (eV 5) (aNil))) (eV 3)))) (b_l_square_floor_4a_3a) (b_l_square_floor_4a_3b)) sNext
def b_l_square_floor_4a_2 : SM4 := sSeq (sAsg (eOp ixD (eV 5) (eV 10)) (gTupM 3 (gsCons (gSet 11) (gsCons (gSet 12) (gsCons (gSet 13) (gsNil)))))) b_l_square_floor_4a_3
def b_l_square_floor_4a_1 : SM4 := sSeq (sSet 10 (eOp modD (eOp fdivD (eV 9) (eC (.int 3))) (eB lenB (aCons (eV 5) (aNil))))) b_l_square_floor_4a_2
def b_l_square_floor_4a : SM4 := sSeq (sSet 9 (eCall 2 m_l_cell_at (aCons (eV 0) (aCons (eV 8) (aNil))))) b_l_square_floor_4a_1
def b_l_square_floor_5 : SM4 := sSeq (sRet (eTup (aCons (eV 5) (aCons (eV 6) (aCons (eV 7) (aNil)))))) sNext
def b_l_square_floor_4 : SM4 := sSeq (sFor (some [8, 9, 10, 11, 12, 13, 14]) (iRange2 (aCons (eOp addD (eV 1) (eC (.int 1))) (aCons (eB minC (aCons (eB lenB (aCons (eV 0) (aNil))) (aCons (eV 2) (aNil)))) (aNil)))) (gSet 8) (b_l_square_floor_4a)) b_l_square_floor_5
def b_l_square_floor_3 : SM4 := sSeq (sSet 7 (eV 4)) b_l_square_floor_4
def b_l_square_floor_2 : SM4 := sSeq (sSet 6 (eV 4)) b_l_square_floor_3
def b_l_square_floor_1 : SM4 := sSeq (sSet 5 (eNew (nLst (aCons (eTup (aCons (eC (.int 0)) (aCons (eC (.int 0)) (aCons (eV 4) (aNil))))) (aNil))))) b_l_square_floor_2
def b_l_square_floor : SM4 := sSeq (sSet 4 (eOp addD (eC (.int 1)) (eOp modD (eCall 2 m_l_cell_at (aCons (eV 0) (aCons (eV 1) (aNil)))) (eC (.int 60))))) b_l_square_floor_1
def m_l_square_floor : Fn := mFn true 15 b_l_square_floor

abbrev s_l_whole_floor : Stmt := topS 35
theorem sc_l_whole_floor : FnScope ["_law_squares", "_law_wide", "_law_high", "_law_rectangles", "_law_a", "_law_b", "_law_side"] ["_law_squares", "_law_wide", "_law_high"] (defScope s_l_whole_floor) := ⟨rfl, rfl, rfl, by decide +kernel, rfl, by decide +kernel, by decide +kernel⟩
def b_l_whole_floor_1 : SM4 := sSeq (sRet (eTup (aCons (eTup (aCons (eV 1) (aCons (eC (.int 1)) (aNil)))) (aCons (eTup (aCons (eV 2) (aCons (eC (.int 1)) (aNil)))) (aCons (eB tupB (aCons (eV 3) (aNil))) (aNil)))))) sNext
def b_l_whole_floor : SM4 := sSeq (sSet 3 (eFrz (nComp [4, 5, 6] (iSeq (eV 0)) (gTupM 3 (gsCons (gSet 4) (gsCons (gSet 5) (gsCons (gSet 6) (gsNil))))) (noTest) (eTup (aCons (eTup (aCons (eV 4) (aCons (eC (.int 1)) (aNil)))) (aCons (eTup (aCons (eV 5) (aCons (eC (.int 1)) (aNil)))) (aCons (eTup (aCons (eOp addD (eV 4) (eV 6)) (aCons (eC (.int 1)) (aNil)))) (aCons (eTup (aCons (eOp addD (eV 5) (eV 6)) (aCons (eC (.int 1)) (aNil)))) (aNil))))))))) b_l_whole_floor_1
def m_l_whole_floor : Fn := mFn true 7 b_l_whole_floor

abbrev s_less : Stmt := topS 10
theorem sc_less : FnScope ["one", "other"] ["one", "other"] (defScope s_less) := ⟨rfl, rfl, rfl, by decide +kernel, rfl, by decide +kernel, by decide +kernel⟩
def b_less : SM4 := sSeq (sRet (eOp ltD (eOp mulD (eOp ixD (eV 0) (eC (.int 0))) (eOp ixD (eV 1) (eC (.int 1)))) (eOp mulD (eOp ixD (eV 1) (eC (.int 0))) (eOp ixD (eV 0) (eC (.int 1)))))) sNext
def m_less : Fn := mFn true 2 b_less

abbrev s_is_covered : Stmt := topS 18
theorem sc_is_covered : FnScope ["cell", "rectangles", "one"] ["cell", "rectangles"] (defScope s_is_covered) := ⟨rfl, rfl, rfl, by decide +kernel, rfl, by decide +kernel, by decide +kernel⟩
def b_is_covered_0a_0a_0a : SM4 := sSeq (sRet (eC (.bl true))) sNext
def b_is_covered_0a_0a : SM4 := sSeq (sIf (tAndM (tNotM (tTru (eCall 2 m_less (aCons (eOp ixD (eV 2) (eC (.int 2))) (aCons (eOp ixD (eV 0) (eC (.int 2))) (aNil)))))) (tNotM (tTru (eCall 2 m_less (aCons (eOp ixD (eV 2) (eC (.int 3))) (aCons (eOp ixD (eV 0) (eC (.int 3))) (aNil))))))) (b_is_covered_0a_0a_0a) (sNext)) sNext
def b_is_covered_0a : SM4 := sSeq (sIf (tAndM (tNotM (tTru (eCall 2 m_less (aCons (eOp ixD (eV 0) (eC (.int 0))) (aCons (eOp ixD (eV 2) (eC (.int 0))) (aNil)))))) (tNotM (tTru (eCall 2 m_less (aCons (eOp ixD (eV 0) (eC (.int 1))) (aCons (eOp ixD (eV 2) (eC (.int 1))) (aNil))))))) (b_is_covered_0a_0a) (sNext)) sNext
def b_is_covered_1 : SM4 := sSeq (sRet (eC (.bl false))) sNext
def b_is_covered : SM4 := sSeq (sFor (some [2]) (iSeq (eV 1)) (gSet 2) (b_is_covered_0a)) b_is_covered_1
def m_is_covered : Fn := mFn true 3 b_is_covered

abbrev s_rising : Stmt := topS 17
theorem sc_rising : FnScope ["numbers", "found", "number", "at"] ["numbers"] (defScope s_rising) := ⟨rfl, rfl, rfl, by decide +kernel, rfl, by decide +kernel, by decide +kernel⟩
def b_rising_1a_1a : SM4 := sSeq (sSet 3 (eOp addD (eV 3) (eC (.int 1)))) sNext
def b_rising_1a_2a : SM4 := sSeq (sDrop (eMt isLst insD (eV 1) (aCons (eV 3) (aCons (eV 2) (aNil))))) sNext
def b_rising_1a_2 : SM4 := sSeq (sIf (tOrM (asB (eOp eqD (eV 3) (eB lenB (aCons (eV 1) (aNil))))) (asB (eOp neD (eOp ixD (eV 1) (eV 3)) (eV 2)))) (b_rising_1a_2a) (sNext)) sNext
def b_rising_1a_1 : SM4 := sSeq (sWhile fuelB (some []) (tAndM (asB (eOp ltD (eV 3) (eB lenB (aCons (eV 1) (aNil))))) (tTru (eCall 2 m_less (aCons (eOp ixD (eV 1) (eV 3)) (aCons (eV 2) (aNil)))))) (b_rising_1a_1a)) b_rising_1a_2
def b_rising_1a : SM4 := sSeq (sSet 3 (eC (.int 0))) b_rising_1a_1
def b_rising_2 : SM4 := sSeq (sRet (eV 1)) sNext
def b_rising_1 : SM4 := sSeq (sFor (some [2, 3]) (iSeq (eV 0)) (gSet 2) (b_rising_1a)) b_rising_2
def b_rising : SM4 := sSeq (sSet 1 (eNew (nLst (aNil)))) b_rising_1
def m_rising : Fn := mFn true 4 b_rising

abbrev s_first_gap : Stmt := topS 19
theorem sc_first_gap : FnScope ["floor", "width", "height", "rectangles", "across", "upward", "low", "high", "left", "right", "one"] ["floor"] (defScope s_first_gap) := ⟨rfl, rfl, rfl, by decide +kernel, rfl, by decide +kernel, by decide +kernel⟩
def b_first_gap_3a_0a_0a : SM4 := sSeq (sRet (eTup (aCons (eC (.str "gap")) (aCons (eV 8) (aCons (eV 6) (aCons (eV 9) (aCons (eV 7) (aNil)))))))) sNext
def b_first_gap_3a_0a : SM4 := sSeq (sIf (tNotM (tTru (eCall 2 m_is_covered (aCons (eTup (aCons (eV 8) (aCons (eV 6) (aCons (eV 9) (aCons (eV 7) (aNil)))))) (aCons (eV 3) (aNil)))))) (b_first_gap_3a_0a_0a) (sNext)) sNext
def b_first_gap_3a : SM4 := sSeq (sFor (some [8, 9]) (iZip (aCons (eV 4) (aCons (eSl (eV 4) (oSome (eC (.int 1))) (oNo)) (aNil)))) (gTupM 2 (gsCons (gSet 8) (gsCons (gSet 9) (gsNil)))) (b_first_gap_3a_0a)) sNext
def b_first_gap_4 : SM4 := sSeq (sRet (eC .non)) sNext
def b_first_gap_3 : SM4 := sSeq (sFor (some [6, 7, 8, 9]) (iZip (aCons (eV 5) (aCons (eSl (eV 5) (oSome (eC (.int 1))) (oNo)) (aNil)))) (gTupM 2 (gsCons (gSet 6) (gsCons (gSet 7) (gsNil)))) (b_first_gap_3a)) b_first_gap_4
def b_first_gap_2 : SM4 := sSeq (sSet 5 (eCall 1 m_rising (aCons (eOp addD (eOp addD (eFrz (nLst (aCons (eC k_NOUGHT) (aCons (eV 2) (aNil))))) (eFrz (nComp [10] (iSeq (eV 3)) (gSet 10) (noTest) (eOp ixD (eV 10) (eC (.int 1)))))) (eFrz (nComp [10] (iSeq (eV 3)) (gSet 10) (noTest) (eOp ixD (eV 10) (eC (.int 3)))))) (aNil)))) b_first_gap_3
def b_first_gap_1 : SM4 := sSeq (sSet 4 (eCall 1 m_rising (aCons (eOp addD (eOp addD (eFrz (nLst (aCons (eC k_NOUGHT) (aCons (eV 1) (aNil))))) (eFrz (nComp [10] (iSeq (eV 3)) (gSet 10) (noTest) (eOp ixD (eV 10) (eC (.int 0)))))) (eFrz (nComp [10] (iSeq (eV 3)) (gSet 10) (noTest) (eOp ixD (eV 10) (eC (.int 2)))))) (aNil)))) b_first_gap_2
def b_first_gap : SM4 := sSeq (sAsg (eV 0) (gTupM 3 (gsCons (gSet 1) (gsCons (gSet 2) (gsCons (gSet 3) (gsNil)))))) b_first_gap_1
def m_first_gap : Fn := mFn true 11 b_first_gap

abbrev s_overlap : Stmt := topS 15
theorem sc_overlap : FnScope ["one", "other"] ["one", "other"] (defScope s_overlap) := ⟨rfl, rfl, rfl, by decide +kernel, rfl, by decide +kernel, by decide +kernel⟩
def b_overlap_0a : SM4 := sSeq (sRet (eC (.bl false))) sNext
def b_overlap_1a : SM4 := sSeq (sRet (eC (.bl false))) sNext
def b_overlap_2 : SM4 := sSeq (sRet (eAnd (eCall 2 m_less (aCons (eOp ixD (eV 0) (eC (.int 1))) (aCons (eOp ixD (eV 1) (eC (.int 3))) (aNil)))) (eCall 2 m_less (aCons (eOp ixD (eV 1) (eC (.int 1))) (aCons (eOp ixD (eV 0) (eC (.int 3))) (aNil)))))) sNext
def b_overlap_1 : SM4 := sSeq (sIf (tOrM (tNotM (tTru (eCall 2 m_less (aCons (eOp ixD (eV 0) (eC (.int 0))) (aCons (eOp ixD (eV 1) (eC (.int 2))) (aNil)))))) (tNotM (tTru (eCall 2 m_less (aCons (eOp ixD (eV 1) (eC (.int 0))) (aCons (eOp ixD (eV 0) (eC (.int 2))) (aNil))))))) (b_overlap_1a) (sNext)) b_overlap_2
def b_overlap : SM4 := sSeq (sIf (tOrM (asB (eOp eqD (eOp ixD (eV 0) (eC (.int 0))) (eOp ixD (eV 0) (eC (.int 2))))) (asB (eOp eqD (eOp ixD (eV 1) (eC (.int 0))) (eOp ixD (eV 1) (eC (.int 2)))))) (b_overlap_0a) (sNext)) b_overlap_1
def m_overlap : Fn := mFn true 2 b_overlap

abbrev s_first_overlap : Stmt := topS 16
theorem sc_first_overlap : FnScope ["rectangles", "j", "one", "k"] ["rectangles"] (defScope s_first_overlap) := ⟨rfl, rfl, rfl, by decide +kernel, rfl, by decide +kernel, by decide +kernel⟩
def b_first_overlap_0a_0a_0a : SM4 := sSeq (sRet (eTup (aCons (eC (.str "overlap")) (aCons (eV 1) (aCons (eV 3) (aNil)))))) sNext
def b_first_overlap_0a_0a : SM4 := sSeq (sIf (tTru (eCall 2 m_overlap (aCons (eV 2) (aCons (eOp ixD (eV 0) (eV 3)) (aNil))))) (b_first_overlap_0a_0a_0a) (sNext)) sNext
def b_first_overlap_0a : SM4 := sSeq (sFor (some [3]) (iRange2 (aCons (eOp addD (eV 1) (eC (.int 1))) (aCons (eB lenB (aCons (eV 0) (aNil))) (aNil)))) (gSet 3) (b_first_overlap_0a_0a)) sNext
def b_first_overlap_1 : SM4 := sSeq (sRet (eC .non)) sNext
def b_first_overlap : SM4 := sSeq (sFor (some [1, 2, 3]) (iEnum (aCons (eV 0) (aNil))) (gTupM 2 (gsCons (gSet 1) (gsCons (gSet 2) (gsNil)))) (b_first_overlap_0a)) b_first_overlap_1
def m_first_overlap : Fn := mFn true 4 b_first_overlap

abbrev s_is_none : Stmt := topS 13
theorem sc_is_none : FnScope ["one", "left", "low", "right", "high"] ["one"] (defScope s_is_none) := ⟨rfl, rfl, rfl, by decide +kernel, rfl, by decide +kernel, by decide +kernel⟩
def b_is_none_1a : SM4 := sSeq (sRet (eC (.bl true))) sNext
def b_is_none_2 : SM4 := sSeq (sRet (eOp neD (eOp eqD (eV 1) (eV 3)) (eOp eqD (eV 2) (eV 4)))) sNext
def b_is_none_1 : SM4 := sSeq (sIf (tOrM (tTru (eCall 2 m_less (aCons (eV 3) (aCons (eV 1) (aNil))))) (tTru (eCall 2 m_less (aCons (eV 4) (aCons (eV 2) (aNil)))))) (b_is_none_1a) (sNext)) b_is_none_2
def b_is_none : SM4 := sSeq (sAsg (eV 0) (gTupM 4 (gsCons (gSet 1) (gsCons (gSet 2) (gsCons (gSet 3) (gsCons (gSet 4) (gsNil))))))) b_is_none_1
def m_is_none : Fn := mFn true 5 b_is_none

abbrev s_is_out : Stmt := topS 14
theorem sc_is_out : FnScope ["one", "width", "height", "left", "low", "right", "high"] ["one", "width", "height"] (defScope s_is_out) := ⟨rfl, rfl, rfl, by decide +kernel, rfl, by decide +kernel, by decide +kernel⟩
def b_is_out_1 : SM4 := sSeq (sRet (eOr (eCall 2 m_less (aCons (eV 3) (aCons (eC k_NOUGHT) (aNil)))) (eOr (eCall 2 m_less (aCons (eV 4) (aCons (eC k_NOUGHT) (aNil)))) (eOr (eCall 2 m_less (aCons (eV 1) (aCons (eV 5) (aNil)))) (eCall 2 m_less (aCons (eV 2) (aCons (eV 6) (aNil)))))))) sNext
def b_is_out : SM4 := sSeq (sAsg (eV 0) (gTupM 4 (gsCons (gSet 3) (gsCons (gSet 4) (gsCons (gSet 5) (gsCons (gSet 6) (gsNil))))))) b_is_out_1
def m_is_out : Fn := mFn true 7 b_is_out

abbrev s_looked : Stmt := topS 20
theorem sc_looked : FnScope ["floor", "width", "height", "rectangles", "k", "one", "found"] ["floor"] (defScope s_looked) := ⟨rfl, rfl, rfl, by decide +kernel, rfl, by decide +kernel, by decide +kernel⟩
def b_looked_1a_0a : SM4 := sSeq (sRet (eTup (aCons (eC (.str "no")) (aCons (eV 4) (aNil))))) sNext
def b_looked_1a : SM4 := sSeq (sIf (tTru (eCall 1 m_is_none (aCons (eV 5) (aNil)))) (b_looked_1a_0a) (sNext)) sNext
def b_looked_2a_0a : SM4 := sSeq (sRet (eTup (aCons (eC (.str "out")) (aCons (eV 4) (aNil))))) sNext
def b_looked_2a : SM4 := sSeq (sIf (tTru (eCall 3 m_is_out (aCons (eV 5) (aCons (eV 1) (aCons (eV 2) (aNil)))))) (b_looked_2a_0a) (sNext)) sNext
def b_looked_4a : SM4 := sSeq (sSet 6 (eCall 1 m_first_gap (aCons (eV 0) (aNil)))) sNext
def b_looked_5a : SM4 := sSeq (sRet (eTup (aCons (eC (.str "covers")) (aNil)))) sNext
def b_looked_6 : SM4 := sSeq (sRet (eV 6)) sNext
def b_looked_5 : SM4 := sSeq (sIf (asB (eOp isD (eV 6) (eC .non))) (b_looked_5a) (sNext)) b_looked_6
def b_looked_4 : SM4 := sSeq (sIf (asB (eOp isD (eV 6) (eC .non))) (b_looked_4a) (sNext)) b_looked_5
def b_looked_3 : SM4 := sSeq (sSet 6 (eCall 1 m_first_overlap (aCons (eV 3) (aNil)))) b_looked_4
def b_looked_2 : SM4 := sSeq (sFor (some [4, 5]) (iEnum (aCons (eV 3) (aNil))) (gTupM 2 (gsCons (gSet 4) (gsCons (gSet 5) (gsNil)))) (b_looked_2a)) b_looked_3
def b_looked_1 : SM4 := sSeq (sFor (some [4, 5]) (iEnum (aCons (eV 3) (aNil))) (gTupM 2 (gsCons (gSet 4) (gsCons (gSet 5) (gsNil)))) (b_looked_1a)) b_looked_2
def b_looked : SM4 := sSeq (sAsg (eV 0) (gTupM 3 (gsCons (gSet 1) (gsCons (gSet 2) (gsCons (gSet 3) (gsNil)))))) b_looked_1
def m_looked : Fn := mFn true 7 b_looked

abbrev s_common : Stmt := topS 7
theorem sc_common : FnScope ["one", "other", "big", "small", "rest"] ["one", "other"] (defScope s_common) := ⟨rfl, rfl, rfl, by decide +kernel, rfl, by decide +kernel, by decide +kernel⟩
def b_common_2a_2 : SM4 := sSeq (sSet 3 (eV 4)) sNext
def b_common_2a_1 : SM4 := sSeq (sSet 2 (eV 3)) b_common_2a_2
def b_common_2a : SM4 := sSeq (sSet 4 (eOp modD (eV 2) (eV 3))) b_common_2a_1
def b_common_3 : SM4 := sSeq (sRet (eV 2)) sNext
def b_common_2 : SM4 := sSeq (sWhile fuelB (some [4]) (asB (eOp gtD (eV 3) (eC (.int 0)))) (b_common_2a)) b_common_3
def b_common_1 : SM4 := sSeq (sSet 3 (eB absB (aCons (eV 1) (aNil)))) b_common_2
def b_common : SM4 := sSeq (sSet 2 (eB absB (aCons (eV 0) (aNil)))) b_common_1
def m_common : Fn := mFn true 5 b_common

abbrev s_fraction : Stmt := topS 8
theorem sc_fraction : FnScope ["top", "bottom", "shared"] ["top", "bottom"] (defScope s_fraction) := ⟨rfl, rfl, rfl, by decide +kernel, rfl, by decide +kernel, by decide +kernel⟩
def b_fraction_0a : SM4 := sSeq (sRaise "NoNumber") sNext
def b_fraction_2a : SM4 := sSeq (sSet 2 (eUn negD (eV 2))) sNext
def b_fraction_3 : SM4 := sSeq (sRet (eTup (aCons (eOp fdivD (eV 0) (eV 2)) (aCons (eOp fdivD (eV 1) (eV 2)) (aNil))))) sNext
def b_fraction_2 : SM4 := sSeq (sIf (asB (eOp ltD (eV 1) (eC (.int 0)))) (b_fraction_2a) (sNext)) b_fraction_3
def b_fraction_1 : SM4 := sSeq (sSet 2 (eCall 2 m_common (aCons (eV 0) (aCons (eV 1) (aNil))))) b_fraction_2
def b_fraction : SM4 := sSeq (sIf (asB (eOp eqD (eV 1) (eC (.int 0)))) (b_fraction_0a) (sNext)) b_fraction_1
def m_fraction : Fn := mFn true 3 b_fraction

abbrev s_minus : Stmt := topS 9
theorem sc_minus : FnScope ["one", "other"] ["one", "other"] (defScope s_minus) := ⟨rfl, rfl, rfl, by decide +kernel, rfl, by decide +kernel, by decide +kernel⟩
def b_minus : SM4 := sSeq (sRet (eCall 2 m_fraction (aCons (eOp subD (eOp mulD (eOp ixD (eV 0) (eC (.int 0))) (eOp ixD (eV 1) (eC (.int 1)))) (eOp mulD (eOp ixD (eV 1) (eC (.int 0))) (eOp ixD (eV 0) (eC (.int 1))))) (aCons (eOp mulD (eOp ixD (eV 0) (eC (.int 1))) (eOp ixD (eV 1) (eC (.int 1)))) (aNil))))) sNext
def m_minus : Fn := mFn true 2 b_minus

abbrev s_side_of : Stmt := topS 22
theorem sc_side_of : FnScope ["rectangle", "side"] ["rectangle"] (defScope s_side_of) := ⟨rfl, rfl, rfl, by decide +kernel, rfl, by decide +kernel, by decide +kernel⟩
def b_side_of_1a : SM4 := sSeq (sRet (eC .non)) sNext
def b_side_of_2 : SM4 := sSeq (sRet (eV 1)) sNext
def b_side_of_1 : SM4 := sSeq (sIf (tOrM (asB (eOp eqD (eOp ixD (eV 1) (eC (.int 0))) (eC (.int 0)))) (asB (eOp neD (eV 1) (eCall 2 m_minus (aCons (eOp ixD (eV 0) (eC (.int 3))) (aCons (eOp ixD (eV 0) (eC (.int 1))) (aNil))))))) (b_side_of_1a) (sNext)) b_side_of_2
def b_side_of : SM4 := sSeq (sSet 1 (eCall 2 m_minus (aCons (eOp ixD (eV 0) (eC (.int 2))) (aCons (eOp ixD (eV 0) (eC (.int 0))) (aNil))))) b_side_of_1
def m_side_of : Fn := mFn true 2 b_side_of

abbrev s_code_of : Stmt := topS 24
theorem sc_code_of : FnScope ["floor", "seen", "places", "number", "rectangle", "place", "part"] ["floor"] (defScope s_code_of) := ⟨rfl, rfl, rfl, by decide +kernel, rfl, by decide +kernel, by decide +kernel⟩
def b_code_of_1a : SM4 := sSeq (sRaiseF "NoFloor" ["found"] (aCons (eV 1) (aNil))) sNext
def b_code_of_3a_0a : SM4 := sSeq (sRaiseF "NoCode" ["place"] (aCons (eV 3) (aNil))) sNext
def b_code_of_3a_1 : SM4 := sSeq (sDrop (eMt isLst apD (eV 2) (aCons (eTup (aCons (eUn negD (eOp ixD (eOp ixD (eV 4) (eC (.int 3))) (eC (.int 0)))) (aCons (eOp ixD (eOp ixD (eV 4) (eC (.int 0))) (eC (.int 0))) (aCons (eOp ixD (eCall 1 m_side_of (aCons (eV 4) (aNil))) (eC (.int 0))) (aNil))))) (aNil)))) sNext
def b_code_of_3a : SM4 := sSeq (sIf (tOrM (asB (eOp isD (eCall 1 m_side_of (aCons (eV 4) (aNil))) (eC .non))) (tNotM (tTru (eB allB (aCons (eFrz (nComp [6] (iSeq (eV 4)) (gSet 6) (noTest) (eOp eqD (eOp ixD (eV 6) (eC (.int 1))) (eC (.int 1))))) (aNil)))))) (b_code_of_3a_0a) (sNext)) b_code_of_3a_1
def b_code_of_4 : SM4 := sSeq (sRet (eB tupB (aCons (eFrz (nComp [5] (iSeq (eFrz (nB sortB2 (aCons (eV 2) (aNil))))) (gSet 5) (noTest) (eOp ixD (eV 5) (eC (.int 2))))) (aNil)))) sNext
def b_code_of_3 : SM4 := sSeq (sFor (some [3, 4]) (iEnum (aCons (eOp ixD (eV 0) (eC (.int 2))) (aNil))) (gTupM 2 (gsCons (gSet 3) (gsCons (gSet 4) (gsNil)))) (b_code_of_3a)) b_code_of_4
def b_code_of_2 : SM4 := sSeq (sSet 2 (eNew (nLst (aNil)))) b_code_of_3
def b_code_of_1 : SM4 := sSeq (sIf (asB (eOp neD (eV 1) (eTup (aCons (eC (.str "covers")) (aNil))))) (b_code_of_1a) (sNext)) b_code_of_2
def b_code_of : SM4 := sSeq (sSet 1 (eCall 1 m_looked (aCons (eV 0) (aNil)))) b_code_of_1
def m_code_of : Fn := mFn true 7 b_code_of

abbrev s_highest : Stmt := topS 25
theorem sc_highest : FnScope ["border", "found", "number", "piece"] ["border"] (defScope s_highest) := ⟨rfl, rfl, rfl, by decide +kernel, rfl, by decide +kernel, by decide +kernel⟩
def b_highest_1a_0a : SM4 := sSeq (sSet 1 (eV 2)) sNext
def b_highest_1a : SM4 := sSeq (sIf (asB (eOp gtD (eOp ixD (eV 3) (eC (.int 2))) (eOp ixD (eOp ixD (eV 0) (eV 1)) (eC (.int 2))))) (b_highest_1a_0a) (sNext)) sNext
def b_highest_2 : SM4 := sSeq (sRet (eV 1)) sNext
def b_highest_1 : SM4 := sSeq (sFor (some [2, 3]) (iEnum (aCons (eV 0) (aNil))) (gTupM 2 (gsCons (gSet 2) (gsCons (gSet 3) (gsNil)))) (b_highest_1a)) b_highest_2
def b_highest : SM4 := sSeq (sSet 1 (eC (.int 0))) b_highest_1
def m_highest : Fn := mFn true 4 b_highest

abbrev s_joined : Stmt := topS 26
theorem sc_joined : FnScope ["pieces", "border", "piece"] ["pieces"] (defScope s_joined) := ⟨rfl, rfl, rfl, by decide +kernel, rfl, by decide +kernel, by decide +kernel⟩
def b_joined_1a_0a : SM4 := sSeq (sPut (eTup (aCons (eOp ixD (eOp ixD (eV 1) (eUn negD (eC (.int 1)))) (eC (.int 0))) (aCons (eOp ixD (eV 2) (eC (.int 1))) (aCons (eOp ixD (eV 2) (eC (.int 2))) (aNil))))) (eV 1) (eUn negD (eC (.int 1)))) sNext
def b_joined_1a_0b : SM4 := sSeq (sDrop (eMt isLst apD (eV 1) (aCons (eV 2) (aNil)))) sNext
def b_joined_1a : SM4 := sSeq (sIf (tAndM (asB (eOp neD (eV 1) (eFrz (nLst (aNil))))) (asB (eOp eqD (eOp ixD (eOp ixD (eV 1) (eUn negD (eC (.int 1)))) (eC (.int 2))) (eOp ixD (eV 2) (eC (.int 2)))))) (b_joined_1a_0a) (b_joined_1a_0b)) sNext
def b_joined_2 : SM4 := sSeq (sRet (eV 1)) sNext
def b_joined_1 : SM4 := sSeq (sFor (some [2]) (iSeq (eV 0)) (gSet 2) (b_joined_1a)) b_joined_2
def b_joined : SM4 := sSeq (sSet 1 (eNew (nLst (aNil)))) b_joined_1
def m_joined : Fn := mFn true 3 b_joined

abbrev s_hung : Stmt := topS 27
theorem sc_hung : FnScope ["border", "size", "number", "left", "right", "level", "pieces"] ["border", "size"] (defScope s_hung) := ⟨rfl, rfl, rfl, by decide +kernel, rfl, by decide +kernel, by decide +kernel⟩
def b_hung_2a : SM4 := sSeq (sRet (eC .non)) sNext
def b_hung_4a : SM4 := sSeq (sDrop (eMt isLst apD (eV 6) (aCons (eTup (aCons (eOp addD (eV 3) (eV 1)) (aCons (eV 4) (aCons (eV 5) (aNil))))) (aNil)))) sNext
def b_hung_5 : SM4 := sSeq (sRet (eCall 1 m_joined (aCons (eOp addD (eV 6) (eSl (eV 0) (oSome (eOp addD (eV 2) (eC (.int 1)))) (oNo))) (aNil)))) sNext
def b_hung_4 : SM4 := sSeq (sIf (asB (eOp ltD (eOp addD (eV 3) (eV 1)) (eV 4))) (b_hung_4a) (sNext)) b_hung_5
def b_hung_3 : SM4 := sSeq (sSet 6 (eNew (nCat (eSl (eV 0) (oNo) (oSome (eV 2))) (eFrz (nLst (aCons (eTup (aCons (eV 3) (aCons (eOp addD (eV 3) (eV 1)) (aCons (eOp subD (eV 5) (eV 1)) (aNil))))) (aNil))))))) b_hung_4
def b_hung_2 : SM4 := sSeq (sIf (tOrM (asB (eOp ltD (eV 1) (eC (.int 1)))) (tOrM (asB (eOp gtD (eV 1) (eOp subD (eV 4) (eV 3)))) (asB (eOp gtD (eV 1) (eV 5))))) (b_hung_2a) (sNext)) b_hung_3
def b_hung_1 : SM4 := sSeq (sAsg (eOp ixD (eV 0) (eV 2)) (gTupM 3 (gsCons (gSet 3) (gsCons (gSet 4) (gsCons (gSet 5) (gsNil)))))) b_hung_2
def b_hung : SM4 := sSeq (sSet 2 (eCall 1 m_highest (aCons (eV 0) (aNil)))) b_hung_1
def m_hung : Fn := mFn true 7 b_hung

abbrev s_is_full : Stmt := topS 28
theorem sc_is_full : FnScope ["border"] ["border"] (defScope s_is_full) := ⟨rfl, rfl, rfl, by decide +kernel, rfl, by decide +kernel, by decide +kernel⟩
def b_is_full : SM4 := sSeq (sRet (eAnd (eOp eqD (eB lenB (aCons (eV 0) (aNil))) (eC (.int 1))) (eOp eqD (eOp ixD (eOp ixD (eV 0) (eC (.int 0))) (eC (.int 2))) (eC (.int 0))))) sNext
def m_is_full : Fn := mFn true 1 b_is_full

abbrev s_floor_by : Stmt := topS 29
theorem sc_floor_by : FnScope ["width", "height", "sizes", "border", "rectangles", "at", "size", "left", "right", "level"] ["width", "height", "sizes"] (defScope s_floor_by) := ⟨rfl, rfl, rfl, by decide +kernel, rfl, by decide +kernel, by decide +kernel⟩
def b_floor_by_2a_2a : SM4 := sSeq (sRaiseF "NoSize" ["at"] (aCons (eV 5) (aNil))) sNext
def b_floor_by_2a_3 : SM4 := sSeq (sDrop (eMt isLst apD (eV 4) (aCons (eTup (aCons (eTup (aCons (eV 7) (aCons (eC (.int 1)) (aNil)))) (aCons (eTup (aCons (eOp subD (eV 9) (eV 6)) (aCons (eC (.int 1)) (aNil)))) (aCons (eTup (aCons (eOp addD (eV 7) (eV 6)) (aCons (eC (.int 1)) (aNil)))) (aCons (eTup (aCons (eV 9) (aCons (eC (.int 1)) (aNil)))) (aNil)))))) (aNil)))) sNext
def b_floor_by_2a_2 : SM4 := sSeq (sIf (asB (eOp isD (eV 3) (eC .non))) (b_floor_by_2a_2a) (sNext)) b_floor_by_2a_3
def b_floor_by_2a_1 : SM4 := sSeq (sSet 3 (eCall 2 m_hung (aCons (eV 3) (aCons (eV 6) (aNil))))) b_floor_by_2a_2
def b_floor_by_2a : SM4 := sSeq (sAsg (eOp ixD (eV 3) (eCall 1 m_highest (aCons (eV 3) (aNil)))) (gTupM 3 (gsCons (gSet 7) (gsCons (gSet 8) (gsCons (gSet 9) (gsNil)))))) b_floor_by_2a_1
def b_floor_by_3a : SM4 := sSeq (sRaiseF "NoSize" ["at"] (aCons (eB lenB (aCons (eV 2) (aNil))) (aNil))) sNext
def b_floor_by_4 : SM4 := sSeq (sRet (eTup (aCons (eTup (aCons (eV 0) (aCons (eC (.int 1)) (aNil)))) (aCons (eTup (aCons (eV 1) (aCons (eC (.int 1)) (aNil)))) (aCons (eB tupB (aCons (eV 4) (aNil))) (aNil)))))) sNext
def b_floor_by_3 : SM4 := sSeq (sIf (tNotM (tTru (eCall 1 m_is_full (aCons (eV 3) (aNil))))) (b_floor_by_3a) (sNext)) b_floor_by_4
def b_floor_by_2 : SM4 := sSeq (sFor (some [5, 6, 7, 8, 9]) (iEnum (aCons (eV 2) (aNil))) (gTupM 2 (gsCons (gSet 5) (gsCons (gSet 6) (gsNil)))) (b_floor_by_2a)) b_floor_by_3
def b_floor_by_1 : SM4 := sSeq (sSet 4 (eNew (nLst (aNil)))) b_floor_by_2
def b_floor_by : SM4 := sSeq (sSet 3 (eFrz (nLst (aCons (eTup (aCons (eC (.int 0)) (aCons (eV 0) (aCons (eV 1) (aNil))))) (aNil))))) b_floor_by_1
def m_floor_by : Fn := mFn true 10 b_floor_by

abbrev s_law : Stmt := topS 36
theorem sc_law : FnScope ["_law_script", "_law_squares", "_law_wide", "_law_high", "_law_turn", "_law_floor", "_law_sizes", "_law_order", "_law_found", "_law_size", "_law_square"] ["_law_script"] (defScope s_law) := ⟨rfl, rfl, rfl, by decide +kernel, rfl, by decide +kernel, by decide +kernel⟩
def b_law_5a : SM4 := sSeq (sRet (eC (.bl false))) sNext
def b_law_6a : SM4 := sSeq (sRet (eC (.bl false))) sNext
def b_law_8 : SM4 := sSeq (sRet (eAnd (eOp eqD (eV 8) (eCall 3 m_l_whole_floor (aCons (eV 7) (aCons (eV 2) (aCons (eV 3) (aNil)))))) (eOp eqD (eCall 1 m_code_of (aCons (eV 8) (aNil))) (eV 6)))) sNext
def b_law_7 : SM4 := sSeq (sSet 8 (eCall 3 m_floor_by (aCons (eV 2) (aCons (eV 3) (aCons (eV 6) (aNil)))))) b_law_8
def b_law_6 : SM4 := sSeq (sIf (asB (eOp neD (eV 6) (eB tupB (aCons (eFrz (nComp [10] (iSeq (eV 7)) (gSet 10) (noTest) (eOp ixD (eV 10) (eC (.int 2))))) (aNil))))) (b_law_6a) (sNext)) b_law_7
def b_law_5 : SM4 := sSeq (sIf (tOrM (tNotM (tTru (eIsi .tup (eV 6)))) (tTru (eB anyB (aCons (eFrz (nComp [9] (iSeq (eV 6)) (gSet 9) (noTest) (eOr (eNot (eIsi .int (eV 9))) (eIsi .bl (eV 9))))) (aNil))))) (b_law_5a) (sNext)) b_law_6
def b_law_4 : SM4 := sSeq (sSet 7 (eCall 1 m_l_hung (aCons (eV 1) (aNil)))) b_law_5
def b_law_3 : SM4 := sSeq (sSet 6 (eCall 1 m_code_of (aCons (eV 5) (aNil)))) b_law_4
def b_law_2 : SM4 := sSeq (sSet 5 (eCall 3 m_l_whole_floor (aCons (eOp addD (eSl (eV 1) (oSome (eV 4)) (oNo)) (eSl (eV 1) (oNo) (oSome (eV 4)))) (aCons (eV 2) (aCons (eV 3) (aNil)))))) b_law_3
def b_law_1 : SM4 := sSeq (sSet 4 (eOp modD (eCall 2 m_l_cell_at (aCons (eV 0) (aCons (eC (.int 0)) (aNil)))) (eB lenB (aCons (eV 1) (aNil))))) b_law_2
def b_law : SM4 := sSeq (sAsg (eCall 4 m_l_square_floor (aCons (eV 0) (aCons (eC (.int 1)) (aCons (eC (.int 26)) (aCons (eC (.int 14)) (aNil)))))) (gTupM 3 (gsCons (gSet 1) (gsCons (gSet 2) (gsCons (gSet 3) (gsNil)))))) b_law_1
def m_law : Fn := mFn true 11 b_law
abbrev s_i_NoFloor : Stmt := clsS (topS 2) 0
theorem sc_i_NoFloor : FnScope ["self", "found"] ["self", "found"] (defScope s_i_NoFloor) := ⟨rfl, rfl, rfl, by decide +kernel, rfl, by decide +kernel, by decide +kernel⟩
abbrev s_i_NoCode : Stmt := clsS (topS 3) 0
theorem sc_i_NoCode : FnScope ["self", "place"] ["self", "place"] (defScope s_i_NoCode) := ⟨rfl, rfl, rfl, by decide +kernel, rfl, by decide +kernel, by decide +kernel⟩
abbrev s_i_NoSize : Stmt := clsS (topS 4) 0
theorem sc_i_NoSize : FnScope ["self", "at"] ["self", "at"] (defScope s_i_NoSize) := ⟨rfl, rfl, rfl, by decide +kernel, rfl, by decide +kernel, by decide +kernel⟩
structure Facts (K : PySem.W.Frag) (mg : Str → Option Value) : Prop where
  d_l_cell_at : DefAt K mg "_law_cell_at" s_l_cell_at ["_law_script", "_law_k"]
  d_l_place : DefAt K mg "_law_place" s_l_place ["_law_square"]
  d_l_hung : DefAt K mg "_law_hung" s_l_hung ["_law_squares"]
  d_l_square_floor : DefAt K mg "_law_square_floor" s_l_square_floor ["_law_script", "_law_first", "_law_last", "_law_most"]
  d_l_whole_floor : DefAt K mg "_law_whole_floor" s_l_whole_floor ["_law_squares", "_law_wide", "_law_high"]
  d_less : DefAt K mg "less" s_less ["one", "other"]
  d_is_covered : DefAt K mg "is_covered" s_is_covered ["cell", "rectangles"]
  d_rising : DefAt K mg "rising" s_rising ["numbers"]
  d_first_gap : DefAt K mg "first_gap" s_first_gap ["floor"]
  d_overlap : DefAt K mg "overlap" s_overlap ["one", "other"]
  d_first_overlap : DefAt K mg "first_overlap" s_first_overlap ["rectangles"]
  d_is_none : DefAt K mg "is_none" s_is_none ["one"]
  d_is_out : DefAt K mg "is_out" s_is_out ["one", "width", "height"]
  d_looked : DefAt K mg "looked" s_looked ["floor"]
  d_common : DefAt K mg "common" s_common ["one", "other"]
  d_fraction : DefAt K mg "fraction" s_fraction ["top", "bottom"]
  d_minus : DefAt K mg "minus" s_minus ["one", "other"]
  d_side_of : DefAt K mg "side_of" s_side_of ["rectangle"]
  d_code_of : DefAt K mg "code_of" s_code_of ["floor"]
  d_highest : DefAt K mg "highest" s_highest ["border"]
  d_joined : DefAt K mg "joined" s_joined ["pieces"]
  d_hung : DefAt K mg "hung" s_hung ["border", "size"]
  d_is_full : DefAt K mg "is_full" s_is_full ["border"]
  d_floor_by : DefAt K mg "floor_by" s_floor_by ["width", "height", "sizes"]
  d_law : DefAt K mg "law" s_law ["_law_script"]
  n_abs : mg "abs" = none
  n_enumerate : mg "enumerate" = none
  n_range : mg "range" = none
  n_len : mg "len" = none
  n_zip : mg "zip" = none
  n_all : mg "all" = none
  n_tuple : mg "tuple" = none
  n_sorted : mg "sorted" = none
  n_min : mg "min" = none
  n_isinstance : mg "isinstance" = none
  n_any : mg "any" = none
  n_int : mg "int" = none
  n_bool : mg "bool" = none
  c_NOUGHT : ConstD K mg "NOUGHT" k_NOUGHT
  e_NoNumber : ClsAt K mg "NoNumber"
  r_NoFloor : ClsR K mg "NoFloor" "NoFloor.__init__" s_i_NoFloor ["self", "found"] ["found"]
  r_NoCode : ClsR K mg "NoCode" "NoCode.__init__" s_i_NoCode ["self", "place"] ["place"]
  r_NoSize : ClsR K mg "NoSize" "NoSize.__init__" s_i_NoSize ["self", "at"] ["at"]
  b_FloorError : BaseAt K mg "FloorError"
section
variable {P : Program} {w : World} {K : PySem.W.Frag} {mg : Str → Option Value} {base : Heap}
theorem cf_NoFloor (F : Facts K mg) : ClsF P w K mg base (L2.CX P w) "NoFloor" 2 ["found"] := F.r_NoFloor.ok1 sc_i_NoFloor (fun f cdv A outer s H E => pss_cons (ps_expr (pe_base rfl (by rfl) F.b_FloorError (pa_cons (pv 0) (pa_cons pe_str pa_nil)))) (pss_one (ps_ost (pv 0) (pv 1))))
theorem cf_NoCode (F : Facts K mg) : ClsF P w K mg base (L2.CX P w) "NoCode" 2 ["place"] := F.r_NoCode.ok1 sc_i_NoCode (fun f cdv A outer s H E => pss_cons (ps_expr (pe_base rfl (by rfl) F.b_FloorError (pa_cons (pv 0) (pa_cons pe_str pa_nil)))) (pss_one (ps_ost (pv 0) (pv 1))))
theorem cf_NoSize (F : Facts K mg) : ClsF P w K mg base (L2.CX P w) "NoSize" 2 ["at"] := F.r_NoSize.ok1 sc_i_NoSize (fun f cdv A outer s H E => pss_cons (ps_expr (pe_base rfl (by rfl) F.b_FloorError (pa_cons (pv 0) (pa_cons pe_str pa_nil)))) (pss_one (ps_ost (pv 0) (pv 1))))
theorem ok_l_cell_at (F : Facts K mg) : DefOk P w K mg base (L2.CX P w) 1 "_law_cell_at" 2 m_l_cell_at := def_ok F.d_l_cell_at sc_l_cell_at rfl rfl fun f cdv A outer s H E hr =>
  (fb_cons (fs_set sc_l_cell_at.nd rfl (by first | exact .inl rfl | exact .inr rfl) (fe_int)) (fb_cons (fs_if (ft_cmp (opf_lt) (fe_var (pv 1)) (fe_callB bi_len (by rfl) F.n_len (by decide +kernel) (fa_cons (fe_var (pv 0)) (fa_nil))) (by rfl)) (fb_cons (fs_set sc_l_cell_at.nd rfl (by first | exact .inl rfl | exact .inr rfl) (fe_bin opf_mod (fe_ix (hu_of hr) (fe_var (pv 0)) (fe_var (pv 1))) (fe_bin opf_pow (fe_int) (fe_int)))) (fb_nil)) (fb_nil)) (fb_cons (fs_ret (fe_bin opf_mod (fe_bin opf_mul (fe_bin opf_mod (fe_bin opf_add (fe_bin opf_mul (fe_var (pv 2)) (fe_int)) (fe_bin opf_mul (fe_int) (fe_var (pv 1)))) (fe_int)) (fe_int)) (fe_int))) (fb_nil))))
theorem ok_l_place (F : Facts K mg) : DefOk P w K mg base (L2.CX P w) 1 "_law_place" 1 m_l_place := def_ok F.d_l_place sc_l_place rfl rfl fun f cdv A outer s H E hr =>
  (fb_cons (fs_ret (fe_tup (fa_cons (fe_bin opf_sub (fe_neg (fe_ix (hu_of hr) (fe_var (pv 0)) (fe_int))) (fe_ix (hu_of hr) (fe_var (pv 0)) (fe_int))) (fa_cons (fe_ix (hu_of hr) (fe_var (pv 0)) (fe_int)) (fa_nil))))) (fb_nil))
theorem ok_l_hung (F : Facts K mg) : DefOk P w K mg base (L2.CX P w) 4 "_law_hung" 1 m_l_hung := def_ok F.d_l_hung sc_l_hung rfl rfl fun f cdv A outer s H E hr =>
  (fb_cons (fs_ret (fe_frz (fn_sortKey (ok_l_place F) (hr.mono (by first | decide | omega)) (by rfl) F.n_sorted (by decide +kernel) (by rfl) (fa_cons (fe_var (pv 0)) (fa_nil))))) (fb_nil))
theorem ok_l_square_floor (F : Facts K mg) : DefOk P w K mg base (L2.CX P w) 2 "_law_square_floor" 4 m_l_square_floor := def_ok F.d_l_square_floor sc_l_square_floor rfl rfl fun f cdv A outer s H E hr =>
  (fb_cons (fs_set sc_l_square_floor.nd rfl (by first | exact .inl rfl | exact .inr rfl) (fe_bin opf_add (fe_int) (fe_bin opf_mod (fe_call (DefOk.mono (ok_l_cell_at F) (by first | decide | omega)) hr (by rfl) hxD (fa_cons (fe_var (pv 0)) (fa_cons (fe_var (pv 1)) (fa_nil)))) (fe_int)))) (fb_cons (fs_set sc_l_square_floor.nd rfl (by first | exact .inl rfl | exact .inr rfl) (fe_new (fn_lst (fa_cons (fe_tup (fa_cons (fe_int) (fa_cons (fe_int) (fa_cons (fe_var (pv 4)) (fa_nil))))) (fa_nil))))) (fb_cons (fs_set sc_l_square_floor.nd rfl (by first | exact .inl rfl | exact .inr rfl) (fe_var (pv 4))) (fb_cons (fs_set sc_l_square_floor.nd rfl (by first | exact .inl rfl | exact .inr rfl) (fe_var (pv 4))) (fb_cons (fs_for hpD rfl (fi_range2 (by rfl) F.n_range (fa_cons (fe_bin opf_add (fe_var (pv 1)) (fe_int)) (fa_cons (fe_callB (bi_minC rfl) (by rfl) F.n_min (by decide +kernel) (fa_cons (fe_callB bi_len (by rfl) F.n_len (by decide +kernel) (fa_cons (fe_var (pv 0)) (fa_nil))) (fa_cons (fe_var (pv 2)) (fa_nil)))) (fa_nil)))) (fg_name sc_l_square_floor.nd rfl (by first | exact .inl rfl | exact .inr rfl)) (fb_cons (fs_set sc_l_square_floor.nd rfl (by first | exact .inl rfl | exact .inr rfl) (fe_call (DefOk.mono (ok_l_cell_at F) (by first | decide | omega)) hr (by rfl) hxD (fa_cons (fe_var (pv 0)) (fa_cons (fe_var (pv 8)) (fa_nil))))) (fb_cons (fs_set sc_l_square_floor.nd rfl (by first | exact .inl rfl | exact .inr rfl) (fe_bin opf_mod (fe_bin opf_fdiv (fe_var (pv 9)) (fe_int)) (fe_callB bi_len (by rfl) F.n_len (by decide +kernel) (fa_cons (fe_var (pv 5)) (fa_nil))))) (fb_cons (fs_asg (fe_ix (hu_of hr) (fe_var (pv 5)) (fe_var (pv 10))) (fg_tup rfl (fgs_cons (fg_name sc_l_square_floor.nd rfl (by first | exact .inl rfl | exact .inr rfl)) (fgs_cons (fg_name sc_l_square_floor.nd rfl (by first | exact .inl rfl | exact .inr rfl)) (fgs_cons (fg_name sc_l_square_floor.nd rfl (by first | exact .inl rfl | exact .inr rfl)) (fgs_nil)))))) (fb_cons (fs_if (fw_pt (fw_and (ft_cmp (opf_eq hr.units) (fe_bin opf_mod (fe_var (pv 9)) (fe_int)) (fe_int) (by rfl)) (fw_and1 (ft_cmp (opf_lt) (fe_callB bi_len (by rfl) F.n_len (by decide +kernel) (fa_cons (fe_var (pv 5)) (fa_nil))) (fe_var (pv 3)) (by rfl))))) (fb_cons (fs_expr (fe_meth (me_append) PySem.F.plainAttrs_list PySem.F.slot_list_append PySem.F.type_list_append (fe_var (pv 5)) (fa_cons (fe_tup (fa_cons (fe_var (pv 6)) (fa_cons (fe_int) (fa_cons (fe_var (pv 7)) (fa_nil))))) (fa_nil)))) (fb_cons (fs_set sc_l_square_floor.nd rfl (by first | exact .inl rfl | exact .inr rfl) (fe_bin opf_add (fe_var (pv 6)) (fe_var (pv 7)))) (fb_nil))) (fb_cons (fs_if (fw_pt (fw_and (ft_cmp (opf_eq hr.units) (fe_bin opf_mod (fe_var (pv 9)) (fe_int)) (fe_int) (by rfl)) (fw_and1 (ft_cmp (opf_lt) (fe_callB bi_len (by rfl) F.n_len (by decide +kernel) (fa_cons (fe_var (pv 5)) (fa_nil))) (fe_var (pv 3)) (by rfl))))) (fb_cons (fs_expr (fe_meth (me_append) PySem.F.plainAttrs_list PySem.F.slot_list_append PySem.F.type_list_append (fe_var (pv 5)) (fa_cons (fe_tup (fa_cons (fe_int) (fa_cons (fe_var (pv 7)) (fa_cons (fe_var (pv 6)) (fa_nil))))) (fa_nil)))) (fb_cons (fs_set sc_l_square_floor.nd rfl (by first | exact .inl rfl | exact .inr rfl) (fe_bin opf_add (fe_var (pv 7)) (fe_var (pv 6)))) (fb_nil))) (fb_cons (fs_if (fw_pt (fw_and (ft_cmp (opf_le) (fe_bin opf_add (fe_callB bi_len (by rfl) F.n_len (by decide +kernel) (fa_cons (fe_var (pv 5)) (fa_nil))) (fe_int)) (fe_var (pv 3)) (by rfl)) (fw_and1 (ft_cmp (opf_eq hr.units) (fe_bin opf_mod (fe_var (pv 13)) (fe_int)) (fe_int) (by rfl))))) (fb_cons (fs_set sc_l_square_floor.nd rfl (by first | exact .inl rfl | exact .inr rfl) (fe_bin opf_fdiv (fe_var (pv 13)) (fe_int))) (fb_cons (sub_asg (hu_of hr) (fe_tup (fa_cons (fe_var (pv 11)) (fa_cons (fe_var (pv 12)) (fa_cons (fe_var (pv 14)) (fa_nil))))) (fe_var (pv 5)) (fe_var (pv 10))) (fb_cons (fs_expr (fe_meth (me_extend) PySem.F.plainAttrs_list PySem.F.slot_list_extend PySem.F.type_list_extend (fe_var (pv 5)) (fa_cons (fe_frz (fn_lst (fa_cons (fe_tup (fa_cons (fe_bin opf_add (fe_var (pv 11)) (fe_var (pv 14))) (fa_cons (fe_var (pv 12)) (fa_cons (fe_var (pv 14)) (fa_nil))))) (fa_cons (fe_tup (fa_cons (fe_var (pv 11)) (fa_cons (fe_bin opf_add (fe_var (pv 12)) (fe_var (pv 14))) (fa_cons (fe_var (pv 14)) (fa_nil))))) (fa_cons (fe_tup (fa_cons (fe_bin opf_add (fe_var (pv 11)) (fe_var (pv 14))) (fa_cons (fe_bin opf_add (fe_var (pv 12)) (fe_var (pv 14))) (fa_cons (fe_var (pv 14)) (fa_nil))))) (fa_nil)))))) (fa_nil)))) (fb_nil)))) (fb_nil)) (fb_nil))) (fb_nil))) (fb_nil)))))) (fb_cons (fs_ret (fe_tup (fa_cons (fe_var (pv 5)) (fa_cons (fe_var (pv 6)) (fa_cons (fe_var (pv 7)) (fa_nil)))))) (fb_nil)))))))
theorem ok_l_whole_floor (F : Facts K mg) : DefOk P w K mg base (L2.CX P w) 1 "_law_whole_floor" 3 m_l_whole_floor := def_ok F.d_l_whole_floor sc_l_whole_floor rfl rfl fun f cdv A outer s H E hr =>
  (fb_cons (fs_setComp rfl sc_l_whole_floor.nd rfl rfl (sw_true rfl rfl (by rfl) (by decide +kernel)) (fi_seq (fe_var (pv 0))) (blk_in (N := ["_law_squares", "_law_wide", "_law_high", "_law_rectangles", "_law_a", "_law_b", "_law_side"]) (sc := defScope s_l_whole_floor) (own := [("_law_a", 4), ("_law_b", 5), ("_law_side", 6)]) rfl rfl (by decide +kernel)) (fun _ _ _ _ _ => fg_tup rfl (fgs_cons (fg_name sc_l_whole_floor.nd rfl (by first | exact .inl rfl | exact .inr rfl)) (fgs_cons (fg_name sc_l_whole_floor.nd rfl (by first | exact .inl rfl | exact .inr rfl)) (fgs_cons (fg_name sc_l_whole_floor.nd rfl (by first | exact .inl rfl | exact .inr rfl)) (fgs_nil))))) (by decide) (fun _ _ _ _ _ => fts_nil) (fun _ _ _ _ _ => fe_tup (fa_cons (fe_tup (fa_cons (fe_var (pv 4)) (fa_cons (fe_int) (fa_nil)))) (fa_cons (fe_tup (fa_cons (fe_var (pv 5)) (fa_cons (fe_int) (fa_nil)))) (fa_cons (fe_tup (fa_cons (fe_bin opf_add (fe_var (pv 4)) (fe_var (pv 6))) (fa_cons (fe_int) (fa_nil)))) (fa_cons (fe_tup (fa_cons (fe_bin opf_add (fe_var (pv 5)) (fe_var (pv 6))) (fa_cons (fe_int) (fa_nil)))) (fa_nil))))))) (fb_cons (fs_ret (fe_tup (fa_cons (fe_tup (fa_cons (fe_var (pv 1)) (fa_cons (fe_int) (fa_nil)))) (fa_cons (fe_tup (fa_cons (fe_var (pv 2)) (fa_cons (fe_int) (fa_nil)))) (fa_cons (fe_callT bi_tuple (by rfl) F.n_tuple (by decide +kernel) (fa_cons (fe_var (pv 3)) (fa_nil))) (fa_nil)))))) (fb_nil)))
theorem ok_less (F : Facts K mg) : DefOk P w K mg base (L2.CX P w) 1 "less" 2 m_less := def_ok F.d_less sc_less rfl rfl fun f cdv A outer s H E hr =>
  (fb_cons (fs_ret (fe_cmp (opf_lt) (fe_bin opf_mul (fe_ix (hu_of hr) (fe_var (pv 0)) (fe_int)) (fe_ix (hu_of hr) (fe_var (pv 1)) (fe_int))) (fe_bin opf_mul (fe_ix (hu_of hr) (fe_var (pv 1)) (fe_int)) (fe_ix (hu_of hr) (fe_var (pv 0)) (fe_int))) (by rfl))) (fb_nil))
theorem ok_is_covered (F : Facts K mg) : DefOk P w K mg base (L2.CX P w) 2 "is_covered" 2 m_is_covered := def_ok F.d_is_covered sc_is_covered rfl rfl fun f cdv A outer s H E hr =>
  (fb_cons (fs_for hpD rfl (fi_seq (fe_var (pv 1))) (fg_name sc_is_covered.nd rfl (by first | exact .inl rfl | exact .inr rfl)) (fb_cons (fs_if (fw_pt (fw_and (ft_not (ft_truth (fe_call (DefOk.mono (ok_less F) (by first | decide | omega)) hr (by rfl) hxD (fa_cons (fe_ix (hu_of hr) (fe_var (pv 0)) (fe_int)) (fa_cons (fe_ix (hu_of hr) (fe_var (pv 2)) (fe_int)) (fa_nil)))))) (fw_and1 (ft_not (ft_truth (fe_call (DefOk.mono (ok_less F) (by first | decide | omega)) hr (by rfl) hxD (fa_cons (fe_ix (hu_of hr) (fe_var (pv 0)) (fe_int)) (fa_cons (fe_ix (hu_of hr) (fe_var (pv 2)) (fe_int)) (fa_nil))))))))) (fb_cons (fs_if (fw_pt (fw_and (ft_not (ft_truth (fe_call (DefOk.mono (ok_less F) (by first | decide | omega)) hr (by rfl) hxD (fa_cons (fe_ix (hu_of hr) (fe_var (pv 2)) (fe_int)) (fa_cons (fe_ix (hu_of hr) (fe_var (pv 0)) (fe_int)) (fa_nil)))))) (fw_and1 (ft_not (ft_truth (fe_call (DefOk.mono (ok_less F) (by first | decide | omega)) hr (by rfl) hxD (fa_cons (fe_ix (hu_of hr) (fe_var (pv 2)) (fe_int)) (fa_cons (fe_ix (hu_of hr) (fe_var (pv 0)) (fe_int)) (fa_nil))))))))) (fb_cons (fs_ret (fe_bl)) (fb_nil)) (fb_nil)) (fb_nil)) (fb_nil)) (fb_nil))) (fb_cons (fs_ret (fe_bl)) (fb_nil)))
theorem ok_rising (F : Facts K mg) : DefOk P w K mg base (L2.CX P w) 2 "rising" 1 m_rising := def_ok F.d_rising sc_rising rfl rfl fun f cdv A outer s H E hr =>
  (fb_cons (fs_set sc_rising.nd rfl (by first | exact .inl rfl | exact .inr rfl) (fe_new (fn_lst (fa_nil)))) (fb_cons (fs_for hpD rfl (fi_seq (fe_var (pv 0))) (fg_name sc_rising.nd rfl (by first | exact .inl rfl | exact .inr rfl)) (fb_cons (fs_set sc_rising.nd rfl (by first | exact .inl rfl | exact .inr rfl) (fe_int)) (fb_cons (fs_while hpD (fw_pt (fw_and (ft_cmp (opf_lt) (fe_var (pv 3)) (fe_callB bi_len (by rfl) F.n_len (by decide +kernel) (fa_cons (fe_var (pv 1)) (fa_nil))) (by rfl)) (fw_and1 (ft_truth (fe_call (DefOk.mono (ok_less F) (by first | decide | omega)) hr (by rfl) hxD (fa_cons (fe_ix (hu_of hr) (fe_var (pv 1)) (fe_var (pv 3))) (fa_cons (fe_var (pv 2)) (fa_nil)))))))) (fb_cons (fs_set sc_rising.nd rfl (by first | exact .inl rfl | exact .inr rfl) (fe_bin opf_add (fe_var (pv 3)) (fe_int))) (fb_nil))) (fb_cons (fs_if (fw_pt (fw_or (ft_cmp (opf_eq hr.units) (fe_var (pv 3)) (fe_callB bi_len (by rfl) F.n_len (by decide +kernel) (fa_cons (fe_var (pv 1)) (fa_nil))) (by rfl)) (fw_or1 (ft_cmp (opf_ne hr.units) (fe_ix (hu_of hr) (fe_var (pv 1)) (fe_var (pv 3))) (fe_var (pv 2)) (by rfl))))) (fb_cons (fs_expr (fe_meth (me_insert) PySem.F.plainAttrs_list PySem.F.slot_list_insert PySem.F.type_list_insert (fe_var (pv 1)) (fa_cons (fe_var (pv 3)) (fa_cons (fe_var (pv 2)) (fa_nil))))) (fb_nil)) (fb_nil)) (fb_nil))))) (fb_cons (fs_ret (fe_var (pv 1))) (fb_nil))))
theorem ok_first_gap (F : Facts K mg) : DefOk P w K mg base (L2.CX P w) 3 "first_gap" 1 m_first_gap := def_ok F.d_first_gap sc_first_gap rfl rfl fun f cdv A outer s H E hr =>
  (fb_cons (fs_asg (fe_var (pv 0)) (fg_tup rfl (fgs_cons (fg_name sc_first_gap.nd rfl (by first | exact .inl rfl | exact .inr rfl)) (fgs_cons (fg_name sc_first_gap.nd rfl (by first | exact .inl rfl | exact .inr rfl)) (fgs_cons (fg_name sc_first_gap.nd rfl (by first | exact .inl rfl | exact .inr rfl)) (fgs_nil)))))) (fb_cons (fs_set sc_first_gap.nd rfl (by first | exact .inl rfl | exact .inr rfl) (fe_call (DefOk.mono (ok_rising F) (by first | decide | omega)) hr (by rfl) hxD (fa_cons (fe_bin opf_add (fe_bin opf_add (fe_frz (fn_lst (fa_cons (fe_glob (by rfl) F.c_NOUGHT) (fa_cons (fe_var (pv 1)) (fa_nil))))) (fe_frz (fn_comp rfl sc_first_gap.nd (fi_seq (fe_var (pv 3))) (blk_in (N := ["floor", "width", "height", "rectangles", "across", "upward", "low", "high", "left", "right", "one"]) (sc := defScope s_first_gap) (own := [("one", 10)]) rfl rfl (by decide +kernel)) (fun _ _ _ _ _ => fg_name sc_first_gap.nd rfl (by first | exact .inl rfl | exact .inr rfl)) (by decide) (fun _ _ _ _ _ => fts_nil) (fun _ _ _ _ _ => fe_ix (hu_of hr) (fe_var (pv 10)) (fe_int))))) (fe_frz (fn_comp rfl sc_first_gap.nd (fi_seq (fe_var (pv 3))) (blk_in (N := ["floor", "width", "height", "rectangles", "across", "upward", "low", "high", "left", "right", "one"]) (sc := defScope s_first_gap) (own := [("one", 10)]) rfl rfl (by decide +kernel)) (fun _ _ _ _ _ => fg_name sc_first_gap.nd rfl (by first | exact .inl rfl | exact .inr rfl)) (by decide) (fun _ _ _ _ _ => fts_nil) (fun _ _ _ _ _ => fe_ix (hu_of hr) (fe_var (pv 10)) (fe_int))))) (fa_nil)))) (fb_cons (fs_set sc_first_gap.nd rfl (by first | exact .inl rfl | exact .inr rfl) (fe_call (DefOk.mono (ok_rising F) (by first | decide | omega)) hr (by rfl) hxD (fa_cons (fe_bin opf_add (fe_bin opf_add (fe_frz (fn_lst (fa_cons (fe_glob (by rfl) F.c_NOUGHT) (fa_cons (fe_var (pv 2)) (fa_nil))))) (fe_frz (fn_comp rfl sc_first_gap.nd (fi_seq (fe_var (pv 3))) (blk_in (N := ["floor", "width", "height", "rectangles", "across", "upward", "low", "high", "left", "right", "one"]) (sc := defScope s_first_gap) (own := [("one", 10)]) rfl rfl (by decide +kernel)) (fun _ _ _ _ _ => fg_name sc_first_gap.nd rfl (by first | exact .inl rfl | exact .inr rfl)) (by decide) (fun _ _ _ _ _ => fts_nil) (fun _ _ _ _ _ => fe_ix (hu_of hr) (fe_var (pv 10)) (fe_int))))) (fe_frz (fn_comp rfl sc_first_gap.nd (fi_seq (fe_var (pv 3))) (blk_in (N := ["floor", "width", "height", "rectangles", "across", "upward", "low", "high", "left", "right", "one"]) (sc := defScope s_first_gap) (own := [("one", 10)]) rfl rfl (by decide +kernel)) (fun _ _ _ _ _ => fg_name sc_first_gap.nd rfl (by first | exact .inl rfl | exact .inr rfl)) (by decide) (fun _ _ _ _ _ => fts_nil) (fun _ _ _ _ _ => fe_ix (hu_of hr) (fe_var (pv 10)) (fe_int))))) (fa_nil)))) (fb_cons (fs_for hpD rfl (fi_zip (by rfl) F.n_zip (fa_cons (fe_var (pv 5)) (fa_cons (fe_slice (fe_var (pv 5)) (fo_some (fe_int)) (fo_none)) (fa_nil)))) (fg_tup rfl (fgs_cons (fg_name sc_first_gap.nd rfl (by first | exact .inl rfl | exact .inr rfl)) (fgs_cons (fg_name sc_first_gap.nd rfl (by first | exact .inl rfl | exact .inr rfl)) (fgs_nil)))) (fb_cons (fs_for hpD rfl (fi_zip (by rfl) F.n_zip (fa_cons (fe_var (pv 4)) (fa_cons (fe_slice (fe_var (pv 4)) (fo_some (fe_int)) (fo_none)) (fa_nil)))) (fg_tup rfl (fgs_cons (fg_name sc_first_gap.nd rfl (by first | exact .inl rfl | exact .inr rfl)) (fgs_cons (fg_name sc_first_gap.nd rfl (by first | exact .inl rfl | exact .inr rfl)) (fgs_nil)))) (fb_cons (fs_if (ft_not (ft_truth (fe_call (DefOk.mono (ok_is_covered F) (by first | decide | omega)) hr (by rfl) hxD (fa_cons (fe_tup (fa_cons (fe_var (pv 8)) (fa_cons (fe_var (pv 6)) (fa_cons (fe_var (pv 9)) (fa_cons (fe_var (pv 7)) (fa_nil)))))) (fa_cons (fe_var (pv 3)) (fa_nil)))))) (fb_cons (fs_ret (fe_tup (fa_cons (fe_str) (fa_cons (fe_var (pv 8)) (fa_cons (fe_var (pv 6)) (fa_cons (fe_var (pv 9)) (fa_cons (fe_var (pv 7)) (fa_nil)))))))) (fb_nil)) (fb_nil)) (fb_nil))) (fb_nil))) (fb_cons (fs_ret (fe_non)) (fb_nil))))))
theorem ok_overlap (F : Facts K mg) : DefOk P w K mg base (L2.CX P w) 2 "overlap" 2 m_overlap := def_ok F.d_overlap sc_overlap rfl rfl fun f cdv A outer s H E hr =>
  (fb_cons (fs_if (fw_pt (fw_or (ft_cmp (opf_eq hr.units) (fe_ix (hu_of hr) (fe_var (pv 0)) (fe_int)) (fe_ix (hu_of hr) (fe_var (pv 0)) (fe_int)) (by rfl)) (fw_or1 (ft_cmp (opf_eq hr.units) (fe_ix (hu_of hr) (fe_var (pv 1)) (fe_int)) (fe_ix (hu_of hr) (fe_var (pv 1)) (fe_int)) (by rfl))))) (fb_cons (fs_ret (fe_bl)) (fb_nil)) (fb_nil)) (fb_cons (fs_if (fw_pt (fw_or (ft_not (ft_truth (fe_call (DefOk.mono (ok_less F) (by first | decide | omega)) hr (by rfl) hxD (fa_cons (fe_ix (hu_of hr) (fe_var (pv 0)) (fe_int)) (fa_cons (fe_ix (hu_of hr) (fe_var (pv 1)) (fe_int)) (fa_nil)))))) (fw_or1 (ft_not (ft_truth (fe_call (DefOk.mono (ok_less F) (by first | decide | omega)) hr (by rfl) hxD (fa_cons (fe_ix (hu_of hr) (fe_var (pv 1)) (fe_int)) (fa_cons (fe_ix (hu_of hr) (fe_var (pv 0)) (fe_int)) (fa_nil))))))))) (fb_cons (fs_ret (fe_bl)) (fb_nil)) (fb_nil)) (fb_cons (fs_ret (fe_and (fe_call (DefOk.mono (ok_less F) (by first | decide | omega)) hr (by rfl) hxD (fa_cons (fe_ix (hu_of hr) (fe_var (pv 0)) (fe_int)) (fa_cons (fe_ix (hu_of hr) (fe_var (pv 1)) (fe_int)) (fa_nil)))) (fe_one (fe_call (DefOk.mono (ok_less F) (by first | decide | omega)) hr (by rfl) hxD (fa_cons (fe_ix (hu_of hr) (fe_var (pv 1)) (fe_int)) (fa_cons (fe_ix (hu_of hr) (fe_var (pv 0)) (fe_int)) (fa_nil))))))) (fb_nil))))
theorem ok_first_overlap (F : Facts K mg) : DefOk P w K mg base (L2.CX P w) 3 "first_overlap" 1 m_first_overlap := def_ok F.d_first_overlap sc_first_overlap rfl rfl fun f cdv A outer s H E hr =>
  (fb_cons (fs_for hpD rfl (fi_enum (by rfl) F.n_enumerate (fa_cons (fe_var (pv 0)) (fa_nil))) (fg_tup rfl (fgs_cons (fg_name sc_first_overlap.nd rfl (by first | exact .inl rfl | exact .inr rfl)) (fgs_cons (fg_name sc_first_overlap.nd rfl (by first | exact .inl rfl | exact .inr rfl)) (fgs_nil)))) (fb_cons (fs_for hpD rfl (fi_range2 (by rfl) F.n_range (fa_cons (fe_bin opf_add (fe_var (pv 1)) (fe_int)) (fa_cons (fe_callB bi_len (by rfl) F.n_len (by decide +kernel) (fa_cons (fe_var (pv 0)) (fa_nil))) (fa_nil)))) (fg_name sc_first_overlap.nd rfl (by first | exact .inl rfl | exact .inr rfl)) (fb_cons (fs_if (ft_truth (fe_call (DefOk.mono (ok_overlap F) (by first | decide | omega)) hr (by rfl) hxD (fa_cons (fe_var (pv 2)) (fa_cons (fe_ix (hu_of hr) (fe_var (pv 0)) (fe_var (pv 3))) (fa_nil))))) (fb_cons (fs_ret (fe_tup (fa_cons (fe_str) (fa_cons (fe_var (pv 1)) (fa_cons (fe_var (pv 3)) (fa_nil)))))) (fb_nil)) (fb_nil)) (fb_nil))) (fb_nil))) (fb_cons (fs_ret (fe_non)) (fb_nil)))
theorem ok_is_none (F : Facts K mg) : DefOk P w K mg base (L2.CX P w) 2 "is_none" 1 m_is_none := def_ok F.d_is_none sc_is_none rfl rfl fun f cdv A outer s H E hr =>
  (fb_cons (fs_asg (fe_var (pv 0)) (fg_tup rfl (fgs_cons (fg_name sc_is_none.nd rfl (by first | exact .inl rfl | exact .inr rfl)) (fgs_cons (fg_name sc_is_none.nd rfl (by first | exact .inl rfl | exact .inr rfl)) (fgs_cons (fg_name sc_is_none.nd rfl (by first | exact .inl rfl | exact .inr rfl)) (fgs_cons (fg_name sc_is_none.nd rfl (by first | exact .inl rfl | exact .inr rfl)) (fgs_nil))))))) (fb_cons (fs_if (fw_pt (fw_or (ft_truth (fe_call (DefOk.mono (ok_less F) (by first | decide | omega)) hr (by rfl) hxD (fa_cons (fe_var (pv 3)) (fa_cons (fe_var (pv 1)) (fa_nil))))) (fw_or1 (ft_truth (fe_call (DefOk.mono (ok_less F) (by first | decide | omega)) hr (by rfl) hxD (fa_cons (fe_var (pv 4)) (fa_cons (fe_var (pv 2)) (fa_nil)))))))) (fb_cons (fs_ret (fe_bl)) (fb_nil)) (fb_nil)) (fb_cons (fs_ret (fe_cmp (opf_ne hr.units) (fe_cmp (opf_eq hr.units) (fe_var (pv 1)) (fe_var (pv 3)) (by rfl)) (fe_cmp (opf_eq hr.units) (fe_var (pv 2)) (fe_var (pv 4)) (by rfl)) (by rfl))) (fb_nil))))
theorem ok_is_out (F : Facts K mg) : DefOk P w K mg base (L2.CX P w) 2 "is_out" 3 m_is_out := def_ok F.d_is_out sc_is_out rfl rfl fun f cdv A outer s H E hr =>
  (fb_cons (fs_asg (fe_var (pv 0)) (fg_tup rfl (fgs_cons (fg_name sc_is_out.nd rfl (by first | exact .inl rfl | exact .inr rfl)) (fgs_cons (fg_name sc_is_out.nd rfl (by first | exact .inl rfl | exact .inr rfl)) (fgs_cons (fg_name sc_is_out.nd rfl (by first | exact .inl rfl | exact .inr rfl)) (fgs_cons (fg_name sc_is_out.nd rfl (by first | exact .inl rfl | exact .inr rfl)) (fgs_nil))))))) (fb_cons (fs_ret (fe_or (fe_call (DefOk.mono (ok_less F) (by first | decide | omega)) hr (by rfl) hxD (fa_cons (fe_var (pv 3)) (fa_cons (fe_glob (by rfl) F.c_NOUGHT) (fa_nil)))) (fe_or (fe_call (DefOk.mono (ok_less F) (by first | decide | omega)) hr (by rfl) hxD (fa_cons (fe_var (pv 4)) (fa_cons (fe_glob (by rfl) F.c_NOUGHT) (fa_nil)))) (fe_or (fe_call (DefOk.mono (ok_less F) (by first | decide | omega)) hr (by rfl) hxD (fa_cons (fe_var (pv 1)) (fa_cons (fe_var (pv 5)) (fa_nil)))) (fe_one (fe_call (DefOk.mono (ok_less F) (by first | decide | omega)) hr (by rfl) hxD (fa_cons (fe_var (pv 2)) (fa_cons (fe_var (pv 6)) (fa_nil))))))))) (fb_nil)))
theorem ok_looked (F : Facts K mg) : DefOk P w K mg base (L2.CX P w) 4 "looked" 1 m_looked := def_ok F.d_looked sc_looked rfl rfl fun f cdv A outer s H E hr =>
  (fb_cons (fs_asg (fe_var (pv 0)) (fg_tup rfl (fgs_cons (fg_name sc_looked.nd rfl (by first | exact .inl rfl | exact .inr rfl)) (fgs_cons (fg_name sc_looked.nd rfl (by first | exact .inl rfl | exact .inr rfl)) (fgs_cons (fg_name sc_looked.nd rfl (by first | exact .inl rfl | exact .inr rfl)) (fgs_nil)))))) (fb_cons (fs_for hpD rfl (fi_enum (by rfl) F.n_enumerate (fa_cons (fe_var (pv 3)) (fa_nil))) (fg_tup rfl (fgs_cons (fg_name sc_looked.nd rfl (by first | exact .inl rfl | exact .inr rfl)) (fgs_cons (fg_name sc_looked.nd rfl (by first | exact .inl rfl | exact .inr rfl)) (fgs_nil)))) (fb_cons (fs_if (ft_truth (fe_call (DefOk.mono (ok_is_none F) (by first | decide | omega)) hr (by rfl) hxD (fa_cons (fe_var (pv 5)) (fa_nil)))) (fb_cons (fs_ret (fe_tup (fa_cons (fe_str) (fa_cons (fe_var (pv 4)) (fa_nil))))) (fb_nil)) (fb_nil)) (fb_nil))) (fb_cons (fs_for hpD rfl (fi_enum (by rfl) F.n_enumerate (fa_cons (fe_var (pv 3)) (fa_nil))) (fg_tup rfl (fgs_cons (fg_name sc_looked.nd rfl (by first | exact .inl rfl | exact .inr rfl)) (fgs_cons (fg_name sc_looked.nd rfl (by first | exact .inl rfl | exact .inr rfl)) (fgs_nil)))) (fb_cons (fs_if (ft_truth (fe_call (DefOk.mono (ok_is_out F) (by first | decide | omega)) hr (by rfl) hxD (fa_cons (fe_var (pv 5)) (fa_cons (fe_var (pv 1)) (fa_cons (fe_var (pv 2)) (fa_nil)))))) (fb_cons (fs_ret (fe_tup (fa_cons (fe_str) (fa_cons (fe_var (pv 4)) (fa_nil))))) (fb_nil)) (fb_nil)) (fb_nil))) (fb_cons (fs_set sc_looked.nd rfl (by first | exact .inl rfl | exact .inr rfl) (fe_call (DefOk.mono (ok_first_overlap F) (by first | decide | omega)) hr (by rfl) hxD (fa_cons (fe_var (pv 3)) (fa_nil)))) (fb_cons (fs_if (ft_cmp (opf_is) (fe_var (pv 6)) (fe_non) (by rfl)) (fb_cons (fs_set sc_looked.nd rfl (by first | exact .inl rfl | exact .inr rfl) (fe_call (DefOk.mono (ok_first_gap F) (by first | decide | omega)) hr (by rfl) hxD (fa_cons (fe_var (pv 0)) (fa_nil)))) (fb_nil)) (fb_nil)) (fb_cons (fs_if (ft_cmp (opf_is) (fe_var (pv 6)) (fe_non) (by rfl)) (fb_cons (fs_ret (fe_tup (fa_cons (fe_str) (fa_nil)))) (fb_nil)) (fb_nil)) (fb_cons (fs_ret (fe_var (pv 6))) (fb_nil))))))))
theorem ok_common (F : Facts K mg) : DefOk P w K mg base (L2.CX P w) 1 "common" 2 m_common := def_ok F.d_common sc_common rfl rfl fun f cdv A outer s H E hr =>
  (fb_cons (fs_set sc_common.nd rfl (by first | exact .inl rfl | exact .inr rfl) (fe_callB bi_abs (by rfl) F.n_abs (by decide +kernel) (fa_cons (fe_var (pv 0)) (fa_nil)))) (fb_cons (fs_set sc_common.nd rfl (by first | exact .inl rfl | exact .inr rfl) (fe_callB bi_abs (by rfl) F.n_abs (by decide +kernel) (fa_cons (fe_var (pv 1)) (fa_nil)))) (fb_cons (fs_while hpD (ft_cmp (opf_gt) (fe_var (pv 3)) (fe_int) (by rfl)) (fb_cons (fs_set sc_common.nd rfl (by first | exact .inl rfl | exact .inr rfl) (fe_bin opf_mod (fe_var (pv 2)) (fe_var (pv 3)))) (fb_cons (fs_set sc_common.nd rfl (by first | exact .inl rfl | exact .inr rfl) (fe_var (pv 3))) (fb_cons (fs_set sc_common.nd rfl (by first | exact .inl rfl | exact .inr rfl) (fe_var (pv 4))) (fb_nil))))) (fb_cons (fs_ret (fe_var (pv 2))) (fb_nil)))))
theorem ok_fraction (F : Facts K mg) : DefOk P w K mg base (L2.CX P w) 2 "fraction" 2 m_fraction := def_ok F.d_fraction sc_fraction rfl rfl fun f cdv A outer s H E hr =>
  (fb_cons (fs_if (ft_cmp (opf_eq hr.units) (fe_var (pv 1)) (fe_int) (by rfl)) (fb_cons (fs_raise rfl rfl tkD F.e_NoNumber (by rfl)) (fb_nil)) (fb_nil)) (fb_cons (fs_set sc_fraction.nd rfl (by first | exact .inl rfl | exact .inr rfl) (fe_call (DefOk.mono (ok_common F) (by first | decide | omega)) hr (by rfl) hxD (fa_cons (fe_var (pv 0)) (fa_cons (fe_var (pv 1)) (fa_nil))))) (fb_cons (fs_if (ft_cmp (opf_lt) (fe_var (pv 1)) (fe_int) (by rfl)) (fb_cons (fs_set sc_fraction.nd rfl (by first | exact .inl rfl | exact .inr rfl) (fe_neg (fe_var (pv 2)))) (fb_nil)) (fb_nil)) (fb_cons (fs_ret (fe_tup (fa_cons (fe_bin opf_fdiv (fe_var (pv 0)) (fe_var (pv 2))) (fa_cons (fe_bin opf_fdiv (fe_var (pv 1)) (fe_var (pv 2))) (fa_nil))))) (fb_nil)))))
theorem ok_minus (F : Facts K mg) : DefOk P w K mg base (L2.CX P w) 3 "minus" 2 m_minus := def_ok F.d_minus sc_minus rfl rfl fun f cdv A outer s H E hr =>
  (fb_cons (fs_ret (fe_call (DefOk.mono (ok_fraction F) (by first | decide | omega)) hr (by rfl) hxD (fa_cons (fe_bin opf_sub (fe_bin opf_mul (fe_ix (hu_of hr) (fe_var (pv 0)) (fe_int)) (fe_ix (hu_of hr) (fe_var (pv 1)) (fe_int))) (fe_bin opf_mul (fe_ix (hu_of hr) (fe_var (pv 1)) (fe_int)) (fe_ix (hu_of hr) (fe_var (pv 0)) (fe_int)))) (fa_cons (fe_bin opf_mul (fe_ix (hu_of hr) (fe_var (pv 0)) (fe_int)) (fe_ix (hu_of hr) (fe_var (pv 1)) (fe_int))) (fa_nil))))) (fb_nil))
theorem ok_side_of (F : Facts K mg) : DefOk P w K mg base (L2.CX P w) 4 "side_of" 1 m_side_of := def_ok F.d_side_of sc_side_of rfl rfl fun f cdv A outer s H E hr =>
  (fb_cons (fs_set sc_side_of.nd rfl (by first | exact .inl rfl | exact .inr rfl) (fe_call (DefOk.mono (ok_minus F) (by first | decide | omega)) hr (by rfl) hxD (fa_cons (fe_ix (hu_of hr) (fe_var (pv 0)) (fe_int)) (fa_cons (fe_ix (hu_of hr) (fe_var (pv 0)) (fe_int)) (fa_nil))))) (fb_cons (fs_if (fw_pt (fw_or (ft_cmp (opf_eq hr.units) (fe_ix (hu_of hr) (fe_var (pv 1)) (fe_int)) (fe_int) (by rfl)) (fw_or1 (ft_cmp (opf_ne hr.units) (fe_var (pv 1)) (fe_call (DefOk.mono (ok_minus F) (by first | decide | omega)) hr (by rfl) hxD (fa_cons (fe_ix (hu_of hr) (fe_var (pv 0)) (fe_int)) (fa_cons (fe_ix (hu_of hr) (fe_var (pv 0)) (fe_int)) (fa_nil)))) (by rfl))))) (fb_cons (fs_ret (fe_non)) (fb_nil)) (fb_nil)) (fb_cons (fs_ret (fe_var (pv 1))) (fb_nil))))
theorem ok_code_of (F : Facts K mg) : DefOk P w K mg base (L2.CX P w) 5 "code_of" 1 m_code_of := def_ok F.d_code_of sc_code_of rfl rfl fun f cdv A outer s H E hr =>
  (fb_cons (fs_set sc_code_of.nd rfl (by first | exact .inl rfl | exact .inr rfl) (fe_call (DefOk.mono (ok_looked F) (by first | decide | omega)) hr (by rfl) hxD (fa_cons (fe_var (pv 0)) (fa_nil)))) (fb_cons (fs_if (ft_cmp (opf_ne hr.units) (fe_var (pv 1)) (fe_tup (fa_cons (fe_str) (fa_nil))) (by rfl)) (fb_cons (fs_raiseF rfl (by decide) rfl tkD (cf_NoFloor F) (hr.mono (by first | decide | omega)) (by rfl) (fa_cons (fe_var (pv 1)) (fa_nil))) (fb_nil)) (fb_nil)) (fb_cons (fs_set sc_code_of.nd rfl (by first | exact .inl rfl | exact .inr rfl) (fe_new (fn_lst (fa_nil)))) (fb_cons (fs_for hpD rfl (fi_enum (by rfl) F.n_enumerate (fa_cons (fe_ix (hu_of hr) (fe_var (pv 0)) (fe_int)) (fa_nil))) (fg_tup rfl (fgs_cons (fg_name sc_code_of.nd rfl (by first | exact .inl rfl | exact .inr rfl)) (fgs_cons (fg_name sc_code_of.nd rfl (by first | exact .inl rfl | exact .inr rfl)) (fgs_nil)))) (fb_cons (fs_if (fw_pt (fw_or (ft_cmp (opf_is) (fe_call (DefOk.mono (ok_side_of F) (by first | decide | omega)) hr (by rfl) hxD (fa_cons (fe_var (pv 4)) (fa_nil))) (fe_non) (by rfl)) (fw_or1 (ft_not (ft_truth (fe_callB (bi_all rfl) (by rfl) F.n_all (by decide +kernel) (fa_cons (fe_frz (fn_comp rfl sc_code_of.nd (fi_seq (fe_var (pv 4))) (blk_in (N := ["floor", "seen", "places", "number", "rectangle", "place", "part"]) (sc := defScope s_code_of) (own := [("part", 6)]) rfl rfl (by decide +kernel)) (fun _ _ _ _ _ => fg_name sc_code_of.nd rfl (by first | exact .inl rfl | exact .inr rfl)) (by decide) (fun _ _ _ _ _ => fts_nil) (fun _ _ _ _ _ => fe_cmp (opf_eq hr.units) (fe_ix (hu_of hr) (fe_var (pv 6)) (fe_int)) (fe_int) (by rfl)))) (fa_nil)))))))) (fb_cons (fs_raiseF rfl (by decide) rfl tkD (cf_NoCode F) (hr.mono (by first | decide | omega)) (by rfl) (fa_cons (fe_var (pv 3)) (fa_nil))) (fb_nil)) (fb_nil)) (fb_cons (fs_expr (fe_meth (me_append) PySem.F.plainAttrs_list PySem.F.slot_list_append PySem.F.type_list_append (fe_var (pv 2)) (fa_cons (fe_tup (fa_cons (fe_neg (fe_ix (hu_of hr) (fe_ix (hu_of hr) (fe_var (pv 4)) (fe_int)) (fe_int))) (fa_cons (fe_ix (hu_of hr) (fe_ix (hu_of hr) (fe_var (pv 4)) (fe_int)) (fe_int)) (fa_cons (fe_ix (hu_of hr) (fe_call (DefOk.mono (ok_side_of F) (by first | decide | omega)) hr (by rfl) hxD (fa_cons (fe_var (pv 4)) (fa_nil))) (fe_int)) (fa_nil))))) (fa_nil)))) (fb_nil)))) (fb_cons (fs_ret (fe_callT bi_tuple (by rfl) F.n_tuple (by decide +kernel) (fa_cons (fe_frz (fn_comp rfl sc_code_of.nd (fi_seq (fe_frz (fn_callB (bn_sorted2 rfl) (by rfl) F.n_sorted (by decide +kernel) (fa_cons (fe_var (pv 2)) (fa_nil))))) (blk_in (N := ["floor", "seen", "places", "number", "rectangle", "place", "part"]) (sc := defScope s_code_of) (own := [("place", 5)]) rfl rfl (by decide +kernel)) (fun _ _ _ _ _ => fg_name sc_code_of.nd rfl (by first | exact .inl rfl | exact .inr rfl)) (by decide) (fun _ _ _ _ _ => fts_nil) (fun _ _ _ _ _ => fe_ix (hu_of hr) (fe_var (pv 5)) (fe_int)))) (fa_nil)))) (fb_nil))))))
theorem ok_highest (F : Facts K mg) : DefOk P w K mg base (L2.CX P w) 1 "highest" 1 m_highest := def_ok F.d_highest sc_highest rfl rfl fun f cdv A outer s H E hr =>
  (fb_cons (fs_set sc_highest.nd rfl (by first | exact .inl rfl | exact .inr rfl) (fe_int)) (fb_cons (fs_for hpD rfl (fi_enum (by rfl) F.n_enumerate (fa_cons (fe_var (pv 0)) (fa_nil))) (fg_tup rfl (fgs_cons (fg_name sc_highest.nd rfl (by first | exact .inl rfl | exact .inr rfl)) (fgs_cons (fg_name sc_highest.nd rfl (by first | exact .inl rfl | exact .inr rfl)) (fgs_nil)))) (fb_cons (fs_if (ft_cmp (opf_gt) (fe_ix (hu_of hr) (fe_var (pv 3)) (fe_int)) (fe_ix (hu_of hr) (fe_ix (hu_of hr) (fe_var (pv 0)) (fe_var (pv 1))) (fe_int)) (by rfl)) (fb_cons (fs_set sc_highest.nd rfl (by first | exact .inl rfl | exact .inr rfl) (fe_var (pv 2))) (fb_nil)) (fb_nil)) (fb_nil))) (fb_cons (fs_ret (fe_var (pv 1))) (fb_nil))))
theorem ok_joined (F : Facts K mg) : DefOk P w K mg base (L2.CX P w) 1 "joined" 1 m_joined := def_ok F.d_joined sc_joined rfl rfl fun f cdv A outer s H E hr =>
  (fb_cons (fs_set sc_joined.nd rfl (by first | exact .inl rfl | exact .inr rfl) (fe_new (fn_lst (fa_nil)))) (fb_cons (fs_for hpD rfl (fi_seq (fe_var (pv 0))) (fg_name sc_joined.nd rfl (by first | exact .inl rfl | exact .inr rfl)) (fb_cons (fs_if (fw_pt (fw_and (ft_cmp (opf_ne hr.units) (fe_var (pv 1)) (fe_frz (fn_lst (fa_nil))) (by rfl)) (fw_and1 (ft_cmp (opf_eq hr.units) (fe_ix (hu_of hr) (fe_ix (hu_of hr) (fe_var (pv 1)) (fe_neg (fe_int))) (fe_int)) (fe_ix (hu_of hr) (fe_var (pv 2)) (fe_int)) (by rfl))))) (fb_cons (sub_asg (hu_of hr) (fe_tup (fa_cons (fe_ix (hu_of hr) (fe_ix (hu_of hr) (fe_var (pv 1)) (fe_neg (fe_int))) (fe_int)) (fa_cons (fe_ix (hu_of hr) (fe_var (pv 2)) (fe_int)) (fa_cons (fe_ix (hu_of hr) (fe_var (pv 2)) (fe_int)) (fa_nil))))) (fe_var (pv 1)) (fe_neg (fe_int))) (fb_nil)) (fb_cons (fs_expr (fe_meth (me_append) PySem.F.plainAttrs_list PySem.F.slot_list_append PySem.F.type_list_append (fe_var (pv 1)) (fa_cons (fe_var (pv 2)) (fa_nil)))) (fb_nil))) (fb_nil))) (fb_cons (fs_ret (fe_var (pv 1))) (fb_nil))))
theorem ok_hung (F : Facts K mg) : DefOk P w K mg base (L2.CX P w) 2 "hung" 2 m_hung := def_ok F.d_hung sc_hung rfl rfl fun f cdv A outer s H E hr =>
  (fb_cons (fs_set sc_hung.nd rfl (by first | exact .inl rfl | exact .inr rfl) (fe_call (DefOk.mono (ok_highest F) (by first | decide | omega)) hr (by rfl) hxD (fa_cons (fe_var (pv 0)) (fa_nil)))) (fb_cons (fs_asg (fe_ix (hu_of hr) (fe_var (pv 0)) (fe_var (pv 2))) (fg_tup rfl (fgs_cons (fg_name sc_hung.nd rfl (by first | exact .inl rfl | exact .inr rfl)) (fgs_cons (fg_name sc_hung.nd rfl (by first | exact .inl rfl | exact .inr rfl)) (fgs_cons (fg_name sc_hung.nd rfl (by first | exact .inl rfl | exact .inr rfl)) (fgs_nil)))))) (fb_cons (fs_if (fw_pt (fw_or (ft_cmp (opf_lt) (fe_var (pv 1)) (fe_int) (by rfl)) (fw_or (ft_cmp (opf_gt) (fe_var (pv 1)) (fe_bin opf_sub (fe_var (pv 4)) (fe_var (pv 3))) (by rfl)) (fw_or1 (ft_cmp (opf_gt) (fe_var (pv 1)) (fe_var (pv 5)) (by rfl)))))) (fb_cons (fs_ret (fe_non)) (fb_nil)) (fb_nil)) (fb_cons (fs_set sc_hung.nd rfl (by first | exact .inl rfl | exact .inr rfl) (fe_new (fn_cat (fe_slice (fe_var (pv 0)) (fo_none) (fo_some (fe_var (pv 2)))) (fe_frz (fn_lst (fa_cons (fe_tup (fa_cons (fe_var (pv 3)) (fa_cons (fe_bin opf_add (fe_var (pv 3)) (fe_var (pv 1))) (fa_cons (fe_bin opf_sub (fe_var (pv 5)) (fe_var (pv 1))) (fa_nil))))) (fa_nil))))))) (fb_cons (fs_if (ft_cmp (opf_lt) (fe_bin opf_add (fe_var (pv 3)) (fe_var (pv 1))) (fe_var (pv 4)) (by rfl)) (fb_cons (fs_expr (fe_meth (me_append) PySem.F.plainAttrs_list PySem.F.slot_list_append PySem.F.type_list_append (fe_var (pv 6)) (fa_cons (fe_tup (fa_cons (fe_bin opf_add (fe_var (pv 3)) (fe_var (pv 1))) (fa_cons (fe_var (pv 4)) (fa_cons (fe_var (pv 5)) (fa_nil))))) (fa_nil)))) (fb_nil)) (fb_nil)) (fb_cons (fs_ret (fe_call (DefOk.mono (ok_joined F) (by first | decide | omega)) hr (by rfl) hxD (fa_cons (fe_bin opf_add (fe_var (pv 6)) (fe_slice (fe_var (pv 0)) (fo_some (fe_bin opf_add (fe_var (pv 2)) (fe_int))) (fo_none))) (fa_nil)))) (fb_nil)))))))
theorem ok_is_full (F : Facts K mg) : DefOk P w K mg base (L2.CX P w) 1 "is_full" 1 m_is_full := def_ok F.d_is_full sc_is_full rfl rfl fun f cdv A outer s H E hr =>
  (fb_cons (fs_ret (fe_and (fe_cmp (opf_eq hr.units) (fe_callB bi_len (by rfl) F.n_len (by decide +kernel) (fa_cons (fe_var (pv 0)) (fa_nil))) (fe_int) (by rfl)) (fe_one (fe_cmp (opf_eq hr.units) (fe_ix (hu_of hr) (fe_ix (hu_of hr) (fe_var (pv 0)) (fe_int)) (fe_int)) (fe_int) (by rfl))))) (fb_nil))
theorem ok_floor_by (F : Facts K mg) : DefOk P w K mg base (L2.CX P w) 4 "floor_by" 3 m_floor_by := def_ok F.d_floor_by sc_floor_by rfl rfl fun f cdv A outer s H E hr =>
  (fb_cons (fs_set sc_floor_by.nd rfl (by first | exact .inl rfl | exact .inr rfl) (fe_frz (fn_lst (fa_cons (fe_tup (fa_cons (fe_int) (fa_cons (fe_var (pv 0)) (fa_cons (fe_var (pv 1)) (fa_nil))))) (fa_nil))))) (fb_cons (fs_set sc_floor_by.nd rfl (by first | exact .inl rfl | exact .inr rfl) (fe_new (fn_lst (fa_nil)))) (fb_cons (fs_for hpD rfl (fi_enum (by rfl) F.n_enumerate (fa_cons (fe_var (pv 2)) (fa_nil))) (fg_tup rfl (fgs_cons (fg_name sc_floor_by.nd rfl (by first | exact .inl rfl | exact .inr rfl)) (fgs_cons (fg_name sc_floor_by.nd rfl (by first | exact .inl rfl | exact .inr rfl)) (fgs_nil)))) (fb_cons (fs_asg (fe_ix (hu_of hr) (fe_var (pv 3)) (fe_call (DefOk.mono (ok_highest F) (by first | decide | omega)) hr (by rfl) hxD (fa_cons (fe_var (pv 3)) (fa_nil)))) (fg_tup rfl (fgs_cons (fg_name sc_floor_by.nd rfl (by first | exact .inl rfl | exact .inr rfl)) (fgs_cons (fg_name sc_floor_by.nd rfl (by first | exact .inl rfl | exact .inr rfl)) (fgs_cons (fg_name sc_floor_by.nd rfl (by first | exact .inl rfl | exact .inr rfl)) (fgs_nil)))))) (fb_cons (fs_set sc_floor_by.nd rfl (by first | exact .inl rfl | exact .inr rfl) (fe_call (DefOk.mono (ok_hung F) (by first | decide | omega)) hr (by rfl) hxD (fa_cons (fe_var (pv 3)) (fa_cons (fe_var (pv 6)) (fa_nil))))) (fb_cons (fs_if (ft_cmp (opf_is) (fe_var (pv 3)) (fe_non) (by rfl)) (fb_cons (fs_raiseF rfl (by decide) rfl tkD (cf_NoSize F) (hr.mono (by first | decide | omega)) (by rfl) (fa_cons (fe_var (pv 5)) (fa_nil))) (fb_nil)) (fb_nil)) (fb_cons (fs_expr (fe_meth (me_append) PySem.F.plainAttrs_list PySem.F.slot_list_append PySem.F.type_list_append (fe_var (pv 4)) (fa_cons (fe_tup (fa_cons (fe_tup (fa_cons (fe_var (pv 7)) (fa_cons (fe_int) (fa_nil)))) (fa_cons (fe_tup (fa_cons (fe_bin opf_sub (fe_var (pv 9)) (fe_var (pv 6))) (fa_cons (fe_int) (fa_nil)))) (fa_cons (fe_tup (fa_cons (fe_bin opf_add (fe_var (pv 7)) (fe_var (pv 6))) (fa_cons (fe_int) (fa_nil)))) (fa_cons (fe_tup (fa_cons (fe_var (pv 9)) (fa_cons (fe_int) (fa_nil)))) (fa_nil)))))) (fa_nil)))) (fb_nil)))))) (fb_cons (fs_if (ft_not (ft_truth (fe_call (DefOk.mono (ok_is_full F) (by first | decide | omega)) hr (by rfl) hxD (fa_cons (fe_var (pv 3)) (fa_nil))))) (fb_cons (fs_raiseF rfl (by decide) rfl tkD (cf_NoSize F) (hr.mono (by first | decide | omega)) (by rfl) (fa_cons (fe_callB bi_len (by rfl) F.n_len (by decide +kernel) (fa_cons (fe_var (pv 2)) (fa_nil))) (fa_nil))) (fb_nil)) (fb_nil)) (fb_cons (fs_ret (fe_tup (fa_cons (fe_tup (fa_cons (fe_var (pv 0)) (fa_cons (fe_int) (fa_nil)))) (fa_cons (fe_tup (fa_cons (fe_var (pv 1)) (fa_cons (fe_int) (fa_nil)))) (fa_cons (fe_callT bi_tuple (by rfl) F.n_tuple (by decide +kernel) (fa_cons (fe_var (pv 4)) (fa_nil))) (fa_nil)))))) (fb_nil))))))
theorem ok_law (F : Facts K mg) {f : Addr} {fd : FuncData} (F1 : L2.Fun K "law" "law" s_law f fd) : FnOk P w K mg base (L2.CX P w) 6 f fd ["_law_script"] (spM K mg 1 m_law) := fn_ok F1 sc_law fun cdv A outer s H E hr =>
  (fb_cons (fs_asg (fe_call (DefOk.mono (ok_l_square_floor F) (by first | decide | omega)) hr (by rfl) hxD (fa_cons (fe_var (pv 0)) (fa_cons (fe_int) (fa_cons (fe_int) (fa_cons (fe_int) (fa_nil)))))) (fg_tup rfl (fgs_cons (fg_name sc_law.nd rfl (by first | exact .inl rfl | exact .inr rfl)) (fgs_cons (fg_name sc_law.nd rfl (by first | exact .inl rfl | exact .inr rfl)) (fgs_cons (fg_name sc_law.nd rfl (by first | exact .inl rfl | exact .inr rfl)) (fgs_nil)))))) (fb_cons (fs_set sc_law.nd rfl (by first | exact .inl rfl | exact .inr rfl) (fe_bin opf_mod (fe_call (DefOk.mono (ok_l_cell_at F) (by first | decide | omega)) hr (by rfl) hxD (fa_cons (fe_var (pv 0)) (fa_cons (fe_int) (fa_nil)))) (fe_callB bi_len (by rfl) F.n_len (by decide +kernel) (fa_cons (fe_var (pv 1)) (fa_nil))))) (fb_cons (fs_set sc_law.nd rfl (by first | exact .inl rfl | exact .inr rfl) (fe_call (DefOk.mono (ok_l_whole_floor F) (by first | decide | omega)) hr (by rfl) hxD (fa_cons (fe_bin opf_add (fe_slice (fe_var (pv 1)) (fo_some (fe_var (pv 4))) (fo_none)) (fe_slice (fe_var (pv 1)) (fo_none) (fo_some (fe_var (pv 4))))) (fa_cons (fe_var (pv 2)) (fa_cons (fe_var (pv 3)) (fa_nil)))))) (fb_cons (fs_set sc_law.nd rfl (by first | exact .inl rfl | exact .inr rfl) (fe_call (DefOk.mono (ok_code_of F) (by first | decide | omega)) hr (by rfl) hxD (fa_cons (fe_var (pv 5)) (fa_nil)))) (fb_cons (fs_set sc_law.nd rfl (by first | exact .inl rfl | exact .inr rfl) (fe_call (DefOk.mono (ok_l_hung F) (by first | decide | omega)) hr (by rfl) hxD (fa_cons (fe_var (pv 1)) (fa_nil)))) (fb_cons (fs_if (fw_pt (fw_or (ft_not (ft_truth (fe_isi (by decide) (by rfl) F.n_isinstance (by rfl) F.n_tuple (by decide +kernel) (fe_var (pv 6))))) (fw_or1 (ft_truth (fe_callB (bi_any rfl) (by rfl) F.n_any (by decide +kernel) (fa_cons (fe_frz (fn_comp rfl sc_law.nd (fi_seq (fe_var (pv 6))) (blk_in (N := ["_law_script", "_law_squares", "_law_wide", "_law_high", "_law_turn", "_law_floor", "_law_sizes", "_law_order", "_law_found", "_law_size", "_law_square"]) (sc := defScope s_law) (own := [("_law_size", 9)]) rfl rfl (by decide +kernel)) (fun _ _ _ _ _ => fg_name sc_law.nd rfl (by first | exact .inl rfl | exact .inr rfl)) (by decide) (fun _ _ _ _ _ => fts_nil) (fun _ _ _ _ _ => fe_or (fe_not (fe_isi (by decide) (by rfl) F.n_isinstance (by rfl) F.n_int (by decide +kernel) (fe_var (pv 9)))) (fe_one (fe_isi (by decide) (by rfl) F.n_isinstance (by rfl) F.n_bool (by decide +kernel) (fe_var (pv 9))))))) (fa_nil))))))) (fb_cons (fs_ret (fe_bl)) (fb_nil)) (fb_nil)) (fb_cons (fs_if (ft_cmp (opf_ne hr.units) (fe_var (pv 6)) (fe_callT bi_tuple (by rfl) F.n_tuple (by decide +kernel) (fa_cons (fe_frz (fn_comp rfl sc_law.nd (fi_seq (fe_var (pv 7))) (blk_in (N := ["_law_script", "_law_squares", "_law_wide", "_law_high", "_law_turn", "_law_floor", "_law_sizes", "_law_order", "_law_found", "_law_size", "_law_square"]) (sc := defScope s_law) (own := [("_law_square", 10)]) rfl rfl (by decide +kernel)) (fun _ _ _ _ _ => fg_name sc_law.nd rfl (by first | exact .inl rfl | exact .inr rfl)) (by decide) (fun _ _ _ _ _ => fts_nil) (fun _ _ _ _ _ => fe_ix (hu_of hr) (fe_var (pv 10)) (fe_int)))) (fa_nil))) (by rfl)) (fb_cons (fs_ret (fe_bl)) (fb_nil)) (fb_nil)) (fb_cons (fs_set sc_law.nd rfl (by first | exact .inl rfl | exact .inr rfl) (fe_call (DefOk.mono (ok_floor_by F) (by first | decide | omega)) hr (by rfl) hxD (fa_cons (fe_var (pv 2)) (fa_cons (fe_var (pv 3)) (fa_cons (fe_var (pv 6)) (fa_nil)))))) (fb_cons (fs_ret (fe_and (fe_cmp (opf_eq hr.units) (fe_var (pv 8)) (fe_call (DefOk.mono (ok_l_whole_floor F) (by first | decide | omega)) hr (by rfl) hxD (fa_cons (fe_var (pv 7)) (fa_cons (fe_var (pv 2)) (fa_cons (fe_var (pv 3)) (fa_nil))))) (by rfl)) (fe_one (fe_cmp (opf_eq hr.units) (fe_call (DefOk.mono (ok_code_of F) (by first | decide | omega)) hr (by rfl) hxD (fa_cons (fe_var (pv 8)) (fa_nil))) (fe_var (pv 6)) (by rfl))))) (fb_nil))))))))))
end
end K52


namespace K52
open PySem FL
variable [TabCtx]
def t_l_cell_at_1a_1 (v_cell : Int) : Int := (v_cell)
theorem w_l_cell_at_1a_1 {st : Sto} {e0 e1 : Option D} (v_cell : Int) : NxP (sNext [e0, e1, some (cI v_cell)] (st ++ [])) ((fun (s : Int) (env' : FL.Env) (S' : Sto) => env' = [e0, e1, some (cI s)] ∧ S' = st ++ []) (t_l_cell_at_1a_1 v_cell)) :=
  nx_end ⟨rfl, rfl⟩
def t_l_cell_at_1a (v_script : (List Int)) (v_k : Int) : Int := t_l_cell_at_1a_1 ((getI v_script v_k) % (1000000000000000000 : Int))
def c_l_cell_at_1a (v_script : (List Int)) (v_k : Int) : Prop := IxOk v_script.length v_k
theorem w_l_cell_at_1a {st : Sto} {e2 : Option D} (v_script : (List Int)) (v_k : Int) (h : c_l_cell_at_1a v_script v_k) : NxP (b_l_cell_at_1a [some (cZ v_script), some (cI v_k), e2] (st ++ [])) ((fun (s : Int) (env' : FL.Env) (S' : Sto) => env' = [some (cZ v_script), some (cI v_k), some (cI s)] ∧ S' = st ++ []) (t_l_cell_at_1a v_script v_k)) :=
  nx_nx (do_set (ev_op (a := cI (getI v_script v_k)) (b := cI (1000000000000000000 : Int)) (ev_op (ev_v rfl) (ev_v rfl) (ix_c (c := cI) (sq_Z (xs := v_script)) h)) (ev_op (rfl) (rfl) (pow_c (by decide) (by decide +kernel))) (mod_k (by decide)))) (w_l_cell_at_1a_1 (st := st) (e0 := some (cZ v_script)) (e1 := some (cI v_k))  ((getI v_script v_k) % (1000000000000000000 : Int)))
def t_l_cell_at_1b (v_cell : Int) : Int := (v_cell)
theorem w_l_cell_at_1b {st : Sto} {e0 e1 : Option D} (v_cell : Int) : NxP (sNext [e0, e1, some (cI v_cell)] (st ++ [])) ((fun (s : Int) (env' : FL.Env) (S' : Sto) => env' = [e0, e1, some (cI s)] ∧ S' = st ++ []) (t_l_cell_at_1b v_cell)) :=
  nx_end ⟨rfl, rfl⟩
def t_l_cell_at_2 (v_k : Int) (v_cell : Int) : Int := (((((v_cell * (48271 : Int)) + ((16807 : Int) * v_k)) % (2147483647 : Int)) * (69621 : Int)) % (2147483629 : Int))
def c_l_cell_at_2 (v_k : Int) (v_cell : Int) : Prop := MulK v_cell (48271 : Int) ∧ MulK (16807 : Int) v_k ∧ MulK (((v_cell * (48271 : Int)) + ((16807 : Int) * v_k)) % (2147483647 : Int)) (69621 : Int)
theorem w_l_cell_at_2 {st : Sto} {e0 : Option D} (v_k : Int) (v_cell : Int) (h : c_l_cell_at_2 v_k v_cell) : RtP st (b_l_cell_at_2 [e0, some (cI v_k), some (cI v_cell)] (st ++ [])) (cI (t_l_cell_at_2 v_k v_cell)) :=
  rt_ret (d := cI (((((v_cell * (48271 : Int)) + ((16807 : Int) * v_k)) % (2147483647 : Int)) * (69621 : Int)) % (2147483629 : Int))) (ev_op (a := cI ((((v_cell * (48271 : Int)) + ((16807 : Int) * v_k)) % (2147483647 : Int)) * (69621 : Int))) (b := cI (2147483629 : Int)) (ev_op (a := cI (((v_cell * (48271 : Int)) + ((16807 : Int) * v_k)) % (2147483647 : Int))) (b := cI (69621 : Int)) (ev_op (a := cI ((v_cell * (48271 : Int)) + ((16807 : Int) * v_k))) (b := cI (2147483647 : Int)) (ev_op (a := cI (v_cell * (48271 : Int))) (b := cI ((16807 : Int) * v_k)) (ev_op (a := cI v_cell) (b := cI (48271 : Int)) (ev_v rfl) (rfl) (mul_c h.1)) (ev_op (a := cI (16807 : Int)) (b := cI v_k) (rfl) (ev_v rfl) (mul_c h.2.1)) rfl) (rfl) (mod_k (by decide))) (rfl) (mul_c h.2.2)) (rfl) (mod_k (by decide))) (fz_c fl_I)
def t_l_cell_at_1q (v_script : (List Int)) (v_k : Int) (v_cell : Int) (q : Int) : Int := t_l_cell_at_2 v_k q
def c_l_cell_at_1q (v_script : (List Int)) (v_k : Int) (v_cell : Int) (q : Int) : Prop := c_l_cell_at_2 v_k q
def t_l_cell_at_1 (v_script : (List Int)) (v_k : Int) (v_cell : Int) : Int := t_l_cell_at_1q v_script v_k v_cell (if decide (v_k < (v_script.length : Int)) = true then t_l_cell_at_1a v_script v_k else t_l_cell_at_1b v_cell)
def c_l_cell_at_1 (v_script : (List Int)) (v_k : Int) (v_cell : Int) : Prop := (decide (v_k < (v_script.length : Int)) = true → c_l_cell_at_1a v_script v_k) ∧ c_l_cell_at_1q v_script v_k v_cell (if decide (v_k < (v_script.length : Int)) = true then t_l_cell_at_1a v_script v_k else t_l_cell_at_1b v_cell)
theorem w_l_cell_at_1 {st : Sto} (v_script : (List Int)) (v_k : Int) (v_cell : Int) (h : c_l_cell_at_1 v_script v_k v_cell) : RtP st (b_l_cell_at_1 [some (cZ v_script), some (cI v_k), some (cI v_cell)] (st ++ [])) (cI (t_l_cell_at_1 v_script v_k v_cell)) :=
  rt_N (if_N (P := fun (s : Int) (env' : FL.Env) (S' : Sto) => env' = [some (cZ v_script), some (cI v_k), some (cI s)] ∧ S' = st ++ []) (tt_B (ev_op (a := cI v_k) (b := cI (v_script.length : Int)) (ev_v rfl) (ev_B (ev_cons (ev_v rfl) ev_nil) (len_c (c := cI) (sq_Z (xs := v_script)))) rfl)) (fun hc => w_l_cell_at_1a (st := st) (e2 := some (cI v_cell))  v_script v_k (h.1 hc)) (fun hc => w_l_cell_at_1b (st := st) (e0 := some (cZ v_script)) (e1 := some (cI v_k))  v_cell)) (fun | _, _, ⟨rfl, rfl⟩ => w_l_cell_at_2 (st := st) (e0 := some (cZ v_script))  v_k (if decide (v_k < (v_script.length : Int)) = true then t_l_cell_at_1a v_script v_k else t_l_cell_at_1b v_cell) h.2)
def t_l_cell_at (v_script : (List Int)) (v_k : Int) : Int := t_l_cell_at_1 v_script v_k (0 : Int)
def c_l_cell_at (v_script : (List Int)) (v_k : Int) : Prop := c_l_cell_at_1 v_script v_k (0 : Int)
theorem w_l_cell_at {st : Sto} {e2 : Option D} (v_script : (List Int)) (v_k : Int) (h : c_l_cell_at v_script v_k) : RtP st (b_l_cell_at [some (cZ v_script), some (cI v_k), e2] (st ++ [])) (cI (t_l_cell_at v_script v_k)) :=
  rt_nx (do_set (rfl)) (w_l_cell_at_1 (st := st)   v_script v_k (0 : Int) h)
def T_l_cell_at (v_script : (List Int)) (v_k : Int) : Int := t_l_cell_at v_script v_k
def C_l_cell_at (v_script : (List Int)) (v_k : Int) : Prop := c_l_cell_at v_script v_k
theorem f_l_cell_at {st : Sto} (v_script : (List Int)) (v_k : Int) (h : C_l_cell_at v_script v_k) : m_l_cell_at [cZ v_script, cI v_k] st = .ok (cI (T_l_cell_at v_script v_k)) st :=
  RtP.enter (b := b_l_cell_at) (env := [some (cZ v_script), some (cI v_k), none]) (w_l_cell_at (st := st) (e2 := none)  v_script v_k h)
def t_l_place (v_square : (Int × Int × Int)) : (Int × Int) := (((-v_square.2.1) - v_square.2.2), v_square.1)
theorem w_l_place {st : Sto} (v_square : (Int × Int × Int)) : RtP st (b_l_place [some ((cP3 cI cI cI) v_square)] (st ++ [])) ((cP2 cI cI) (t_l_place v_square)) :=
  rt_ret (d := (cP2 cI cI) (((-v_square.2.1) - v_square.2.2), v_square.1)) (ev_tup (ev_cons (a := cI ((-v_square.2.1) - v_square.2.2)) (ev_op (a := cI (-v_square.2.1)) (b := cI v_square.2.2) (ev_un (a := cI v_square.2.1) (ev_op (ev_v rfl) (rfl) rfl) rfl) (ev_op (ev_v rfl) (rfl) rfl) rfl) (ev_cons (a := cI v_square.1) (ev_op (ev_v rfl) (rfl) rfl) (ev_nil))) rfl) (fz_c (fl_P2 fl_I fl_I))
def T_l_place (v_square : (Int × Int × Int)) : (Int × Int) := t_l_place v_square
theorem f_l_place {st : Sto} (v_square : (Int × Int × Int)) : m_l_place [(cP3 cI cI cI) v_square] st = .ok ((cP2 cI cI) (T_l_place v_square)) st :=
  RtP.enter (b := b_l_place) (env := [some ((cP3 cI cI cI) v_square)]) (w_l_place (st := st)   v_square)
def t_l_hung (v_squares : (List (Int × Int × Int))) : (List (Int × Int × Int)) := (srtKy (fun x => T_l_place x) v_squares)
theorem w_l_hung {st : Sto} (v_squares : (List (Int × Int × Int))) : RtP st (b_l_hung [some ((cL (cP3 cI cI cI)) v_squares)] (st ++ [])) ((cL (cP3 cI cI cI)) (t_l_hung v_squares)) :=
  rt_ret (d := (cL (cP3 cI cI cI)) (srtKy (fun x => T_l_place x) v_squares)) (ev_frz (ev_nB (ev_cons (ev_v rfl) ev_nil) (sortK_c (c := (cP3 cI cI cI)) (key := fun x => T_l_place x) (ls_L (c := (cP3 cI cI cI)) (xs := v_squares)) (fun x hx => f_l_place x)))) (fz_c (fl_L (fl_P3 fl_I fl_I fl_I)))
def T_l_hung (v_squares : (List (Int × Int × Int))) : (List (Int × Int × Int)) := t_l_hung v_squares
theorem f_l_hung {st : Sto} (v_squares : (List (Int × Int × Int))) : m_l_hung [(cL (cP3 cI cI cI)) v_squares] st = .ok ((cL (cP3 cI cI cI)) (T_l_hung v_squares)) st :=
  RtP.enter (b := b_l_hung) (env := [some ((cL (cP3 cI cI cI)) v_squares)]) (w_l_hung (st := st)   v_squares)
def t_l_square_floor_4a_3a_2 (v_squares : (List (Int × Int × Int))) (v_wide : Int) (v_high : Int) : ((List (Int × Int × Int)) × Int × Int) := (v_squares, v_wide, v_high)
theorem w_l_square_floor_4a_3a_2 {st : Sto} {e0 e1 e2 e3 e4 e8 e9 e10 e11 e12 e13 e14 : Option D} (v_squares : (List (Int × Int × Int))) (v_wide : Int) (v_high : Int) : NxP (sNext [e0, e1, e2, e3, e4, some (D.loc (st.length + 0)), some (cI v_wide), some (cI v_high), e8, e9, e10, e11, e12, e13, e14] (st ++ [SO.lst (v_squares.map (cP3 cI cI cI))])) ((fun (s : ((List (Int × Int × Int)) × Int × Int)) (env' : FL.Env) (S' : Sto) => ∃ x14 : Option D, env' = [e0, e1, e2, e3, e4, some (D.loc (st.length + 0)), some (cI s.2.1), some (cI s.2.2), e8, e9, e10, e11, e12, e13, x14] ∧ S' = st ++ [SO.lst (s.1.map (cP3 cI cI cI))]) (t_l_square_floor_4a_3a_2 v_squares v_wide v_high)) :=
  nx_end ⟨_, rfl, rfl⟩
def t_l_square_floor_4a_3a_1 (v_squares : (List (Int × Int × Int))) (v_wide : Int) (v_high : Int) : ((List (Int × Int × Int)) × Int × Int) := t_l_square_floor_4a_3a_2 v_squares (v_wide + v_high) v_high
theorem w_l_square_floor_4a_3a_1 {st : Sto} {e0 e1 e2 e3 e4 e8 e9 e10 e11 e12 e13 e14 : Option D} (v_squares : (List (Int × Int × Int))) (v_wide : Int) (v_high : Int) : NxP (b_l_square_floor_4a_3a_1 [e0, e1, e2, e3, e4, some (D.loc (st.length + 0)), some (cI v_wide), some (cI v_high), e8, e9, e10, e11, e12, e13, e14] (st ++ [SO.lst (v_squares.map (cP3 cI cI cI))])) ((fun (s : ((List (Int × Int × Int)) × Int × Int)) (env' : FL.Env) (S' : Sto) => ∃ x14 : Option D, env' = [e0, e1, e2, e3, e4, some (D.loc (st.length + 0)), some (cI s.2.1), some (cI s.2.2), e8, e9, e10, e11, e12, e13, x14] ∧ S' = st ++ [SO.lst (s.1.map (cP3 cI cI cI))]) (t_l_square_floor_4a_3a_1 v_squares v_wide v_high)) :=
  nx_nx (do_set (ev_op (a := cI v_wide) (b := cI v_high) (ev_v rfl) (ev_v rfl) rfl)) (w_l_square_floor_4a_3a_2 (st := st) (e0 := e0) (e1 := e1) (e2 := e2) (e3 := e3) (e4 := e4) (e8 := e8) (e9 := e9) (e10 := e10) (e11 := e11) (e12 := e12) (e13 := e13) (e14 := e14)  v_squares (v_wide + v_high) v_high)
def t_l_square_floor_4a_3a (v_squares : (List (Int × Int × Int))) (v_wide : Int) (v_high : Int) : ((List (Int × Int × Int)) × Int × Int) := t_l_square_floor_4a_3a_1 (v_squares ++ [(v_wide, (0 : Int), v_high)]) v_wide v_high
def c_l_square_floor_4a_3a (v_squares : (List (Int × Int × Int))) (v_wide : Int) (v_high : Int) : Prop := v_squares.length < 1000000
theorem w_l_square_floor_4a_3a {st : Sto} {e0 e1 e2 e3 e4 e8 e9 e10 e11 e12 e13 e14 : Option D} (v_squares : (List (Int × Int × Int))) (v_wide : Int) (v_high : Int) (h : c_l_square_floor_4a_3a v_squares v_wide v_high) : NxP (b_l_square_floor_4a_3a [e0, e1, e2, e3, e4, some (D.loc (st.length + 0)), some (cI v_wide), some (cI v_high), e8, e9, e10, e11, e12, e13, e14] (st ++ [SO.lst (v_squares.map (cP3 cI cI cI))])) ((fun (s : ((List (Int × Int × Int)) × Int × Int)) (env' : FL.Env) (S' : Sto) => ∃ x14 : Option D, env' = [e0, e1, e2, e3, e4, some (D.loc (st.length + 0)), some (cI s.2.1), some (cI s.2.2), e8, e9, e10, e11, e12, e13, x14] ∧ S' = st ++ [SO.lst (s.1.map (cP3 cI cI cI))]) (t_l_square_floor_4a_3a v_squares v_wide v_high)) :=
  nx_nx (do_drop (ev_mt (ev_v rfl) (isLst_M (i := 0) rfl) (ev_cons (ev_tup (ev_cons (a := cI v_wide) (ev_v rfl) (ev_cons (a := cI (0 : Int)) (rfl) (ev_cons (a := cI v_high) (ev_v rfl) (ev_nil)))) rfl) ev_nil) (ap_M (c := (cP3 cI cI cI)) (xs := v_squares) (x := (v_wide, (0 : Int), v_high)) (i := 0) rfl h))) (w_l_square_floor_4a_3a_1 (st := st) (e0 := e0) (e1 := e1) (e2 := e2) (e3 := e3) (e4 := e4) (e8 := e8) (e9 := e9) (e10 := e10) (e11 := e11) (e12 := e12) (e13 := e13) (e14 := e14)  (v_squares ++ [(v_wide, (0 : Int), v_high)]) v_wide v_high)
def t_l_square_floor_4a_3b_0a_2 (v_squares : (List (Int × Int × Int))) (v_high : Int) : ((List (Int × Int × Int)) × Int) := (v_squares, v_high)
theorem w_l_square_floor_4a_3b_0a_2 {st : Sto} {e0 e1 e2 e3 e4 e6 e8 e9 e10 e11 e12 e13 e14 : Option D} (v_squares : (List (Int × Int × Int))) (v_high : Int) : NxP (sNext [e0, e1, e2, e3, e4, some (D.loc (st.length + 0)), e6, some (cI v_high), e8, e9, e10, e11, e12, e13, e14] (st ++ [SO.lst (v_squares.map (cP3 cI cI cI))])) ((fun (s : ((List (Int × Int × Int)) × Int)) (env' : FL.Env) (S' : Sto) => ∃ x14 : Option D, env' = [e0, e1, e2, e3, e4, some (D.loc (st.length + 0)), e6, some (cI s.2), e8, e9, e10, e11, e12, e13, x14] ∧ S' = st ++ [SO.lst (s.1.map (cP3 cI cI cI))]) (t_l_square_floor_4a_3b_0a_2 v_squares v_high)) :=
  nx_end ⟨_, rfl, rfl⟩
def t_l_square_floor_4a_3b_0a_1 (v_squares : (List (Int × Int × Int))) (v_wide : Int) (v_high : Int) : ((List (Int × Int × Int)) × Int) := t_l_square_floor_4a_3b_0a_2 v_squares (v_high + v_wide)
theorem w_l_square_floor_4a_3b_0a_1 {st : Sto} {e0 e1 e2 e3 e4 e8 e9 e10 e11 e12 e13 e14 : Option D} (v_squares : (List (Int × Int × Int))) (v_wide : Int) (v_high : Int) : NxP (b_l_square_floor_4a_3b_0a_1 [e0, e1, e2, e3, e4, some (D.loc (st.length + 0)), some (cI v_wide), some (cI v_high), e8, e9, e10, e11, e12, e13, e14] (st ++ [SO.lst (v_squares.map (cP3 cI cI cI))])) ((fun (s : ((List (Int × Int × Int)) × Int)) (env' : FL.Env) (S' : Sto) => ∃ x14 : Option D, env' = [e0, e1, e2, e3, e4, some (D.loc (st.length + 0)), some (cI v_wide), some (cI s.2), e8, e9, e10, e11, e12, e13, x14] ∧ S' = st ++ [SO.lst (s.1.map (cP3 cI cI cI))]) (t_l_square_floor_4a_3b_0a_1 v_squares v_wide v_high)) :=
  nx_nx (do_set (ev_op (a := cI v_high) (b := cI v_wide) (ev_v rfl) (ev_v rfl) rfl)) (w_l_square_floor_4a_3b_0a_2 (st := st) (e0 := e0) (e1 := e1) (e2 := e2) (e3 := e3) (e4 := e4) (e6 := some (cI v_wide)) (e8 := e8) (e9 := e9) (e10 := e10) (e11 := e11) (e12 := e12) (e13 := e13) (e14 := e14)  v_squares (v_high + v_wide))
def t_l_square_floor_4a_3b_0a (v_squares : (List (Int × Int × Int))) (v_wide : Int) (v_high : Int) : ((List (Int × Int × Int)) × Int) := t_l_square_floor_4a_3b_0a_1 (v_squares ++ [((0 : Int), v_high, v_wide)]) v_wide v_high
def c_l_square_floor_4a_3b_0a (v_squares : (List (Int × Int × Int))) (v_wide : Int) (v_high : Int) : Prop := v_squares.length < 1000000
theorem w_l_square_floor_4a_3b_0a {st : Sto} {e0 e1 e2 e3 e4 e8 e9 e10 e11 e12 e13 e14 : Option D} (v_squares : (List (Int × Int × Int))) (v_wide : Int) (v_high : Int) (h : c_l_square_floor_4a_3b_0a v_squares v_wide v_high) : NxP (b_l_square_floor_4a_3b_0a [e0, e1, e2, e3, e4, some (D.loc (st.length + 0)), some (cI v_wide), some (cI v_high), e8, e9, e10, e11, e12, e13, e14] (st ++ [SO.lst (v_squares.map (cP3 cI cI cI))])) ((fun (s : ((List (Int × Int × Int)) × Int)) (env' : FL.Env) (S' : Sto) => ∃ x14 : Option D, env' = [e0, e1, e2, e3, e4, some (D.loc (st.length + 0)), some (cI v_wide), some (cI s.2), e8, e9, e10, e11, e12, e13, x14] ∧ S' = st ++ [SO.lst (s.1.map (cP3 cI cI cI))]) (t_l_square_floor_4a_3b_0a v_squares v_wide v_high)) :=
  nx_nx (do_drop (ev_mt (ev_v rfl) (isLst_M (i := 0) rfl) (ev_cons (ev_tup (ev_cons (a := cI (0 : Int)) (rfl) (ev_cons (a := cI v_high) (ev_v rfl) (ev_cons (a := cI v_wide) (ev_v rfl) (ev_nil)))) rfl) ev_nil) (ap_M (c := (cP3 cI cI cI)) (xs := v_squares) (x := ((0 : Int), v_high, v_wide)) (i := 0) rfl h))) (w_l_square_floor_4a_3b_0a_1 (st := st) (e0 := e0) (e1 := e1) (e2 := e2) (e3 := e3) (e4 := e4) (e8 := e8) (e9 := e9) (e10 := e10) (e11 := e11) (e12 := e12) (e13 := e13) (e14 := e14)  (v_squares ++ [((0 : Int), v_high, v_wide)]) v_wide v_high)
def t_l_square_floor_4a_3b_0b_0a_3 (v_squares : (List (Int × Int × Int))) : (List (Int × Int × Int)) := (v_squares)
theorem w_l_square_floor_4a_3b_0b_0a_3 {st : Sto} {e0 e1 e2 e3 e4 e6 e7 e8 e9 e10 e11 e12 e13 e14 : Option D} (v_squares : (List (Int × Int × Int))) : NxP (sNext [e0, e1, e2, e3, e4, some (D.loc (st.length + 0)), e6, e7, e8, e9, e10, e11, e12, e13, e14] (st ++ [SO.lst (v_squares.map (cP3 cI cI cI))])) ((fun (s : (List (Int × Int × Int))) (env' : FL.Env) (S' : Sto) => ∃ x14 : Option D, env' = [e0, e1, e2, e3, e4, some (D.loc (st.length + 0)), e6, e7, e8, e9, e10, e11, e12, e13, x14] ∧ S' = st ++ [SO.lst (s.map (cP3 cI cI cI))]) (t_l_square_floor_4a_3b_0b_0a_3 v_squares)) :=
  nx_end ⟨_, rfl, rfl⟩
def t_l_square_floor_4a_3b_0b_0a_2 (v_squares : (List (Int × Int × Int))) (v_left : Int) (v_low : Int) (v_half : Int) : (List (Int × Int × Int)) := t_l_square_floor_4a_3b_0b_0a_3 (v_squares ++ [((v_left + v_half), v_low, v_half), (v_left, (v_low + v_half), v_half), ((v_left + v_half), (v_low + v_half), v_half)])
def c_l_square_floor_4a_3b_0b_0a_2 (v_squares : (List (Int × Int × Int))) (v_left : Int) (v_low : Int) (v_half : Int) : Prop := v_squares.length + [((v_left + v_half), v_low, v_half), (v_left, (v_low + v_half), v_half), ((v_left + v_half), (v_low + v_half), v_half)].length < 1000000
theorem w_l_square_floor_4a_3b_0b_0a_2 {st : Sto} {e0 e1 e2 e3 e4 e6 e7 e8 e9 e10 e13 : Option D} (v_squares : (List (Int × Int × Int))) (v_left : Int) (v_low : Int) (v_half : Int) (h : c_l_square_floor_4a_3b_0b_0a_2 v_squares v_left v_low v_half) : NxP (b_l_square_floor_4a_3b_0b_0a_2 [e0, e1, e2, e3, e4, some (D.loc (st.length + 0)), e6, e7, e8, e9, e10, some (cI v_left), some (cI v_low), e13, some (cI v_half)] (st ++ [SO.lst (v_squares.map (cP3 cI cI cI))])) ((fun (s : (List (Int × Int × Int))) (env' : FL.Env) (S' : Sto) => ∃ x14 : Option D, env' = [e0, e1, e2, e3, e4, some (D.loc (st.length + 0)), e6, e7, e8, e9, e10, some (cI v_left), some (cI v_low), e13, x14] ∧ S' = st ++ [SO.lst (s.map (cP3 cI cI cI))]) (t_l_square_floor_4a_3b_0b_0a_2 v_squares v_left v_low v_half)) :=
  nx_nx (do_drop (ev_mt (ev_v rfl) (isLst_M (i := 0) rfl) (ev_cons (ev_frz (ev_lst (ev_cons (a := (cP3 cI cI cI) ((v_left + v_half), v_low, v_half)) (ev_tup (ev_cons (a := cI (v_left + v_half)) (ev_op (a := cI v_left) (b := cI v_half) (ev_v rfl) (ev_v rfl) rfl) (ev_cons (a := cI v_low) (ev_v rfl) (ev_cons (a := cI v_half) (ev_v rfl) (ev_nil)))) rfl) (ev_cons (a := (cP3 cI cI cI) (v_left, (v_low + v_half), v_half)) (ev_tup (ev_cons (a := cI v_left) (ev_v rfl) (ev_cons (a := cI (v_low + v_half)) (ev_op (a := cI v_low) (b := cI v_half) (ev_v rfl) (ev_v rfl) rfl) (ev_cons (a := cI v_half) (ev_v rfl) (ev_nil)))) rfl) (ev_cons (a := (cP3 cI cI cI) ((v_left + v_half), (v_low + v_half), v_half)) (ev_tup (ev_cons (a := cI (v_left + v_half)) (ev_op (a := cI v_left) (b := cI v_half) (ev_v rfl) (ev_v rfl) rfl) (ev_cons (a := cI (v_low + v_half)) (ev_op (a := cI v_low) (b := cI v_half) (ev_v rfl) (ev_v rfl) rfl) (ev_cons (a := cI v_half) (ev_v rfl) (ev_nil)))) rfl) (ev_nil)))) rfl)) ev_nil) (ext_M (c := (cP3 cI cI cI)) (xs := v_squares) (ys := [((v_left + v_half), v_low, v_half), (v_left, (v_low + v_half), v_half), ((v_left + v_half), (v_low + v_half), v_half)]) (i := 0) rfl (md_L (c := (cP3 cI cI cI)) (xs := [((v_left + v_half), v_low, v_half), (v_left, (v_low + v_half), v_half), ((v_left + v_half), (v_low + v_half), v_half)])) h))) (w_l_square_floor_4a_3b_0b_0a_3 (st := st) (e0 := e0) (e1 := e1) (e2 := e2) (e3 := e3) (e4 := e4) (e6 := e6) (e7 := e7) (e8 := e8) (e9 := e9) (e10 := e10) (e11 := some (cI v_left)) (e12 := some (cI v_low)) (e13 := e13) (e14 := some (cI v_half))  (v_squares ++ [((v_left + v_half), v_low, v_half), (v_left, (v_low + v_half), v_half), ((v_left + v_half), (v_low + v_half), v_half)]))
def t_l_square_floor_4a_3b_0b_0a_1 (v_squares : (List (Int × Int × Int))) (v_at : Int) (v_left : Int) (v_low : Int) (v_half : Int) : (List (Int × Int × Int)) := t_l_square_floor_4a_3b_0b_0a_2 (setI v_squares v_at (v_left, v_low, v_half)) v_left v_low v_half
def c_l_square_floor_4a_3b_0b_0a_1 (v_squares : (List (Int × Int × Int))) (v_at : Int) (v_left : Int) (v_low : Int) (v_half : Int) : Prop := IxOk v_squares.length v_at ∧ c_l_square_floor_4a_3b_0b_0a_2 (setI v_squares v_at (v_left, v_low, v_half)) v_left v_low v_half
theorem w_l_square_floor_4a_3b_0b_0a_1 {st : Sto} {e0 e1 e2 e3 e4 e6 e7 e8 e9 e13 : Option D} (v_squares : (List (Int × Int × Int))) (v_at : Int) (v_left : Int) (v_low : Int) (v_half : Int) (h : c_l_square_floor_4a_3b_0b_0a_1 v_squares v_at v_left v_low v_half) : NxP (b_l_square_floor_4a_3b_0b_0a_1 [e0, e1, e2, e3, e4, some (D.loc (st.length + 0)), e6, e7, e8, e9, some (cI v_at), some (cI v_left), some (cI v_low), e13, some (cI v_half)] (st ++ [SO.lst (v_squares.map (cP3 cI cI cI))])) ((fun (s : (List (Int × Int × Int))) (env' : FL.Env) (S' : Sto) => ∃ x14 : Option D, env' = [e0, e1, e2, e3, e4, some (D.loc (st.length + 0)), e6, e7, e8, e9, some (cI v_at), some (cI v_left), some (cI v_low), e13, x14] ∧ S' = st ++ [SO.lst (s.map (cP3 cI cI cI))]) (t_l_square_floor_4a_3b_0b_0a_1 v_squares v_at v_left v_low v_half)) :=
  nx_nx (put_M (c := (cP3 cI cI cI)) (xs := v_squares) (x := (v_left, v_low, v_half)) (i := 0) (ev_tup (ev_cons (a := cI v_left) (ev_v rfl) (ev_cons (a := cI v_low) (ev_v rfl) (ev_cons (a := cI v_half) (ev_v rfl) (ev_nil)))) rfl) (ev_v rfl) (ev_v rfl) rfl h.1) (w_l_square_floor_4a_3b_0b_0a_2 (st := st) (e0 := e0) (e1 := e1) (e2 := e2) (e3 := e3) (e4 := e4) (e6 := e6) (e7 := e7) (e8 := e8) (e9 := e9) (e10 := some (cI v_at)) (e13 := e13)  (setI v_squares v_at (v_left, v_low, v_half)) v_left v_low v_half h.2)
def t_l_square_floor_4a_3b_0b_0a (v_squares : (List (Int × Int × Int))) (v_at : Int) (v_left : Int) (v_low : Int) (v_size : Int) : (List (Int × Int × Int)) := t_l_square_floor_4a_3b_0b_0a_1 v_squares v_at v_left v_low (v_size / (2 : Int))
def c_l_square_floor_4a_3b_0b_0a (v_squares : (List (Int × Int × Int))) (v_at : Int) (v_left : Int) (v_low : Int) (v_size : Int) : Prop := c_l_square_floor_4a_3b_0b_0a_1 v_squares v_at v_left v_low (v_size / (2 : Int))
theorem w_l_square_floor_4a_3b_0b_0a {st : Sto} {e0 e1 e2 e3 e4 e6 e7 e8 e9 e14 : Option D} (v_squares : (List (Int × Int × Int))) (v_at : Int) (v_left : Int) (v_low : Int) (v_size : Int) (h : c_l_square_floor_4a_3b_0b_0a v_squares v_at v_left v_low v_size) : NxP (b_l_square_floor_4a_3b_0b_0a [e0, e1, e2, e3, e4, some (D.loc (st.length + 0)), e6, e7, e8, e9, some (cI v_at), some (cI v_left), some (cI v_low), some (cI v_size), e14] (st ++ [SO.lst (v_squares.map (cP3 cI cI cI))])) ((fun (s : (List (Int × Int × Int))) (env' : FL.Env) (S' : Sto) => ∃ x14 : Option D, env' = [e0, e1, e2, e3, e4, some (D.loc (st.length + 0)), e6, e7, e8, e9, some (cI v_at), some (cI v_left), some (cI v_low), some (cI v_size), x14] ∧ S' = st ++ [SO.lst (s.map (cP3 cI cI cI))]) (t_l_square_floor_4a_3b_0b_0a v_squares v_at v_left v_low v_size)) :=
  nx_nx (do_set (ev_op (a := cI v_size) (b := cI (2 : Int)) (ev_v rfl) (rfl) (div_k (by decide) (by decide)))) (w_l_square_floor_4a_3b_0b_0a_1 (st := st) (e0 := e0) (e1 := e1) (e2 := e2) (e3 := e3) (e4 := e4) (e6 := e6) (e7 := e7) (e8 := e8) (e9 := e9) (e13 := some (cI v_size))  v_squares v_at v_left v_low (v_size / (2 : Int)) h)
def t_l_square_floor_4a_3b_0b_0b (v_squares : (List (Int × Int × Int))) : (List (Int × Int × Int)) := (v_squares)
theorem w_l_square_floor_4a_3b_0b_0b {st : Sto} {e0 e1 e2 e3 e4 e6 e7 e8 e9 e10 e11 e12 e13 e14 : Option D} (v_squares : (List (Int × Int × Int))) : NxP (sNext [e0, e1, e2, e3, e4, some (D.loc (st.length + 0)), e6, e7, e8, e9, e10, e11, e12, e13, e14] (st ++ [SO.lst (v_squares.map (cP3 cI cI cI))])) ((fun (s : (List (Int × Int × Int))) (env' : FL.Env) (S' : Sto) => ∃ x14 : Option D, env' = [e0, e1, e2, e3, e4, some (D.loc (st.length + 0)), e6, e7, e8, e9, e10, e11, e12, e13, x14] ∧ S' = st ++ [SO.lst (s.map (cP3 cI cI cI))]) (t_l_square_floor_4a_3b_0b_0b v_squares)) :=
  nx_end ⟨_, rfl, rfl⟩
def t_l_square_floor_4a_3b_0b_1 (v_squares : (List (Int × Int × Int))) (v_high : Int) : ((List (Int × Int × Int)) × Int) := (v_squares, v_high)
theorem w_l_square_floor_4a_3b_0b_1 {st : Sto} {e0 e1 e2 e3 e4 e6 e8 e9 e10 e11 e12 e13 e14 : Option D} (v_squares : (List (Int × Int × Int))) (v_high : Int) : NxP (sNext [e0, e1, e2, e3, e4, some (D.loc (st.length + 0)), e6, some (cI v_high), e8, e9, e10, e11, e12, e13, e14] (st ++ [SO.lst (v_squares.map (cP3 cI cI cI))])) ((fun (s : ((List (Int × Int × Int)) × Int)) (env' : FL.Env) (S' : Sto) => ∃ x14 : Option D, env' = [e0, e1, e2, e3, e4, some (D.loc (st.length + 0)), e6, some (cI s.2), e8, e9, e10, e11, e12, e13, x14] ∧ S' = st ++ [SO.lst (s.1.map (cP3 cI cI cI))]) (t_l_square_floor_4a_3b_0b_1 v_squares v_high)) :=
  nx_end ⟨_, rfl, rfl⟩
def t_l_square_floor_4a_3b_0bq (v_most : Int) (v_squares : (List (Int × Int × Int))) (v_high : Int) (v_at : Int) (v_left : Int) (v_low : Int) (v_size : Int) (q : (List (Int × Int × Int))) : ((List (Int × Int × Int)) × Int) := t_l_square_floor_4a_3b_0b_1 q v_high
def t_l_square_floor_4a_3b_0b (v_most : Int) (v_squares : (List (Int × Int × Int))) (v_high : Int) (v_at : Int) (v_left : Int) (v_low : Int) (v_size : Int) : ((List (Int × Int × Int)) × Int) := t_l_square_floor_4a_3b_0bq v_most v_squares v_high v_at v_left v_low v_size (if (decide (((v_squares.length : Int) + (3 : Int)) ≤ v_most) && decide ((v_size % (2 : Int)) = (0 : Int))) = true then t_l_square_floor_4a_3b_0b_0a v_squares v_at v_left v_low v_size else t_l_square_floor_4a_3b_0b_0b v_squares)
def c_l_square_floor_4a_3b_0b (v_most : Int) (v_squares : (List (Int × Int × Int))) (v_high : Int) (v_at : Int) (v_left : Int) (v_low : Int) (v_size : Int) : Prop := ((decide (((v_squares.length : Int) + (3 : Int)) ≤ v_most) && decide ((v_size % (2 : Int)) = (0 : Int))) = true → c_l_square_floor_4a_3b_0b_0a v_squares v_at v_left v_low v_size)
theorem w_l_square_floor_4a_3b_0b {st : Sto} {e0 e1 e2 e4 e6 e8 e9 e14 : Option D} (v_most : Int) (v_squares : (List (Int × Int × Int))) (v_high : Int) (v_at : Int) (v_left : Int) (v_low : Int) (v_size : Int) (h : c_l_square_floor_4a_3b_0b v_most v_squares v_high v_at v_left v_low v_size) : NxP (b_l_square_floor_4a_3b_0b [e0, e1, e2, some (cI v_most), e4, some (D.loc (st.length + 0)), e6, some (cI v_high), e8, e9, some (cI v_at), some (cI v_left), some (cI v_low), some (cI v_size), e14] (st ++ [SO.lst (v_squares.map (cP3 cI cI cI))])) ((fun (s : ((List (Int × Int × Int)) × Int)) (env' : FL.Env) (S' : Sto) => ∃ x14 : Option D, env' = [e0, e1, e2, some (cI v_most), e4, some (D.loc (st.length + 0)), e6, some (cI s.2), e8, e9, some (cI v_at), some (cI v_left), some (cI v_low), some (cI v_size), x14] ∧ S' = st ++ [SO.lst (s.1.map (cP3 cI cI cI))]) (t_l_square_floor_4a_3b_0b v_most v_squares v_high v_at v_left v_low v_size)) :=
  nx_N (if_N (P := fun (s : (List (Int × Int × Int))) (env' : FL.Env) (S' : Sto) => ∃ x14 : Option D, env' = [e0, e1, e2, some (cI v_most), e4, some (D.loc (st.length + 0)), e6, some (cI v_high), e8, e9, some (cI v_at), some (cI v_left), some (cI v_low), some (cI v_size), x14] ∧ S' = st ++ [SO.lst (s.map (cP3 cI cI cI))]) (tt_and (tt_B (ev_op (a := cI ((v_squares.length : Int) + (3 : Int))) (b := cI v_most) (ev_op (a := cI (v_squares.length : Int)) (b := cI (3 : Int)) (ev_B (ev_cons (ev_v rfl) ev_nil) (len_c (c := (cP3 cI cI cI)) (sq_M (i := 0) rfl))) (rfl) rfl) (ev_v rfl) rfl)) (fun hg9 => tt_B (ev_op (a := cI (v_size % (2 : Int))) (b := cI (0 : Int)) (ev_op (a := cI v_size) (b := cI (2 : Int)) (ev_v rfl) (rfl) (mod_k (by decide))) (rfl) rfl))) (fun hc => w_l_square_floor_4a_3b_0b_0a (st := st) (e0 := e0) (e1 := e1) (e2 := e2) (e3 := some (cI v_most)) (e4 := e4) (e6 := e6) (e7 := some (cI v_high)) (e8 := e8) (e9 := e9) (e14 := e14)  v_squares v_at v_left v_low v_size (h hc)) (fun hc => w_l_square_floor_4a_3b_0b_0b (st := st) (e0 := e0) (e1 := e1) (e2 := e2) (e3 := some (cI v_most)) (e4 := e4) (e6 := e6) (e7 := some (cI v_high)) (e8 := e8) (e9 := e9) (e10 := some (cI v_at)) (e11 := some (cI v_left)) (e12 := some (cI v_low)) (e13 := some (cI v_size)) (e14 := e14)  v_squares)) (fun | _, _, ⟨x14, rfl, rfl⟩ => w_l_square_floor_4a_3b_0b_1 (st := st) (e0 := e0) (e1 := e1) (e2 := e2) (e3 := some (cI v_most)) (e4 := e4) (e6 := e6) (e8 := e8) (e9 := e9) (e10 := some (cI v_at)) (e11 := some (cI v_left)) (e12 := some (cI v_low)) (e13 := some (cI v_size)) (e14 := x14)  (if (decide (((v_squares.length : Int) + (3 : Int)) ≤ v_most) && decide ((v_size % (2 : Int)) = (0 : Int))) = true then t_l_square_floor_4a_3b_0b_0a v_squares v_at v_left v_low v_size else t_l_square_floor_4a_3b_0b_0b v_squares) v_high)
def t_l_square_floor_4a_3b_1 (v_squares : (List (Int × Int × Int))) (v_wide : Int) (v_high : Int) : ((List (Int × Int × Int)) × Int × Int) := (v_squares, v_wide, v_high)
theorem w_l_square_floor_4a_3b_1 {st : Sto} {e0 e1 e2 e3 e4 e8 e9 e10 e11 e12 e13 e14 : Option D} (v_squares : (List (Int × Int × Int))) (v_wide : Int) (v_high : Int) : NxP (sNext [e0, e1, e2, e3, e4, some (D.loc (st.length + 0)), some (cI v_wide), some (cI v_high), e8, e9, e10, e11, e12, e13, e14] (st ++ [SO.lst (v_squares.map (cP3 cI cI cI))])) ((fun (s : ((List (Int × Int × Int)) × Int × Int)) (env' : FL.Env) (S' : Sto) => ∃ x14 : Option D, env' = [e0, e1, e2, e3, e4, some (D.loc (st.length + 0)), some (cI s.2.1), some (cI s.2.2), e8, e9, e10, e11, e12, e13, x14] ∧ S' = st ++ [SO.lst (s.1.map (cP3 cI cI cI))]) (t_l_square_floor_4a_3b_1 v_squares v_wide v_high)) :=
  nx_end ⟨_, rfl, rfl⟩
def t_l_square_floor_4a_3bq (v_most : Int) (v_squares : (List (Int × Int × Int))) (v_wide : Int) (v_high : Int) (v_cell : Int) (v_at : Int) (v_left : Int) (v_low : Int) (v_size : Int) (q : ((List (Int × Int × Int)) × Int)) : ((List (Int × Int × Int)) × Int × Int) := t_l_square_floor_4a_3b_1 q.1 v_wide q.2
def t_l_square_floor_4a_3b (v_most : Int) (v_squares : (List (Int × Int × Int))) (v_wide : Int) (v_high : Int) (v_cell : Int) (v_at : Int) (v_left : Int) (v_low : Int) (v_size : Int) : ((List (Int × Int × Int)) × Int × Int) := t_l_square_floor_4a_3bq v_most v_squares v_wide v_high v_cell v_at v_left v_low v_size (if (decide ((v_cell % (3 : Int)) = (1 : Int)) && decide ((v_squares.length : Int) < v_most)) = true then t_l_square_floor_4a_3b_0a v_squares v_wide v_high else t_l_square_floor_4a_3b_0b v_most v_squares v_high v_at v_left v_low v_size)
def c_l_square_floor_4a_3b (v_most : Int) (v_squares : (List (Int × Int × Int))) (v_wide : Int) (v_high : Int) (v_cell : Int) (v_at : Int) (v_left : Int) (v_low : Int) (v_size : Int) : Prop := ((decide ((v_cell % (3 : Int)) = (1 : Int)) && decide ((v_squares.length : Int) < v_most)) = true → c_l_square_floor_4a_3b_0a v_squares v_wide v_high) ∧ ((decide ((v_cell % (3 : Int)) = (1 : Int)) && decide ((v_squares.length : Int) < v_most)) = false → c_l_square_floor_4a_3b_0b v_most v_squares v_high v_at v_left v_low v_size)
theorem w_l_square_floor_4a_3b {st : Sto} {e0 e1 e2 e4 e8 e14 : Option D} (v_most : Int) (v_squares : (List (Int × Int × Int))) (v_wide : Int) (v_high : Int) (v_cell : Int) (v_at : Int) (v_left : Int) (v_low : Int) (v_size : Int) (h : c_l_square_floor_4a_3b v_most v_squares v_wide v_high v_cell v_at v_left v_low v_size) : NxP (b_l_square_floor_4a_3b [e0, e1, e2, some (cI v_most), e4, some (D.loc (st.length + 0)), some (cI v_wide), some (cI v_high), e8, some (cI v_cell), some (cI v_at), some (cI v_left), some (cI v_low), some (cI v_size), e14] (st ++ [SO.lst (v_squares.map (cP3 cI cI cI))])) ((fun (s : ((List (Int × Int × Int)) × Int × Int)) (env' : FL.Env) (S' : Sto) => ∃ x14 : Option D, env' = [e0, e1, e2, some (cI v_most), e4, some (D.loc (st.length + 0)), some (cI s.2.1), some (cI s.2.2), e8, some (cI v_cell), some (cI v_at), some (cI v_left), some (cI v_low), some (cI v_size), x14] ∧ S' = st ++ [SO.lst (s.1.map (cP3 cI cI cI))]) (t_l_square_floor_4a_3b v_most v_squares v_wide v_high v_cell v_at v_left v_low v_size)) :=
  nx_N (if_N (P := fun (s : ((List (Int × Int × Int)) × Int)) (env' : FL.Env) (S' : Sto) => ∃ x14 : Option D, env' = [e0, e1, e2, some (cI v_most), e4, some (D.loc (st.length + 0)), some (cI v_wide), some (cI s.2), e8, some (cI v_cell), some (cI v_at), some (cI v_left), some (cI v_low), some (cI v_size), x14] ∧ S' = st ++ [SO.lst (s.1.map (cP3 cI cI cI))]) (tt_and (tt_B (ev_op (a := cI (v_cell % (3 : Int))) (b := cI (1 : Int)) (ev_op (a := cI v_cell) (b := cI (3 : Int)) (ev_v rfl) (rfl) (mod_k (by decide))) (rfl) rfl)) (fun hg8 => tt_B (ev_op (a := cI (v_squares.length : Int)) (b := cI v_most) (ev_B (ev_cons (ev_v rfl) ev_nil) (len_c (c := (cP3 cI cI cI)) (sq_M (i := 0) rfl))) (ev_v rfl) rfl))) (fun hc => w_l_square_floor_4a_3b_0a (st := st) (e0 := e0) (e1 := e1) (e2 := e2) (e3 := some (cI v_most)) (e4 := e4) (e8 := e8) (e9 := some (cI v_cell)) (e10 := some (cI v_at)) (e11 := some (cI v_left)) (e12 := some (cI v_low)) (e13 := some (cI v_size)) (e14 := e14)  v_squares v_wide v_high (h.1 hc)) (fun hc => w_l_square_floor_4a_3b_0b (st := st) (e0 := e0) (e1 := e1) (e2 := e2) (e4 := e4) (e6 := some (cI v_wide)) (e8 := e8) (e9 := some (cI v_cell)) (e14 := e14)  v_most v_squares v_high v_at v_left v_low v_size (h.2 hc))) (fun | _, _, ⟨x14, rfl, rfl⟩ => w_l_square_floor_4a_3b_1 (st := st) (e0 := e0) (e1 := e1) (e2 := e2) (e3 := some (cI v_most)) (e4 := e4) (e8 := e8) (e9 := some (cI v_cell)) (e10 := some (cI v_at)) (e11 := some (cI v_left)) (e12 := some (cI v_low)) (e13 := some (cI v_size)) (e14 := x14)  ((if (decide ((v_cell % (3 : Int)) = (1 : Int)) && decide ((v_squares.length : Int) < v_most)) = true then t_l_square_floor_4a_3b_0a v_squares v_wide v_high else t_l_square_floor_4a_3b_0b v_most v_squares v_high v_at v_left v_low v_size).1) v_wide ((if (decide ((v_cell % (3 : Int)) = (1 : Int)) && decide ((v_squares.length : Int) < v_most)) = true then t_l_square_floor_4a_3b_0a v_squares v_wide v_high else t_l_square_floor_4a_3b_0b v_most v_squares v_high v_at v_left v_low v_size).2))
def t_l_square_floor_4a_4 (v_squares : (List (Int × Int × Int))) (v_wide : Int) (v_high : Int) : ((List (Int × Int × Int)) × Int × Int) := (v_squares, v_wide, v_high)
theorem w_l_square_floor_4a_4 {st : Sto} {e0 e1 e2 e3 e4 e8 e9 e10 e11 e12 e13 e14 : Option D} (v_squares : (List (Int × Int × Int))) (v_wide : Int) (v_high : Int) : NxP (sNext [e0, e1, e2, e3, e4, some (D.loc (st.length + 0)), some (cI v_wide), some (cI v_high), e8, e9, e10, e11, e12, e13, e14] (st ++ [SO.lst (v_squares.map (cP3 cI cI cI))])) ((fun (s : ((List (Int × Int × Int)) × Int × Int)) (env' : FL.Env) (S' : Sto) => ∃ x9 x10 x11 x12 x13 x14 : Option D, env' = [e0, e1, e2, e3, e4, some (D.loc (st.length + 0)), some (cI s.2.1), some (cI s.2.2), e8, x9, x10, x11, x12, x13, x14] ∧ S' = st ++ [SO.lst (s.1.map (cP3 cI cI cI))]) (t_l_square_floor_4a_4 v_squares v_wide v_high)) :=
  nx_end ⟨_, _, _, _, _, _, rfl, rfl⟩
def t_l_square_floor_4a_3q (v_most : Int) (v_squares : (List (Int × Int × Int))) (v_wide : Int) (v_high : Int) (v_cell : Int) (v_at : Int) (v_left : Int) (v_low : Int) (v_size : Int) (q : ((List (Int × Int × Int)) × Int × Int)) : ((List (Int × Int × Int)) × Int × Int) := t_l_square_floor_4a_4 q.1 q.2.1 q.2.2
def t_l_square_floor_4a_3 (v_most : Int) (v_squares : (List (Int × Int × Int))) (v_wide : Int) (v_high : Int) (v_cell : Int) (v_at : Int) (v_left : Int) (v_low : Int) (v_size : Int) : ((List (Int × Int × Int)) × Int × Int) := t_l_square_floor_4a_3q v_most v_squares v_wide v_high v_cell v_at v_left v_low v_size (if (decide ((v_cell % (3 : Int)) = (0 : Int)) && decide ((v_squares.length : Int) < v_most)) = true then t_l_square_floor_4a_3a v_squares v_wide v_high else t_l_square_floor_4a_3b v_most v_squares v_wide v_high v_cell v_at v_left v_low v_size)
def c_l_square_floor_4a_3 (v_most : Int) (v_squares : (List (Int × Int × Int))) (v_wide : Int) (v_high : Int) (v_cell : Int) (v_at : Int) (v_left : Int) (v_low : Int) (v_size : Int) : Prop := ((decide ((v_cell % (3 : Int)) = (0 : Int)) && decide ((v_squares.length : Int) < v_most)) = true → c_l_square_floor_4a_3a v_squares v_wide v_high) ∧ ((decide ((v_cell % (3 : Int)) = (0 : Int)) && decide ((v_squares.length : Int) < v_most)) = false → c_l_square_floor_4a_3b v_most v_squares v_wide v_high v_cell v_at v_left v_low v_size)
theorem w_l_square_floor_4a_3 {st : Sto} {e0 e1 e2 e4 e8 e14 : Option D} (v_most : Int) (v_squares : (List (Int × Int × Int))) (v_wide : Int) (v_high : Int) (v_cell : Int) (v_at : Int) (v_left : Int) (v_low : Int) (v_size : Int) (h : c_l_square_floor_4a_3 v_most v_squares v_wide v_high v_cell v_at v_left v_low v_size) : NxP (b_l_square_floor_4a_3 [e0, e1, e2, some (cI v_most), e4, some (D.loc (st.length + 0)), some (cI v_wide), some (cI v_high), e8, some (cI v_cell), some (cI v_at), some (cI v_left), some (cI v_low), some (cI v_size), e14] (st ++ [SO.lst (v_squares.map (cP3 cI cI cI))])) ((fun (s : ((List (Int × Int × Int)) × Int × Int)) (env' : FL.Env) (S' : Sto) => ∃ x9 x10 x11 x12 x13 x14 : Option D, env' = [e0, e1, e2, some (cI v_most), e4, some (D.loc (st.length + 0)), some (cI s.2.1), some (cI s.2.2), e8, x9, x10, x11, x12, x13, x14] ∧ S' = st ++ [SO.lst (s.1.map (cP3 cI cI cI))]) (t_l_square_floor_4a_3 v_most v_squares v_wide v_high v_cell v_at v_left v_low v_size)) :=
  nx_N (if_N (P := fun (s : ((List (Int × Int × Int)) × Int × Int)) (env' : FL.Env) (S' : Sto) => ∃ x14 : Option D, env' = [e0, e1, e2, some (cI v_most), e4, some (D.loc (st.length + 0)), some (cI s.2.1), some (cI s.2.2), e8, some (cI v_cell), some (cI v_at), some (cI v_left), some (cI v_low), some (cI v_size), x14] ∧ S' = st ++ [SO.lst (s.1.map (cP3 cI cI cI))]) (tt_and (tt_B (ev_op (a := cI (v_cell % (3 : Int))) (b := cI (0 : Int)) (ev_op (a := cI v_cell) (b := cI (3 : Int)) (ev_v rfl) (rfl) (mod_k (by decide))) (rfl) rfl)) (fun hg7 => tt_B (ev_op (a := cI (v_squares.length : Int)) (b := cI v_most) (ev_B (ev_cons (ev_v rfl) ev_nil) (len_c (c := (cP3 cI cI cI)) (sq_M (i := 0) rfl))) (ev_v rfl) rfl))) (fun hc => w_l_square_floor_4a_3a (st := st) (e0 := e0) (e1 := e1) (e2 := e2) (e3 := some (cI v_most)) (e4 := e4) (e8 := e8) (e9 := some (cI v_cell)) (e10 := some (cI v_at)) (e11 := some (cI v_left)) (e12 := some (cI v_low)) (e13 := some (cI v_size)) (e14 := e14)  v_squares v_wide v_high (h.1 hc)) (fun hc => w_l_square_floor_4a_3b (st := st) (e0 := e0) (e1 := e1) (e2 := e2) (e4 := e4) (e8 := e8) (e14 := e14)  v_most v_squares v_wide v_high v_cell v_at v_left v_low v_size (h.2 hc))) (fun | _, _, ⟨x14, rfl, rfl⟩ => w_l_square_floor_4a_4 (st := st) (e0 := e0) (e1 := e1) (e2 := e2) (e3 := some (cI v_most)) (e4 := e4) (e8 := e8) (e9 := some (cI v_cell)) (e10 := some (cI v_at)) (e11 := some (cI v_left)) (e12 := some (cI v_low)) (e13 := some (cI v_size)) (e14 := x14)  ((if (decide ((v_cell % (3 : Int)) = (0 : Int)) && decide ((v_squares.length : Int) < v_most)) = true then t_l_square_floor_4a_3a v_squares v_wide v_high else t_l_square_floor_4a_3b v_most v_squares v_wide v_high v_cell v_at v_left v_low v_size).1) ((if (decide ((v_cell % (3 : Int)) = (0 : Int)) && decide ((v_squares.length : Int) < v_most)) = true then t_l_square_floor_4a_3a v_squares v_wide v_high else t_l_square_floor_4a_3b v_most v_squares v_wide v_high v_cell v_at v_left v_low v_size).2.1) ((if (decide ((v_cell % (3 : Int)) = (0 : Int)) && decide ((v_squares.length : Int) < v_most)) = true then t_l_square_floor_4a_3a v_squares v_wide v_high else t_l_square_floor_4a_3b v_most v_squares v_wide v_high v_cell v_at v_left v_low v_size).2.2))
def t_l_square_floor_4a_2q (v_most : Int) (v_squares : (List (Int × Int × Int))) (v_wide : Int) (v_high : Int) (v_cell : Int) (v_at : Int) (q : (Int × Int × Int)) : ((List (Int × Int × Int)) × Int × Int) := t_l_square_floor_4a_3 v_most v_squares v_wide v_high v_cell v_at q.1 q.2.1 q.2.2
def c_l_square_floor_4a_2q (v_most : Int) (v_squares : (List (Int × Int × Int))) (v_wide : Int) (v_high : Int) (v_cell : Int) (v_at : Int) (q : (Int × Int × Int)) : Prop := c_l_square_floor_4a_3 v_most v_squares v_wide v_high v_cell v_at q.1 q.2.1 q.2.2
def t_l_square_floor_4a_2 (v_most : Int) (v_squares : (List (Int × Int × Int))) (v_wide : Int) (v_high : Int) (v_cell : Int) (v_at : Int) : ((List (Int × Int × Int)) × Int × Int) := t_l_square_floor_4a_2q v_most v_squares v_wide v_high v_cell v_at (getI v_squares v_at)
def c_l_square_floor_4a_2 (v_most : Int) (v_squares : (List (Int × Int × Int))) (v_wide : Int) (v_high : Int) (v_cell : Int) (v_at : Int) : Prop := IxOk v_squares.length v_at ∧ c_l_square_floor_4a_2q v_most v_squares v_wide v_high v_cell v_at (getI v_squares v_at)
theorem w_l_square_floor_4a_2 {st : Sto} {e0 e1 e2 e4 e8 e11 e12 e13 e14 : Option D} (v_most : Int) (v_squares : (List (Int × Int × Int))) (v_wide : Int) (v_high : Int) (v_cell : Int) (v_at : Int) (h : c_l_square_floor_4a_2 v_most v_squares v_wide v_high v_cell v_at) : NxP (b_l_square_floor_4a_2 [e0, e1, e2, some (cI v_most), e4, some (D.loc (st.length + 0)), some (cI v_wide), some (cI v_high), e8, some (cI v_cell), some (cI v_at), e11, e12, e13, e14] (st ++ [SO.lst (v_squares.map (cP3 cI cI cI))])) ((fun (s : ((List (Int × Int × Int)) × Int × Int)) (env' : FL.Env) (S' : Sto) => ∃ x9 x10 x11 x12 x13 x14 : Option D, env' = [e0, e1, e2, some (cI v_most), e4, some (D.loc (st.length + 0)), some (cI s.2.1), some (cI s.2.2), e8, x9, x10, x11, x12, x13, x14] ∧ S' = st ++ [SO.lst (s.1.map (cP3 cI cI cI))]) (t_l_square_floor_4a_2 v_most v_squares v_wide v_high v_cell v_at)) :=
  nx_nx (do_asg (env' := [e0, e1, e2, some (cI v_most), e4, some (D.loc (st.length + 0)), some (cI v_wide), some (cI v_high), e8, some (cI v_cell), some (cI v_at), some (cI (getI v_squares v_at).1), some (cI (getI v_squares v_at).2.1), some (cI (getI v_squares v_at).2.2), e14]) (ev_op (ev_v rfl) (ev_v rfl) (ix_c (c := (cP3 cI cI cI)) (sq_M (i := 0) rfl) h.1)) rfl) (w_l_square_floor_4a_3 (st := st) (e0 := e0) (e1 := e1) (e2 := e2) (e4 := e4) (e8 := e8) (e14 := e14)  v_most v_squares v_wide v_high v_cell v_at ((getI v_squares v_at).1) ((getI v_squares v_at).2.1) ((getI v_squares v_at).2.2) h.2)
def t_l_square_floor_4a_1 (v_most : Int) (v_squares : (List (Int × Int × Int))) (v_wide : Int) (v_high : Int) (v_cell : Int) : ((List (Int × Int × Int)) × Int × Int) := t_l_square_floor_4a_2 v_most v_squares v_wide v_high v_cell (Int.fmod (v_cell / (3 : Int)) (v_squares.length : Int))
def c_l_square_floor_4a_1 (v_most : Int) (v_squares : (List (Int × Int × Int))) (v_wide : Int) (v_high : Int) (v_cell : Int) : Prop := (v_squares.length : Int) ≠ 0 ∧ c_l_square_floor_4a_2 v_most v_squares v_wide v_high v_cell (Int.fmod (v_cell / (3 : Int)) (v_squares.length : Int))
theorem w_l_square_floor_4a_1 {st : Sto} {e0 e1 e2 e4 e8 e10 e11 e12 e13 e14 : Option D} (v_most : Int) (v_squares : (List (Int × Int × Int))) (v_wide : Int) (v_high : Int) (v_cell : Int) (h : c_l_square_floor_4a_1 v_most v_squares v_wide v_high v_cell) : NxP (b_l_square_floor_4a_1 [e0, e1, e2, some (cI v_most), e4, some (D.loc (st.length + 0)), some (cI v_wide), some (cI v_high), e8, some (cI v_cell), e10, e11, e12, e13, e14] (st ++ [SO.lst (v_squares.map (cP3 cI cI cI))])) ((fun (s : ((List (Int × Int × Int)) × Int × Int)) (env' : FL.Env) (S' : Sto) => ∃ x9 x10 x11 x12 x13 x14 : Option D, env' = [e0, e1, e2, some (cI v_most), e4, some (D.loc (st.length + 0)), some (cI s.2.1), some (cI s.2.2), e8, x9, x10, x11, x12, x13, x14] ∧ S' = st ++ [SO.lst (s.1.map (cP3 cI cI cI))]) (t_l_square_floor_4a_1 v_most v_squares v_wide v_high v_cell)) :=
  nx_nx (do_set (ev_op (a := cI (v_cell / (3 : Int))) (b := cI (v_squares.length : Int)) (ev_op (a := cI v_cell) (b := cI (3 : Int)) (ev_v rfl) (rfl) (div_k (by decide) (by decide))) (ev_B (ev_cons (ev_v rfl) ev_nil) (len_c (c := (cP3 cI cI cI)) (sq_M (i := 0) rfl))) (mod_c h.1))) (w_l_square_floor_4a_2 (st := st) (e0 := e0) (e1 := e1) (e2 := e2) (e4 := e4) (e8 := e8) (e11 := e11) (e12 := e12) (e13 := e13) (e14 := e14)  v_most v_squares v_wide v_high v_cell (Int.fmod (v_cell / (3 : Int)) (v_squares.length : Int)) h.2)
def t_l_square_floor_4a (v_script : (List Int)) (v_most : Int) (v_squares : (List (Int × Int × Int))) (v_wide : Int) (v_high : Int) (v_k : Int) : ((List (Int × Int × Int)) × Int × Int) := t_l_square_floor_4a_1 v_most v_squares v_wide v_high (T_l_cell_at v_script v_k)
def c_l_square_floor_4a (v_script : (List Int)) (v_most : Int) (v_squares : (List (Int × Int × Int))) (v_wide : Int) (v_high : Int) (v_k : Int) : Prop := C_l_cell_at v_script v_k ∧ c_l_square_floor_4a_1 v_most v_squares v_wide v_high (T_l_cell_at v_script v_k)
theorem w_l_square_floor_4a {st : Sto} {e1 e2 e4 e9 e10 e11 e12 e13 e14 : Option D} (v_script : (List Int)) (v_most : Int) (v_squares : (List (Int × Int × Int))) (v_wide : Int) (v_high : Int) (v_k : Int) (h : c_l_square_floor_4a v_script v_most v_squares v_wide v_high v_k) : NxP (b_l_square_floor_4a [some (cZ v_script), e1, e2, some (cI v_most), e4, some (D.loc (st.length + 0)), some (cI v_wide), some (cI v_high), some (cI v_k), e9, e10, e11, e12, e13, e14] (st ++ [SO.lst (v_squares.map (cP3 cI cI cI))])) ((fun (s : ((List (Int × Int × Int)) × Int × Int)) (env' : FL.Env) (S' : Sto) => ∃ x9 x10 x11 x12 x13 x14 : Option D, env' = [some (cZ v_script), e1, e2, some (cI v_most), e4, some (D.loc (st.length + 0)), some (cI s.2.1), some (cI s.2.2), some (cI v_k), x9, x10, x11, x12, x13, x14] ∧ S' = st ++ [SO.lst (s.1.map (cP3 cI cI cI))]) (t_l_square_floor_4a v_script v_most v_squares v_wide v_high v_k)) :=
  nx_nx (do_set (ev_call (ev_cons (a := cZ v_script) (ev_v rfl) (ev_cons (a := cI v_k) (ev_v rfl) (ev_nil))) rfl (f_l_cell_at v_script v_k h.1))) (w_l_square_floor_4a_1 (st := st) (e0 := some (cZ v_script)) (e1 := e1) (e2 := e2) (e4 := e4) (e8 := some (cI v_k)) (e10 := e10) (e11 := e11) (e12 := e12) (e13 := e13) (e14 := e14)  v_most v_squares v_wide v_high (T_l_cell_at v_script v_k) h.2)
def t_l_square_floor_5 (v_squares : (List (Int × Int × Int))) (v_wide : Int) (v_high : Int) : ((List (Int × Int × Int)) × Int × Int) := (v_squares, v_wide, v_high)
theorem w_l_square_floor_5 {st : Sto} {e0 e1 e2 e3 e4 e8 e9 e10 e11 e12 e13 e14 : Option D} (v_squares : (List (Int × Int × Int))) (v_wide : Int) (v_high : Int) : RtP st (b_l_square_floor_5 [e0, e1, e2, e3, e4, some (D.loc (st.length + 0)), some (cI v_wide), some (cI v_high), e8, e9, e10, e11, e12, e13, e14] (st ++ [SO.lst (v_squares.map (cP3 cI cI cI))])) ((cP3 (cL (cP3 cI cI cI)) cI cI) (t_l_square_floor_5 v_squares v_wide v_high)) :=
  rt_ret (ev_tup (ev_cons (ev_v rfl) (ev_cons (ev_v rfl) (ev_cons (ev_v rfl) (ev_nil)))) rfl) (fz_tup (fz_cons (fz_M (fl_P3 fl_I fl_I fl_I) (i := 0) rfl) (fz_cons (fz_c' (k := 15) fl_I (by decide) (by decide)) (fz_cons (fz_c' (k := 15) fl_I (by decide) (by decide)) (fz_nil)))))
def t_l_square_floor_4q (v_script : (List Int)) (v_first : Int) (v_last : Int) (v_most : Int) (v_squares : (List (Int × Int × Int))) (v_wide : Int) (v_high : Int) (q : ((List (Int × Int × Int)) × Int × Int)) : ((List (Int × Int × Int)) × Int × Int) := t_l_square_floor_5 q.1 q.2.1 q.2.2
def t_l_square_floor_4 (v_script : (List Int)) (v_first : Int) (v_last : Int) (v_most : Int) (v_squares : (List (Int × Int × Int))) (v_wide : Int) (v_high : Int) : ((List (Int × Int × Int)) × Int × Int) := t_l_square_floor_4q v_script v_first v_last v_most v_squares v_wide v_high ((rngI (v_first + (1 : Int)) (min (v_script.length : Int) v_last)).foldl (fun (s : ((List (Int × Int × Int)) × Int × Int)) (x : Int) => t_l_square_floor_4a v_script v_most s.1 s.2.1 s.2.2 x) (v_squares, v_wide, v_high))
def c_l_square_floor_4 (v_script : (List Int)) (v_first : Int) (v_last : Int) (v_most : Int) (v_squares : (List (Int × Int × Int))) (v_wide : Int) (v_high : Int) : Prop := smallI (v_first + (1 : Int)) ∧ smallI (min (v_script.length : Int) v_last) ∧ (cFold (fun (s : ((List (Int × Int × Int)) × Int × Int)) (x : Int) => c_l_square_floor_4a v_script v_most s.1 s.2.1 s.2.2 x) (fun (s : ((List (Int × Int × Int)) × Int × Int)) (x : Int) => t_l_square_floor_4a v_script v_most s.1 s.2.1 s.2.2 x) (rngI (v_first + (1 : Int)) (min (v_script.length : Int) v_last)) (v_squares, v_wide, v_high))
theorem w_l_square_floor_4 {st : Sto} {e4 e8 e9 e10 e11 e12 e13 e14 : Option D} (v_script : (List Int)) (v_first : Int) (v_last : Int) (v_most : Int) (v_squares : (List (Int × Int × Int))) (v_wide : Int) (v_high : Int) (h : c_l_square_floor_4 v_script v_first v_last v_most v_squares v_wide v_high) : RtP st (b_l_square_floor_4 [some (cZ v_script), some (cI v_first), some (cI v_last), some (cI v_most), e4, some (D.loc (st.length + 0)), some (cI v_wide), some (cI v_high), e8, e9, e10, e11, e12, e13, e14] (st ++ [SO.lst (v_squares.map (cP3 cI cI cI))])) ((cP3 (cL (cP3 cI cI cI)) cI cI) (t_l_square_floor_4 v_script v_first v_last v_most v_squares v_wide v_high)) :=
  rt_nx (do_for (E := (fun (s : ((List (Int × Int × Int)) × Int × Int)) => [some (cZ v_script), some (cI v_first), some (cI v_last), some (cI v_most), e4, some (D.loc (st.length + 0)), some (cI s.2.1), some (cI s.2.2), none, none, none, none, none, none, none])) (O := (fun (s : ((List (Int × Int × Int)) × Int × Int)) => [SO.lst (s.1.map (cP3 cI cI cI))])) (cx := cI) (c := (fun (s : ((List (Int × Int × Int)) × Int × Int)) (x : Int) => c_l_square_floor_4a v_script v_most s.1 s.2.1 s.2.2 x)) (t := (fun (s : ((List (Int × Int × Int)) × Int × Int)) (x : Int) => t_l_square_floor_4a v_script v_most s.1 s.2.1 s.2.2 x)) (s := (v_squares, v_wide, v_high)) (it_rng2 (ev_cons (ev_op (a := cI v_first) (b := cI (1 : Int)) (ev_v rfl) (rfl) rfl) (ev_cons (ev_B (ev_cons (a := cI (v_script.length : Int)) (ev_B (ev_cons (ev_v rfl) ev_nil) (len_c (c := cI) (sq_Z (xs := v_script)))) (ev_cons (a := cI v_last) (ev_v rfl) ev_nil)) minC2_c) ev_nil)) h.1 h.2.1) rfl (fun _ => rfl) (fun _ _ => rfl) (fun s x hc => ⟨[some (cZ v_script), some (cI v_first), some (cI v_last), some (cI v_most), e4, some (D.loc (st.length + 0)), some (cI s.2.1), some (cI s.2.2), some (cI x), none, none, none, none, none, none], rfl, NxP.mono (w_l_square_floor_4a (st := st) (e1 := some (cI v_first)) (e2 := some (cI v_last)) (e4 := e4) (e9 := none) (e10 := none) (e11 := none) (e12 := none) (e13 := none) (e14 := none)  v_script v_most s.1 s.2.1 s.2.2 x hc) (fun | _, _, ⟨_, _, _, _, _, _, rfl, rfl⟩ => ⟨rfl, rfl⟩)⟩) h.2.2) (w_l_square_floor_5 (st := st) (e0 := some (cZ v_script)) (e1 := some (cI v_first)) (e2 := some (cI v_last)) (e3 := some (cI v_most)) (e4 := e4) (e8 := none) (e9 := none) (e10 := none) (e11 := none) (e12 := none) (e13 := none) (e14 := none)  (((rngI (v_first + (1 : Int)) (min (v_script.length : Int) v_last)).foldl (fun (s : ((List (Int × Int × Int)) × Int × Int)) (x : Int) => t_l_square_floor_4a v_script v_most s.1 s.2.1 s.2.2 x) (v_squares, v_wide, v_high)).1) (((rngI (v_first + (1 : Int)) (min (v_script.length : Int) v_last)).foldl (fun (s : ((List (Int × Int × Int)) × Int × Int)) (x : Int) => t_l_square_floor_4a v_script v_most s.1 s.2.1 s.2.2 x) (v_squares, v_wide, v_high)).2.1) (((rngI (v_first + (1 : Int)) (min (v_script.length : Int) v_last)).foldl (fun (s : ((List (Int × Int × Int)) × Int × Int)) (x : Int) => t_l_square_floor_4a v_script v_most s.1 s.2.1 s.2.2 x) (v_squares, v_wide, v_high)).2.2))
def t_l_square_floor_3 (v_script : (List Int)) (v_first : Int) (v_last : Int) (v_most : Int) (v_side : Int) (v_squares : (List (Int × Int × Int))) (v_wide : Int) : ((List (Int × Int × Int)) × Int × Int) := t_l_square_floor_4 v_script v_first v_last v_most v_squares v_wide v_side
def c_l_square_floor_3 (v_script : (List Int)) (v_first : Int) (v_last : Int) (v_most : Int) (v_side : Int) (v_squares : (List (Int × Int × Int))) (v_wide : Int) : Prop := c_l_square_floor_4 v_script v_first v_last v_most v_squares v_wide v_side
theorem w_l_square_floor_3 {st : Sto} {e7 e8 e9 e10 e11 e12 e13 e14 : Option D} (v_script : (List Int)) (v_first : Int) (v_last : Int) (v_most : Int) (v_side : Int) (v_squares : (List (Int × Int × Int))) (v_wide : Int) (h : c_l_square_floor_3 v_script v_first v_last v_most v_side v_squares v_wide) : RtP st (b_l_square_floor_3 [some (cZ v_script), some (cI v_first), some (cI v_last), some (cI v_most), some (cI v_side), some (D.loc (st.length + 0)), some (cI v_wide), e7, e8, e9, e10, e11, e12, e13, e14] (st ++ [SO.lst (v_squares.map (cP3 cI cI cI))])) ((cP3 (cL (cP3 cI cI cI)) cI cI) (t_l_square_floor_3 v_script v_first v_last v_most v_side v_squares v_wide)) :=
  rt_nx (do_set (ev_v rfl)) (w_l_square_floor_4 (st := st) (e4 := some (cI v_side)) (e8 := e8) (e9 := e9) (e10 := e10) (e11 := e11) (e12 := e12) (e13 := e13) (e14 := e14)  v_script v_first v_last v_most v_squares v_wide v_side h)
def t_l_square_floor_2 (v_script : (List Int)) (v_first : Int) (v_last : Int) (v_most : Int) (v_side : Int) (v_squares : (List (Int × Int × Int))) : ((List (Int × Int × Int)) × Int × Int) := t_l_square_floor_3 v_script v_first v_last v_most v_side v_squares v_side
def c_l_square_floor_2 (v_script : (List Int)) (v_first : Int) (v_last : Int) (v_most : Int) (v_side : Int) (v_squares : (List (Int × Int × Int))) : Prop := c_l_square_floor_3 v_script v_first v_last v_most v_side v_squares v_side
theorem w_l_square_floor_2 {st : Sto} {e6 e7 e8 e9 e10 e11 e12 e13 e14 : Option D} (v_script : (List Int)) (v_first : Int) (v_last : Int) (v_most : Int) (v_side : Int) (v_squares : (List (Int × Int × Int))) (h : c_l_square_floor_2 v_script v_first v_last v_most v_side v_squares) : RtP st (b_l_square_floor_2 [some (cZ v_script), some (cI v_first), some (cI v_last), some (cI v_most), some (cI v_side), some (D.loc (st.length + 0)), e6, e7, e8, e9, e10, e11, e12, e13, e14] (st ++ [SO.lst (v_squares.map (cP3 cI cI cI))])) ((cP3 (cL (cP3 cI cI cI)) cI cI) (t_l_square_floor_2 v_script v_first v_last v_most v_side v_squares)) :=
  rt_nx (do_set (ev_v rfl)) (w_l_square_floor_3 (st := st) (e7 := e7) (e8 := e8) (e9 := e9) (e10 := e10) (e11 := e11) (e12 := e12) (e13 := e13) (e14 := e14)  v_script v_first v_last v_most v_side v_squares v_side h)
def t_l_square_floor_1 (v_script : (List Int)) (v_first : Int) (v_last : Int) (v_most : Int) (v_side : Int) : ((List (Int × Int × Int)) × Int × Int) := t_l_square_floor_2 v_script v_first v_last v_most v_side [((0 : Int), (0 : Int), v_side)]
def c_l_square_floor_1 (v_script : (List Int)) (v_first : Int) (v_last : Int) (v_most : Int) (v_side : Int) : Prop := c_l_square_floor_2 v_script v_first v_last v_most v_side [((0 : Int), (0 : Int), v_side)]
theorem w_l_square_floor_1 {st : Sto} {e5 e6 e7 e8 e9 e10 e11 e12 e13 e14 : Option D} (v_script : (List Int)) (v_first : Int) (v_last : Int) (v_most : Int) (v_side : Int) (h : c_l_square_floor_1 v_script v_first v_last v_most v_side) : RtP st (b_l_square_floor_1 [some (cZ v_script), some (cI v_first), some (cI v_last), some (cI v_most), some (cI v_side), e5, e6, e7, e8, e9, e10, e11, e12, e13, e14] (st ++ [])) ((cP3 (cL (cP3 cI cI cI)) cI cI) (t_l_square_floor_1 v_script v_first v_last v_most v_side)) :=
  rt_nx (do_set (ev_new (i := 0) (ev_lst (ev_cons (a := (cP3 cI cI cI) ((0 : Int), (0 : Int), v_side)) (ev_tup (ev_cons (a := cI (0 : Int)) (rfl) (ev_cons (a := cI (0 : Int)) (rfl) (ev_cons (a := cI v_side) (ev_v rfl) (ev_nil)))) rfl) (ev_nil)) rfl) rfl)) (w_l_square_floor_2 (st := st) (e6 := e6) (e7 := e7) (e8 := e8) (e9 := e9) (e10 := e10) (e11 := e11) (e12 := e12) (e13 := e13) (e14 := e14)  v_script v_first v_last v_most v_side [((0 : Int), (0 : Int), v_side)] h)
def t_l_square_floor (v_script : (List Int)) (v_first : Int) (v_last : Int) (v_most : Int) : ((List (Int × Int × Int)) × Int × Int) := t_l_square_floor_1 v_script v_first v_last v_most ((1 : Int) + ((T_l_cell_at v_script v_first) % (60 : Int)))
def c_l_square_floor (v_script : (List Int)) (v_first : Int) (v_last : Int) (v_most : Int) : Prop := C_l_cell_at v_script v_first ∧ c_l_square_floor_1 v_script v_first v_last v_most ((1 : Int) + ((T_l_cell_at v_script v_first) % (60 : Int)))
theorem w_l_square_floor {st : Sto} {e4 e5 e6 e7 e8 e9 e10 e11 e12 e13 e14 : Option D} (v_script : (List Int)) (v_first : Int) (v_last : Int) (v_most : Int) (h : c_l_square_floor v_script v_first v_last v_most) : RtP st (b_l_square_floor [some (cZ v_script), some (cI v_first), some (cI v_last), some (cI v_most), e4, e5, e6, e7, e8, e9, e10, e11, e12, e13, e14] (st ++ [])) ((cP3 (cL (cP3 cI cI cI)) cI cI) (t_l_square_floor v_script v_first v_last v_most)) :=
  rt_nx (do_set (ev_op (a := cI (1 : Int)) (b := cI ((T_l_cell_at v_script v_first) % (60 : Int))) (rfl) (ev_op (a := cI (T_l_cell_at v_script v_first)) (b := cI (60 : Int)) (ev_call (ev_cons (a := cZ v_script) (ev_v rfl) (ev_cons (a := cI v_first) (ev_v rfl) (ev_nil))) rfl (f_l_cell_at v_script v_first h.1)) (rfl) (mod_k (by decide))) rfl)) (w_l_square_floor_1 (st := st) (e5 := e5) (e6 := e6) (e7 := e7) (e8 := e8) (e9 := e9) (e10 := e10) (e11 := e11) (e12 := e12) (e13 := e13) (e14 := e14)  v_script v_first v_last v_most ((1 : Int) + ((T_l_cell_at v_script v_first) % (60 : Int))) h.2)
def T_l_square_floor (v_script : (List Int)) (v_first : Int) (v_last : Int) (v_most : Int) : ((List (Int × Int × Int)) × Int × Int) := t_l_square_floor v_script v_first v_last v_most
def C_l_square_floor (v_script : (List Int)) (v_first : Int) (v_last : Int) (v_most : Int) : Prop := c_l_square_floor v_script v_first v_last v_most
theorem f_l_square_floor {st : Sto} (v_script : (List Int)) (v_first : Int) (v_last : Int) (v_most : Int) (h : C_l_square_floor v_script v_first v_last v_most) : m_l_square_floor [cZ v_script, cI v_first, cI v_last, cI v_most] st = .ok ((cP3 (cL (cP3 cI cI cI)) cI cI) (T_l_square_floor v_script v_first v_last v_most)) st :=
  RtP.enter (b := b_l_square_floor) (env := [some (cZ v_script), some (cI v_first), some (cI v_last), some (cI v_most), none, none, none, none, none, none, none, none, none, none, none]) (w_l_square_floor (st := st) (e4 := none) (e5 := none) (e6 := none) (e7 := none) (e8 := none) (e9 := none) (e10 := none) (e11 := none) (e12 := none) (e13 := none) (e14 := none)  v_script v_first v_last v_most h)
def t_l_whole_floor_1 (v_wide : Int) (v_high : Int) (v_rectangles : (List ((Int × Int) × (Int × Int) × (Int × Int) × (Int × Int)))) : ((Int × Int) × (Int × Int) × (List ((Int × Int) × (Int × Int) × (Int × Int) × (Int × Int)))) := ((v_wide, (1 : Int)), (v_high, (1 : Int)), v_rectangles)
theorem w_l_whole_floor_1 {st : Sto} {e0 e4 e5 e6 : Option D} (v_wide : Int) (v_high : Int) (v_rectangles : (List ((Int × Int) × (Int × Int) × (Int × Int) × (Int × Int)))) : RtP st (b_l_whole_floor_1 [e0, some (cI v_wide), some (cI v_high), some ((cL (cP4 (cP2 cI cI) (cP2 cI cI) (cP2 cI cI) (cP2 cI cI))) v_rectangles), e4, e5, e6] (st ++ [])) ((cP3 (cP2 cI cI) (cP2 cI cI) (cT (cP4 (cP2 cI cI) (cP2 cI cI) (cP2 cI cI) (cP2 cI cI)))) (t_l_whole_floor_1 v_wide v_high v_rectangles)) :=
  rt_ret (d := (cP3 (cP2 cI cI) (cP2 cI cI) (cT (cP4 (cP2 cI cI) (cP2 cI cI) (cP2 cI cI) (cP2 cI cI)))) ((v_wide, (1 : Int)), (v_high, (1 : Int)), v_rectangles)) (ev_tup (ev_cons (a := (cP2 cI cI) (v_wide, (1 : Int))) (ev_tup (ev_cons (a := cI v_wide) (ev_v rfl) (ev_cons (a := cI (1 : Int)) (rfl) (ev_nil))) rfl) (ev_cons (a := (cP2 cI cI) (v_high, (1 : Int))) (ev_tup (ev_cons (a := cI v_high) (ev_v rfl) (ev_cons (a := cI (1 : Int)) (rfl) (ev_nil))) rfl) (ev_cons (a := (cT (cP4 (cP2 cI cI) (cP2 cI cI) (cP2 cI cI) (cP2 cI cI))) v_rectangles) (ev_B (ev_cons (ev_v rfl) ev_nil) (tup_c (c := (cP4 (cP2 cI cI) (cP2 cI cI) (cP2 cI cI) (cP2 cI cI))) (ls_L (c := (cP4 (cP2 cI cI) (cP2 cI cI) (cP2 cI cI) (cP2 cI cI))) (xs := v_rectangles)))) (ev_nil)))) rfl) (fz_c (fl_P3 (fl_P2 fl_I fl_I) (fl_P2 fl_I fl_I) (fl_T (fl_P4 (fl_P2 fl_I fl_I) (fl_P2 fl_I fl_I) (fl_P2 fl_I fl_I) (fl_P2 fl_I fl_I)))))
def t_l_whole_floor (v_squares : (List (Int × Int × Int))) (v_wide : Int) (v_high : Int) : ((Int × Int) × (Int × Int) × (List ((Int × Int) × (Int × Int) × (Int × Int) × (Int × Int)))) := t_l_whole_floor_1 v_wide v_high (v_squares.map (fun (y1 : (Int × Int × Int)) => ((y1.1, (1 : Int)), (y1.2.1, (1 : Int)), ((y1.1 + y1.2.2), (1 : Int)), ((y1.2.1 + y1.2.2), (1 : Int)))))
def c_l_whole_floor (v_squares : (List (Int × Int × Int))) (v_wide : Int) (v_high : Int) : Prop := v_squares.length ≤ 1000000
theorem w_l_whole_floor {st : Sto} {e3 e4 e5 e6 : Option D} (v_squares : (List (Int × Int × Int))) (v_wide : Int) (v_high : Int) (h : c_l_whole_floor v_squares v_wide v_high) : RtP st (b_l_whole_floor [some ((cL (cP3 cI cI cI)) v_squares), some (cI v_wide), some (cI v_high), e3, e4, e5, e6] (st ++ [])) ((cP3 (cP2 cI cI) (cP2 cI cI) (cT (cP4 (cP2 cI cI) (cP2 cI cI) (cP2 cI cI) (cP2 cI cI)))) (t_l_whole_floor v_squares v_wide v_high)) :=
  rt_nx (do_set (ev_frz (ev_comp0 (cx := (cP3 cI cI cI)) (cy := (cP4 (cP2 cI cI) (cP2 cI cI) (cP2 cI cI) (cP2 cI cI))) (xs := v_squares) (f := (fun (y1 : (Int × Int × Int)) => ((y1.1, (1 : Int)), (y1.2.1, (1 : Int)), ((y1.1 + y1.2.2), (1 : Int)), ((y1.2.1 + y1.2.2), (1 : Int))))) (it_seq (c := (cP3 cI cI cI)) (ev_v rfl) (sq_L (c := (cP3 cI cI cI)) (xs := v_squares))) (fun y1 hx15 => ⟨[some ((cL (cP3 cI cI cI)) v_squares), some (cI v_wide), some (cI v_high), e3, some (cI y1.1), some (cI y1.2.1), some (cI y1.2.2)], rfl, ev_tup (ev_cons (a := (cP2 cI cI) (y1.1, (1 : Int))) (ev_tup (ev_cons (a := cI y1.1) (ev_v rfl) (ev_cons (a := cI (1 : Int)) (rfl) (ev_nil))) rfl) (ev_cons (a := (cP2 cI cI) (y1.2.1, (1 : Int))) (ev_tup (ev_cons (a := cI y1.2.1) (ev_v rfl) (ev_cons (a := cI (1 : Int)) (rfl) (ev_nil))) rfl) (ev_cons (a := (cP2 cI cI) ((y1.1 + y1.2.2), (1 : Int))) (ev_tup (ev_cons (a := cI (y1.1 + y1.2.2)) (ev_op (a := cI y1.1) (b := cI y1.2.2) (ev_v rfl) (ev_v rfl) rfl) (ev_cons (a := cI (1 : Int)) (rfl) (ev_nil))) rfl) (ev_cons (a := (cP2 cI cI) ((y1.2.1 + y1.2.2), (1 : Int))) (ev_tup (ev_cons (a := cI (y1.2.1 + y1.2.2)) (ev_op (a := cI y1.2.1) (b := cI y1.2.2) (ev_v rfl) (ev_v rfl) rfl) (ev_cons (a := cI (1 : Int)) (rfl) (ev_nil))) rfl) (ev_nil))))) rfl⟩) h))) (w_l_whole_floor_1 (st := st) (e0 := some ((cL (cP3 cI cI cI)) v_squares)) (e4 := e4) (e5 := e5) (e6 := e6)  v_wide v_high (v_squares.map (fun (y1 : (Int × Int × Int)) => ((y1.1, (1 : Int)), (y1.2.1, (1 : Int)), ((y1.1 + y1.2.2), (1 : Int)), ((y1.2.1 + y1.2.2), (1 : Int))))))
def T_l_whole_floor (v_squares : (List (Int × Int × Int))) (v_wide : Int) (v_high : Int) : ((Int × Int) × (Int × Int) × (List ((Int × Int) × (Int × Int) × (Int × Int) × (Int × Int)))) := t_l_whole_floor v_squares v_wide v_high
def C_l_whole_floor (v_squares : (List (Int × Int × Int))) (v_wide : Int) (v_high : Int) : Prop := c_l_whole_floor v_squares v_wide v_high
theorem f_l_whole_floor {st : Sto} (v_squares : (List (Int × Int × Int))) (v_wide : Int) (v_high : Int) (h : C_l_whole_floor v_squares v_wide v_high) : m_l_whole_floor [(cL (cP3 cI cI cI)) v_squares, cI v_wide, cI v_high] st = .ok ((cP3 (cP2 cI cI) (cP2 cI cI) (cT (cP4 (cP2 cI cI) (cP2 cI cI) (cP2 cI cI) (cP2 cI cI)))) (T_l_whole_floor v_squares v_wide v_high)) st :=
  RtP.enter (b := b_l_whole_floor) (env := [some ((cL (cP3 cI cI cI)) v_squares), some (cI v_wide), some (cI v_high), none, none, none, none]) (w_l_whole_floor (st := st) (e3 := none) (e4 := none) (e5 := none) (e6 := none)  v_squares v_wide v_high h)
def t_less (v_one : (Int × Int)) (v_other : (Int × Int)) : Bool := decide ((v_one.1 * v_other.2) < (v_other.1 * v_one.2))
def c_less (v_one : (Int × Int)) (v_other : (Int × Int)) : Prop := MulK v_one.1 v_other.2 ∧ MulK v_other.1 v_one.2
theorem w_less {st : Sto} (v_one : (Int × Int)) (v_other : (Int × Int)) (h : c_less v_one v_other) : RtP st (b_less [some ((cP2 cI cI) v_one), some ((cP2 cI cI) v_other)] (st ++ [])) (cB (t_less v_one v_other)) :=
  rt_ret (d := cB (decide ((v_one.1 * v_other.2) < (v_other.1 * v_one.2)))) (ev_op (a := cI (v_one.1 * v_other.2)) (b := cI (v_other.1 * v_one.2)) (ev_op (a := cI v_one.1) (b := cI v_other.2) (ev_op (ev_v rfl) (rfl) rfl) (ev_op (ev_v rfl) (rfl) rfl) (mul_c h.1)) (ev_op (a := cI v_other.1) (b := cI v_one.2) (ev_op (ev_v rfl) (rfl) rfl) (ev_op (ev_v rfl) (rfl) rfl) (mul_c h.2)) rfl) (fz_c fl_B)
def T_less (v_one : (Int × Int)) (v_other : (Int × Int)) : Bool := t_less v_one v_other
def C_less (v_one : (Int × Int)) (v_other : (Int × Int)) : Prop := c_less v_one v_other
theorem f_less {st : Sto} (v_one : (Int × Int)) (v_other : (Int × Int)) (h : C_less v_one v_other) : m_less [(cP2 cI cI) v_one, (cP2 cI cI) v_other] st = .ok (cB (T_less v_one v_other)) st :=
  RtP.enter (b := b_less) (env := [some ((cP2 cI cI) v_one), some ((cP2 cI cI) v_other)]) (w_less (st := st)   v_one v_other h)
def t_is_covered_0a_0a_0a  : Bool := true
theorem w_is_covered_0a_0a_0a {st : Sto} {e0 e1 e2 : Option D}  : RtP st (b_is_covered_0a_0a_0a [e0, e1, e2] (st ++ [])) (cB (t_is_covered_0a_0a_0a)) :=
  rt_ret (d := cB true) (rfl) (fz_c fl_B)
def t_is_covered_0a_0a_1  : (Unit ⊕ Bool) := .inl ()
theorem w_is_covered_0a_0a_1 {st : Sto} {e0 e1 e2 : Option D}  : MxP st (sNext [e0, e1, e2] (st ++ [])) (t_is_covered_0a_0a_1) (fun (s : Unit) (env' : FL.Env) (S' : Sto) => env' = [e0, e1, e2] ∧ S' = st ++ []) cB :=
  mx_end ⟨rfl, rfl⟩
def t_is_covered_0a_0a (v_cell : ((Int × Int) × (Int × Int) × (Int × Int) × (Int × Int))) (v_one : ((Int × Int) × (Int × Int) × (Int × Int) × (Int × Int))) : (Unit ⊕ Bool) := if ((!(T_less v_one.2.2.1 v_cell.2.2.1)) && (!(T_less v_one.2.2.2 v_cell.2.2.2))) = true then .inr (t_is_covered_0a_0a_0a) else t_is_covered_0a_0a_1
def c_is_covered_0a_0a (v_cell : ((Int × Int) × (Int × Int) × (Int × Int) × (Int × Int))) (v_one : ((Int × Int) × (Int × Int) × (Int × Int) × (Int × Int))) : Prop := C_less v_one.2.2.1 v_cell.2.2.1 ∧ ((!(T_less v_one.2.2.1 v_cell.2.2.1)) = true → C_less v_one.2.2.2 v_cell.2.2.2)
theorem w_is_covered_0a_0a {st : Sto} {e1 : Option D} (v_cell : ((Int × Int) × (Int × Int) × (Int × Int) × (Int × Int))) (v_one : ((Int × Int) × (Int × Int) × (Int × Int) × (Int × Int))) (h : c_is_covered_0a_0a v_cell v_one) : MxP st (b_is_covered_0a_0a [some ((cP4 (cP2 cI cI) (cP2 cI cI) (cP2 cI cI) (cP2 cI cI)) v_cell), e1, some ((cP4 (cP2 cI cI) (cP2 cI cI) (cP2 cI cI) (cP2 cI cI)) v_one)] (st ++ [])) (t_is_covered_0a_0a v_cell v_one) (fun (s : Unit) (env' : FL.Env) (S' : Sto) => env' = [some ((cP4 (cP2 cI cI) (cP2 cI cI) (cP2 cI cI) (cP2 cI cI)) v_cell), e1, some ((cP4 (cP2 cI cI) (cP2 cI cI) (cP2 cI cI) (cP2 cI cI)) v_one)] ∧ S' = st ++ []) cB :=
  if_MX (e := cB) (tt_and (tt_not (tt_tru (ev_call (ev_cons (a := (cP2 cI cI) v_one.2.2.1) (ev_op (ev_v rfl) (rfl) rfl) (ev_cons (a := (cP2 cI cI) v_cell.2.2.1) (ev_op (ev_v rfl) (rfl) rfl) (ev_nil))) rfl (f_less v_one.2.2.1 v_cell.2.2.1 h.1)) rfl)) (fun hg21 => tt_not (tt_tru (ev_call (ev_cons (a := (cP2 cI cI) v_one.2.2.2) (ev_op (ev_v rfl) (rfl) rfl) (ev_cons (a := (cP2 cI cI) v_cell.2.2.2) (ev_op (ev_v rfl) (rfl) rfl) (ev_nil))) rfl (f_less v_one.2.2.2 v_cell.2.2.2 (h.2 hg21))) rfl))) (fun hc => w_is_covered_0a_0a_0a (st := st) (e0 := some ((cP4 (cP2 cI cI) (cP2 cI cI) (cP2 cI cI) (cP2 cI cI)) v_cell)) (e1 := e1) (e2 := some ((cP4 (cP2 cI cI) (cP2 cI cI) (cP2 cI cI) (cP2 cI cI)) v_one))  ) (fun hc => w_is_covered_0a_0a_1 (st := st) (e0 := some ((cP4 (cP2 cI cI) (cP2 cI cI) (cP2 cI cI) (cP2 cI cI)) v_cell)) (e1 := e1) (e2 := some ((cP4 (cP2 cI cI) (cP2 cI cI) (cP2 cI cI) (cP2 cI cI)) v_one))  )
def t_is_covered_0a_0b  : (Unit ⊕ Bool) := .inl ()
theorem w_is_covered_0a_0b {st : Sto} {e0 e1 e2 : Option D}  : MxP st (sNext [e0, e1, e2] (st ++ [])) (t_is_covered_0a_0b) (fun (s : Unit) (env' : FL.Env) (S' : Sto) => env' = [e0, e1, e2] ∧ S' = st ++ []) cB :=
  mx_end ⟨rfl, rfl⟩
def t_is_covered_0a_1  : (Unit ⊕ Bool) := .inl ()
theorem w_is_covered_0a_1 {st : Sto} {e0 e1 e2 : Option D}  : MxP st (sNext [e0, e1, e2] (st ++ [])) (t_is_covered_0a_1) (fun (s : Unit) (env' : FL.Env) (S' : Sto) => env' = [e0, e1, e2] ∧ S' = st ++ []) cB :=
  mx_end ⟨rfl, rfl⟩
def t_is_covered_0aq (v_cell : ((Int × Int) × (Int × Int) × (Int × Int) × (Int × Int))) (v_one : ((Int × Int) × (Int × Int) × (Int × Int) × (Int × Int))) (q : Unit) : (Unit ⊕ Bool) := t_is_covered_0a_1
def t_is_covered_0a (v_cell : ((Int × Int) × (Int × Int) × (Int × Int) × (Int × Int))) (v_one : ((Int × Int) × (Int × Int) × (Int × Int) × (Int × Int))) : (Unit ⊕ Bool) := outM (if ((!(T_less v_cell.1 v_one.1)) && (!(T_less v_cell.2.1 v_one.2.1))) = true then t_is_covered_0a_0a v_cell v_one else t_is_covered_0a_0b) (t_is_covered_0aq v_cell v_one)
def c_is_covered_0a (v_cell : ((Int × Int) × (Int × Int) × (Int × Int) × (Int × Int))) (v_one : ((Int × Int) × (Int × Int) × (Int × Int) × (Int × Int))) : Prop := C_less v_cell.1 v_one.1 ∧ ((!(T_less v_cell.1 v_one.1)) = true → C_less v_cell.2.1 v_one.2.1) ∧ (((!(T_less v_cell.1 v_one.1)) && (!(T_less v_cell.2.1 v_one.2.1))) = true → c_is_covered_0a_0a v_cell v_one)
theorem w_is_covered_0a {st : Sto} {e1 : Option D} (v_cell : ((Int × Int) × (Int × Int) × (Int × Int) × (Int × Int))) (v_one : ((Int × Int) × (Int × Int) × (Int × Int) × (Int × Int))) (h : c_is_covered_0a v_cell v_one) : MxP st (b_is_covered_0a [some ((cP4 (cP2 cI cI) (cP2 cI cI) (cP2 cI cI) (cP2 cI cI)) v_cell), e1, some ((cP4 (cP2 cI cI) (cP2 cI cI) (cP2 cI cI) (cP2 cI cI)) v_one)] (st ++ [])) (t_is_covered_0a v_cell v_one) (fun (s : Unit) (env' : FL.Env) (S' : Sto) => env' = [some ((cP4 (cP2 cI cI) (cP2 cI cI) (cP2 cI cI) (cP2 cI cI)) v_cell), e1, some ((cP4 (cP2 cI cI) (cP2 cI cI) (cP2 cI cI) (cP2 cI cI)) v_one)] ∧ S' = st ++ []) cB :=
  mx_M (e := cB) (if_M (P := fun (s : Unit) (env' : FL.Env) (S' : Sto) => env' = [some ((cP4 (cP2 cI cI) (cP2 cI cI) (cP2 cI cI) (cP2 cI cI)) v_cell), e1, some ((cP4 (cP2 cI cI) (cP2 cI cI) (cP2 cI cI) (cP2 cI cI)) v_one)] ∧ S' = st ++ []) (tt_and (tt_not (tt_tru (ev_call (ev_cons (a := (cP2 cI cI) v_cell.1) (ev_op (ev_v rfl) (rfl) rfl) (ev_cons (a := (cP2 cI cI) v_one.1) (ev_op (ev_v rfl) (rfl) rfl) (ev_nil))) rfl (f_less v_cell.1 v_one.1 h.1)) rfl)) (fun hg20 => tt_not (tt_tru (ev_call (ev_cons (a := (cP2 cI cI) v_cell.2.1) (ev_op (ev_v rfl) (rfl) rfl) (ev_cons (a := (cP2 cI cI) v_one.2.1) (ev_op (ev_v rfl) (rfl) rfl) (ev_nil))) rfl (f_less v_cell.2.1 v_one.2.1 (h.2.1 hg20))) rfl))) (fun hc => w_is_covered_0a_0a (st := st) (e1 := e1)  v_cell v_one (h.2.2 hc)) (fun hc => w_is_covered_0a_0b (st := st) (e0 := some ((cP4 (cP2 cI cI) (cP2 cI cI) (cP2 cI cI) (cP2 cI cI)) v_cell)) (e1 := e1) (e2 := some ((cP4 (cP2 cI cI) (cP2 cI cI) (cP2 cI cI) (cP2 cI cI)) v_one))  )) (fun | q, _, _, hq, ⟨rfl, rfl⟩ => w_is_covered_0a_1 (st := st) (e0 := some ((cP4 (cP2 cI cI) (cP2 cI cI) (cP2 cI cI) (cP2 cI cI)) v_cell)) (e1 := e1) (e2 := some ((cP4 (cP2 cI cI) (cP2 cI cI) (cP2 cI cI) (cP2 cI cI)) v_one))  )
def t_is_covered_1  : Bool := false
theorem w_is_covered_1 {st : Sto} {e0 e1 e2 : Option D}  : RtP st (b_is_covered_1 [e0, e1, e2] (st ++ [])) (cB (t_is_covered_1)) :=
  rt_ret (d := cB false) (rfl) (fz_c fl_B)
def t_is_coveredq (v_cell : ((Int × Int) × (Int × Int) × (Int × Int) × (Int × Int))) (v_rectangles : (List ((Int × Int) × (Int × Int) × (Int × Int) × (Int × Int)))) (q : Unit) : Bool := t_is_covered_1
def t_is_covered (v_cell : ((Int × Int) × (Int × Int) × (Int × Int) × (Int × Int))) (v_rectangles : (List ((Int × Int) × (Int × Int) × (Int × Int) × (Int × Int)))) : Bool := outR (forR (fun (s : Unit) (x : ((Int × Int) × (Int × Int) × (Int × Int) × (Int × Int))) => t_is_covered_0a v_cell x) v_rectangles ()) (t_is_coveredq v_cell v_rectangles)
def c_is_covered (v_cell : ((Int × Int) × (Int × Int) × (Int × Int) × (Int × Int))) (v_rectangles : (List ((Int × Int) × (Int × Int) × (Int × Int) × (Int × Int)))) : Prop := (cForR (fun (s : Unit) (x : ((Int × Int) × (Int × Int) × (Int × Int) × (Int × Int))) => c_is_covered_0a v_cell x) (fun (s : Unit) (x : ((Int × Int) × (Int × Int) × (Int × Int) × (Int × Int))) => t_is_covered_0a v_cell x) v_rectangles ())
theorem w_is_covered {st : Sto} {e2 : Option D} (v_cell : ((Int × Int) × (Int × Int) × (Int × Int) × (Int × Int))) (v_rectangles : (List ((Int × Int) × (Int × Int) × (Int × Int) × (Int × Int)))) (h : c_is_covered v_cell v_rectangles) : RtP st (b_is_covered [some ((cP4 (cP2 cI cI) (cP2 cI cI) (cP2 cI cI) (cP2 cI cI)) v_cell), some ((cT (cP4 (cP2 cI cI) (cP2 cI cI) (cP2 cI cI) (cP2 cI cI))) v_rectangles), e2] (st ++ [])) (cB (t_is_covered v_cell v_rectangles)) :=
  rt_M (e := cB) (do_forM (E := (fun (s : Unit) => [some ((cP4 (cP2 cI cI) (cP2 cI cI) (cP2 cI cI) (cP2 cI cI)) v_cell), some ((cT (cP4 (cP2 cI cI) (cP2 cI cI) (cP2 cI cI) (cP2 cI cI))) v_rectangles), none])) (O := (fun (s : Unit) => [])) (cx := (cP4 (cP2 cI cI) (cP2 cI cI) (cP2 cI cI) (cP2 cI cI))) (c := (fun (s : Unit) (x : ((Int × Int) × (Int × Int) × (Int × Int) × (Int × Int))) => c_is_covered_0a v_cell x)) (t := (fun (s : Unit) (x : ((Int × Int) × (Int × Int) × (Int × Int) × (Int × Int))) => t_is_covered_0a v_cell x)) (s := ()) (e := cB) (it_seq (c := (cP4 (cP2 cI cI) (cP2 cI cI) (cP2 cI cI) (cP2 cI cI))) (ev_v rfl) (sq_T (c := (cP4 (cP2 cI cI) (cP2 cI cI) (cP2 cI cI) (cP2 cI cI))) (xs := v_rectangles))) rfl (fun _ => rfl) (fun _ _ => rfl) (fun s x hc => ⟨[some ((cP4 (cP2 cI cI) (cP2 cI cI) (cP2 cI cI) (cP2 cI cI)) v_cell), some ((cT (cP4 (cP2 cI cI) (cP2 cI cI) (cP2 cI cI) (cP2 cI cI))) v_rectangles), some ((cP4 (cP2 cI cI) (cP2 cI cI) (cP2 cI cI) (cP2 cI cI)) x)], rfl, MxP.mono (w_is_covered_0a (st := st) (e1 := some ((cT (cP4 (cP2 cI cI) (cP2 cI cI) (cP2 cI cI) (cP2 cI cI))) v_rectangles))  v_cell x hc) (fun _ => fun | _, _, ⟨rfl, rfl⟩ => ⟨rfl, rfl⟩)⟩) h) (fun | q, _, _, hq, ⟨rfl, rfl⟩ => w_is_covered_1 (st := st) (e0 := some ((cP4 (cP2 cI cI) (cP2 cI cI) (cP2 cI cI) (cP2 cI cI)) v_cell)) (e1 := some ((cT (cP4 (cP2 cI cI) (cP2 cI cI) (cP2 cI cI) (cP2 cI cI))) v_rectangles)) (e2 := none)  )
def T_is_covered (v_cell : ((Int × Int) × (Int × Int) × (Int × Int) × (Int × Int))) (v_rectangles : (List ((Int × Int) × (Int × Int) × (Int × Int) × (Int × Int)))) : Bool := t_is_covered v_cell v_rectangles
def C_is_covered (v_cell : ((Int × Int) × (Int × Int) × (Int × Int) × (Int × Int))) (v_rectangles : (List ((Int × Int) × (Int × Int) × (Int × Int) × (Int × Int)))) : Prop := c_is_covered v_cell v_rectangles
theorem f_is_covered {st : Sto} (v_cell : ((Int × Int) × (Int × Int) × (Int × Int) × (Int × Int))) (v_rectangles : (List ((Int × Int) × (Int × Int) × (Int × Int) × (Int × Int)))) (h : C_is_covered v_cell v_rectangles) : m_is_covered [(cP4 (cP2 cI cI) (cP2 cI cI) (cP2 cI cI) (cP2 cI cI)) v_cell, (cT (cP4 (cP2 cI cI) (cP2 cI cI) (cP2 cI cI) (cP2 cI cI))) v_rectangles] st = .ok (cB (T_is_covered v_cell v_rectangles)) st :=
  RtP.enter (b := b_is_covered) (env := [some ((cP4 (cP2 cI cI) (cP2 cI cI) (cP2 cI cI) (cP2 cI cI)) v_cell), some ((cT (cP4 (cP2 cI cI) (cP2 cI cI) (cP2 cI cI) (cP2 cI cI))) v_rectangles), none]) (w_is_covered (st := st) (e2 := none)  v_cell v_rectangles h)
def t_rising_1a_1a_1 (v_at : Int) : Int := (v_at)
theorem w_rising_1a_1a_1 {st : Sto} {e0 e1 e2 : Option D} {o0 : SO} (v_at : Int) : NxP (sNext [e0, e1, e2, some (cI v_at)] (st ++ [o0])) ((fun (s : Int) (env' : FL.Env) (S' : Sto) => env' = [e0, e1, e2, some (cI s)] ∧ S' = st ++ [o0]) (t_rising_1a_1a_1 v_at)) :=
  nx_end ⟨rfl, rfl⟩
def t_rising_1a_1a (v_at : Int) : Int := t_rising_1a_1a_1 (v_at + (1 : Int))
theorem w_rising_1a_1a {st : Sto} {e0 e1 e2 : Option D} {o0 : SO} (v_at : Int) : NxP (b_rising_1a_1a [e0, e1, e2, some (cI v_at)] (st ++ [o0])) ((fun (s : Int) (env' : FL.Env) (S' : Sto) => env' = [e0, e1, e2, some (cI s)] ∧ S' = st ++ [o0]) (t_rising_1a_1a v_at)) :=
  nx_nx (do_set (ev_op (a := cI v_at) (b := cI (1 : Int)) (ev_v rfl) (rfl) rfl)) (w_rising_1a_1a_1 (st := st) (e0 := e0) (e1 := e1) (e2 := e2) (o0 := o0) (v_at + (1 : Int)))
def t_rising_1a_2a_1 (v_found : (List (Int × Int))) : (List (Int × Int)) := (v_found)
theorem w_rising_1a_2a_1 {st : Sto} {e0 e2 e3 : Option D} (v_found : (List (Int × Int))) : NxP (sNext [e0, some (D.loc (st.length + 0)), e2, e3] (st ++ [SO.lst (v_found.map (cP2 cI cI))])) ((fun (s : (List (Int × Int))) (env' : FL.Env) (S' : Sto) => env' = [e0, some (D.loc (st.length + 0)), e2, e3] ∧ S' = st ++ [SO.lst (s.map (cP2 cI cI))]) (t_rising_1a_2a_1 v_found)) :=
  nx_end ⟨rfl, rfl⟩
def t_rising_1a_2a (v_found : (List (Int × Int))) (v_number : (Int × Int)) (v_at : Int) : (List (Int × Int)) := t_rising_1a_2a_1 (insI2 v_found v_at v_number)
def c_rising_1a_2a (v_found : (List (Int × Int))) (v_number : (Int × Int)) (v_at : Int) : Prop := (v_found.length < 1000000 ∧ 0 ≤ v_at ∧ v_at < 2 ^ 62)
theorem w_rising_1a_2a {st : Sto} {e0 : Option D} (v_found : (List (Int × Int))) (v_number : (Int × Int)) (v_at : Int) (h : c_rising_1a_2a v_found v_number v_at) : NxP (b_rising_1a_2a [e0, some (D.loc (st.length + 0)), some ((cP2 cI cI) v_number), some (cI v_at)] (st ++ [SO.lst (v_found.map (cP2 cI cI))])) ((fun (s : (List (Int × Int))) (env' : FL.Env) (S' : Sto) => env' = [e0, some (D.loc (st.length + 0)), some ((cP2 cI cI) v_number), some (cI v_at)] ∧ S' = st ++ [SO.lst (s.map (cP2 cI cI))]) (t_rising_1a_2a v_found v_number v_at)) :=
  nx_nx (do_drop (ev_mt (ev_v rfl) (isLst_M (i := 0) rfl) (ev_cons (ev_v rfl) (ev_cons (ev_v rfl) ev_nil)) (ins_M (c := (cP2 cI cI)) (xs := v_found) (x := v_number) (i := 0) rfl h))) (w_rising_1a_2a_1 (st := st) (e0 := e0) (e2 := some ((cP2 cI cI) v_number)) (e3 := some (cI v_at))  (insI2 v_found v_at v_number))
def t_rising_1a_2b (v_found : (List (Int × Int))) : (List (Int × Int)) := (v_found)
theorem w_rising_1a_2b {st : Sto} {e0 e2 e3 : Option D} (v_found : (List (Int × Int))) : NxP (sNext [e0, some (D.loc (st.length + 0)), e2, e3] (st ++ [SO.lst (v_found.map (cP2 cI cI))])) ((fun (s : (List (Int × Int))) (env' : FL.Env) (S' : Sto) => env' = [e0, some (D.loc (st.length + 0)), e2, e3] ∧ S' = st ++ [SO.lst (s.map (cP2 cI cI))]) (t_rising_1a_2b v_found)) :=
  nx_end ⟨rfl, rfl⟩
def t_rising_1a_3 (v_found : (List (Int × Int))) : (List (Int × Int)) := (v_found)
theorem w_rising_1a_3 {st : Sto} {e0 e2 e3 : Option D} (v_found : (List (Int × Int))) : NxP (sNext [e0, some (D.loc (st.length + 0)), e2, e3] (st ++ [SO.lst (v_found.map (cP2 cI cI))])) ((fun (s : (List (Int × Int))) (env' : FL.Env) (S' : Sto) => ∃ x3 : Option D, env' = [e0, some (D.loc (st.length + 0)), e2, x3] ∧ S' = st ++ [SO.lst (s.map (cP2 cI cI))]) (t_rising_1a_3 v_found)) :=
  nx_end ⟨_, rfl, rfl⟩
def t_rising_1a_2q (v_found : (List (Int × Int))) (v_number : (Int × Int)) (v_at : Int) (q : (List (Int × Int))) : (List (Int × Int)) := t_rising_1a_3 q
def t_rising_1a_2 (v_found : (List (Int × Int))) (v_number : (Int × Int)) (v_at : Int) : (List (Int × Int)) := t_rising_1a_2q v_found v_number v_at (if (decide (v_at = (v_found.length : Int)) || (!decide ((getI v_found v_at) = v_number))) = true then t_rising_1a_2a v_found v_number v_at else t_rising_1a_2b v_found)
def c_rising_1a_2 (v_found : (List (Int × Int))) (v_number : (Int × Int)) (v_at : Int) : Prop := (decide (v_at = (v_found.length : Int)) = false → IxOk v_found.length v_at) ∧ ((decide (v_at = (v_found.length : Int)) || (!decide ((getI v_found v_at) = v_number))) = true → c_rising_1a_2a v_found v_number v_at)
theorem w_rising_1a_2 {st : Sto} {e0 : Option D} (v_found : (List (Int × Int))) (v_number : (Int × Int)) (v_at : Int) (h : c_rising_1a_2 v_found v_number v_at) : NxP (b_rising_1a_2 [e0, some (D.loc (st.length + 0)), some ((cP2 cI cI) v_number), some (cI v_at)] (st ++ [SO.lst (v_found.map (cP2 cI cI))])) ((fun (s : (List (Int × Int))) (env' : FL.Env) (S' : Sto) => ∃ x3 : Option D, env' = [e0, some (D.loc (st.length + 0)), some ((cP2 cI cI) v_number), x3] ∧ S' = st ++ [SO.lst (s.map (cP2 cI cI))]) (t_rising_1a_2 v_found v_number v_at)) :=
  nx_N (if_N (P := fun (s : (List (Int × Int))) (env' : FL.Env) (S' : Sto) => env' = [e0, some (D.loc (st.length + 0)), some ((cP2 cI cI) v_number), some (cI v_at)] ∧ S' = st ++ [SO.lst (s.map (cP2 cI cI))]) (tt_or (tt_B (ev_op (a := cI v_at) (b := cI (v_found.length : Int)) (ev_v rfl) (ev_B (ev_cons (ev_v rfl) ev_nil) (len_c (c := (cP2 cI cI)) (sq_M (i := 0) rfl))) rfl)) (fun hg27 => tt_B (ev_op (a := (cP2 cI cI) (getI v_found v_at)) (b := (cP2 cI cI) v_number) (ev_op (ev_v rfl) (ev_v rfl) (ix_c (c := (cP2 cI cI)) (sq_M (i := 0) rfl) (h.1 hg27))) (ev_v rfl) (ne_c (eq_P2 eq_I eq_I))))) (fun hc => w_rising_1a_2a (st := st) (e0 := e0)  v_found v_number v_at (h.2 hc)) (fun hc => w_rising_1a_2b (st := st) (e0 := e0) (e2 := some ((cP2 cI cI) v_number)) (e3 := some (cI v_at))  v_found)) (fun | _, _, ⟨rfl, rfl⟩ => w_rising_1a_3 (st := st) (e0 := e0) (e2 := some ((cP2 cI cI) v_number)) (e3 := some (cI v_at))  (if (decide (v_at = (v_found.length : Int)) || (!decide ((getI v_found v_at) = v_number))) = true then t_rising_1a_2a v_found v_number v_at else t_rising_1a_2b v_found))
def t_rising_1a_1q (v_found : (List (Int × Int))) (v_number : (Int × Int)) (v_at : Int) (q : Int) : (List (Int × Int)) := t_rising_1a_2 v_found v_number q
def c_rising_1a_1q (v_found : (List (Int × Int))) (v_number : (Int × Int)) (v_at : Int) (q : Int) : Prop := c_rising_1a_2 v_found v_number q
def t_rising_1a_1 (v_found : (List (Int × Int))) (v_number : (Int × Int)) (v_at : Int) : (List (Int × Int)) := t_rising_1a_1q v_found v_number v_at (whT (fun (s : Int) => (decide (s < (v_found.length : Int)) && (T_less (getI v_found s) v_number))) (fun (s : Int) => t_rising_1a_1a s) fuelB (v_at))
def c_rising_1a_1 (v_found : (List (Int × Int))) (v_number : (Int × Int)) (v_at : Int) : Prop := (whC (fun (s : Int) => (decide (s < (v_found.length : Int)) = true → IxOk v_found.length s ∧ C_less (getI v_found s) v_number)) (fun (s : Int) => (decide (s < (v_found.length : Int)) && (T_less (getI v_found s) v_number))) (fun (s : Int) => True) (fun (s : Int) => t_rising_1a_1a s) fuelB (v_at)) ∧ c_rising_1a_1q v_found v_number v_at (whT (fun (s : Int) => (decide (s < (v_found.length : Int)) && (T_less (getI v_found s) v_number))) (fun (s : Int) => t_rising_1a_1a s) fuelB (v_at))
theorem w_rising_1a_1 {st : Sto} {e0 : Option D} (v_found : (List (Int × Int))) (v_number : (Int × Int)) (v_at : Int) (h : c_rising_1a_1 v_found v_number v_at) : NxP (b_rising_1a_1 [e0, some (D.loc (st.length + 0)), some ((cP2 cI cI) v_number), some (cI v_at)] (st ++ [SO.lst (v_found.map (cP2 cI cI))])) ((fun (s : (List (Int × Int))) (env' : FL.Env) (S' : Sto) => ∃ x3 : Option D, env' = [e0, some (D.loc (st.length + 0)), some ((cP2 cI cI) v_number), x3] ∧ S' = st ++ [SO.lst (s.map (cP2 cI cI))]) (t_rising_1a_1 v_found v_number v_at)) :=
  nx_nx (do_while (E := (fun (s : Int) => [e0, some (D.loc (st.length + 0)), some ((cP2 cI cI) v_number), some (cI s)])) (O := (fun (s : Int) => [SO.lst (v_found.map (cP2 cI cI))])) (cb := (fun (s : Int) => (decide (s < (v_found.length : Int)) = true → IxOk v_found.length s ∧ C_less (getI v_found s) v_number))) (b := (fun (s : Int) => (decide (s < (v_found.length : Int)) && (T_less (getI v_found s) v_number)))) (c := (fun (s : Int) => True)) (t := (fun (s : Int) => t_rising_1a_1a s)) (s := (v_at)) rfl (fun _ _ => rfl) (fun s hcb => tt_and (tt_B (ev_op (a := cI s) (b := cI (v_found.length : Int)) (ev_v rfl) (ev_B (ev_cons (ev_v rfl) ev_nil) (len_c (c := (cP2 cI cI)) (sq_M (i := 0) rfl))) rfl)) (fun hg26 => tt_tru (ev_call (ev_cons (a := (cP2 cI cI) (getI v_found s)) (ev_op (ev_v rfl) (ev_v rfl) (ix_c (c := (cP2 cI cI)) (sq_M (i := 0) rfl) (hcb hg26).1)) (ev_cons (a := (cP2 cI cI) v_number) (ev_v rfl) (ev_nil))) rfl (f_less (getI v_found s) v_number (hcb hg26).2)) rfl)) (fun s hq hc => NxP.mono (w_rising_1a_1a (st := st) (e0 := e0) (e1 := some (D.loc (st.length + 0))) (e2 := some ((cP2 cI cI) v_number)) (o0 := SO.lst (v_found.map (cP2 cI cI))) s) (fun | _, _, ⟨rfl, rfl⟩ => ⟨rfl, rfl⟩)) h.1) (w_rising_1a_2 (st := st) (e0 := e0)  v_found v_number (whT (fun (s : Int) => (decide (s < (v_found.length : Int)) && (T_less (getI v_found s) v_number))) (fun (s : Int) => t_rising_1a_1a s) fuelB (v_at)) h.2)
def t_rising_1a (v_found : (List (Int × Int))) (v_number : (Int × Int)) : (List (Int × Int)) := t_rising_1a_1 v_found v_number (0 : Int)
def c_rising_1a (v_found : (List (Int × Int))) (v_number : (Int × Int)) : Prop := c_rising_1a_1 v_found v_number (0 : Int)
theorem w_rising_1a {st : Sto} {e0 e3 : Option D} (v_found : (List (Int × Int))) (v_number : (Int × Int)) (h : c_rising_1a v_found v_number) : NxP (b_rising_1a [e0, some (D.loc (st.length + 0)), some ((cP2 cI cI) v_number), e3] (st ++ [SO.lst (v_found.map (cP2 cI cI))])) ((fun (s : (List (Int × Int))) (env' : FL.Env) (S' : Sto) => ∃ x3 : Option D, env' = [e0, some (D.loc (st.length + 0)), some ((cP2 cI cI) v_number), x3] ∧ S' = st ++ [SO.lst (s.map (cP2 cI cI))]) (t_rising_1a v_found v_number)) :=
  nx_nx (do_set (rfl)) (w_rising_1a_1 (st := st) (e0 := e0)  v_found v_number (0 : Int) h)
def t_rising_2 (v_found : (List (Int × Int))) : (List (Int × Int)) := v_found
theorem w_rising_2 {st : Sto} {e0 e2 e3 : Option D} (v_found : (List (Int × Int))) : RtP st (b_rising_2 [e0, some (D.loc (st.length + 0)), e2, e3] (st ++ [SO.lst (v_found.map (cP2 cI cI))])) ((cL (cP2 cI cI)) (t_rising_2 v_found)) :=
  rt_ret (ev_v rfl) (fz_M (fl_P2 fl_I fl_I) (i := 0) rfl)
def t_rising_1q (v_numbers : (List (Int × Int))) (v_found : (List (Int × Int))) (q : (List (Int × Int))) : (List (Int × Int)) := t_rising_2 q
def t_rising_1 (v_numbers : (List (Int × Int))) (v_found : (List (Int × Int))) : (List (Int × Int)) := t_rising_1q v_numbers v_found (v_numbers.foldl (fun (s : (List (Int × Int))) (x : (Int × Int)) => t_rising_1a s x) (v_found))
def c_rising_1 (v_numbers : (List (Int × Int))) (v_found : (List (Int × Int))) : Prop := (cFold (fun (s : (List (Int × Int))) (x : (Int × Int)) => c_rising_1a s x) (fun (s : (List (Int × Int))) (x : (Int × Int)) => t_rising_1a s x) v_numbers (v_found))
theorem w_rising_1 {st : Sto} {e2 e3 : Option D} (v_numbers : (List (Int × Int))) (v_found : (List (Int × Int))) (h : c_rising_1 v_numbers v_found) : RtP st (b_rising_1 [some ((cL (cP2 cI cI)) v_numbers), some (D.loc (st.length + 0)), e2, e3] (st ++ [SO.lst (v_found.map (cP2 cI cI))])) ((cL (cP2 cI cI)) (t_rising_1 v_numbers v_found)) :=
  rt_nx (do_for (E := (fun (s : (List (Int × Int))) => [some ((cL (cP2 cI cI)) v_numbers), some (D.loc (st.length + 0)), none, none])) (O := (fun (s : (List (Int × Int))) => [SO.lst (s.map (cP2 cI cI))])) (cx := (cP2 cI cI)) (c := (fun (s : (List (Int × Int))) (x : (Int × Int)) => c_rising_1a s x)) (t := (fun (s : (List (Int × Int))) (x : (Int × Int)) => t_rising_1a s x)) (s := (v_found)) (it_seq (c := (cP2 cI cI)) (ev_v rfl) (sq_L (c := (cP2 cI cI)) (xs := v_numbers))) rfl (fun _ => rfl) (fun _ _ => rfl) (fun s x hc => ⟨[some ((cL (cP2 cI cI)) v_numbers), some (D.loc (st.length + 0)), some ((cP2 cI cI) x), none], rfl, NxP.mono (w_rising_1a (st := st) (e0 := some ((cL (cP2 cI cI)) v_numbers)) (e3 := none)  s x hc) (fun | _, _, ⟨_, rfl, rfl⟩ => ⟨rfl, rfl⟩)⟩) h) (w_rising_2 (st := st) (e0 := some ((cL (cP2 cI cI)) v_numbers)) (e2 := none) (e3 := none)  (v_numbers.foldl (fun (s : (List (Int × Int))) (x : (Int × Int)) => t_rising_1a s x) (v_found)))
def t_rising (v_numbers : (List (Int × Int))) : (List (Int × Int)) := t_rising_1 v_numbers []
def c_rising (v_numbers : (List (Int × Int))) : Prop := c_rising_1 v_numbers []
theorem w_rising {st : Sto} {e1 e2 e3 : Option D} (v_numbers : (List (Int × Int))) (h : c_rising v_numbers) : RtP st (b_rising [some ((cL (cP2 cI cI)) v_numbers), e1, e2, e3] (st ++ [])) ((cL (cP2 cI cI)) (t_rising v_numbers)) :=
  rt_nx (do_set (ev_new (i := 0) (ev_lst (ev_nil) rfl) rfl)) (w_rising_1 (st := st) (e2 := e2) (e3 := e3)  v_numbers [] h)
def T_rising (v_numbers : (List (Int × Int))) : (List (Int × Int)) := t_rising v_numbers
def C_rising (v_numbers : (List (Int × Int))) : Prop := c_rising v_numbers
theorem f_rising {st : Sto} (v_numbers : (List (Int × Int))) (h : C_rising v_numbers) : m_rising [(cL (cP2 cI cI)) v_numbers] st = .ok ((cL (cP2 cI cI)) (T_rising v_numbers)) st :=
  RtP.enter (b := b_rising) (env := [some ((cL (cP2 cI cI)) v_numbers), none, none, none]) (w_rising (st := st) (e1 := none) (e2 := none) (e3 := none)  v_numbers h)
def t_first_gap_3a_0a_0a (v_low : (Int × Int)) (v_high : (Int × Int)) (v_left : (Int × Int)) (v_right : (Int × Int)) : (Option (Str × (Int × Int) × (Int × Int) × (Int × Int) × (Int × Int))) := some (("gap" : Str), v_left, v_low, v_right, v_high)
theorem w_first_gap_3a_0a_0a {st : Sto} {e0 e1 e2 e3 e4 e5 e10 : Option D} (v_low : (Int × Int)) (v_high : (Int × Int)) (v_left : (Int × Int)) (v_right : (Int × Int)) : RtP st (b_first_gap_3a_0a_0a [e0, e1, e2, e3, e4, e5, some ((cP2 cI cI) v_low), some ((cP2 cI cI) v_high), some ((cP2 cI cI) v_left), some ((cP2 cI cI) v_right), e10] (st ++ [])) ((cO (cP5 cS (cP2 cI cI) (cP2 cI cI) (cP2 cI cI) (cP2 cI cI))) (t_first_gap_3a_0a_0a v_low v_high v_left v_right)) :=
  rt_ret (d := (cO (cP5 cS (cP2 cI cI) (cP2 cI cI) (cP2 cI cI) (cP2 cI cI))) (some (("gap" : Str), v_left, v_low, v_right, v_high))) (ev_tup (ev_cons (a := cS ("gap" : Str)) (rfl) (ev_cons (a := (cP2 cI cI) v_left) (ev_v rfl) (ev_cons (a := (cP2 cI cI) v_low) (ev_v rfl) (ev_cons (a := (cP2 cI cI) v_right) (ev_v rfl) (ev_cons (a := (cP2 cI cI) v_high) (ev_v rfl) (ev_nil)))))) rfl) (fz_c (fl_O (fl_P5 fl_S (fl_P2 fl_I fl_I) (fl_P2 fl_I fl_I) (fl_P2 fl_I fl_I) (fl_P2 fl_I fl_I))))
def t_first_gap_3a_0a_1  : (Unit ⊕ (Option (Str × (Int × Int) × (Int × Int) × (Int × Int) × (Int × Int)))) := .inl ()
theorem w_first_gap_3a_0a_1 {st : Sto} {e0 e1 e2 e3 e4 e5 e6 e7 e8 e9 e10 : Option D}  : MxP st (sNext [e0, e1, e2, e3, e4, e5, e6, e7, e8, e9, e10] (st ++ [])) (t_first_gap_3a_0a_1) (fun (s : Unit) (env' : FL.Env) (S' : Sto) => env' = [e0, e1, e2, e3, e4, e5, e6, e7, e8, e9, e10] ∧ S' = st ++ []) (cO (cP5 cS (cP2 cI cI) (cP2 cI cI) (cP2 cI cI) (cP2 cI cI))) :=
  mx_end ⟨rfl, rfl⟩
def t_first_gap_3a_0a (v_rectangles : (List ((Int × Int) × (Int × Int) × (Int × Int) × (Int × Int)))) (v_low : (Int × Int)) (v_high : (Int × Int)) (v_left : (Int × Int)) (v_right : (Int × Int)) : (Unit ⊕ (Option (Str × (Int × Int) × (Int × Int) × (Int × Int) × (Int × Int)))) := if (!(T_is_covered (v_left, v_low, v_right, v_high) v_rectangles)) = true then .inr (t_first_gap_3a_0a_0a v_low v_high v_left v_right) else t_first_gap_3a_0a_1
def c_first_gap_3a_0a (v_rectangles : (List ((Int × Int) × (Int × Int) × (Int × Int) × (Int × Int)))) (v_low : (Int × Int)) (v_high : (Int × Int)) (v_left : (Int × Int)) (v_right : (Int × Int)) : Prop := C_is_covered (v_left, v_low, v_right, v_high) v_rectangles
theorem w_first_gap_3a_0a {st : Sto} {e0 e1 e2 e4 e5 e10 : Option D} (v_rectangles : (List ((Int × Int) × (Int × Int) × (Int × Int) × (Int × Int)))) (v_low : (Int × Int)) (v_high : (Int × Int)) (v_left : (Int × Int)) (v_right : (Int × Int)) (h : c_first_gap_3a_0a v_rectangles v_low v_high v_left v_right) : MxP st (b_first_gap_3a_0a [e0, e1, e2, some ((cT (cP4 (cP2 cI cI) (cP2 cI cI) (cP2 cI cI) (cP2 cI cI))) v_rectangles), e4, e5, some ((cP2 cI cI) v_low), some ((cP2 cI cI) v_high), some ((cP2 cI cI) v_left), some ((cP2 cI cI) v_right), e10] (st ++ [])) (t_first_gap_3a_0a v_rectangles v_low v_high v_left v_right) (fun (s : Unit) (env' : FL.Env) (S' : Sto) => env' = [e0, e1, e2, some ((cT (cP4 (cP2 cI cI) (cP2 cI cI) (cP2 cI cI) (cP2 cI cI))) v_rectangles), e4, e5, some ((cP2 cI cI) v_low), some ((cP2 cI cI) v_high), some ((cP2 cI cI) v_left), some ((cP2 cI cI) v_right), e10] ∧ S' = st ++ []) (cO (cP5 cS (cP2 cI cI) (cP2 cI cI) (cP2 cI cI) (cP2 cI cI))) :=
  if_MX (e := (cO (cP5 cS (cP2 cI cI) (cP2 cI cI) (cP2 cI cI) (cP2 cI cI)))) (tt_not (tt_tru (ev_call (ev_cons (a := (cP4 (cP2 cI cI) (cP2 cI cI) (cP2 cI cI) (cP2 cI cI)) (v_left, v_low, v_right, v_high)) (ev_tup (ev_cons (a := (cP2 cI cI) v_left) (ev_v rfl) (ev_cons (a := (cP2 cI cI) v_low) (ev_v rfl) (ev_cons (a := (cP2 cI cI) v_right) (ev_v rfl) (ev_cons (a := (cP2 cI cI) v_high) (ev_v rfl) (ev_nil))))) rfl) (ev_cons (a := (cT (cP4 (cP2 cI cI) (cP2 cI cI) (cP2 cI cI) (cP2 cI cI))) v_rectangles) (ev_v rfl) (ev_nil))) rfl (f_is_covered (v_left, v_low, v_right, v_high) v_rectangles h)) rfl)) (fun hc => w_first_gap_3a_0a_0a (st := st) (e0 := e0) (e1 := e1) (e2 := e2) (e3 := some ((cT (cP4 (cP2 cI cI) (cP2 cI cI) (cP2 cI cI) (cP2 cI cI))) v_rectangles)) (e4 := e4) (e5 := e5) (e10 := e10)  v_low v_high v_left v_right) (fun hc => w_first_gap_3a_0a_1 (st := st) (e0 := e0) (e1 := e1) (e2 := e2) (e3 := some ((cT (cP4 (cP2 cI cI) (cP2 cI cI) (cP2 cI cI) (cP2 cI cI))) v_rectangles)) (e4 := e4) (e5 := e5) (e6 := some ((cP2 cI cI) v_low)) (e7 := some ((cP2 cI cI) v_high)) (e8 := some ((cP2 cI cI) v_left)) (e9 := some ((cP2 cI cI) v_right)) (e10 := e10)  )
def t_first_gap_3a_1  : (Unit ⊕ (Option (Str × (Int × Int) × (Int × Int) × (Int × Int) × (Int × Int)))) := .inl ()
theorem w_first_gap_3a_1 {st : Sto} {e0 e1 e2 e3 e4 e5 e6 e7 e8 e9 e10 : Option D}  : MxP st (sNext [e0, e1, e2, e3, e4, e5, e6, e7, e8, e9, e10] (st ++ [])) (t_first_gap_3a_1) (fun (s : Unit) (env' : FL.Env) (S' : Sto) => ∃ x8 x9 : Option D, env' = [e0, e1, e2, e3, e4, e5, e6, e7, x8, x9, e10] ∧ S' = st ++ []) (cO (cP5 cS (cP2 cI cI) (cP2 cI cI) (cP2 cI cI) (cP2 cI cI))) :=
  mx_end ⟨_, _, rfl, rfl⟩
def t_first_gap_3aq (v_rectangles : (List ((Int × Int) × (Int × Int) × (Int × Int) × (Int × Int)))) (v_across : (List (Int × Int))) (v_low : (Int × Int)) (v_high : (Int × Int)) (q : Unit) : (Unit ⊕ (Option (Str × (Int × Int) × (Int × Int) × (Int × Int) × (Int × Int)))) := t_first_gap_3a_1
def t_first_gap_3a (v_rectangles : (List ((Int × Int) × (Int × Int) × (Int × Int) × (Int × Int)))) (v_across : (List (Int × Int))) (v_low : (Int × Int)) (v_high : (Int × Int)) : (Unit ⊕ (Option (Str × (Int × Int) × (Int × Int) × (Int × Int) × (Int × Int)))) := outM (forR (fun (s : Unit) (x : ((Int × Int) × (Int × Int))) => t_first_gap_3a_0a v_rectangles v_low v_high x.1 x.2) (v_across.zip (cutL v_across (some (1 : Int)) none)) ()) (t_first_gap_3aq v_rectangles v_across v_low v_high)
def c_first_gap_3a (v_rectangles : (List ((Int × Int) × (Int × Int) × (Int × Int) × (Int × Int)))) (v_across : (List (Int × Int))) (v_low : (Int × Int)) (v_high : (Int × Int)) : Prop := (cForR (fun (s : Unit) (x : ((Int × Int) × (Int × Int))) => c_first_gap_3a_0a v_rectangles v_low v_high x.1 x.2) (fun (s : Unit) (x : ((Int × Int) × (Int × Int))) => t_first_gap_3a_0a v_rectangles v_low v_high x.1 x.2) (v_across.zip (cutL v_across (some (1 : Int)) none)) ())
theorem w_first_gap_3a {st : Sto} {e0 e1 e2 e5 e8 e9 e10 : Option D} (v_rectangles : (List ((Int × Int) × (Int × Int) × (Int × Int) × (Int × Int)))) (v_across : (List (Int × Int))) (v_low : (Int × Int)) (v_high : (Int × Int)) (h : c_first_gap_3a v_rectangles v_across v_low v_high) : MxP st (b_first_gap_3a [e0, e1, e2, some ((cT (cP4 (cP2 cI cI) (cP2 cI cI) (cP2 cI cI) (cP2 cI cI))) v_rectangles), some ((cL (cP2 cI cI)) v_across), e5, some ((cP2 cI cI) v_low), some ((cP2 cI cI) v_high), e8, e9, e10] (st ++ [])) (t_first_gap_3a v_rectangles v_across v_low v_high) (fun (s : Unit) (env' : FL.Env) (S' : Sto) => ∃ x8 x9 : Option D, env' = [e0, e1, e2, some ((cT (cP4 (cP2 cI cI) (cP2 cI cI) (cP2 cI cI) (cP2 cI cI))) v_rectangles), some ((cL (cP2 cI cI)) v_across), e5, some ((cP2 cI cI) v_low), some ((cP2 cI cI) v_high), x8, x9, e10] ∧ S' = st ++ []) (cO (cP5 cS (cP2 cI cI) (cP2 cI cI) (cP2 cI cI) (cP2 cI cI))) :=
  mx_M (e := (cO (cP5 cS (cP2 cI cI) (cP2 cI cI) (cP2 cI cI) (cP2 cI cI)))) (do_forM (E := (fun (s : Unit) => [e0, e1, e2, some ((cT (cP4 (cP2 cI cI) (cP2 cI cI) (cP2 cI cI) (cP2 cI cI))) v_rectangles), some ((cL (cP2 cI cI)) v_across), e5, some ((cP2 cI cI) v_low), some ((cP2 cI cI) v_high), none, none, e10])) (O := (fun (s : Unit) => [])) (cx := (cP2 (cP2 cI cI) (cP2 cI cI))) (c := (fun (s : Unit) (x : ((Int × Int) × (Int × Int))) => c_first_gap_3a_0a v_rectangles v_low v_high x.1 x.2)) (t := (fun (s : Unit) (x : ((Int × Int) × (Int × Int))) => t_first_gap_3a_0a v_rectangles v_low v_high x.1 x.2)) (s := ()) (e := (cO (cP5 cS (cP2 cI cI) (cP2 cI cI) (cP2 cI cI) (cP2 cI cI)))) (it_zip (c := (cP2 cI cI)) (c' := (cP2 cI cI)) (ev_cons (ev_v rfl) (ev_cons (ev_sl (ev_v rfl) (ev_oSome (rfl)) (rfl) (sl_l (ls_L (c := (cP2 cI cI)) (xs := v_across)))) ev_nil)) rfl (sq_L (c := (cP2 cI cI)) (xs := v_across)) (sq_L (c := (cP2 cI cI)) (xs := (cutL v_across (some (1 : Int)) none)))) rfl (fun _ => rfl) (fun _ _ => rfl) (fun s x hc => ⟨[e0, e1, e2, some ((cT (cP4 (cP2 cI cI) (cP2 cI cI) (cP2 cI cI) (cP2 cI cI))) v_rectangles), some ((cL (cP2 cI cI)) v_across), e5, some ((cP2 cI cI) v_low), some ((cP2 cI cI) v_high), some ((cP2 cI cI) x.1), some ((cP2 cI cI) x.2), e10], rfl, MxP.mono (w_first_gap_3a_0a (st := st) (e0 := e0) (e1 := e1) (e2 := e2) (e4 := some ((cL (cP2 cI cI)) v_across)) (e5 := e5) (e10 := e10)  v_rectangles v_low v_high x.1 x.2 hc) (fun _ => fun | _, _, ⟨rfl, rfl⟩ => ⟨rfl, rfl⟩)⟩) h) (fun | q, _, _, hq, ⟨rfl, rfl⟩ => w_first_gap_3a_1 (st := st) (e0 := e0) (e1 := e1) (e2 := e2) (e3 := some ((cT (cP4 (cP2 cI cI) (cP2 cI cI) (cP2 cI cI) (cP2 cI cI))) v_rectangles)) (e4 := some ((cL (cP2 cI cI)) v_across)) (e5 := e5) (e6 := some ((cP2 cI cI) v_low)) (e7 := some ((cP2 cI cI) v_high)) (e8 := none) (e9 := none) (e10 := e10)  )
def t_first_gap_4  : (Option (Str × (Int × Int) × (Int × Int) × (Int × Int) × (Int × Int))) := none
theorem w_first_gap_4 {st : Sto} {e0 e1 e2 e3 e4 e5 e6 e7 e8 e9 e10 : Option D}  : RtP st (b_first_gap_4 [e0, e1, e2, e3, e4, e5, e6, e7, e8, e9, e10] (st ++ [])) ((cO (cP5 cS (cP2 cI cI) (cP2 cI cI) (cP2 cI cI) (cP2 cI cI))) (t_first_gap_4)) :=
  rt_ret (d := (cO (cP5 cS (cP2 cI cI) (cP2 cI cI) (cP2 cI cI) (cP2 cI cI))) none) (rfl) (fz_c (fl_O (fl_P5 fl_S (fl_P2 fl_I fl_I) (fl_P2 fl_I fl_I) (fl_P2 fl_I fl_I) (fl_P2 fl_I fl_I))))
def t_first_gap_3q (v_rectangles : (List ((Int × Int) × (Int × Int) × (Int × Int) × (Int × Int)))) (v_across : (List (Int × Int))) (v_upward : (List (Int × Int))) (q : Unit) : (Option (Str × (Int × Int) × (Int × Int) × (Int × Int) × (Int × Int))) := t_first_gap_4
def t_first_gap_3 (v_rectangles : (List ((Int × Int) × (Int × Int) × (Int × Int) × (Int × Int)))) (v_across : (List (Int × Int))) (v_upward : (List (Int × Int))) : (Option (Str × (Int × Int) × (Int × Int) × (Int × Int) × (Int × Int))) := outR (forR (fun (s : Unit) (x : ((Int × Int) × (Int × Int))) => t_first_gap_3a v_rectangles v_across x.1 x.2) (v_upward.zip (cutL v_upward (some (1 : Int)) none)) ()) (t_first_gap_3q v_rectangles v_across v_upward)
def c_first_gap_3 (v_rectangles : (List ((Int × Int) × (Int × Int) × (Int × Int) × (Int × Int)))) (v_across : (List (Int × Int))) (v_upward : (List (Int × Int))) : Prop := (cForR (fun (s : Unit) (x : ((Int × Int) × (Int × Int))) => c_first_gap_3a v_rectangles v_across x.1 x.2) (fun (s : Unit) (x : ((Int × Int) × (Int × Int))) => t_first_gap_3a v_rectangles v_across x.1 x.2) (v_upward.zip (cutL v_upward (some (1 : Int)) none)) ())
theorem w_first_gap_3 {st : Sto} {e0 e1 e2 e6 e7 e8 e9 e10 : Option D} (v_rectangles : (List ((Int × Int) × (Int × Int) × (Int × Int) × (Int × Int)))) (v_across : (List (Int × Int))) (v_upward : (List (Int × Int))) (h : c_first_gap_3 v_rectangles v_across v_upward) : RtP st (b_first_gap_3 [e0, e1, e2, some ((cT (cP4 (cP2 cI cI) (cP2 cI cI) (cP2 cI cI) (cP2 cI cI))) v_rectangles), some ((cL (cP2 cI cI)) v_across), some ((cL (cP2 cI cI)) v_upward), e6, e7, e8, e9, e10] (st ++ [])) ((cO (cP5 cS (cP2 cI cI) (cP2 cI cI) (cP2 cI cI) (cP2 cI cI))) (t_first_gap_3 v_rectangles v_across v_upward)) :=
  rt_M (e := (cO (cP5 cS (cP2 cI cI) (cP2 cI cI) (cP2 cI cI) (cP2 cI cI)))) (do_forM (E := (fun (s : Unit) => [e0, e1, e2, some ((cT (cP4 (cP2 cI cI) (cP2 cI cI) (cP2 cI cI) (cP2 cI cI))) v_rectangles), some ((cL (cP2 cI cI)) v_across), some ((cL (cP2 cI cI)) v_upward), none, none, none, none, e10])) (O := (fun (s : Unit) => [])) (cx := (cP2 (cP2 cI cI) (cP2 cI cI))) (c := (fun (s : Unit) (x : ((Int × Int) × (Int × Int))) => c_first_gap_3a v_rectangles v_across x.1 x.2)) (t := (fun (s : Unit) (x : ((Int × Int) × (Int × Int))) => t_first_gap_3a v_rectangles v_across x.1 x.2)) (s := ()) (e := (cO (cP5 cS (cP2 cI cI) (cP2 cI cI) (cP2 cI cI) (cP2 cI cI)))) (it_zip (c := (cP2 cI cI)) (c' := (cP2 cI cI)) (ev_cons (ev_v rfl) (ev_cons (ev_sl (ev_v rfl) (ev_oSome (rfl)) (rfl) (sl_l (ls_L (c := (cP2 cI cI)) (xs := v_upward)))) ev_nil)) rfl (sq_L (c := (cP2 cI cI)) (xs := v_upward)) (sq_L (c := (cP2 cI cI)) (xs := (cutL v_upward (some (1 : Int)) none)))) rfl (fun _ => rfl) (fun _ _ => rfl) (fun s x hc => ⟨[e0, e1, e2, some ((cT (cP4 (cP2 cI cI) (cP2 cI cI) (cP2 cI cI) (cP2 cI cI))) v_rectangles), some ((cL (cP2 cI cI)) v_across), some ((cL (cP2 cI cI)) v_upward), some ((cP2 cI cI) x.1), some ((cP2 cI cI) x.2), none, none, e10], rfl, MxP.mono (w_first_gap_3a (st := st) (e0 := e0) (e1 := e1) (e2 := e2) (e5 := some ((cL (cP2 cI cI)) v_upward)) (e8 := none) (e9 := none) (e10 := e10)  v_rectangles v_across x.1 x.2 hc) (fun _ => fun | _, _, ⟨_, _, rfl, rfl⟩ => ⟨rfl, rfl⟩)⟩) h) (fun | q, _, _, hq, ⟨rfl, rfl⟩ => w_first_gap_4 (st := st) (e0 := e0) (e1 := e1) (e2 := e2) (e3 := some ((cT (cP4 (cP2 cI cI) (cP2 cI cI) (cP2 cI cI) (cP2 cI cI))) v_rectangles)) (e4 := some ((cL (cP2 cI cI)) v_across)) (e5 := some ((cL (cP2 cI cI)) v_upward)) (e6 := none) (e7 := none) (e8 := none) (e9 := none) (e10 := e10)  )
def t_first_gap_2 (v_height : (Int × Int)) (v_rectangles : (List ((Int × Int) × (Int × Int) × (Int × Int) × (Int × Int)))) (v_across : (List (Int × Int))) : (Option (Str × (Int × Int) × (Int × Int) × (Int × Int) × (Int × Int))) := t_first_gap_3 v_rectangles v_across (T_rising (([((0 : Int), (1 : Int)), v_height] ++ (v_rectangles.map (fun (y11 : ((Int × Int) × (Int × Int) × (Int × Int) × (Int × Int))) => y11.2.1))) ++ (v_rectangles.map (fun (y12 : ((Int × Int) × (Int × Int) × (Int × Int) × (Int × Int))) => y12.2.2.2))))
def c_first_gap_2 (v_height : (Int × Int)) (v_rectangles : (List ((Int × Int) × (Int × Int) × (Int × Int) × (Int × Int)))) (v_across : (List (Int × Int))) : Prop := v_rectangles.length ≤ 1000000 ∧ ([((0 : Int), (1 : Int)), v_height].length + (v_rectangles.map (fun (y11 : ((Int × Int) × (Int × Int) × (Int × Int) × (Int × Int))) => y11.2.1)).length ≤ 1000000) ∧ v_rectangles.length ≤ 1000000 ∧ (([((0 : Int), (1 : Int)), v_height] ++ (v_rectangles.map (fun (y11 : ((Int × Int) × (Int × Int) × (Int × Int) × (Int × Int))) => y11.2.1))).length + (v_rectangles.map (fun (y12 : ((Int × Int) × (Int × Int) × (Int × Int) × (Int × Int))) => y12.2.2.2)).length ≤ 1000000) ∧ (C_rising (([((0 : Int), (1 : Int)), v_height] ++ (v_rectangles.map (fun (y11 : ((Int × Int) × (Int × Int) × (Int × Int) × (Int × Int))) => y11.2.1))) ++ (v_rectangles.map (fun (y12 : ((Int × Int) × (Int × Int) × (Int × Int) × (Int × Int))) => y12.2.2.2)))) ∧ c_first_gap_3 v_rectangles v_across (T_rising (([((0 : Int), (1 : Int)), v_height] ++ (v_rectangles.map (fun (y11 : ((Int × Int) × (Int × Int) × (Int × Int) × (Int × Int))) => y11.2.1))) ++ (v_rectangles.map (fun (y12 : ((Int × Int) × (Int × Int) × (Int × Int) × (Int × Int))) => y12.2.2.2))))
theorem w_first_gap_2 {st : Sto} {e0 e1 e5 e6 e7 e8 e9 e10 : Option D} (v_height : (Int × Int)) (v_rectangles : (List ((Int × Int) × (Int × Int) × (Int × Int) × (Int × Int)))) (v_across : (List (Int × Int))) (h : c_first_gap_2 v_height v_rectangles v_across) : RtP st (b_first_gap_2 [e0, e1, some ((cP2 cI cI) v_height), some ((cT (cP4 (cP2 cI cI) (cP2 cI cI) (cP2 cI cI) (cP2 cI cI))) v_rectangles), some ((cL (cP2 cI cI)) v_across), e5, e6, e7, e8, e9, e10] (st ++ [])) ((cO (cP5 cS (cP2 cI cI) (cP2 cI cI) (cP2 cI cI) (cP2 cI cI))) (t_first_gap_2 v_height v_rectangles v_across)) :=
  rt_nx (do_set (ev_call (ev_cons (a := (cL (cP2 cI cI)) (([((0 : Int), (1 : Int)), v_height] ++ (v_rectangles.map (fun (y11 : ((Int × Int) × (Int × Int) × (Int × Int) × (Int × Int))) => y11.2.1))) ++ (v_rectangles.map (fun (y12 : ((Int × Int) × (Int × Int) × (Int × Int) × (Int × Int))) => y12.2.2.2)))) (ev_op (ev_op (ev_frz (ev_lst (ev_cons (a := (cP2 cI cI) ((0 : Int), (1 : Int))) (rfl) (ev_cons (a := (cP2 cI cI) v_height) (ev_v rfl) (ev_nil))) rfl)) (ev_frz (ev_comp0 (cx := (cP4 (cP2 cI cI) (cP2 cI cI) (cP2 cI cI) (cP2 cI cI))) (cy := (cP2 cI cI)) (xs := v_rectangles) (f := (fun (y11 : ((Int × Int) × (Int × Int) × (Int × Int) × (Int × Int))) => y11.2.1)) (it_seq (c := (cP4 (cP2 cI cI) (cP2 cI cI) (cP2 cI cI) (cP2 cI cI))) (ev_v rfl) (sq_T (c := (cP4 (cP2 cI cI) (cP2 cI cI) (cP2 cI cI) (cP2 cI cI))) (xs := v_rectangles))) (fun y11 hx97 => ⟨[e0, e1, some ((cP2 cI cI) v_height), some ((cT (cP4 (cP2 cI cI) (cP2 cI cI) (cP2 cI cI) (cP2 cI cI))) v_rectangles), some ((cL (cP2 cI cI)) v_across), e5, e6, e7, e8, e9, some ((cP4 (cP2 cI cI) (cP2 cI cI) (cP2 cI cI) (cP2 cI cI)) y11)], rfl, ev_op (ev_v rfl) (rfl) rfl⟩) h.1)) (add_l (c := (cP2 cI cI)) (md_L (c := (cP2 cI cI)) (xs := [((0 : Int), (1 : Int)), v_height])) (md_L (c := (cP2 cI cI)) (xs := (v_rectangles.map (fun (y11 : ((Int × Int) × (Int × Int) × (Int × Int) × (Int × Int))) => y11.2.1)))) h.2.1)) (ev_frz (ev_comp0 (cx := (cP4 (cP2 cI cI) (cP2 cI cI) (cP2 cI cI) (cP2 cI cI))) (cy := (cP2 cI cI)) (xs := v_rectangles) (f := (fun (y12 : ((Int × Int) × (Int × Int) × (Int × Int) × (Int × Int))) => y12.2.2.2)) (it_seq (c := (cP4 (cP2 cI cI) (cP2 cI cI) (cP2 cI cI) (cP2 cI cI))) (ev_v rfl) (sq_T (c := (cP4 (cP2 cI cI) (cP2 cI cI) (cP2 cI cI) (cP2 cI cI))) (xs := v_rectangles))) (fun y12 hx99 => ⟨[e0, e1, some ((cP2 cI cI) v_height), some ((cT (cP4 (cP2 cI cI) (cP2 cI cI) (cP2 cI cI) (cP2 cI cI))) v_rectangles), some ((cL (cP2 cI cI)) v_across), e5, e6, e7, e8, e9, some ((cP4 (cP2 cI cI) (cP2 cI cI) (cP2 cI cI) (cP2 cI cI)) y12)], rfl, ev_op (ev_v rfl) (rfl) rfl⟩) h.2.2.1)) (add_l (c := (cP2 cI cI)) (md_L (c := (cP2 cI cI)) (xs := ([((0 : Int), (1 : Int)), v_height] ++ (v_rectangles.map (fun (y11 : ((Int × Int) × (Int × Int) × (Int × Int) × (Int × Int))) => y11.2.1))))) (md_L (c := (cP2 cI cI)) (xs := (v_rectangles.map (fun (y12 : ((Int × Int) × (Int × Int) × (Int × Int) × (Int × Int))) => y12.2.2.2)))) h.2.2.2.1)) (ev_nil)) rfl (f_rising (([((0 : Int), (1 : Int)), v_height] ++ (v_rectangles.map (fun (y11 : ((Int × Int) × (Int × Int) × (Int × Int) × (Int × Int))) => y11.2.1))) ++ (v_rectangles.map (fun (y12 : ((Int × Int) × (Int × Int) × (Int × Int) × (Int × Int))) => y12.2.2.2))) h.2.2.2.2.1))) (w_first_gap_3 (st := st) (e0 := e0) (e1 := e1) (e2 := some ((cP2 cI cI) v_height)) (e6 := e6) (e7 := e7) (e8 := e8) (e9 := e9) (e10 := e10)  v_rectangles v_across (T_rising (([((0 : Int), (1 : Int)), v_height] ++ (v_rectangles.map (fun (y11 : ((Int × Int) × (Int × Int) × (Int × Int) × (Int × Int))) => y11.2.1))) ++ (v_rectangles.map (fun (y12 : ((Int × Int) × (Int × Int) × (Int × Int) × (Int × Int))) => y12.2.2.2)))) h.2.2.2.2.2)
def t_first_gap_1 (v_width : (Int × Int)) (v_height : (Int × Int)) (v_rectangles : (List ((Int × Int) × (Int × Int) × (Int × Int) × (Int × Int)))) : (Option (Str × (Int × Int) × (Int × Int) × (Int × Int) × (Int × Int))) := t_first_gap_2 v_height v_rectangles (T_rising (([((0 : Int), (1 : Int)), v_width] ++ (v_rectangles.map (fun (y5 : ((Int × Int) × (Int × Int) × (Int × Int) × (Int × Int))) => y5.1))) ++ (v_rectangles.map (fun (y6 : ((Int × Int) × (Int × Int) × (Int × Int) × (Int × Int))) => y6.2.2.1))))
def c_first_gap_1 (v_width : (Int × Int)) (v_height : (Int × Int)) (v_rectangles : (List ((Int × Int) × (Int × Int) × (Int × Int) × (Int × Int)))) : Prop := v_rectangles.length ≤ 1000000 ∧ ([((0 : Int), (1 : Int)), v_width].length + (v_rectangles.map (fun (y5 : ((Int × Int) × (Int × Int) × (Int × Int) × (Int × Int))) => y5.1)).length ≤ 1000000) ∧ v_rectangles.length ≤ 1000000 ∧ (([((0 : Int), (1 : Int)), v_width] ++ (v_rectangles.map (fun (y5 : ((Int × Int) × (Int × Int) × (Int × Int) × (Int × Int))) => y5.1))).length + (v_rectangles.map (fun (y6 : ((Int × Int) × (Int × Int) × (Int × Int) × (Int × Int))) => y6.2.2.1)).length ≤ 1000000) ∧ (C_rising (([((0 : Int), (1 : Int)), v_width] ++ (v_rectangles.map (fun (y5 : ((Int × Int) × (Int × Int) × (Int × Int) × (Int × Int))) => y5.1))) ++ (v_rectangles.map (fun (y6 : ((Int × Int) × (Int × Int) × (Int × Int) × (Int × Int))) => y6.2.2.1)))) ∧ c_first_gap_2 v_height v_rectangles (T_rising (([((0 : Int), (1 : Int)), v_width] ++ (v_rectangles.map (fun (y5 : ((Int × Int) × (Int × Int) × (Int × Int) × (Int × Int))) => y5.1))) ++ (v_rectangles.map (fun (y6 : ((Int × Int) × (Int × Int) × (Int × Int) × (Int × Int))) => y6.2.2.1))))
theorem w_first_gap_1 {st : Sto} {e0 e4 e5 e6 e7 e8 e9 e10 : Option D} (v_width : (Int × Int)) (v_height : (Int × Int)) (v_rectangles : (List ((Int × Int) × (Int × Int) × (Int × Int) × (Int × Int)))) (h : c_first_gap_1 v_width v_height v_rectangles) : RtP st (b_first_gap_1 [e0, some ((cP2 cI cI) v_width), some ((cP2 cI cI) v_height), some ((cT (cP4 (cP2 cI cI) (cP2 cI cI) (cP2 cI cI) (cP2 cI cI))) v_rectangles), e4, e5, e6, e7, e8, e9, e10] (st ++ [])) ((cO (cP5 cS (cP2 cI cI) (cP2 cI cI) (cP2 cI cI) (cP2 cI cI))) (t_first_gap_1 v_width v_height v_rectangles)) :=
  rt_nx (do_set (ev_call (ev_cons (a := (cL (cP2 cI cI)) (([((0 : Int), (1 : Int)), v_width] ++ (v_rectangles.map (fun (y5 : ((Int × Int) × (Int × Int) × (Int × Int) × (Int × Int))) => y5.1))) ++ (v_rectangles.map (fun (y6 : ((Int × Int) × (Int × Int) × (Int × Int) × (Int × Int))) => y6.2.2.1)))) (ev_op (ev_op (ev_frz (ev_lst (ev_cons (a := (cP2 cI cI) ((0 : Int), (1 : Int))) (rfl) (ev_cons (a := (cP2 cI cI) v_width) (ev_v rfl) (ev_nil))) rfl)) (ev_frz (ev_comp0 (cx := (cP4 (cP2 cI cI) (cP2 cI cI) (cP2 cI cI) (cP2 cI cI))) (cy := (cP2 cI cI)) (xs := v_rectangles) (f := (fun (y5 : ((Int × Int) × (Int × Int) × (Int × Int) × (Int × Int))) => y5.1)) (it_seq (c := (cP4 (cP2 cI cI) (cP2 cI cI) (cP2 cI cI) (cP2 cI cI))) (ev_v rfl) (sq_T (c := (cP4 (cP2 cI cI) (cP2 cI cI) (cP2 cI cI) (cP2 cI cI))) (xs := v_rectangles))) (fun y5 hx85 => ⟨[e0, some ((cP2 cI cI) v_width), some ((cP2 cI cI) v_height), some ((cT (cP4 (cP2 cI cI) (cP2 cI cI) (cP2 cI cI) (cP2 cI cI))) v_rectangles), e4, e5, e6, e7, e8, e9, some ((cP4 (cP2 cI cI) (cP2 cI cI) (cP2 cI cI) (cP2 cI cI)) y5)], rfl, ev_op (ev_v rfl) (rfl) rfl⟩) h.1)) (add_l (c := (cP2 cI cI)) (md_L (c := (cP2 cI cI)) (xs := [((0 : Int), (1 : Int)), v_width])) (md_L (c := (cP2 cI cI)) (xs := (v_rectangles.map (fun (y5 : ((Int × Int) × (Int × Int) × (Int × Int) × (Int × Int))) => y5.1)))) h.2.1)) (ev_frz (ev_comp0 (cx := (cP4 (cP2 cI cI) (cP2 cI cI) (cP2 cI cI) (cP2 cI cI))) (cy := (cP2 cI cI)) (xs := v_rectangles) (f := (fun (y6 : ((Int × Int) × (Int × Int) × (Int × Int) × (Int × Int))) => y6.2.2.1)) (it_seq (c := (cP4 (cP2 cI cI) (cP2 cI cI) (cP2 cI cI) (cP2 cI cI))) (ev_v rfl) (sq_T (c := (cP4 (cP2 cI cI) (cP2 cI cI) (cP2 cI cI) (cP2 cI cI))) (xs := v_rectangles))) (fun y6 hx87 => ⟨[e0, some ((cP2 cI cI) v_width), some ((cP2 cI cI) v_height), some ((cT (cP4 (cP2 cI cI) (cP2 cI cI) (cP2 cI cI) (cP2 cI cI))) v_rectangles), e4, e5, e6, e7, e8, e9, some ((cP4 (cP2 cI cI) (cP2 cI cI) (cP2 cI cI) (cP2 cI cI)) y6)], rfl, ev_op (ev_v rfl) (rfl) rfl⟩) h.2.2.1)) (add_l (c := (cP2 cI cI)) (md_L (c := (cP2 cI cI)) (xs := ([((0 : Int), (1 : Int)), v_width] ++ (v_rectangles.map (fun (y5 : ((Int × Int) × (Int × Int) × (Int × Int) × (Int × Int))) => y5.1))))) (md_L (c := (cP2 cI cI)) (xs := (v_rectangles.map (fun (y6 : ((Int × Int) × (Int × Int) × (Int × Int) × (Int × Int))) => y6.2.2.1)))) h.2.2.2.1)) (ev_nil)) rfl (f_rising (([((0 : Int), (1 : Int)), v_width] ++ (v_rectangles.map (fun (y5 : ((Int × Int) × (Int × Int) × (Int × Int) × (Int × Int))) => y5.1))) ++ (v_rectangles.map (fun (y6 : ((Int × Int) × (Int × Int) × (Int × Int) × (Int × Int))) => y6.2.2.1))) h.2.2.2.2.1))) (w_first_gap_2 (st := st) (e0 := e0) (e1 := some ((cP2 cI cI) v_width)) (e5 := e5) (e6 := e6) (e7 := e7) (e8 := e8) (e9 := e9) (e10 := e10)  v_height v_rectangles (T_rising (([((0 : Int), (1 : Int)), v_width] ++ (v_rectangles.map (fun (y5 : ((Int × Int) × (Int × Int) × (Int × Int) × (Int × Int))) => y5.1))) ++ (v_rectangles.map (fun (y6 : ((Int × Int) × (Int × Int) × (Int × Int) × (Int × Int))) => y6.2.2.1)))) h.2.2.2.2.2)
def t_first_gap (v_floor : ((Int × Int) × (Int × Int) × (List ((Int × Int) × (Int × Int) × (Int × Int) × (Int × Int))))) : (Option (Str × (Int × Int) × (Int × Int) × (Int × Int) × (Int × Int))) := t_first_gap_1 v_floor.1 v_floor.2.1 v_floor.2.2
def c_first_gap (v_floor : ((Int × Int) × (Int × Int) × (List ((Int × Int) × (Int × Int) × (Int × Int) × (Int × Int))))) : Prop := c_first_gap_1 v_floor.1 v_floor.2.1 v_floor.2.2
theorem w_first_gap {st : Sto} {e1 e2 e3 e4 e5 e6 e7 e8 e9 e10 : Option D} (v_floor : ((Int × Int) × (Int × Int) × (List ((Int × Int) × (Int × Int) × (Int × Int) × (Int × Int))))) (h : c_first_gap v_floor) : RtP st (b_first_gap [some ((cP3 (cP2 cI cI) (cP2 cI cI) (cT (cP4 (cP2 cI cI) (cP2 cI cI) (cP2 cI cI) (cP2 cI cI)))) v_floor), e1, e2, e3, e4, e5, e6, e7, e8, e9, e10] (st ++ [])) ((cO (cP5 cS (cP2 cI cI) (cP2 cI cI) (cP2 cI cI) (cP2 cI cI))) (t_first_gap v_floor)) :=
  rt_nx (do_asg (env' := [some ((cP3 (cP2 cI cI) (cP2 cI cI) (cT (cP4 (cP2 cI cI) (cP2 cI cI) (cP2 cI cI) (cP2 cI cI)))) v_floor), some ((cP2 cI cI) v_floor.1), some ((cP2 cI cI) v_floor.2.1), some ((cT (cP4 (cP2 cI cI) (cP2 cI cI) (cP2 cI cI) (cP2 cI cI))) v_floor.2.2), e4, e5, e6, e7, e8, e9, e10]) (ev_v rfl) rfl) (w_first_gap_1 (st := st) (e0 := some ((cP3 (cP2 cI cI) (cP2 cI cI) (cT (cP4 (cP2 cI cI) (cP2 cI cI) (cP2 cI cI) (cP2 cI cI)))) v_floor)) (e4 := e4) (e5 := e5) (e6 := e6) (e7 := e7) (e8 := e8) (e9 := e9) (e10 := e10)  v_floor.1 v_floor.2.1 v_floor.2.2 h)
def T_first_gap (v_floor : ((Int × Int) × (Int × Int) × (List ((Int × Int) × (Int × Int) × (Int × Int) × (Int × Int))))) : (Option (Str × (Int × Int) × (Int × Int) × (Int × Int) × (Int × Int))) := t_first_gap v_floor
def C_first_gap (v_floor : ((Int × Int) × (Int × Int) × (List ((Int × Int) × (Int × Int) × (Int × Int) × (Int × Int))))) : Prop := c_first_gap v_floor
theorem f_first_gap {st : Sto} (v_floor : ((Int × Int) × (Int × Int) × (List ((Int × Int) × (Int × Int) × (Int × Int) × (Int × Int))))) (h : C_first_gap v_floor) : m_first_gap [(cP3 (cP2 cI cI) (cP2 cI cI) (cT (cP4 (cP2 cI cI) (cP2 cI cI) (cP2 cI cI) (cP2 cI cI)))) v_floor] st = .ok ((cO (cP5 cS (cP2 cI cI) (cP2 cI cI) (cP2 cI cI) (cP2 cI cI))) (T_first_gap v_floor)) st :=
  RtP.enter (b := b_first_gap) (env := [some ((cP3 (cP2 cI cI) (cP2 cI cI) (cT (cP4 (cP2 cI cI) (cP2 cI cI) (cP2 cI cI) (cP2 cI cI)))) v_floor), none, none, none, none, none, none, none, none, none, none]) (w_first_gap (st := st) (e1 := none) (e2 := none) (e3 := none) (e4 := none) (e5 := none) (e6 := none) (e7 := none) (e8 := none) (e9 := none) (e10 := none)  v_floor h)
def t_overlap_0a  : Bool := false
theorem w_overlap_0a {st : Sto} {e0 e1 : Option D}  : RtP st (b_overlap_0a [e0, e1] (st ++ [])) (cB (t_overlap_0a)) :=
  rt_ret (d := cB false) (rfl) (fz_c fl_B)
def t_overlap_1a  : Bool := false
theorem w_overlap_1a {st : Sto} {e0 e1 : Option D}  : RtP st (b_overlap_1a [e0, e1] (st ++ [])) (cB (t_overlap_1a)) :=
  rt_ret (d := cB false) (rfl) (fz_c fl_B)
def t_overlap_2 (v_one : ((Int × Int) × (Int × Int) × (Int × Int) × (Int × Int))) (v_other : ((Int × Int) × (Int × Int) × (Int × Int) × (Int × Int))) : Bool := ((T_less v_one.2.1 v_other.2.2.2) && (T_less v_other.2.1 v_one.2.2.2))
def c_overlap_2 (v_one : ((Int × Int) × (Int × Int) × (Int × Int) × (Int × Int))) (v_other : ((Int × Int) × (Int × Int) × (Int × Int) × (Int × Int))) : Prop := C_less v_one.2.1 v_other.2.2.2 ∧ ((T_less v_one.2.1 v_other.2.2.2) = true → C_less v_other.2.1 v_one.2.2.2)
theorem w_overlap_2 {st : Sto} (v_one : ((Int × Int) × (Int × Int) × (Int × Int) × (Int × Int))) (v_other : ((Int × Int) × (Int × Int) × (Int × Int) × (Int × Int))) (h : c_overlap_2 v_one v_other) : RtP st (b_overlap_2 [some ((cP4 (cP2 cI cI) (cP2 cI cI) (cP2 cI cI) (cP2 cI cI)) v_one), some ((cP4 (cP2 cI cI) (cP2 cI cI) (cP2 cI cI) (cP2 cI cI)) v_other)] (st ++ [])) (cB (t_overlap_2 v_one v_other)) :=
  rt_ret (d := cB ((T_less v_one.2.1 v_other.2.2.2) && (T_less v_other.2.1 v_one.2.2.2))) (ev_andB (ev_call (ev_cons (a := (cP2 cI cI) v_one.2.1) (ev_op (ev_v rfl) (rfl) rfl) (ev_cons (a := (cP2 cI cI) v_other.2.2.2) (ev_op (ev_v rfl) (rfl) rfl) (ev_nil))) rfl (f_less v_one.2.1 v_other.2.2.2 h.1)) (fun hg108 => ev_call (ev_cons (a := (cP2 cI cI) v_other.2.1) (ev_op (ev_v rfl) (rfl) rfl) (ev_cons (a := (cP2 cI cI) v_one.2.2.2) (ev_op (ev_v rfl) (rfl) rfl) (ev_nil))) rfl (f_less v_other.2.1 v_one.2.2.2 (h.2 hg108)))) (fz_c fl_B)
def t_overlap_1 (v_one : ((Int × Int) × (Int × Int) × (Int × Int) × (Int × Int))) (v_other : ((Int × Int) × (Int × Int) × (Int × Int) × (Int × Int))) : Bool := if ((!(T_less v_one.1 v_other.2.2.1)) || (!(T_less v_other.1 v_one.2.2.1))) = true then t_overlap_1a else t_overlap_2 v_one v_other
def c_overlap_1 (v_one : ((Int × Int) × (Int × Int) × (Int × Int) × (Int × Int))) (v_other : ((Int × Int) × (Int × Int) × (Int × Int) × (Int × Int))) : Prop := C_less v_one.1 v_other.2.2.1 ∧ ((!(T_less v_one.1 v_other.2.2.1)) = false → C_less v_other.1 v_one.2.2.1) ∧ (((!(T_less v_one.1 v_other.2.2.1)) || (!(T_less v_other.1 v_one.2.2.1))) = false → c_overlap_2 v_one v_other)
theorem w_overlap_1 {st : Sto} (v_one : ((Int × Int) × (Int × Int) × (Int × Int) × (Int × Int))) (v_other : ((Int × Int) × (Int × Int) × (Int × Int) × (Int × Int))) (h : c_overlap_1 v_one v_other) : RtP st (b_overlap_1 [some ((cP4 (cP2 cI cI) (cP2 cI cI) (cP2 cI cI) (cP2 cI cI)) v_one), some ((cP4 (cP2 cI cI) (cP2 cI cI) (cP2 cI cI) (cP2 cI cI)) v_other)] (st ++ [])) (cB (t_overlap_1 v_one v_other)) :=
  if_RX (e := cB) (tt_or (tt_not (tt_tru (ev_call (ev_cons (a := (cP2 cI cI) v_one.1) (ev_op (ev_v rfl) (rfl) rfl) (ev_cons (a := (cP2 cI cI) v_other.2.2.1) (ev_op (ev_v rfl) (rfl) rfl) (ev_nil))) rfl (f_less v_one.1 v_other.2.2.1 h.1)) rfl)) (fun hg107 => tt_not (tt_tru (ev_call (ev_cons (a := (cP2 cI cI) v_other.1) (ev_op (ev_v rfl) (rfl) rfl) (ev_cons (a := (cP2 cI cI) v_one.2.2.1) (ev_op (ev_v rfl) (rfl) rfl) (ev_nil))) rfl (f_less v_other.1 v_one.2.2.1 (h.2.1 hg107))) rfl))) (fun hc => w_overlap_1a (st := st) (e0 := some ((cP4 (cP2 cI cI) (cP2 cI cI) (cP2 cI cI) (cP2 cI cI)) v_one)) (e1 := some ((cP4 (cP2 cI cI) (cP2 cI cI) (cP2 cI cI) (cP2 cI cI)) v_other))  ) (fun hc => w_overlap_2 (st := st)   v_one v_other (h.2.2 hc))
def t_overlap (v_one : ((Int × Int) × (Int × Int) × (Int × Int) × (Int × Int))) (v_other : ((Int × Int) × (Int × Int) × (Int × Int) × (Int × Int))) : Bool := if (decide (v_one.1 = v_one.2.2.1) || decide (v_other.1 = v_other.2.2.1)) = true then t_overlap_0a else t_overlap_1 v_one v_other
def c_overlap (v_one : ((Int × Int) × (Int × Int) × (Int × Int) × (Int × Int))) (v_other : ((Int × Int) × (Int × Int) × (Int × Int) × (Int × Int))) : Prop := ((decide (v_one.1 = v_one.2.2.1) || decide (v_other.1 = v_other.2.2.1)) = false → c_overlap_1 v_one v_other)
theorem w_overlap {st : Sto} (v_one : ((Int × Int) × (Int × Int) × (Int × Int) × (Int × Int))) (v_other : ((Int × Int) × (Int × Int) × (Int × Int) × (Int × Int))) (h : c_overlap v_one v_other) : RtP st (b_overlap [some ((cP4 (cP2 cI cI) (cP2 cI cI) (cP2 cI cI) (cP2 cI cI)) v_one), some ((cP4 (cP2 cI cI) (cP2 cI cI) (cP2 cI cI) (cP2 cI cI)) v_other)] (st ++ [])) (cB (t_overlap v_one v_other)) :=
  if_RX (e := cB) (tt_or (tt_B (ev_op (a := (cP2 cI cI) v_one.1) (b := (cP2 cI cI) v_one.2.2.1) (ev_op (ev_v rfl) (rfl) rfl) (ev_op (ev_v rfl) (rfl) rfl) (eq_c (eq_P2 eq_I eq_I)))) (fun hg106 => tt_B (ev_op (a := (cP2 cI cI) v_other.1) (b := (cP2 cI cI) v_other.2.2.1) (ev_op (ev_v rfl) (rfl) rfl) (ev_op (ev_v rfl) (rfl) rfl) (eq_c (eq_P2 eq_I eq_I))))) (fun hc => w_overlap_0a (st := st) (e0 := some ((cP4 (cP2 cI cI) (cP2 cI cI) (cP2 cI cI) (cP2 cI cI)) v_one)) (e1 := some ((cP4 (cP2 cI cI) (cP2 cI cI) (cP2 cI cI) (cP2 cI cI)) v_other))  ) (fun hc => w_overlap_1 (st := st)   v_one v_other (h hc))
def T_overlap (v_one : ((Int × Int) × (Int × Int) × (Int × Int) × (Int × Int))) (v_other : ((Int × Int) × (Int × Int) × (Int × Int) × (Int × Int))) : Bool := t_overlap v_one v_other
def C_overlap (v_one : ((Int × Int) × (Int × Int) × (Int × Int) × (Int × Int))) (v_other : ((Int × Int) × (Int × Int) × (Int × Int) × (Int × Int))) : Prop := c_overlap v_one v_other
theorem f_overlap {st : Sto} (v_one : ((Int × Int) × (Int × Int) × (Int × Int) × (Int × Int))) (v_other : ((Int × Int) × (Int × Int) × (Int × Int) × (Int × Int))) (h : C_overlap v_one v_other) : m_overlap [(cP4 (cP2 cI cI) (cP2 cI cI) (cP2 cI cI) (cP2 cI cI)) v_one, (cP4 (cP2 cI cI) (cP2 cI cI) (cP2 cI cI) (cP2 cI cI)) v_other] st = .ok (cB (T_overlap v_one v_other)) st :=
  RtP.enter (b := b_overlap) (env := [some ((cP4 (cP2 cI cI) (cP2 cI cI) (cP2 cI cI) (cP2 cI cI)) v_one), some ((cP4 (cP2 cI cI) (cP2 cI cI) (cP2 cI cI) (cP2 cI cI)) v_other)]) (w_overlap (st := st)   v_one v_other h)
def t_first_overlap_0a_0a_0a (v_j : Int) (v_k : Int) : (Option (Str × Int × Int)) := some (("overlap" : Str), v_j, v_k)
theorem w_first_overlap_0a_0a_0a {st : Sto} {e0 e2 : Option D} (v_j : Int) (v_k : Int) : RtP st (b_first_overlap_0a_0a_0a [e0, some (cI v_j), e2, some (cI v_k)] (st ++ [])) ((cO (cP3 cS cI cI)) (t_first_overlap_0a_0a_0a v_j v_k)) :=
  rt_ret (d := (cO (cP3 cS cI cI)) (some (("overlap" : Str), v_j, v_k))) (ev_tup (ev_cons (a := cS ("overlap" : Str)) (rfl) (ev_cons (a := cI v_j) (ev_v rfl) (ev_cons (a := cI v_k) (ev_v rfl) (ev_nil)))) rfl) (fz_c (fl_O (fl_P3 fl_S fl_I fl_I)))
def t_first_overlap_0a_0a_1  : (Unit ⊕ (Option (Str × Int × Int))) := .inl ()
theorem w_first_overlap_0a_0a_1 {st : Sto} {e0 e1 e2 e3 : Option D}  : MxP st (sNext [e0, e1, e2, e3] (st ++ [])) (t_first_overlap_0a_0a_1) (fun (s : Unit) (env' : FL.Env) (S' : Sto) => env' = [e0, e1, e2, e3] ∧ S' = st ++ []) (cO (cP3 cS cI cI)) :=
  mx_end ⟨rfl, rfl⟩
def t_first_overlap_0a_0a (v_rectangles : (List ((Int × Int) × (Int × Int) × (Int × Int) × (Int × Int)))) (v_j : Int) (v_one : ((Int × Int) × (Int × Int) × (Int × Int) × (Int × Int))) (v_k : Int) : (Unit ⊕ (Option (Str × Int × Int))) := if (T_overlap v_one (getI v_rectangles v_k)) = true then .inr (t_first_overlap_0a_0a_0a v_j v_k) else t_first_overlap_0a_0a_1
def c_first_overlap_0a_0a (v_rectangles : (List ((Int × Int) × (Int × Int) × (Int × Int) × (Int × Int)))) (v_j : Int) (v_one : ((Int × Int) × (Int × Int) × (Int × Int) × (Int × Int))) (v_k : Int) : Prop := IxOk v_rectangles.length v_k ∧ C_overlap v_one (getI v_rectangles v_k)
theorem w_first_overlap_0a_0a {st : Sto} (v_rectangles : (List ((Int × Int) × (Int × Int) × (Int × Int) × (Int × Int)))) (v_j : Int) (v_one : ((Int × Int) × (Int × Int) × (Int × Int) × (Int × Int))) (v_k : Int) (h : c_first_overlap_0a_0a v_rectangles v_j v_one v_k) : MxP st (b_first_overlap_0a_0a [some ((cT (cP4 (cP2 cI cI) (cP2 cI cI) (cP2 cI cI) (cP2 cI cI))) v_rectangles), some (cI v_j), some ((cP4 (cP2 cI cI) (cP2 cI cI) (cP2 cI cI) (cP2 cI cI)) v_one), some (cI v_k)] (st ++ [])) (t_first_overlap_0a_0a v_rectangles v_j v_one v_k) (fun (s : Unit) (env' : FL.Env) (S' : Sto) => env' = [some ((cT (cP4 (cP2 cI cI) (cP2 cI cI) (cP2 cI cI) (cP2 cI cI))) v_rectangles), some (cI v_j), some ((cP4 (cP2 cI cI) (cP2 cI cI) (cP2 cI cI) (cP2 cI cI)) v_one), some (cI v_k)] ∧ S' = st ++ []) (cO (cP3 cS cI cI)) :=
  if_MX (e := (cO (cP3 cS cI cI))) (tt_tru (ev_call (ev_cons (a := (cP4 (cP2 cI cI) (cP2 cI cI) (cP2 cI cI) (cP2 cI cI)) v_one) (ev_v rfl) (ev_cons (a := (cP4 (cP2 cI cI) (cP2 cI cI) (cP2 cI cI) (cP2 cI cI)) (getI v_rectangles v_k)) (ev_op (ev_v rfl) (ev_v rfl) (ix_c (c := (cP4 (cP2 cI cI) (cP2 cI cI) (cP2 cI cI) (cP2 cI cI))) (sq_T (c := (cP4 (cP2 cI cI) (cP2 cI cI) (cP2 cI cI) (cP2 cI cI))) (xs := v_rectangles)) h.1)) (ev_nil))) rfl (f_overlap v_one (getI v_rectangles v_k) h.2)) rfl) (fun hc => w_first_overlap_0a_0a_0a (st := st) (e0 := some ((cT (cP4 (cP2 cI cI) (cP2 cI cI) (cP2 cI cI) (cP2 cI cI))) v_rectangles)) (e2 := some ((cP4 (cP2 cI cI) (cP2 cI cI) (cP2 cI cI) (cP2 cI cI)) v_one))  v_j v_k) (fun hc => w_first_overlap_0a_0a_1 (st := st) (e0 := some ((cT (cP4 (cP2 cI cI) (cP2 cI cI) (cP2 cI cI) (cP2 cI cI))) v_rectangles)) (e1 := some (cI v_j)) (e2 := some ((cP4 (cP2 cI cI) (cP2 cI cI) (cP2 cI cI) (cP2 cI cI)) v_one)) (e3 := some (cI v_k))  )
def t_first_overlap_0a_1  : (Unit ⊕ (Option (Str × Int × Int))) := .inl ()
theorem w_first_overlap_0a_1 {st : Sto} {e0 e1 e2 e3 : Option D}  : MxP st (sNext [e0, e1, e2, e3] (st ++ [])) (t_first_overlap_0a_1) (fun (s : Unit) (env' : FL.Env) (S' : Sto) => ∃ x3 : Option D, env' = [e0, e1, e2, x3] ∧ S' = st ++ []) (cO (cP3 cS cI cI)) :=
  mx_end ⟨_, rfl, rfl⟩
def t_first_overlap_0aq (v_rectangles : (List ((Int × Int) × (Int × Int) × (Int × Int) × (Int × Int)))) (v_j : Int) (v_one : ((Int × Int) × (Int × Int) × (Int × Int) × (Int × Int))) (q : Unit) : (Unit ⊕ (Option (Str × Int × Int))) := t_first_overlap_0a_1
def t_first_overlap_0a (v_rectangles : (List ((Int × Int) × (Int × Int) × (Int × Int) × (Int × Int)))) (v_j : Int) (v_one : ((Int × Int) × (Int × Int) × (Int × Int) × (Int × Int))) : (Unit ⊕ (Option (Str × Int × Int))) := outM (forR (fun (s : Unit) (x : Int) => t_first_overlap_0a_0a v_rectangles v_j v_one x) (rngI (v_j + (1 : Int)) (v_rectangles.length : Int)) ()) (t_first_overlap_0aq v_rectangles v_j v_one)
def c_first_overlap_0a (v_rectangles : (List ((Int × Int) × (Int × Int) × (Int × Int) × (Int × Int)))) (v_j : Int) (v_one : ((Int × Int) × (Int × Int) × (Int × Int) × (Int × Int))) : Prop := smallI (v_j + (1 : Int)) ∧ smallI (v_rectangles.length : Int) ∧ (cForR (fun (s : Unit) (x : Int) => c_first_overlap_0a_0a v_rectangles v_j v_one x) (fun (s : Unit) (x : Int) => t_first_overlap_0a_0a v_rectangles v_j v_one x) (rngI (v_j + (1 : Int)) (v_rectangles.length : Int)) ())
theorem w_first_overlap_0a {st : Sto} {e3 : Option D} (v_rectangles : (List ((Int × Int) × (Int × Int) × (Int × Int) × (Int × Int)))) (v_j : Int) (v_one : ((Int × Int) × (Int × Int) × (Int × Int) × (Int × Int))) (h : c_first_overlap_0a v_rectangles v_j v_one) : MxP st (b_first_overlap_0a [some ((cT (cP4 (cP2 cI cI) (cP2 cI cI) (cP2 cI cI) (cP2 cI cI))) v_rectangles), some (cI v_j), some ((cP4 (cP2 cI cI) (cP2 cI cI) (cP2 cI cI) (cP2 cI cI)) v_one), e3] (st ++ [])) (t_first_overlap_0a v_rectangles v_j v_one) (fun (s : Unit) (env' : FL.Env) (S' : Sto) => ∃ x3 : Option D, env' = [some ((cT (cP4 (cP2 cI cI) (cP2 cI cI) (cP2 cI cI) (cP2 cI cI))) v_rectangles), some (cI v_j), some ((cP4 (cP2 cI cI) (cP2 cI cI) (cP2 cI cI) (cP2 cI cI)) v_one), x3] ∧ S' = st ++ []) (cO (cP3 cS cI cI)) :=
  mx_M (e := (cO (cP3 cS cI cI))) (do_forM (E := (fun (s : Unit) => [some ((cT (cP4 (cP2 cI cI) (cP2 cI cI) (cP2 cI cI) (cP2 cI cI))) v_rectangles), some (cI v_j), some ((cP4 (cP2 cI cI) (cP2 cI cI) (cP2 cI cI) (cP2 cI cI)) v_one), none])) (O := (fun (s : Unit) => [])) (cx := cI) (c := (fun (s : Unit) (x : Int) => c_first_overlap_0a_0a v_rectangles v_j v_one x)) (t := (fun (s : Unit) (x : Int) => t_first_overlap_0a_0a v_rectangles v_j v_one x)) (s := ()) (e := (cO (cP3 cS cI cI))) (it_rng2 (ev_cons (ev_op (a := cI v_j) (b := cI (1 : Int)) (ev_v rfl) (rfl) rfl) (ev_cons (ev_B (ev_cons (ev_v rfl) ev_nil) (len_c (c := (cP4 (cP2 cI cI) (cP2 cI cI) (cP2 cI cI) (cP2 cI cI))) (sq_T (c := (cP4 (cP2 cI cI) (cP2 cI cI) (cP2 cI cI) (cP2 cI cI))) (xs := v_rectangles)))) ev_nil)) h.1 h.2.1) rfl (fun _ => rfl) (fun _ _ => rfl) (fun s x hc => ⟨[some ((cT (cP4 (cP2 cI cI) (cP2 cI cI) (cP2 cI cI) (cP2 cI cI))) v_rectangles), some (cI v_j), some ((cP4 (cP2 cI cI) (cP2 cI cI) (cP2 cI cI) (cP2 cI cI)) v_one), some (cI x)], rfl, MxP.mono (w_first_overlap_0a_0a (st := st)   v_rectangles v_j v_one x hc) (fun _ => fun | _, _, ⟨rfl, rfl⟩ => ⟨rfl, rfl⟩)⟩) h.2.2) (fun | q, _, _, hq, ⟨rfl, rfl⟩ => w_first_overlap_0a_1 (st := st) (e0 := some ((cT (cP4 (cP2 cI cI) (cP2 cI cI) (cP2 cI cI) (cP2 cI cI))) v_rectangles)) (e1 := some (cI v_j)) (e2 := some ((cP4 (cP2 cI cI) (cP2 cI cI) (cP2 cI cI) (cP2 cI cI)) v_one)) (e3 := none)  )
def t_first_overlap_1  : (Option (Str × Int × Int)) := none
theorem w_first_overlap_1 {st : Sto} {e0 e1 e2 e3 : Option D}  : RtP st (b_first_overlap_1 [e0, e1, e2, e3] (st ++ [])) ((cO (cP3 cS cI cI)) (t_first_overlap_1)) :=
  rt_ret (d := (cO (cP3 cS cI cI)) none) (rfl) (fz_c (fl_O (fl_P3 fl_S fl_I fl_I)))
def t_first_overlapq (v_rectangles : (List ((Int × Int) × (Int × Int) × (Int × Int) × (Int × Int)))) (q : Unit) : (Option (Str × Int × Int)) := t_first_overlap_1
def t_first_overlap (v_rectangles : (List ((Int × Int) × (Int × Int) × (Int × Int) × (Int × Int)))) : (Option (Str × Int × Int)) := outR (forR (fun (s : Unit) (x : (Int × ((Int × Int) × (Int × Int) × (Int × Int) × (Int × Int)))) => t_first_overlap_0a v_rectangles x.1 x.2) (enumI v_rectangles) ()) (t_first_overlapq v_rectangles)
def c_first_overlap (v_rectangles : (List ((Int × Int) × (Int × Int) × (Int × Int) × (Int × Int)))) : Prop := (cForR (fun (s : Unit) (x : (Int × ((Int × Int) × (Int × Int) × (Int × Int) × (Int × Int)))) => c_first_overlap_0a v_rectangles x.1 x.2) (fun (s : Unit) (x : (Int × ((Int × Int) × (Int × Int) × (Int × Int) × (Int × Int)))) => t_first_overlap_0a v_rectangles x.1 x.2) (enumI v_rectangles) ())
theorem w_first_overlap {st : Sto} {e1 e2 e3 : Option D} (v_rectangles : (List ((Int × Int) × (Int × Int) × (Int × Int) × (Int × Int)))) (h : c_first_overlap v_rectangles) : RtP st (b_first_overlap [some ((cT (cP4 (cP2 cI cI) (cP2 cI cI) (cP2 cI cI) (cP2 cI cI))) v_rectangles), e1, e2, e3] (st ++ [])) ((cO (cP3 cS cI cI)) (t_first_overlap v_rectangles)) :=
  rt_M (e := (cO (cP3 cS cI cI))) (do_forM (E := (fun (s : Unit) => [some ((cT (cP4 (cP2 cI cI) (cP2 cI cI) (cP2 cI cI) (cP2 cI cI))) v_rectangles), none, none, none])) (O := (fun (s : Unit) => [])) (cx := (cP2 cI (cP4 (cP2 cI cI) (cP2 cI cI) (cP2 cI cI) (cP2 cI cI)))) (c := (fun (s : Unit) (x : (Int × ((Int × Int) × (Int × Int) × (Int × Int) × (Int × Int)))) => c_first_overlap_0a v_rectangles x.1 x.2)) (t := (fun (s : Unit) (x : (Int × ((Int × Int) × (Int × Int) × (Int × Int) × (Int × Int)))) => t_first_overlap_0a v_rectangles x.1 x.2)) (s := ()) (e := (cO (cP3 cS cI cI))) (it_enum (c := (cP4 (cP2 cI cI) (cP2 cI cI) (cP2 cI cI) (cP2 cI cI))) (ev_cons (ev_v rfl) ev_nil) (sq_T (c := (cP4 (cP2 cI cI) (cP2 cI cI) (cP2 cI cI) (cP2 cI cI))) (xs := v_rectangles))) rfl (fun _ => rfl) (fun _ _ => rfl) (fun s x hc => ⟨[some ((cT (cP4 (cP2 cI cI) (cP2 cI cI) (cP2 cI cI) (cP2 cI cI))) v_rectangles), some (cI x.1), some ((cP4 (cP2 cI cI) (cP2 cI cI) (cP2 cI cI) (cP2 cI cI)) x.2), none], rfl, MxP.mono (w_first_overlap_0a (st := st) (e3 := none)  v_rectangles x.1 x.2 hc) (fun _ => fun | _, _, ⟨_, rfl, rfl⟩ => ⟨rfl, rfl⟩)⟩) h) (fun | q, _, _, hq, ⟨rfl, rfl⟩ => w_first_overlap_1 (st := st) (e0 := some ((cT (cP4 (cP2 cI cI) (cP2 cI cI) (cP2 cI cI) (cP2 cI cI))) v_rectangles)) (e1 := none) (e2 := none) (e3 := none)  )
def T_first_overlap (v_rectangles : (List ((Int × Int) × (Int × Int) × (Int × Int) × (Int × Int)))) : (Option (Str × Int × Int)) := t_first_overlap v_rectangles
def C_first_overlap (v_rectangles : (List ((Int × Int) × (Int × Int) × (Int × Int) × (Int × Int)))) : Prop := c_first_overlap v_rectangles
theorem f_first_overlap {st : Sto} (v_rectangles : (List ((Int × Int) × (Int × Int) × (Int × Int) × (Int × Int)))) (h : C_first_overlap v_rectangles) : m_first_overlap [(cT (cP4 (cP2 cI cI) (cP2 cI cI) (cP2 cI cI) (cP2 cI cI))) v_rectangles] st = .ok ((cO (cP3 cS cI cI)) (T_first_overlap v_rectangles)) st :=
  RtP.enter (b := b_first_overlap) (env := [some ((cT (cP4 (cP2 cI cI) (cP2 cI cI) (cP2 cI cI) (cP2 cI cI))) v_rectangles), none, none, none]) (w_first_overlap (st := st) (e1 := none) (e2 := none) (e3 := none)  v_rectangles h)
def t_is_none_1a  : Bool := true
theorem w_is_none_1a {st : Sto} {e0 e1 e2 e3 e4 : Option D}  : RtP st (b_is_none_1a [e0, e1, e2, e3, e4] (st ++ [])) (cB (t_is_none_1a)) :=
  rt_ret (d := cB true) (rfl) (fz_c fl_B)
def t_is_none_2 (v_left : (Int × Int)) (v_low : (Int × Int)) (v_right : (Int × Int)) (v_high : (Int × Int)) : Bool := (!decide (decide (v_left = v_right) = decide (v_low = v_high)))
theorem w_is_none_2 {st : Sto} {e0 : Option D} (v_left : (Int × Int)) (v_low : (Int × Int)) (v_right : (Int × Int)) (v_high : (Int × Int)) : RtP st (b_is_none_2 [e0, some ((cP2 cI cI) v_left), some ((cP2 cI cI) v_low), some ((cP2 cI cI) v_right), some ((cP2 cI cI) v_high)] (st ++ [])) (cB (t_is_none_2 v_left v_low v_right v_high)) :=
  rt_ret (d := cB (!decide (decide (v_left = v_right) = decide (v_low = v_high)))) (ev_op (a := cB (decide (v_left = v_right))) (b := cB (decide (v_low = v_high))) (ev_op (a := (cP2 cI cI) v_left) (b := (cP2 cI cI) v_right) (ev_v rfl) (ev_v rfl) (eq_c (eq_P2 eq_I eq_I))) (ev_op (a := (cP2 cI cI) v_low) (b := (cP2 cI cI) v_high) (ev_v rfl) (ev_v rfl) (eq_c (eq_P2 eq_I eq_I))) (ne_c eq_B)) (fz_c fl_B)
def t_is_none_1 (v_left : (Int × Int)) (v_low : (Int × Int)) (v_right : (Int × Int)) (v_high : (Int × Int)) : Bool := if ((T_less v_right v_left) || (T_less v_high v_low)) = true then t_is_none_1a else t_is_none_2 v_left v_low v_right v_high
def c_is_none_1 (v_left : (Int × Int)) (v_low : (Int × Int)) (v_right : (Int × Int)) (v_high : (Int × Int)) : Prop := C_less v_right v_left ∧ ((T_less v_right v_left) = false → C_less v_high v_low)
theorem w_is_none_1 {st : Sto} {e0 : Option D} (v_left : (Int × Int)) (v_low : (Int × Int)) (v_right : (Int × Int)) (v_high : (Int × Int)) (h : c_is_none_1 v_left v_low v_right v_high) : RtP st (b_is_none_1 [e0, some ((cP2 cI cI) v_left), some ((cP2 cI cI) v_low), some ((cP2 cI cI) v_right), some ((cP2 cI cI) v_high)] (st ++ [])) (cB (t_is_none_1 v_left v_low v_right v_high)) :=
  if_RX (e := cB) (tt_or (tt_tru (ev_call (ev_cons (a := (cP2 cI cI) v_right) (ev_v rfl) (ev_cons (a := (cP2 cI cI) v_left) (ev_v rfl) (ev_nil))) rfl (f_less v_right v_left h.1)) rfl) (fun hg111 => tt_tru (ev_call (ev_cons (a := (cP2 cI cI) v_high) (ev_v rfl) (ev_cons (a := (cP2 cI cI) v_low) (ev_v rfl) (ev_nil))) rfl (f_less v_high v_low (h.2 hg111))) rfl)) (fun hc => w_is_none_1a (st := st) (e0 := e0) (e1 := some ((cP2 cI cI) v_left)) (e2 := some ((cP2 cI cI) v_low)) (e3 := some ((cP2 cI cI) v_right)) (e4 := some ((cP2 cI cI) v_high))  ) (fun hc => w_is_none_2 (st := st) (e0 := e0)  v_left v_low v_right v_high)
def t_is_none (v_one : ((Int × Int) × (Int × Int) × (Int × Int) × (Int × Int))) : Bool := t_is_none_1 v_one.1 v_one.2.1 v_one.2.2.1 v_one.2.2.2
def c_is_none (v_one : ((Int × Int) × (Int × Int) × (Int × Int) × (Int × Int))) : Prop := c_is_none_1 v_one.1 v_one.2.1 v_one.2.2.1 v_one.2.2.2
theorem w_is_none {st : Sto} {e1 e2 e3 e4 : Option D} (v_one : ((Int × Int) × (Int × Int) × (Int × Int) × (Int × Int))) (h : c_is_none v_one) : RtP st (b_is_none [some ((cP4 (cP2 cI cI) (cP2 cI cI) (cP2 cI cI) (cP2 cI cI)) v_one), e1, e2, e3, e4] (st ++ [])) (cB (t_is_none v_one)) :=
  rt_nx (do_asg (env' := [some ((cP4 (cP2 cI cI) (cP2 cI cI) (cP2 cI cI) (cP2 cI cI)) v_one), some ((cP2 cI cI) v_one.1), some ((cP2 cI cI) v_one.2.1), some ((cP2 cI cI) v_one.2.2.1), some ((cP2 cI cI) v_one.2.2.2)]) (ev_v rfl) rfl) (w_is_none_1 (st := st) (e0 := some ((cP4 (cP2 cI cI) (cP2 cI cI) (cP2 cI cI) (cP2 cI cI)) v_one))  v_one.1 v_one.2.1 v_one.2.2.1 v_one.2.2.2 h)
def T_is_none (v_one : ((Int × Int) × (Int × Int) × (Int × Int) × (Int × Int))) : Bool := t_is_none v_one
def C_is_none (v_one : ((Int × Int) × (Int × Int) × (Int × Int) × (Int × Int))) : Prop := c_is_none v_one
theorem f_is_none {st : Sto} (v_one : ((Int × Int) × (Int × Int) × (Int × Int) × (Int × Int))) (h : C_is_none v_one) : m_is_none [(cP4 (cP2 cI cI) (cP2 cI cI) (cP2 cI cI) (cP2 cI cI)) v_one] st = .ok (cB (T_is_none v_one)) st :=
  RtP.enter (b := b_is_none) (env := [some ((cP4 (cP2 cI cI) (cP2 cI cI) (cP2 cI cI) (cP2 cI cI)) v_one), none, none, none, none]) (w_is_none (st := st) (e1 := none) (e2 := none) (e3 := none) (e4 := none)  v_one h)
def t_is_out_1 (v_width : (Int × Int)) (v_height : (Int × Int)) (v_left : (Int × Int)) (v_low : (Int × Int)) (v_right : (Int × Int)) (v_high : (Int × Int)) : Bool := ((T_less v_left ((0 : Int), (1 : Int))) || ((T_less v_low ((0 : Int), (1 : Int))) || ((T_less v_width v_right) || (T_less v_height v_high))))
def c_is_out_1 (v_width : (Int × Int)) (v_height : (Int × Int)) (v_left : (Int × Int)) (v_low : (Int × Int)) (v_right : (Int × Int)) (v_high : (Int × Int)) : Prop := C_less v_left ((0 : Int), (1 : Int)) ∧ ((T_less v_left ((0 : Int), (1 : Int))) = false → C_less v_low ((0 : Int), (1 : Int)) ∧ ((T_less v_low ((0 : Int), (1 : Int))) = false → C_less v_width v_right ∧ ((T_less v_width v_right) = false → C_less v_height v_high)))
theorem w_is_out_1 {st : Sto} {e0 : Option D} (v_width : (Int × Int)) (v_height : (Int × Int)) (v_left : (Int × Int)) (v_low : (Int × Int)) (v_right : (Int × Int)) (v_high : (Int × Int)) (h : c_is_out_1 v_width v_height v_left v_low v_right v_high) : RtP st (b_is_out_1 [e0, some ((cP2 cI cI) v_width), some ((cP2 cI cI) v_height), some ((cP2 cI cI) v_left), some ((cP2 cI cI) v_low), some ((cP2 cI cI) v_right), some ((cP2 cI cI) v_high)] (st ++ [])) (cB (t_is_out_1 v_width v_height v_left v_low v_right v_high)) :=
  rt_ret (d := cB ((T_less v_left ((0 : Int), (1 : Int))) || ((T_less v_low ((0 : Int), (1 : Int))) || ((T_less v_width v_right) || (T_less v_height v_high))))) (ev_orB (ev_call (ev_cons (a := (cP2 cI cI) v_left) (ev_v rfl) (ev_cons (a := (cP2 cI cI) ((0 : Int), (1 : Int))) (rfl) (ev_nil))) rfl (f_less v_left ((0 : Int), (1 : Int)) h.1)) (fun hg118 => ev_orB (ev_call (ev_cons (a := (cP2 cI cI) v_low) (ev_v rfl) (ev_cons (a := (cP2 cI cI) ((0 : Int), (1 : Int))) (rfl) (ev_nil))) rfl (f_less v_low ((0 : Int), (1 : Int)) (h.2 hg118).1)) (fun hg119 => ev_orB (ev_call (ev_cons (a := (cP2 cI cI) v_width) (ev_v rfl) (ev_cons (a := (cP2 cI cI) v_right) (ev_v rfl) (ev_nil))) rfl (f_less v_width v_right ((h.2 hg118).2 hg119).1)) (fun hg120 => ev_call (ev_cons (a := (cP2 cI cI) v_height) (ev_v rfl) (ev_cons (a := (cP2 cI cI) v_high) (ev_v rfl) (ev_nil))) rfl (f_less v_height v_high (((h.2 hg118).2 hg119).2 hg120)))))) (fz_c fl_B)
def t_is_out (v_one : ((Int × Int) × (Int × Int) × (Int × Int) × (Int × Int))) (v_width : (Int × Int)) (v_height : (Int × Int)) : Bool := t_is_out_1 v_width v_height v_one.1 v_one.2.1 v_one.2.2.1 v_one.2.2.2
def c_is_out (v_one : ((Int × Int) × (Int × Int) × (Int × Int) × (Int × Int))) (v_width : (Int × Int)) (v_height : (Int × Int)) : Prop := c_is_out_1 v_width v_height v_one.1 v_one.2.1 v_one.2.2.1 v_one.2.2.2
theorem w_is_out {st : Sto} {e3 e4 e5 e6 : Option D} (v_one : ((Int × Int) × (Int × Int) × (Int × Int) × (Int × Int))) (v_width : (Int × Int)) (v_height : (Int × Int)) (h : c_is_out v_one v_width v_height) : RtP st (b_is_out [some ((cP4 (cP2 cI cI) (cP2 cI cI) (cP2 cI cI) (cP2 cI cI)) v_one), some ((cP2 cI cI) v_width), some ((cP2 cI cI) v_height), e3, e4, e5, e6] (st ++ [])) (cB (t_is_out v_one v_width v_height)) :=
  rt_nx (do_asg (env' := [some ((cP4 (cP2 cI cI) (cP2 cI cI) (cP2 cI cI) (cP2 cI cI)) v_one), some ((cP2 cI cI) v_width), some ((cP2 cI cI) v_height), some ((cP2 cI cI) v_one.1), some ((cP2 cI cI) v_one.2.1), some ((cP2 cI cI) v_one.2.2.1), some ((cP2 cI cI) v_one.2.2.2)]) (ev_v rfl) rfl) (w_is_out_1 (st := st) (e0 := some ((cP4 (cP2 cI cI) (cP2 cI cI) (cP2 cI cI) (cP2 cI cI)) v_one))  v_width v_height v_one.1 v_one.2.1 v_one.2.2.1 v_one.2.2.2 h)
def T_is_out (v_one : ((Int × Int) × (Int × Int) × (Int × Int) × (Int × Int))) (v_width : (Int × Int)) (v_height : (Int × Int)) : Bool := t_is_out v_one v_width v_height
def C_is_out (v_one : ((Int × Int) × (Int × Int) × (Int × Int) × (Int × Int))) (v_width : (Int × Int)) (v_height : (Int × Int)) : Prop := c_is_out v_one v_width v_height
theorem f_is_out {st : Sto} (v_one : ((Int × Int) × (Int × Int) × (Int × Int) × (Int × Int))) (v_width : (Int × Int)) (v_height : (Int × Int)) (h : C_is_out v_one v_width v_height) : m_is_out [(cP4 (cP2 cI cI) (cP2 cI cI) (cP2 cI cI) (cP2 cI cI)) v_one, (cP2 cI cI) v_width, (cP2 cI cI) v_height] st = .ok (cB (T_is_out v_one v_width v_height)) st :=
  RtP.enter (b := b_is_out) (env := [some ((cP4 (cP2 cI cI) (cP2 cI cI) (cP2 cI cI) (cP2 cI cI)) v_one), some ((cP2 cI cI) v_width), some ((cP2 cI cI) v_height), none, none, none, none]) (w_is_out (st := st) (e3 := none) (e4 := none) (e5 := none) (e6 := none)  v_one v_width v_height h)
def t_looked_1a_0a (v_k : Int) : D := ((cP2 cS cI) (("no" : Str), v_k))
def c_looked_1a_0a (v_k : Int) : Prop := D.flt 20 ((cP2 cS cI) (("no" : Str), v_k)) = true
theorem w_looked_1a_0a {st : Sto} {e0 e1 e2 e3 e5 e6 : Option D} (v_k : Int) (h : c_looked_1a_0a v_k) : RtP st (b_looked_1a_0a [e0, e1, e2, e3, some (cI v_k), e5, e6] (st ++ [])) (cD (t_looked_1a_0a v_k)) :=
  rt_ret (d := ((cP2 cS cI) (("no" : Str), v_k))) (ev_tup (ev_cons (a := cS ("no" : Str)) (rfl) (ev_cons (a := cI v_k) (ev_v rfl) (ev_nil))) rfl) (fz_D h)
def t_looked_1a_1  : (Unit ⊕ D) := .inl ()
theorem w_looked_1a_1 {st : Sto} {e0 e1 e2 e3 e4 e5 e6 : Option D}  : MxP st (sNext [e0, e1, e2, e3, e4, e5, e6] (st ++ [])) (t_looked_1a_1) (fun (s : Unit) (env' : FL.Env) (S' : Sto) => env' = [e0, e1, e2, e3, e4, e5, e6] ∧ S' = st ++ []) cD :=
  mx_end ⟨rfl, rfl⟩
def t_looked_1a (v_k : Int) (v_one : ((Int × Int) × (Int × Int) × (Int × Int) × (Int × Int))) : (Unit ⊕ D) := if (T_is_none v_one) = true then .inr (t_looked_1a_0a v_k) else t_looked_1a_1
def c_looked_1a (v_k : Int) (v_one : ((Int × Int) × (Int × Int) × (Int × Int) × (Int × Int))) : Prop := C_is_none v_one ∧ ((T_is_none v_one) = true → c_looked_1a_0a v_k)
theorem w_looked_1a {st : Sto} {e0 e1 e2 e3 e6 : Option D} (v_k : Int) (v_one : ((Int × Int) × (Int × Int) × (Int × Int) × (Int × Int))) (h : c_looked_1a v_k v_one) : MxP st (b_looked_1a [e0, e1, e2, e3, some (cI v_k), some ((cP4 (cP2 cI cI) (cP2 cI cI) (cP2 cI cI) (cP2 cI cI)) v_one), e6] (st ++ [])) (t_looked_1a v_k v_one) (fun (s : Unit) (env' : FL.Env) (S' : Sto) => env' = [e0, e1, e2, e3, some (cI v_k), some ((cP4 (cP2 cI cI) (cP2 cI cI) (cP2 cI cI) (cP2 cI cI)) v_one), e6] ∧ S' = st ++ []) cD :=
  if_MX (e := cD) (tt_tru (ev_call (ev_cons (a := (cP4 (cP2 cI cI) (cP2 cI cI) (cP2 cI cI) (cP2 cI cI)) v_one) (ev_v rfl) (ev_nil)) rfl (f_is_none v_one h.1)) rfl) (fun hc => w_looked_1a_0a (st := st) (e0 := e0) (e1 := e1) (e2 := e2) (e3 := e3) (e5 := some ((cP4 (cP2 cI cI) (cP2 cI cI) (cP2 cI cI) (cP2 cI cI)) v_one)) (e6 := e6)  v_k (h.2 hc)) (fun hc => w_looked_1a_1 (st := st) (e0 := e0) (e1 := e1) (e2 := e2) (e3 := e3) (e4 := some (cI v_k)) (e5 := some ((cP4 (cP2 cI cI) (cP2 cI cI) (cP2 cI cI) (cP2 cI cI)) v_one)) (e6 := e6)  )
def t_looked_2a_0a (v_k : Int) : D := ((cP2 cS cI) (("out" : Str), v_k))
def c_looked_2a_0a (v_k : Int) : Prop := D.flt 20 ((cP2 cS cI) (("out" : Str), v_k)) = true
theorem w_looked_2a_0a {st : Sto} {e0 e1 e2 e3 e5 e6 : Option D} (v_k : Int) (h : c_looked_2a_0a v_k) : RtP st (b_looked_2a_0a [e0, e1, e2, e3, some (cI v_k), e5, e6] (st ++ [])) (cD (t_looked_2a_0a v_k)) :=
  rt_ret (d := ((cP2 cS cI) (("out" : Str), v_k))) (ev_tup (ev_cons (a := cS ("out" : Str)) (rfl) (ev_cons (a := cI v_k) (ev_v rfl) (ev_nil))) rfl) (fz_D h)
def t_looked_2a_1  : (Unit ⊕ D) := .inl ()
theorem w_looked_2a_1 {st : Sto} {e0 e1 e2 e3 e4 e5 e6 : Option D}  : MxP st (sNext [e0, e1, e2, e3, e4, e5, e6] (st ++ [])) (t_looked_2a_1) (fun (s : Unit) (env' : FL.Env) (S' : Sto) => env' = [e0, e1, e2, e3, e4, e5, e6] ∧ S' = st ++ []) cD :=
  mx_end ⟨rfl, rfl⟩
def t_looked_2a (v_width : (Int × Int)) (v_height : (Int × Int)) (v_k : Int) (v_one : ((Int × Int) × (Int × Int) × (Int × Int) × (Int × Int))) : (Unit ⊕ D) := if (T_is_out v_one v_width v_height) = true then .inr (t_looked_2a_0a v_k) else t_looked_2a_1
def c_looked_2a (v_width : (Int × Int)) (v_height : (Int × Int)) (v_k : Int) (v_one : ((Int × Int) × (Int × Int) × (Int × Int) × (Int × Int))) : Prop := C_is_out v_one v_width v_height ∧ ((T_is_out v_one v_width v_height) = true → c_looked_2a_0a v_k)
theorem w_looked_2a {st : Sto} {e0 e3 e6 : Option D} (v_width : (Int × Int)) (v_height : (Int × Int)) (v_k : Int) (v_one : ((Int × Int) × (Int × Int) × (Int × Int) × (Int × Int))) (h : c_looked_2a v_width v_height v_k v_one) : MxP st (b_looked_2a [e0, some ((cP2 cI cI) v_width), some ((cP2 cI cI) v_height), e3, some (cI v_k), some ((cP4 (cP2 cI cI) (cP2 cI cI) (cP2 cI cI) (cP2 cI cI)) v_one), e6] (st ++ [])) (t_looked_2a v_width v_height v_k v_one) (fun (s : Unit) (env' : FL.Env) (S' : Sto) => env' = [e0, some ((cP2 cI cI) v_width), some ((cP2 cI cI) v_height), e3, some (cI v_k), some ((cP4 (cP2 cI cI) (cP2 cI cI) (cP2 cI cI) (cP2 cI cI)) v_one), e6] ∧ S' = st ++ []) cD :=
  if_MX (e := cD) (tt_tru (ev_call (ev_cons (a := (cP4 (cP2 cI cI) (cP2 cI cI) (cP2 cI cI) (cP2 cI cI)) v_one) (ev_v rfl) (ev_cons (a := (cP2 cI cI) v_width) (ev_v rfl) (ev_cons (a := (cP2 cI cI) v_height) (ev_v rfl) (ev_nil)))) rfl (f_is_out v_one v_width v_height h.1)) rfl) (fun hc => w_looked_2a_0a (st := st) (e0 := e0) (e1 := some ((cP2 cI cI) v_width)) (e2 := some ((cP2 cI cI) v_height)) (e3 := e3) (e5 := some ((cP4 (cP2 cI cI) (cP2 cI cI) (cP2 cI cI) (cP2 cI cI)) v_one)) (e6 := e6)  v_k (h.2 hc)) (fun hc => w_looked_2a_1 (st := st) (e0 := e0) (e1 := some ((cP2 cI cI) v_width)) (e2 := some ((cP2 cI cI) v_height)) (e3 := e3) (e4 := some (cI v_k)) (e5 := some ((cP4 (cP2 cI cI) (cP2 cI cI) (cP2 cI cI) (cP2 cI cI)) v_one)) (e6 := e6)  )
def t_looked_4a_1 (v_found : D) : D := (v_found)
theorem w_looked_4a_1 {st : Sto} {e0 e1 e2 e3 e4 e5 : Option D} (v_found : D) : NxP (sNext [e0, e1, e2, e3, e4, e5, some (cD v_found)] (st ++ [])) ((fun (s : D) (env' : FL.Env) (S' : Sto) => env' = [e0, e1, e2, e3, e4, e5, some (cD s)] ∧ S' = st ++ []) (t_looked_4a_1 v_found)) :=
  nx_end ⟨rfl, rfl⟩
def t_looked_4a (v_floor : ((Int × Int) × (Int × Int) × (List ((Int × Int) × (Int × Int) × (Int × Int) × (Int × Int))))) : D := t_looked_4a_1 ((cO (cP5 cS (cP2 cI cI) (cP2 cI cI) (cP2 cI cI) (cP2 cI cI))) (T_first_gap v_floor))
def c_looked_4a (v_floor : ((Int × Int) × (Int × Int) × (List ((Int × Int) × (Int × Int) × (Int × Int) × (Int × Int))))) : Prop := C_first_gap v_floor
theorem w_looked_4a {st : Sto} {e1 e2 e3 e4 e5 e6 : Option D} (v_floor : ((Int × Int) × (Int × Int) × (List ((Int × Int) × (Int × Int) × (Int × Int) × (Int × Int))))) (h : c_looked_4a v_floor) : NxP (b_looked_4a [some ((cP3 (cP2 cI cI) (cP2 cI cI) (cT (cP4 (cP2 cI cI) (cP2 cI cI) (cP2 cI cI) (cP2 cI cI)))) v_floor), e1, e2, e3, e4, e5, e6] (st ++ [])) ((fun (s : D) (env' : FL.Env) (S' : Sto) => env' = [some ((cP3 (cP2 cI cI) (cP2 cI cI) (cT (cP4 (cP2 cI cI) (cP2 cI cI) (cP2 cI cI) (cP2 cI cI)))) v_floor), e1, e2, e3, e4, e5, some (cD s)] ∧ S' = st ++ []) (t_looked_4a v_floor)) :=
  nx_nx (do_set (ev_call (ev_cons (a := (cP3 (cP2 cI cI) (cP2 cI cI) (cT (cP4 (cP2 cI cI) (cP2 cI cI) (cP2 cI cI) (cP2 cI cI)))) v_floor) (ev_v rfl) (ev_nil)) rfl (f_first_gap v_floor h))) (w_looked_4a_1 (st := st) (e0 := some ((cP3 (cP2 cI cI) (cP2 cI cI) (cT (cP4 (cP2 cI cI) (cP2 cI cI) (cP2 cI cI) (cP2 cI cI)))) v_floor)) (e1 := e1) (e2 := e2) (e3 := e3) (e4 := e4) (e5 := e5)  ((cO (cP5 cS (cP2 cI cI) (cP2 cI cI) (cP2 cI cI) (cP2 cI cI))) (T_first_gap v_floor)))
def t_looked_4b (v_found : D) : D := (v_found)
theorem w_looked_4b {st : Sto} {e0 e1 e2 e3 e4 e5 : Option D} (v_found : D) : NxP (sNext [e0, e1, e2, e3, e4, e5, some (cD v_found)] (st ++ [])) ((fun (s : D) (env' : FL.Env) (S' : Sto) => env' = [e0, e1, e2, e3, e4, e5, some (cD s)] ∧ S' = st ++ []) (t_looked_4b v_found)) :=
  nx_end ⟨rfl, rfl⟩
def t_looked_5a  : D := ((cP1 cS) (("covers" : Str)))
def c_looked_5a  : Prop := D.flt 20 ((cP1 cS) (("covers" : Str))) = true
theorem w_looked_5a {st : Sto} {e0 e1 e2 e3 e4 e5 e6 : Option D}  (h : c_looked_5a ) : RtP st (b_looked_5a [e0, e1, e2, e3, e4, e5, e6] (st ++ [])) (cD (t_looked_5a)) :=
  rt_ret (d := ((cP1 cS) (("covers" : Str)))) (ev_tup (ev_cons (a := cS ("covers" : Str)) (rfl) (ev_nil)) rfl) (fz_D h)
def t_looked_6 (v_found : D) : D := v_found
def c_looked_6 (v_found : D) : Prop := D.flt 20 v_found = true
theorem w_looked_6 {st : Sto} {e0 e1 e2 e3 e4 e5 : Option D} (v_found : D) (h : c_looked_6 v_found) : RtP st (b_looked_6 [e0, e1, e2, e3, e4, e5, some (cD v_found)] (st ++ [])) (cD (t_looked_6 v_found)) :=
  rt_ret (d := v_found) (ev_v rfl) (fz_D h)
def t_looked_5 (v_found : D) : D := if (isNon v_found) = true then t_looked_5a else t_looked_6 v_found
def c_looked_5 (v_found : D) : Prop := ((isNon v_found) = true → c_looked_5a) ∧ ((isNon v_found) = false → c_looked_6 v_found)
theorem w_looked_5 {st : Sto} {e0 e1 e2 e3 e4 e5 : Option D} (v_found : D) (h : c_looked_5 v_found) : RtP st (b_looked_5 [e0, e1, e2, e3, e4, e5, some (cD v_found)] (st ++ [])) (cD (t_looked_5 v_found)) :=
  if_RX (e := cD) (tt_B (ev_op (a := v_found) (ev_v rfl) rfl rfl)) (fun hc => w_looked_5a (st := st) (e0 := e0) (e1 := e1) (e2 := e2) (e3 := e3) (e4 := e4) (e5 := e5) (e6 := some (cD v_found))   (h.1 hc)) (fun hc => w_looked_6 (st := st) (e0 := e0) (e1 := e1) (e2 := e2) (e3 := e3) (e4 := e4) (e5 := e5)  v_found (h.2 hc))
def t_looked_4q (v_floor : ((Int × Int) × (Int × Int) × (List ((Int × Int) × (Int × Int) × (Int × Int) × (Int × Int))))) (v_found : D) (q : D) : D := t_looked_5 q
def c_looked_4q (v_floor : ((Int × Int) × (Int × Int) × (List ((Int × Int) × (Int × Int) × (Int × Int) × (Int × Int))))) (v_found : D) (q : D) : Prop := c_looked_5 q
def t_looked_4 (v_floor : ((Int × Int) × (Int × Int) × (List ((Int × Int) × (Int × Int) × (Int × Int) × (Int × Int))))) (v_found : D) : D := t_looked_4q v_floor v_found (if (isNon v_found) = true then t_looked_4a v_floor else t_looked_4b v_found)
def c_looked_4 (v_floor : ((Int × Int) × (Int × Int) × (List ((Int × Int) × (Int × Int) × (Int × Int) × (Int × Int))))) (v_found : D) : Prop := ((isNon v_found) = true → c_looked_4a v_floor) ∧ c_looked_4q v_floor v_found (if (isNon v_found) = true then t_looked_4a v_floor else t_looked_4b v_found)
theorem w_looked_4 {st : Sto} {e1 e2 e3 e4 e5 : Option D} (v_floor : ((Int × Int) × (Int × Int) × (List ((Int × Int) × (Int × Int) × (Int × Int) × (Int × Int))))) (v_found : D) (h : c_looked_4 v_floor v_found) : RtP st (b_looked_4 [some ((cP3 (cP2 cI cI) (cP2 cI cI) (cT (cP4 (cP2 cI cI) (cP2 cI cI) (cP2 cI cI) (cP2 cI cI)))) v_floor), e1, e2, e3, e4, e5, some (cD v_found)] (st ++ [])) (cD (t_looked_4 v_floor v_found)) :=
  rt_N (if_N (P := fun (s : D) (env' : FL.Env) (S' : Sto) => env' = [some ((cP3 (cP2 cI cI) (cP2 cI cI) (cT (cP4 (cP2 cI cI) (cP2 cI cI) (cP2 cI cI) (cP2 cI cI)))) v_floor), e1, e2, e3, e4, e5, some (cD s)] ∧ S' = st ++ []) (tt_B (ev_op (a := v_found) (ev_v rfl) rfl rfl)) (fun hc => w_looked_4a (st := st) (e1 := e1) (e2 := e2) (e3 := e3) (e4 := e4) (e5 := e5) (e6 := some (cD v_found))  v_floor (h.1 hc)) (fun hc => w_looked_4b (st := st) (e0 := some ((cP3 (cP2 cI cI) (cP2 cI cI) (cT (cP4 (cP2 cI cI) (cP2 cI cI) (cP2 cI cI) (cP2 cI cI)))) v_floor)) (e1 := e1) (e2 := e2) (e3 := e3) (e4 := e4) (e5 := e5)  v_found)) (fun | _, _, ⟨rfl, rfl⟩ => w_looked_5 (st := st) (e0 := some ((cP3 (cP2 cI cI) (cP2 cI cI) (cT (cP4 (cP2 cI cI) (cP2 cI cI) (cP2 cI cI) (cP2 cI cI)))) v_floor)) (e1 := e1) (e2 := e2) (e3 := e3) (e4 := e4) (e5 := e5)  (if (isNon v_found) = true then t_looked_4a v_floor else t_looked_4b v_found) h.2)
def t_looked_3 (v_floor : ((Int × Int) × (Int × Int) × (List ((Int × Int) × (Int × Int) × (Int × Int) × (Int × Int))))) (v_rectangles : (List ((Int × Int) × (Int × Int) × (Int × Int) × (Int × Int)))) : D := t_looked_4 v_floor ((cO (cP3 cS cI cI)) (T_first_overlap v_rectangles))
def c_looked_3 (v_floor : ((Int × Int) × (Int × Int) × (List ((Int × Int) × (Int × Int) × (Int × Int) × (Int × Int))))) (v_rectangles : (List ((Int × Int) × (Int × Int) × (Int × Int) × (Int × Int)))) : Prop := C_first_overlap v_rectangles ∧ c_looked_4 v_floor ((cO (cP3 cS cI cI)) (T_first_overlap v_rectangles))
theorem w_looked_3 {st : Sto} {e1 e2 e4 e5 e6 : Option D} (v_floor : ((Int × Int) × (Int × Int) × (List ((Int × Int) × (Int × Int) × (Int × Int) × (Int × Int))))) (v_rectangles : (List ((Int × Int) × (Int × Int) × (Int × Int) × (Int × Int)))) (h : c_looked_3 v_floor v_rectangles) : RtP st (b_looked_3 [some ((cP3 (cP2 cI cI) (cP2 cI cI) (cT (cP4 (cP2 cI cI) (cP2 cI cI) (cP2 cI cI) (cP2 cI cI)))) v_floor), e1, e2, some ((cT (cP4 (cP2 cI cI) (cP2 cI cI) (cP2 cI cI) (cP2 cI cI))) v_rectangles), e4, e5, e6] (st ++ [])) (cD (t_looked_3 v_floor v_rectangles)) :=
  rt_nx (do_set (ev_call (ev_cons (a := (cT (cP4 (cP2 cI cI) (cP2 cI cI) (cP2 cI cI) (cP2 cI cI))) v_rectangles) (ev_v rfl) (ev_nil)) rfl (f_first_overlap v_rectangles h.1))) (w_looked_4 (st := st) (e1 := e1) (e2 := e2) (e3 := some ((cT (cP4 (cP2 cI cI) (cP2 cI cI) (cP2 cI cI) (cP2 cI cI))) v_rectangles)) (e4 := e4) (e5 := e5)  v_floor ((cO (cP3 cS cI cI)) (T_first_overlap v_rectangles)) h.2)
def t_looked_2q (v_floor : ((Int × Int) × (Int × Int) × (List ((Int × Int) × (Int × Int) × (Int × Int) × (Int × Int))))) (v_width : (Int × Int)) (v_height : (Int × Int)) (v_rectangles : (List ((Int × Int) × (Int × Int) × (Int × Int) × (Int × Int)))) (q : Unit) : D := t_looked_3 v_floor v_rectangles
def c_looked_2q (v_floor : ((Int × Int) × (Int × Int) × (List ((Int × Int) × (Int × Int) × (Int × Int) × (Int × Int))))) (v_width : (Int × Int)) (v_height : (Int × Int)) (v_rectangles : (List ((Int × Int) × (Int × Int) × (Int × Int) × (Int × Int)))) (q : Unit) : Prop := c_looked_3 v_floor v_rectangles
def t_looked_2 (v_floor : ((Int × Int) × (Int × Int) × (List ((Int × Int) × (Int × Int) × (Int × Int) × (Int × Int))))) (v_width : (Int × Int)) (v_height : (Int × Int)) (v_rectangles : (List ((Int × Int) × (Int × Int) × (Int × Int) × (Int × Int)))) : D := outR (forR (fun (s : Unit) (x : (Int × ((Int × Int) × (Int × Int) × (Int × Int) × (Int × Int)))) => t_looked_2a v_width v_height x.1 x.2) (enumI v_rectangles) ()) (t_looked_2q v_floor v_width v_height v_rectangles)
def c_looked_2 (v_floor : ((Int × Int) × (Int × Int) × (List ((Int × Int) × (Int × Int) × (Int × Int) × (Int × Int))))) (v_width : (Int × Int)) (v_height : (Int × Int)) (v_rectangles : (List ((Int × Int) × (Int × Int) × (Int × Int) × (Int × Int)))) : Prop := (cForR (fun (s : Unit) (x : (Int × ((Int × Int) × (Int × Int) × (Int × Int) × (Int × Int)))) => c_looked_2a v_width v_height x.1 x.2) (fun (s : Unit) (x : (Int × ((Int × Int) × (Int × Int) × (Int × Int) × (Int × Int)))) => t_looked_2a v_width v_height x.1 x.2) (enumI v_rectangles) ()) ∧ (∀ q, (forR (fun (s : Unit) (x : (Int × ((Int × Int) × (Int × Int) × (Int × Int) × (Int × Int)))) => t_looked_2a v_width v_height x.1 x.2) (enumI v_rectangles) ()) = .inl q → c_looked_2q v_floor v_width v_height v_rectangles q)
theorem w_looked_2 {st : Sto} {e4 e5 e6 : Option D} (v_floor : ((Int × Int) × (Int × Int) × (List ((Int × Int) × (Int × Int) × (Int × Int) × (Int × Int))))) (v_width : (Int × Int)) (v_height : (Int × Int)) (v_rectangles : (List ((Int × Int) × (Int × Int) × (Int × Int) × (Int × Int)))) (h : c_looked_2 v_floor v_width v_height v_rectangles) : RtP st (b_looked_2 [some ((cP3 (cP2 cI cI) (cP2 cI cI) (cT (cP4 (cP2 cI cI) (cP2 cI cI) (cP2 cI cI) (cP2 cI cI)))) v_floor), some ((cP2 cI cI) v_width), some ((cP2 cI cI) v_height), some ((cT (cP4 (cP2 cI cI) (cP2 cI cI) (cP2 cI cI) (cP2 cI cI))) v_rectangles), e4, e5, e6] (st ++ [])) (cD (t_looked_2 v_floor v_width v_height v_rectangles)) :=
  rt_M (e := cD) (do_forM (E := (fun (s : Unit) => [some ((cP3 (cP2 cI cI) (cP2 cI cI) (cT (cP4 (cP2 cI cI) (cP2 cI cI) (cP2 cI cI) (cP2 cI cI)))) v_floor), some ((cP2 cI cI) v_width), some ((cP2 cI cI) v_height), some ((cT (cP4 (cP2 cI cI) (cP2 cI cI) (cP2 cI cI) (cP2 cI cI))) v_rectangles), none, none, e6])) (O := (fun (s : Unit) => [])) (cx := (cP2 cI (cP4 (cP2 cI cI) (cP2 cI cI) (cP2 cI cI) (cP2 cI cI)))) (c := (fun (s : Unit) (x : (Int × ((Int × Int) × (Int × Int) × (Int × Int) × (Int × Int)))) => c_looked_2a v_width v_height x.1 x.2)) (t := (fun (s : Unit) (x : (Int × ((Int × Int) × (Int × Int) × (Int × Int) × (Int × Int)))) => t_looked_2a v_width v_height x.1 x.2)) (s := ()) (e := cD) (it_enum (c := (cP4 (cP2 cI cI) (cP2 cI cI) (cP2 cI cI) (cP2 cI cI))) (ev_cons (ev_v rfl) ev_nil) (sq_T (c := (cP4 (cP2 cI cI) (cP2 cI cI) (cP2 cI cI) (cP2 cI cI))) (xs := v_rectangles))) rfl (fun _ => rfl) (fun _ _ => rfl) (fun s x hc => ⟨[some ((cP3 (cP2 cI cI) (cP2 cI cI) (cT (cP4 (cP2 cI cI) (cP2 cI cI) (cP2 cI cI) (cP2 cI cI)))) v_floor), some ((cP2 cI cI) v_width), some ((cP2 cI cI) v_height), some ((cT (cP4 (cP2 cI cI) (cP2 cI cI) (cP2 cI cI) (cP2 cI cI))) v_rectangles), some (cI x.1), some ((cP4 (cP2 cI cI) (cP2 cI cI) (cP2 cI cI) (cP2 cI cI)) x.2), e6], rfl, MxP.mono (w_looked_2a (st := st) (e0 := some ((cP3 (cP2 cI cI) (cP2 cI cI) (cT (cP4 (cP2 cI cI) (cP2 cI cI) (cP2 cI cI) (cP2 cI cI)))) v_floor)) (e3 := some ((cT (cP4 (cP2 cI cI) (cP2 cI cI) (cP2 cI cI) (cP2 cI cI))) v_rectangles)) (e6 := e6)  v_width v_height x.1 x.2 hc) (fun _ => fun | _, _, ⟨rfl, rfl⟩ => ⟨rfl, rfl⟩)⟩) h.1) (fun | q, _, _, hq, ⟨rfl, rfl⟩ => w_looked_3 (st := st) (e1 := some ((cP2 cI cI) v_width)) (e2 := some ((cP2 cI cI) v_height)) (e4 := none) (e5 := none) (e6 := e6)  v_floor v_rectangles (h.2 q hq))
def t_looked_1q (v_floor : ((Int × Int) × (Int × Int) × (List ((Int × Int) × (Int × Int) × (Int × Int) × (Int × Int))))) (v_width : (Int × Int)) (v_height : (Int × Int)) (v_rectangles : (List ((Int × Int) × (Int × Int) × (Int × Int) × (Int × Int)))) (q : Unit) : D := t_looked_2 v_floor v_width v_height v_rectangles
def c_looked_1q (v_floor : ((Int × Int) × (Int × Int) × (List ((Int × Int) × (Int × Int) × (Int × Int) × (Int × Int))))) (v_width : (Int × Int)) (v_height : (Int × Int)) (v_rectangles : (List ((Int × Int) × (Int × Int) × (Int × Int) × (Int × Int)))) (q : Unit) : Prop := c_looked_2 v_floor v_width v_height v_rectangles
def t_looked_1 (v_floor : ((Int × Int) × (Int × Int) × (List ((Int × Int) × (Int × Int) × (Int × Int) × (Int × Int))))) (v_width : (Int × Int)) (v_height : (Int × Int)) (v_rectangles : (List ((Int × Int) × (Int × Int) × (Int × Int) × (Int × Int)))) : D := outR (forR (fun (s : Unit) (x : (Int × ((Int × Int) × (Int × Int) × (Int × Int) × (Int × Int)))) => t_looked_1a x.1 x.2) (enumI v_rectangles) ()) (t_looked_1q v_floor v_width v_height v_rectangles)
def c_looked_1 (v_floor : ((Int × Int) × (Int × Int) × (List ((Int × Int) × (Int × Int) × (Int × Int) × (Int × Int))))) (v_width : (Int × Int)) (v_height : (Int × Int)) (v_rectangles : (List ((Int × Int) × (Int × Int) × (Int × Int) × (Int × Int)))) : Prop := (cForR (fun (s : Unit) (x : (Int × ((Int × Int) × (Int × Int) × (Int × Int) × (Int × Int)))) => c_looked_1a x.1 x.2) (fun (s : Unit) (x : (Int × ((Int × Int) × (Int × Int) × (Int × Int) × (Int × Int)))) => t_looked_1a x.1 x.2) (enumI v_rectangles) ()) ∧ (∀ q, (forR (fun (s : Unit) (x : (Int × ((Int × Int) × (Int × Int) × (Int × Int) × (Int × Int)))) => t_looked_1a x.1 x.2) (enumI v_rectangles) ()) = .inl q → c_looked_1q v_floor v_width v_height v_rectangles q)
theorem w_looked_1 {st : Sto} {e4 e5 e6 : Option D} (v_floor : ((Int × Int) × (Int × Int) × (List ((Int × Int) × (Int × Int) × (Int × Int) × (Int × Int))))) (v_width : (Int × Int)) (v_height : (Int × Int)) (v_rectangles : (List ((Int × Int) × (Int × Int) × (Int × Int) × (Int × Int)))) (h : c_looked_1 v_floor v_width v_height v_rectangles) : RtP st (b_looked_1 [some ((cP3 (cP2 cI cI) (cP2 cI cI) (cT (cP4 (cP2 cI cI) (cP2 cI cI) (cP2 cI cI) (cP2 cI cI)))) v_floor), some ((cP2 cI cI) v_width), some ((cP2 cI cI) v_height), some ((cT (cP4 (cP2 cI cI) (cP2 cI cI) (cP2 cI cI) (cP2 cI cI))) v_rectangles), e4, e5, e6] (st ++ [])) (cD (t_looked_1 v_floor v_width v_height v_rectangles)) :=
  rt_M (e := cD) (do_forM (E := (fun (s : Unit) => [some ((cP3 (cP2 cI cI) (cP2 cI cI) (cT (cP4 (cP2 cI cI) (cP2 cI cI) (cP2 cI cI) (cP2 cI cI)))) v_floor), some ((cP2 cI cI) v_width), some ((cP2 cI cI) v_height), some ((cT (cP4 (cP2 cI cI) (cP2 cI cI) (cP2 cI cI) (cP2 cI cI))) v_rectangles), none, none, e6])) (O := (fun (s : Unit) => [])) (cx := (cP2 cI (cP4 (cP2 cI cI) (cP2 cI cI) (cP2 cI cI) (cP2 cI cI)))) (c := (fun (s : Unit) (x : (Int × ((Int × Int) × (Int × Int) × (Int × Int) × (Int × Int)))) => c_looked_1a x.1 x.2)) (t := (fun (s : Unit) (x : (Int × ((Int × Int) × (Int × Int) × (Int × Int) × (Int × Int)))) => t_looked_1a x.1 x.2)) (s := ()) (e := cD) (it_enum (c := (cP4 (cP2 cI cI) (cP2 cI cI) (cP2 cI cI) (cP2 cI cI))) (ev_cons (ev_v rfl) ev_nil) (sq_T (c := (cP4 (cP2 cI cI) (cP2 cI cI) (cP2 cI cI) (cP2 cI cI))) (xs := v_rectangles))) rfl (fun _ => rfl) (fun _ _ => rfl) (fun s x hc => ⟨[some ((cP3 (cP2 cI cI) (cP2 cI cI) (cT (cP4 (cP2 cI cI) (cP2 cI cI) (cP2 cI cI) (cP2 cI cI)))) v_floor), some ((cP2 cI cI) v_width), some ((cP2 cI cI) v_height), some ((cT (cP4 (cP2 cI cI) (cP2 cI cI) (cP2 cI cI) (cP2 cI cI))) v_rectangles), some (cI x.1), some ((cP4 (cP2 cI cI) (cP2 cI cI) (cP2 cI cI) (cP2 cI cI)) x.2), e6], rfl, MxP.mono (w_looked_1a (st := st) (e0 := some ((cP3 (cP2 cI cI) (cP2 cI cI) (cT (cP4 (cP2 cI cI) (cP2 cI cI) (cP2 cI cI) (cP2 cI cI)))) v_floor)) (e1 := some ((cP2 cI cI) v_width)) (e2 := some ((cP2 cI cI) v_height)) (e3 := some ((cT (cP4 (cP2 cI cI) (cP2 cI cI) (cP2 cI cI) (cP2 cI cI))) v_rectangles)) (e6 := e6)  x.1 x.2 hc) (fun _ => fun | _, _, ⟨rfl, rfl⟩ => ⟨rfl, rfl⟩)⟩) h.1) (fun | q, _, _, hq, ⟨rfl, rfl⟩ => w_looked_2 (st := st) (e4 := none) (e5 := none) (e6 := e6)  v_floor v_width v_height v_rectangles (h.2 q hq))
def t_looked (v_floor : ((Int × Int) × (Int × Int) × (List ((Int × Int) × (Int × Int) × (Int × Int) × (Int × Int))))) : D := t_looked_1 v_floor v_floor.1 v_floor.2.1 v_floor.2.2
def c_looked (v_floor : ((Int × Int) × (Int × Int) × (List ((Int × Int) × (Int × Int) × (Int × Int) × (Int × Int))))) : Prop := c_looked_1 v_floor v_floor.1 v_floor.2.1 v_floor.2.2
theorem w_looked {st : Sto} {e1 e2 e3 e4 e5 e6 : Option D} (v_floor : ((Int × Int) × (Int × Int) × (List ((Int × Int) × (Int × Int) × (Int × Int) × (Int × Int))))) (h : c_looked v_floor) : RtP st (b_looked [some ((cP3 (cP2 cI cI) (cP2 cI cI) (cT (cP4 (cP2 cI cI) (cP2 cI cI) (cP2 cI cI) (cP2 cI cI)))) v_floor), e1, e2, e3, e4, e5, e6] (st ++ [])) (cD (t_looked v_floor)) :=
  rt_nx (do_asg (env' := [some ((cP3 (cP2 cI cI) (cP2 cI cI) (cT (cP4 (cP2 cI cI) (cP2 cI cI) (cP2 cI cI) (cP2 cI cI)))) v_floor), some ((cP2 cI cI) v_floor.1), some ((cP2 cI cI) v_floor.2.1), some ((cT (cP4 (cP2 cI cI) (cP2 cI cI) (cP2 cI cI) (cP2 cI cI))) v_floor.2.2), e4, e5, e6]) (ev_v rfl) rfl) (w_looked_1 (st := st) (e4 := e4) (e5 := e5) (e6 := e6)  v_floor v_floor.1 v_floor.2.1 v_floor.2.2 h)
def T_looked (v_floor : ((Int × Int) × (Int × Int) × (List ((Int × Int) × (Int × Int) × (Int × Int) × (Int × Int))))) : D := t_looked v_floor
def C_looked (v_floor : ((Int × Int) × (Int × Int) × (List ((Int × Int) × (Int × Int) × (Int × Int) × (Int × Int))))) : Prop := c_looked v_floor
theorem f_looked {st : Sto} (v_floor : ((Int × Int) × (Int × Int) × (List ((Int × Int) × (Int × Int) × (Int × Int) × (Int × Int))))) (h : C_looked v_floor) : m_looked [(cP3 (cP2 cI cI) (cP2 cI cI) (cT (cP4 (cP2 cI cI) (cP2 cI cI) (cP2 cI cI) (cP2 cI cI)))) v_floor] st = .ok (cD (T_looked v_floor)) st :=
  RtP.enter (b := b_looked) (env := [some ((cP3 (cP2 cI cI) (cP2 cI cI) (cT (cP4 (cP2 cI cI) (cP2 cI cI) (cP2 cI cI) (cP2 cI cI)))) v_floor), none, none, none, none, none, none]) (w_looked (st := st) (e1 := none) (e2 := none) (e3 := none) (e4 := none) (e5 := none) (e6 := none)  v_floor h)
def t_common_2a_3 (v_big : Int) (v_small : Int) : (Int × Int) := (v_big, v_small)
theorem w_common_2a_3 {st : Sto} {e0 e1 e4 : Option D} (v_big : Int) (v_small : Int) : NxP (sNext [e0, e1, some (cI v_big), some (cI v_small), e4] (st ++ [])) ((fun (s : (Int × Int)) (env' : FL.Env) (S' : Sto) => ∃ x4 : Option D, env' = [e0, e1, some (cI s.1), some (cI s.2), x4] ∧ S' = st ++ []) (t_common_2a_3 v_big v_small)) :=
  nx_end ⟨_, rfl, rfl⟩
def t_common_2a_2 (v_big : Int) (v_rest : Int) : (Int × Int) := t_common_2a_3 v_big v_rest
theorem w_common_2a_2 {st : Sto} {e0 e1 e3 : Option D} (v_big : Int) (v_rest : Int) : NxP (b_common_2a_2 [e0, e1, some (cI v_big), e3, some (cI v_rest)] (st ++ [])) ((fun (s : (Int × Int)) (env' : FL.Env) (S' : Sto) => ∃ x4 : Option D, env' = [e0, e1, some (cI s.1), some (cI s.2), x4] ∧ S' = st ++ []) (t_common_2a_2 v_big v_rest)) :=
  nx_nx (do_set (ev_v rfl)) (w_common_2a_3 (st := st) (e0 := e0) (e1 := e1) (e4 := some (cI v_rest))  v_big v_rest)
def t_common_2a_1 (v_small : Int) (v_rest : Int) : (Int × Int) := t_common_2a_2 v_small v_rest
theorem w_common_2a_1 {st : Sto} {e0 e1 e2 : Option D} (v_small : Int) (v_rest : Int) : NxP (b_common_2a_1 [e0, e1, e2, some (cI v_small), some (cI v_rest)] (st ++ [])) ((fun (s : (Int × Int)) (env' : FL.Env) (S' : Sto) => ∃ x4 : Option D, env' = [e0, e1, some (cI s.1), some (cI s.2), x4] ∧ S' = st ++ []) (t_common_2a_1 v_small v_rest)) :=
  nx_nx (do_set (ev_v rfl)) (w_common_2a_2 (st := st) (e0 := e0) (e1 := e1) (e3 := some (cI v_small))  v_small v_rest)
def t_common_2a (v_big : Int) (v_small : Int) : (Int × Int) := t_common_2a_1 v_small (Int.fmod v_big v_small)
def c_common_2a (v_big : Int) (v_small : Int) : Prop := v_small ≠ 0
theorem w_common_2a {st : Sto} {e0 e1 e4 : Option D} (v_big : Int) (v_small : Int) (h : c_common_2a v_big v_small) : NxP (b_common_2a [e0, e1, some (cI v_big), some (cI v_small), e4] (st ++ [])) ((fun (s : (Int × Int)) (env' : FL.Env) (S' : Sto) => ∃ x4 : Option D, env' = [e0, e1, some (cI s.1), some (cI s.2), x4] ∧ S' = st ++ []) (t_common_2a v_big v_small)) :=
  nx_nx (do_set (ev_op (a := cI v_big) (b := cI v_small) (ev_v rfl) (ev_v rfl) (mod_c h))) (w_common_2a_1 (st := st) (e0 := e0) (e1 := e1) (e2 := some (cI v_big))  v_small (Int.fmod v_big v_small))
def t_common_3 (v_big : Int) : Int := v_big
theorem w_common_3 {st : Sto} {e0 e1 e3 e4 : Option D} (v_big : Int) : RtP st (b_common_3 [e0, e1, some (cI v_big), e3, e4] (st ++ [])) (cI (t_common_3 v_big)) :=
  rt_ret (d := cI v_big) (ev_v rfl) (fz_c fl_I)
def t_common_2q (v_big : Int) (v_small : Int) (q : (Int × Int)) : Int := t_common_3 q.1
def t_common_2 (v_big : Int) (v_small : Int) : Int := t_common_2q v_big v_small (whT (fun (s : (Int × Int)) => decide ((0 : Int) < s.2)) (fun (s : (Int × Int)) => t_common_2a s.1 s.2) fuelB (v_big, v_small))
def c_common_2 (v_big : Int) (v_small : Int) : Prop := (whC (fun (s : (Int × Int)) => True) (fun (s : (Int × Int)) => decide ((0 : Int) < s.2)) (fun (s : (Int × Int)) => c_common_2a s.1 s.2) (fun (s : (Int × Int)) => t_common_2a s.1 s.2) fuelB (v_big, v_small))
theorem w_common_2 {st : Sto} {e0 e1 e4 : Option D} (v_big : Int) (v_small : Int) (h : c_common_2 v_big v_small) : RtP st (b_common_2 [e0, e1, some (cI v_big), some (cI v_small), e4] (st ++ [])) (cI (t_common_2 v_big v_small)) :=
  rt_nx (do_while (E := (fun (s : (Int × Int)) => [e0, e1, some (cI s.1), some (cI s.2), none])) (O := (fun (s : (Int × Int)) => [])) (cb := (fun (s : (Int × Int)) => True)) (b := (fun (s : (Int × Int)) => decide ((0 : Int) < s.2))) (c := (fun (s : (Int × Int)) => c_common_2a s.1 s.2)) (t := (fun (s : (Int × Int)) => t_common_2a s.1 s.2)) (s := (v_big, v_small)) rfl (fun _ _ => rfl) (fun s hcb => tt_B (ev_op (a := cI s.2) (b := cI (0 : Int)) (ev_v rfl) (rfl) rfl)) (fun s hq hc => NxP.mono (w_common_2a (st := st) (e0 := e0) (e1 := e1) (e4 := none)  s.1 s.2 hc) (fun | _, _, ⟨_, rfl, rfl⟩ => ⟨rfl, rfl⟩)) h) (w_common_3 (st := st) (e0 := e0) (e1 := e1) (e3 := some (cI (whT (fun (s : (Int × Int)) => decide ((0 : Int) < s.2)) (fun (s : (Int × Int)) => t_common_2a s.1 s.2) fuelB (v_big, v_small)).2)) (e4 := none)  ((whT (fun (s : (Int × Int)) => decide ((0 : Int) < s.2)) (fun (s : (Int × Int)) => t_common_2a s.1 s.2) fuelB (v_big, v_small)).1))
def t_common_1 (v_other : Int) (v_big : Int) : Int := t_common_2 v_big (v_other.natAbs : Int)
def c_common_1 (v_other : Int) (v_big : Int) : Prop := c_common_2 v_big (v_other.natAbs : Int)
theorem w_common_1 {st : Sto} {e0 e3 e4 : Option D} (v_other : Int) (v_big : Int) (h : c_common_1 v_other v_big) : RtP st (b_common_1 [e0, some (cI v_other), some (cI v_big), e3, e4] (st ++ [])) (cI (t_common_1 v_other v_big)) :=
  rt_nx (do_set (ev_B (ev_cons (a := cI v_other) (ev_v rfl) ev_nil) abs_c)) (w_common_2 (st := st) (e0 := e0) (e1 := some (cI v_other)) (e4 := e4)  v_big (v_other.natAbs : Int) h)
def t_common (v_one : Int) (v_other : Int) : Int := t_common_1 v_other (v_one.natAbs : Int)
def c_common (v_one : Int) (v_other : Int) : Prop := c_common_1 v_other (v_one.natAbs : Int)
theorem w_common {st : Sto} {e2 e3 e4 : Option D} (v_one : Int) (v_other : Int) (h : c_common v_one v_other) : RtP st (b_common [some (cI v_one), some (cI v_other), e2, e3, e4] (st ++ [])) (cI (t_common v_one v_other)) :=
  rt_nx (do_set (ev_B (ev_cons (a := cI v_one) (ev_v rfl) ev_nil) abs_c)) (w_common_1 (st := st) (e0 := some (cI v_one)) (e3 := e3) (e4 := e4)  v_other (v_one.natAbs : Int) h)
def T_common (v_one : Int) (v_other : Int) : Int := t_common v_one v_other
def C_common (v_one : Int) (v_other : Int) : Prop := c_common v_one v_other
theorem f_common {st : Sto} (v_one : Int) (v_other : Int) (h : C_common v_one v_other) : m_common [cI v_one, cI v_other] st = .ok (cI (T_common v_one v_other)) st :=
  RtP.enter (b := b_common) (env := [some (cI v_one), some (cI v_other), none, none, none]) (w_common (st := st) (e2 := none) (e3 := none) (e4 := none)  v_one v_other h)
def t_fraction_0a  : (Int × Int) := default
def c_fraction_0a  : Prop := False
theorem w_fraction_0a {st : Sto} {e0 e1 e2 : Option D}  (h : c_fraction_0a ) : RtP st (b_fraction_0a [e0, e1, e2] (st ++ [])) ((cP2 cI cI) (t_fraction_0a)) :=
  h.elim
def t_fraction_2a_1 (v_shared : Int) : Int := (v_shared)
theorem w_fraction_2a_1 {st : Sto} {e0 e1 : Option D} (v_shared : Int) : NxP (sNext [e0, e1, some (cI v_shared)] (st ++ [])) ((fun (s : Int) (env' : FL.Env) (S' : Sto) => env' = [e0, e1, some (cI s)] ∧ S' = st ++ []) (t_fraction_2a_1 v_shared)) :=
  nx_end ⟨rfl, rfl⟩
def t_fraction_2a (v_shared : Int) : Int := t_fraction_2a_1 (-v_shared)
theorem w_fraction_2a {st : Sto} {e0 e1 : Option D} (v_shared : Int) : NxP (b_fraction_2a [e0, e1, some (cI v_shared)] (st ++ [])) ((fun (s : Int) (env' : FL.Env) (S' : Sto) => env' = [e0, e1, some (cI s)] ∧ S' = st ++ []) (t_fraction_2a v_shared)) :=
  nx_nx (do_set (ev_un (a := cI v_shared) (ev_v rfl) rfl)) (w_fraction_2a_1 (st := st) (e0 := e0) (e1 := e1)  (-v_shared))
def t_fraction_2b (v_shared : Int) : Int := (v_shared)
theorem w_fraction_2b {st : Sto} {e0 e1 : Option D} (v_shared : Int) : NxP (sNext [e0, e1, some (cI v_shared)] (st ++ [])) ((fun (s : Int) (env' : FL.Env) (S' : Sto) => env' = [e0, e1, some (cI s)] ∧ S' = st ++ []) (t_fraction_2b v_shared)) :=
  nx_end ⟨rfl, rfl⟩
def t_fraction_3 (v_top : Int) (v_bottom : Int) (v_shared : Int) : (Int × Int) := ((Int.fdiv v_top v_shared), (Int.fdiv v_bottom v_shared))
def c_fraction_3 (v_top : Int) (v_bottom : Int) (v_shared : Int) : Prop := DivOk v_shared ∧ DivOk v_shared
theorem w_fraction_3 {st : Sto} (v_top : Int) (v_bottom : Int) (v_shared : Int) (h : c_fraction_3 v_top v_bottom v_shared) : RtP st (b_fraction_3 [some (cI v_top), some (cI v_bottom), some (cI v_shared)] (st ++ [])) ((cP2 cI cI) (t_fraction_3 v_top v_bottom v_shared)) :=
  rt_ret (d := (cP2 cI cI) ((Int.fdiv v_top v_shared), (Int.fdiv v_bottom v_shared))) (ev_tup (ev_cons (a := cI (Int.fdiv v_top v_shared)) (ev_op (a := cI v_top) (b := cI v_shared) (ev_v rfl) (ev_v rfl) (div_c h.1)) (ev_cons (a := cI (Int.fdiv v_bottom v_shared)) (ev_op (a := cI v_bottom) (b := cI v_shared) (ev_v rfl) (ev_v rfl) (div_c h.2)) (ev_nil))) rfl) (fz_c (fl_P2 fl_I fl_I))
def t_fraction_2q (v_top : Int) (v_bottom : Int) (v_shared : Int) (q : Int) : (Int × Int) := t_fraction_3 v_top v_bottom q
def c_fraction_2q (v_top : Int) (v_bottom : Int) (v_shared : Int) (q : Int) : Prop := c_fraction_3 v_top v_bottom q
def t_fraction_2 (v_top : Int) (v_bottom : Int) (v_shared : Int) : (Int × Int) := t_fraction_2q v_top v_bottom v_shared (if decide (v_bottom < (0 : Int)) = true then t_fraction_2a v_shared else t_fraction_2b v_shared)
def c_fraction_2 (v_top : Int) (v_bottom : Int) (v_shared : Int) : Prop := c_fraction_2q v_top v_bottom v_shared (if decide (v_bottom < (0 : Int)) = true then t_fraction_2a v_shared else t_fraction_2b v_shared)
theorem w_fraction_2 {st : Sto} (v_top : Int) (v_bottom : Int) (v_shared : Int) (h : c_fraction_2 v_top v_bottom v_shared) : RtP st (b_fraction_2 [some (cI v_top), some (cI v_bottom), some (cI v_shared)] (st ++ [])) ((cP2 cI cI) (t_fraction_2 v_top v_bottom v_shared)) :=
  rt_N (if_N (P := fun (s : Int) (env' : FL.Env) (S' : Sto) => env' = [some (cI v_top), some (cI v_bottom), some (cI s)] ∧ S' = st ++ []) (tt_B (ev_op (a := cI v_bottom) (b := cI (0 : Int)) (ev_v rfl) (rfl) rfl)) (fun hc => w_fraction_2a (st := st) (e0 := some (cI v_top)) (e1 := some (cI v_bottom))  v_shared) (fun hc => w_fraction_2b (st := st) (e0 := some (cI v_top)) (e1 := some (cI v_bottom))  v_shared)) (fun | _, _, ⟨rfl, rfl⟩ => w_fraction_3 (st := st)   v_top v_bottom (if decide (v_bottom < (0 : Int)) = true then t_fraction_2a v_shared else t_fraction_2b v_shared) h)
def t_fraction_1 (v_top : Int) (v_bottom : Int) : (Int × Int) := t_fraction_2 v_top v_bottom (T_common v_top v_bottom)
def c_fraction_1 (v_top : Int) (v_bottom : Int) : Prop := C_common v_top v_bottom ∧ c_fraction_2 v_top v_bottom (T_common v_top v_bottom)
theorem w_fraction_1 {st : Sto} {e2 : Option D} (v_top : Int) (v_bottom : Int) (h : c_fraction_1 v_top v_bottom) : RtP st (b_fraction_1 [some (cI v_top), some (cI v_bottom), e2] (st ++ [])) ((cP2 cI cI) (t_fraction_1 v_top v_bottom)) :=
  rt_nx (do_set (ev_call (ev_cons (a := cI v_top) (ev_v rfl) (ev_cons (a := cI v_bottom) (ev_v rfl) (ev_nil))) rfl (f_common v_top v_bottom h.1))) (w_fraction_2 (st := st)   v_top v_bottom (T_common v_top v_bottom) h.2)
def t_fraction (v_top : Int) (v_bottom : Int) : (Int × Int) := if decide (v_bottom = (0 : Int)) = true then t_fraction_0a else t_fraction_1 v_top v_bottom
def c_fraction (v_top : Int) (v_bottom : Int) : Prop := (decide (v_bottom = (0 : Int)) = true → c_fraction_0a) ∧ (decide (v_bottom = (0 : Int)) = false → c_fraction_1 v_top v_bottom)
theorem w_fraction {st : Sto} {e2 : Option D} (v_top : Int) (v_bottom : Int) (h : c_fraction v_top v_bottom) : RtP st (b_fraction [some (cI v_top), some (cI v_bottom), e2] (st ++ [])) ((cP2 cI cI) (t_fraction v_top v_bottom)) :=
  if_RX (e := (cP2 cI cI)) (tt_B (ev_op (a := cI v_bottom) (b := cI (0 : Int)) (ev_v rfl) (rfl) rfl)) (fun hc => w_fraction_0a (st := st) (e0 := some (cI v_top)) (e1 := some (cI v_bottom)) (e2 := e2)   (h.1 hc)) (fun hc => w_fraction_1 (st := st) (e2 := e2)  v_top v_bottom (h.2 hc))
def T_fraction (v_top : Int) (v_bottom : Int) : (Int × Int) := t_fraction v_top v_bottom
def C_fraction (v_top : Int) (v_bottom : Int) : Prop := c_fraction v_top v_bottom
theorem f_fraction {st : Sto} (v_top : Int) (v_bottom : Int) (h : C_fraction v_top v_bottom) : m_fraction [cI v_top, cI v_bottom] st = .ok ((cP2 cI cI) (T_fraction v_top v_bottom)) st :=
  RtP.enter (b := b_fraction) (env := [some (cI v_top), some (cI v_bottom), none]) (w_fraction (st := st) (e2 := none)  v_top v_bottom h)
def t_minus (v_one : (Int × Int)) (v_other : (Int × Int)) : (Int × Int) := (T_fraction ((v_one.1 * v_other.2) - (v_other.1 * v_one.2)) (v_one.2 * v_other.2))
def c_minus (v_one : (Int × Int)) (v_other : (Int × Int)) : Prop := MulK v_one.1 v_other.2 ∧ MulK v_other.1 v_one.2 ∧ MulK v_one.2 v_other.2 ∧ C_fraction ((v_one.1 * v_other.2) - (v_other.1 * v_one.2)) (v_one.2 * v_other.2)
theorem w_minus {st : Sto} (v_one : (Int × Int)) (v_other : (Int × Int)) (h : c_minus v_one v_other) : RtP st (b_minus [some ((cP2 cI cI) v_one), some ((cP2 cI cI) v_other)] (st ++ [])) ((cP2 cI cI) (t_minus v_one v_other)) :=
  rt_ret (d := (cP2 cI cI) (T_fraction ((v_one.1 * v_other.2) - (v_other.1 * v_one.2)) (v_one.2 * v_other.2))) (ev_call (ev_cons (a := cI ((v_one.1 * v_other.2) - (v_other.1 * v_one.2))) (ev_op (a := cI (v_one.1 * v_other.2)) (b := cI (v_other.1 * v_one.2)) (ev_op (a := cI v_one.1) (b := cI v_other.2) (ev_op (ev_v rfl) (rfl) rfl) (ev_op (ev_v rfl) (rfl) rfl) (mul_c h.1)) (ev_op (a := cI v_other.1) (b := cI v_one.2) (ev_op (ev_v rfl) (rfl) rfl) (ev_op (ev_v rfl) (rfl) rfl) (mul_c h.2.1)) rfl) (ev_cons (a := cI (v_one.2 * v_other.2)) (ev_op (a := cI v_one.2) (b := cI v_other.2) (ev_op (ev_v rfl) (rfl) rfl) (ev_op (ev_v rfl) (rfl) rfl) (mul_c h.2.2.1)) (ev_nil))) rfl (f_fraction ((v_one.1 * v_other.2) - (v_other.1 * v_one.2)) (v_one.2 * v_other.2) h.2.2.2)) (fz_c (fl_P2 fl_I fl_I))
def T_minus (v_one : (Int × Int)) (v_other : (Int × Int)) : (Int × Int) := t_minus v_one v_other
def C_minus (v_one : (Int × Int)) (v_other : (Int × Int)) : Prop := c_minus v_one v_other
theorem f_minus {st : Sto} (v_one : (Int × Int)) (v_other : (Int × Int)) (h : C_minus v_one v_other) : m_minus [(cP2 cI cI) v_one, (cP2 cI cI) v_other] st = .ok ((cP2 cI cI) (T_minus v_one v_other)) st :=
  RtP.enter (b := b_minus) (env := [some ((cP2 cI cI) v_one), some ((cP2 cI cI) v_other)]) (w_minus (st := st)   v_one v_other h)
def t_side_of_1a  : (Option (Int × Int)) := none
theorem w_side_of_1a {st : Sto} {e0 e1 : Option D}  : RtP st (b_side_of_1a [e0, e1] (st ++ [])) ((cO (cP2 cI cI)) (t_side_of_1a)) :=
  rt_ret (d := (cO (cP2 cI cI)) none) (rfl) (fz_c (fl_O (fl_P2 fl_I fl_I)))
def t_side_of_2 (v_side : (Int × Int)) : (Option (Int × Int)) := some v_side
theorem w_side_of_2 {st : Sto} {e0 : Option D} (v_side : (Int × Int)) : RtP st (b_side_of_2 [e0, some ((cP2 cI cI) v_side)] (st ++ [])) ((cO (cP2 cI cI)) (t_side_of_2 v_side)) :=
  rt_ret (d := (cO (cP2 cI cI)) (some v_side)) (ev_v rfl) (fz_c (fl_O (fl_P2 fl_I fl_I)))
def t_side_of_1 (v_rectangle : ((Int × Int) × (Int × Int) × (Int × Int) × (Int × Int))) (v_side : (Int × Int)) : (Option (Int × Int)) := if (decide (v_side.1 = (0 : Int)) || (!decide (v_side = (T_minus v_rectangle.2.2.2 v_rectangle.2.1)))) = true then t_side_of_1a else t_side_of_2 v_side
def c_side_of_1 (v_rectangle : ((Int × Int) × (Int × Int) × (Int × Int) × (Int × Int))) (v_side : (Int × Int)) : Prop := (decide (v_side.1 = (0 : Int)) = false → C_minus v_rectangle.2.2.2 v_rectangle.2.1)
theorem w_side_of_1 {st : Sto} (v_rectangle : ((Int × Int) × (Int × Int) × (Int × Int) × (Int × Int))) (v_side : (Int × Int)) (h : c_side_of_1 v_rectangle v_side) : RtP st (b_side_of_1 [some ((cP4 (cP2 cI cI) (cP2 cI cI) (cP2 cI cI) (cP2 cI cI)) v_rectangle), some ((cP2 cI cI) v_side)] (st ++ [])) ((cO (cP2 cI cI)) (t_side_of_1 v_rectangle v_side)) :=
  if_RX (e := (cO (cP2 cI cI))) (tt_or (tt_B (ev_op (a := cI v_side.1) (b := cI (0 : Int)) (ev_op (ev_v rfl) (rfl) rfl) (rfl) rfl)) (fun hg123 => tt_B (ev_op (a := (cP2 cI cI) v_side) (b := (cP2 cI cI) (T_minus v_rectangle.2.2.2 v_rectangle.2.1)) (ev_v rfl) (ev_call (ev_cons (a := (cP2 cI cI) v_rectangle.2.2.2) (ev_op (ev_v rfl) (rfl) rfl) (ev_cons (a := (cP2 cI cI) v_rectangle.2.1) (ev_op (ev_v rfl) (rfl) rfl) (ev_nil))) rfl (f_minus v_rectangle.2.2.2 v_rectangle.2.1 (h hg123))) (ne_c (eq_P2 eq_I eq_I))))) (fun hc => w_side_of_1a (st := st) (e0 := some ((cP4 (cP2 cI cI) (cP2 cI cI) (cP2 cI cI) (cP2 cI cI)) v_rectangle)) (e1 := some ((cP2 cI cI) v_side))  ) (fun hc => w_side_of_2 (st := st) (e0 := some ((cP4 (cP2 cI cI) (cP2 cI cI) (cP2 cI cI) (cP2 cI cI)) v_rectangle))  v_side)
def t_side_of (v_rectangle : ((Int × Int) × (Int × Int) × (Int × Int) × (Int × Int))) : (Option (Int × Int)) := t_side_of_1 v_rectangle (T_minus v_rectangle.2.2.1 v_rectangle.1)
def c_side_of (v_rectangle : ((Int × Int) × (Int × Int) × (Int × Int) × (Int × Int))) : Prop := C_minus v_rectangle.2.2.1 v_rectangle.1 ∧ c_side_of_1 v_rectangle (T_minus v_rectangle.2.2.1 v_rectangle.1)
theorem w_side_of {st : Sto} {e1 : Option D} (v_rectangle : ((Int × Int) × (Int × Int) × (Int × Int) × (Int × Int))) (h : c_side_of v_rectangle) : RtP st (b_side_of [some ((cP4 (cP2 cI cI) (cP2 cI cI) (cP2 cI cI) (cP2 cI cI)) v_rectangle), e1] (st ++ [])) ((cO (cP2 cI cI)) (t_side_of v_rectangle)) :=
  rt_nx (do_set (ev_call (ev_cons (a := (cP2 cI cI) v_rectangle.2.2.1) (ev_op (ev_v rfl) (rfl) rfl) (ev_cons (a := (cP2 cI cI) v_rectangle.1) (ev_op (ev_v rfl) (rfl) rfl) (ev_nil))) rfl (f_minus v_rectangle.2.2.1 v_rectangle.1 h.1))) (w_side_of_1 (st := st)   v_rectangle (T_minus v_rectangle.2.2.1 v_rectangle.1) h.2)
def T_side_of (v_rectangle : ((Int × Int) × (Int × Int) × (Int × Int) × (Int × Int))) : (Option (Int × Int)) := t_side_of v_rectangle
def C_side_of (v_rectangle : ((Int × Int) × (Int × Int) × (Int × Int) × (Int × Int))) : Prop := c_side_of v_rectangle
theorem f_side_of {st : Sto} (v_rectangle : ((Int × Int) × (Int × Int) × (Int × Int) × (Int × Int))) (h : C_side_of v_rectangle) : m_side_of [(cP4 (cP2 cI cI) (cP2 cI cI) (cP2 cI cI) (cP2 cI cI)) v_rectangle] st = .ok ((cO (cP2 cI cI)) (T_side_of v_rectangle)) st :=
  RtP.enter (b := b_side_of) (env := [some ((cP4 (cP2 cI cI) (cP2 cI cI) (cP2 cI cI) (cP2 cI cI)) v_rectangle), none]) (w_side_of (st := st) (e1 := none)  v_rectangle h)
def t_code_of_1a (v_seen : D) : ((List Int) ⊕ FL.Exc) := .inr ⟨"NoFloor", [("found", cD v_seen)]⟩
def c_code_of_1a (v_seen : D) : Prop := D.flt 20 v_seen = true
theorem w_code_of_1a {st : Sto} {e0 e2 e3 e4 e5 e6 : Option D} (v_seen : D) (h : c_code_of_1a v_seen) : RxP st (b_code_of_1a [e0, some (cD v_seen), e2, e3, e4, e5, e6] (st ++ [])) ((xE (cT cI)) (t_code_of_1a v_seen)) :=
  rx_raise (x := ⟨"NoFloor", [("found", cD v_seen)]⟩) (dx_raiseF (ev_cons (a := cD v_seen) (ev_v rfl) (ev_nil)) rfl) (fx_cons h (fx_nil))
def t_code_of_3a_0a (v_number : Int) : ((List Int) ⊕ FL.Exc) := .inr ⟨"NoCode", [("place", cI v_number)]⟩
theorem w_code_of_3a_0a {st : Sto} {e0 e1 e2 e4 e5 e6 : Option D} {o0 : SO} (v_number : Int) : RxP st (b_code_of_3a_0a [e0, e1, e2, some (cI v_number), e4, e5, e6] (st ++ [o0])) ((xE (cT cI)) (t_code_of_3a_0a v_number)) :=
  rx_raise (x := ⟨"NoCode", [("place", cI v_number)]⟩) (dx_raiseF (ev_cons (a := cI v_number) (ev_v rfl) (ev_nil)) rfl) (fx_cons (fl_I v_number) (fx_nil))
def t_code_of_3a_2 (v_places : (List (Int × Int × Int))) : ((List (Int × Int × Int)) ⊕ ((List Int) ⊕ FL.Exc)) := .inl (v_places)
theorem w_code_of_3a_2 {st : Sto} {e0 e1 e3 e4 e5 e6 : Option D} (v_places : (List (Int × Int × Int))) : MyP st (sNext [e0, e1, some (D.loc (st.length + 0)), e3, e4, e5, e6] (st ++ [SO.lst (v_places.map (cP3 cI cI cI))])) (t_code_of_3a_2 v_places) (fun (s : (List (Int × Int × Int))) (env' : FL.Env) (S' : Sto) => env' = [e0, e1, some (D.loc (st.length + 0)), e3, e4, e5, e6] ∧ S' = st ++ [SO.lst (s.map (cP3 cI cI cI))]) (xE (cT cI)) :=
  my_end ⟨rfl, rfl⟩
def t_code_of_3a_1 (v_places : (List (Int × Int × Int))) (v_rectangle : ((Int × Int) × (Int × Int) × (Int × Int) × (Int × Int))) : ((List (Int × Int × Int)) ⊕ ((List Int) ⊕ FL.Exc)) := t_code_of_3a_2 (v_places ++ [((-v_rectangle.2.2.2.1), v_rectangle.1.1, ((T_side_of v_rectangle).getD default).1)])
def c_code_of_3a_1 (v_places : (List (Int × Int × Int))) (v_rectangle : ((Int × Int) × (Int × Int) × (Int × Int) × (Int × Int))) : Prop := C_side_of v_rectangle ∧ (T_side_of v_rectangle).isSome = true ∧ v_places.length < 1000000
theorem w_code_of_3a_1 {st : Sto} {e0 e1 e3 e5 e6 : Option D} (v_places : (List (Int × Int × Int))) (v_rectangle : ((Int × Int) × (Int × Int) × (Int × Int) × (Int × Int))) (h : c_code_of_3a_1 v_places v_rectangle) : MyP st (b_code_of_3a_1 [e0, e1, some (D.loc (st.length + 0)), e3, some ((cP4 (cP2 cI cI) (cP2 cI cI) (cP2 cI cI) (cP2 cI cI)) v_rectangle), e5, e6] (st ++ [SO.lst (v_places.map (cP3 cI cI cI))])) (t_code_of_3a_1 v_places v_rectangle) (fun (s : (List (Int × Int × Int))) (env' : FL.Env) (S' : Sto) => env' = [e0, e1, some (D.loc (st.length + 0)), e3, some ((cP4 (cP2 cI cI) (cP2 cI cI) (cP2 cI cI) (cP2 cI cI)) v_rectangle), e5, e6] ∧ S' = st ++ [SO.lst (s.map (cP3 cI cI cI))]) (xE (cT cI)) :=
  my_nx (do_drop (ev_mt (ev_v rfl) (isLst_M (i := 0) rfl) (ev_cons (ev_tup (ev_cons (a := cI (-v_rectangle.2.2.2.1)) (ev_un (a := cI v_rectangle.2.2.2.1) (ev_op (ev_op (ev_v rfl) (rfl) rfl) (rfl) rfl) rfl) (ev_cons (a := cI v_rectangle.1.1) (ev_op (ev_op (ev_v rfl) (rfl) rfl) (rfl) rfl) (ev_cons (a := cI (((T_side_of v_rectangle).getD default).1)) (ev_op (ev_get (c := (cP2 cI cI)) (ev_call (ev_cons (a := (cP4 (cP2 cI cI) (cP2 cI cI) (cP2 cI cI) (cP2 cI cI)) v_rectangle) (ev_v rfl) (ev_nil)) rfl (f_side_of v_rectangle h.1)) h.2.1) (rfl) rfl) (ev_nil)))) rfl) ev_nil) (ap_M (c := (cP3 cI cI cI)) (xs := v_places) (x := ((-v_rectangle.2.2.2.1), v_rectangle.1.1, ((T_side_of v_rectangle).getD default).1)) (i := 0) rfl h.2.2))) (w_code_of_3a_2 (st := st) (e0 := e0) (e1 := e1) (e3 := e3) (e4 := some ((cP4 (cP2 cI cI) (cP2 cI cI) (cP2 cI cI) (cP2 cI cI)) v_rectangle)) (e5 := e5) (e6 := e6)  (v_places ++ [((-v_rectangle.2.2.2.1), v_rectangle.1.1, ((T_side_of v_rectangle).getD default).1)]))
def t_code_of_3a (v_places : (List (Int × Int × Int))) (v_number : Int) (v_rectangle : ((Int × Int) × (Int × Int) × (Int × Int) × (Int × Int))) : ((List (Int × Int × Int)) ⊕ ((List Int) ⊕ FL.Exc)) := if ((T_side_of v_rectangle).isNone || (!(([v_rectangle.1, v_rectangle.2.1, v_rectangle.2.2.1, v_rectangle.2.2.2].map (fun (y1 : (Int × Int)) => decide (y1.2 = (1 : Int)))).all id))) = true then .inr (t_code_of_3a_0a v_number) else t_code_of_3a_1 v_places v_rectangle
def c_code_of_3a (v_places : (List (Int × Int × Int))) (v_number : Int) (v_rectangle : ((Int × Int) × (Int × Int) × (Int × Int) × (Int × Int))) : Prop := C_side_of v_rectangle ∧ ((T_side_of v_rectangle).isNone = false → [v_rectangle.1, v_rectangle.2.1, v_rectangle.2.2.1, v_rectangle.2.2.2].length ≤ 1000000) ∧ (((T_side_of v_rectangle).isNone || (!(([v_rectangle.1, v_rectangle.2.1, v_rectangle.2.2.1, v_rectangle.2.2.2].map (fun (y1 : (Int × Int)) => decide (y1.2 = (1 : Int)))).all id))) = false → c_code_of_3a_1 v_places v_rectangle)
theorem w_code_of_3a {st : Sto} {e0 e1 e5 e6 : Option D} (v_places : (List (Int × Int × Int))) (v_number : Int) (v_rectangle : ((Int × Int) × (Int × Int) × (Int × Int) × (Int × Int))) (h : c_code_of_3a v_places v_number v_rectangle) : MyP st (b_code_of_3a [e0, e1, some (D.loc (st.length + 0)), some (cI v_number), some ((cP4 (cP2 cI cI) (cP2 cI cI) (cP2 cI cI) (cP2 cI cI)) v_rectangle), e5, e6] (st ++ [SO.lst (v_places.map (cP3 cI cI cI))])) (t_code_of_3a v_places v_number v_rectangle) (fun (s : (List (Int × Int × Int))) (env' : FL.Env) (S' : Sto) => env' = [e0, e1, some (D.loc (st.length + 0)), some (cI v_number), some ((cP4 (cP2 cI cI) (cP2 cI cI) (cP2 cI cI) (cP2 cI cI)) v_rectangle), e5, e6] ∧ S' = st ++ [SO.lst (s.map (cP3 cI cI cI))]) (xE (cT cI)) :=
  iy_MX (e := (xE (cT cI))) (tt_or (tt_B (ev_op (a := (cO (cP2 cI cI)) (T_side_of v_rectangle)) (ev_call (ev_cons (a := (cP4 (cP2 cI cI) (cP2 cI cI) (cP2 cI cI) (cP2 cI cI)) v_rectangle) (ev_v rfl) (ev_nil)) rfl (f_side_of v_rectangle h.1)) rfl (is_O (fun _ => rfl)))) (fun hg138 => tt_not (tt_tru (ev_B (ev_cons (ev_frz (ev_comp0 (cx := (cP2 cI cI)) (cy := cB) (xs := [v_rectangle.1, v_rectangle.2.1, v_rectangle.2.2.1, v_rectangle.2.2.2]) (f := (fun (y1 : (Int × Int)) => decide (y1.2 = (1 : Int)))) (it_seq (c := (cP2 cI cI)) (ev_v rfl) (sq_T (c := (cP2 cI cI)) (xs := [v_rectangle.1, v_rectangle.2.1, v_rectangle.2.2.1, v_rectangle.2.2.2]))) (fun y1 hx140 => ⟨[e0, e1, some (D.loc (st.length + 0)), some (cI v_number), some ((cP4 (cP2 cI cI) (cP2 cI cI) (cP2 cI cI) (cP2 cI cI)) v_rectangle), e5, some ((cP2 cI cI) y1)], rfl, ev_op (a := cI y1.2) (b := cI (1 : Int)) (ev_op (ev_v rfl) (rfl) rfl) (rfl) rfl⟩) (h.2.1 hg138))) ev_nil) (all_c (ls_L (c := cB) (xs := ([v_rectangle.1, v_rectangle.2.1, v_rectangle.2.2.1, v_rectangle.2.2.2].map (fun (y1 : (Int × Int)) => decide (y1.2 = (1 : Int)))))))) rfl))) (fun hc => w_code_of_3a_0a (st := st) (e0 := e0) (e1 := e1) (e2 := some (D.loc (st.length + 0))) (e4 := some ((cP4 (cP2 cI cI) (cP2 cI cI) (cP2 cI cI) (cP2 cI cI)) v_rectangle)) (e5 := e5) (e6 := e6) (o0 := SO.lst (v_places.map (cP3 cI cI cI))) v_number) (fun hc => w_code_of_3a_1 (st := st) (e0 := e0) (e1 := e1) (e3 := some (cI v_number)) (e5 := e5) (e6 := e6)  v_places v_rectangle (h.2.2 hc))
def t_code_of_4 (v_places : (List (Int × Int × Int))) : ((List Int) ⊕ FL.Exc) := .inl ((srtY (fun (a : (Int × Int × Int)) => ([.inl a.1, .inl a.2.1, .inl a.2.2] : TKey)) v_places).map (fun (y3 : (Int × Int × Int)) => y3.2.2))
def c_code_of_4 (v_places : (List (Int × Int × Int))) : Prop := ((srtY (fun (a : (Int × Int × Int)) => ([.inl a.1, .inl a.2.1, .inl a.2.2] : TKey)) v_places).length ≤ 1000000)
theorem w_code_of_4 {st : Sto} {e0 e1 e3 e4 e5 e6 : Option D} (v_places : (List (Int × Int × Int))) (h : c_code_of_4 v_places) : RxP st (b_code_of_4 [e0, e1, some (D.loc (st.length + 0)), e3, e4, e5, e6] (st ++ [SO.lst (v_places.map (cP3 cI cI cI))])) ((xE (cT cI)) (t_code_of_4 v_places)) :=
  rx_ret (d := (cT cI) ((srtY (fun (a : (Int × Int × Int)) => ([.inl a.1, .inl a.2.1, .inl a.2.2] : TKey)) v_places).map (fun (y3 : (Int × Int × Int)) => y3.2.2))) (ev_B (ev_cons (ev_frz (ev_comp0 (cx := (cP3 cI cI cI)) (cy := cI) (xs := (srtY (fun (a : (Int × Int × Int)) => ([.inl a.1, .inl a.2.1, .inl a.2.2] : TKey)) v_places)) (f := (fun (y3 : (Int × Int × Int)) => y3.2.2)) (it_seq (c := (cP3 cI cI cI)) (ev_frz (ev_nB (ev_cons (ev_v rfl) ev_nil) (sort_Y (key_P (c := (cP3 cI cI cI)) (key := (fun (a : (Int × Int × Int)) => ([.inl a.1, .inl a.2.1, .inl a.2.2] : TKey))) [false, false, false] (e := fun (a : (Int × Int × Int)) => cI a.1) (es := fun (a : (Int × Int × Int)) => [cI a.2.1, cI a.2.2]) (fun _ => ⟨rfl, rfl⟩) (fun _ => rfl)) (dic_M (i := 0) rfl) (ls_M (i := 0) rfl)))) (sq_L (c := (cP3 cI cI cI)) (xs := (srtY (fun (a : (Int × Int × Int)) => ([.inl a.1, .inl a.2.1, .inl a.2.2] : TKey)) v_places)))) (fun y3 hx144 => ⟨[e0, e1, some (D.loc (st.length + 0)), e3, e4, some ((cP3 cI cI cI) y3), e6], rfl, ev_op (ev_v rfl) (rfl) rfl⟩) h)) ev_nil) (tup_c (c := cI) (ls_L (c := cI) (xs := ((srtY (fun (a : (Int × Int × Int)) => ([.inl a.1, .inl a.2.1, .inl a.2.2] : TKey)) v_places).map (fun (y3 : (Int × Int × Int)) => y3.2.2)))))) (fz_c (fl_T fl_I))
def t_code_of_3q (v_floor : ((Int × Int) × (Int × Int) × (List ((Int × Int) × (Int × Int) × (Int × Int) × (Int × Int))))) (v_places : (List (Int × Int × Int))) (q : (List (Int × Int × Int))) : ((List Int) ⊕ FL.Exc) := t_code_of_4 q
def c_code_of_3q (v_floor : ((Int × Int) × (Int × Int) × (List ((Int × Int) × (Int × Int) × (Int × Int) × (Int × Int))))) (v_places : (List (Int × Int × Int))) (q : (List (Int × Int × Int))) : Prop := c_code_of_4 q
def t_code_of_3 (v_floor : ((Int × Int) × (Int × Int) × (List ((Int × Int) × (Int × Int) × (Int × Int) × (Int × Int))))) (v_places : (List (Int × Int × Int))) : ((List Int) ⊕ FL.Exc) := outR (forR (fun (s : (List (Int × Int × Int))) (x : (Int × ((Int × Int) × (Int × Int) × (Int × Int) × (Int × Int)))) => t_code_of_3a s x.1 x.2) (enumI v_floor.2.2) (v_places)) (t_code_of_3q v_floor v_places)
def c_code_of_3 (v_floor : ((Int × Int) × (Int × Int) × (List ((Int × Int) × (Int × Int) × (Int × Int) × (Int × Int))))) (v_places : (List (Int × Int × Int))) : Prop := (cForR (fun (s : (List (Int × Int × Int))) (x : (Int × ((Int × Int) × (Int × Int) × (Int × Int) × (Int × Int)))) => c_code_of_3a s x.1 x.2) (fun (s : (List (Int × Int × Int))) (x : (Int × ((Int × Int) × (Int × Int) × (Int × Int) × (Int × Int)))) => t_code_of_3a s x.1 x.2) (enumI v_floor.2.2) (v_places)) ∧ (∀ q, (forR (fun (s : (List (Int × Int × Int))) (x : (Int × ((Int × Int) × (Int × Int) × (Int × Int) × (Int × Int)))) => t_code_of_3a s x.1 x.2) (enumI v_floor.2.2) (v_places)) = .inl q → c_code_of_3q v_floor v_places q)
theorem w_code_of_3 {st : Sto} {e1 e3 e4 e5 e6 : Option D} (v_floor : ((Int × Int) × (Int × Int) × (List ((Int × Int) × (Int × Int) × (Int × Int) × (Int × Int))))) (v_places : (List (Int × Int × Int))) (h : c_code_of_3 v_floor v_places) : RxP st (b_code_of_3 [some ((cP3 (cP2 cI cI) (cP2 cI cI) (cT (cP4 (cP2 cI cI) (cP2 cI cI) (cP2 cI cI) (cP2 cI cI)))) v_floor), e1, some (D.loc (st.length + 0)), e3, e4, e5, e6] (st ++ [SO.lst (v_places.map (cP3 cI cI cI))])) ((xE (cT cI)) (t_code_of_3 v_floor v_places)) :=
  rx_M (e := (xE (cT cI))) (do_forY (E := (fun (s : (List (Int × Int × Int))) => [some ((cP3 (cP2 cI cI) (cP2 cI cI) (cT (cP4 (cP2 cI cI) (cP2 cI cI) (cP2 cI cI) (cP2 cI cI)))) v_floor), e1, some (D.loc (st.length + 0)), none, none, e5, e6])) (O := (fun (s : (List (Int × Int × Int))) => [SO.lst (s.map (cP3 cI cI cI))])) (cx := (cP2 cI (cP4 (cP2 cI cI) (cP2 cI cI) (cP2 cI cI) (cP2 cI cI)))) (c := (fun (s : (List (Int × Int × Int))) (x : (Int × ((Int × Int) × (Int × Int) × (Int × Int) × (Int × Int)))) => c_code_of_3a s x.1 x.2)) (t := (fun (s : (List (Int × Int × Int))) (x : (Int × ((Int × Int) × (Int × Int) × (Int × Int) × (Int × Int)))) => t_code_of_3a s x.1 x.2)) (s := (v_places)) (e := (xE (cT cI))) (it_enum (c := (cP4 (cP2 cI cI) (cP2 cI cI) (cP2 cI cI) (cP2 cI cI))) (ev_cons (ev_op (ev_v rfl) (rfl) rfl) ev_nil) (sq_T (c := (cP4 (cP2 cI cI) (cP2 cI cI) (cP2 cI cI) (cP2 cI cI))) (xs := v_floor.2.2))) rfl (fun _ => rfl) (fun _ _ => rfl) (fun s x hc => ⟨[some ((cP3 (cP2 cI cI) (cP2 cI cI) (cT (cP4 (cP2 cI cI) (cP2 cI cI) (cP2 cI cI) (cP2 cI cI)))) v_floor), e1, some (D.loc (st.length + 0)), some (cI x.1), some ((cP4 (cP2 cI cI) (cP2 cI cI) (cP2 cI cI) (cP2 cI cI)) x.2), e5, e6], rfl, MyP.mono (w_code_of_3a (st := st) (e0 := some ((cP3 (cP2 cI cI) (cP2 cI cI) (cT (cP4 (cP2 cI cI) (cP2 cI cI) (cP2 cI cI) (cP2 cI cI)))) v_floor)) (e1 := e1) (e5 := e5) (e6 := e6)  s x.1 x.2 hc) (fun _ => fun | _, _, ⟨rfl, rfl⟩ => ⟨rfl, rfl⟩)⟩) h.1) (fun | q, _, _, hq, ⟨rfl, rfl⟩ => w_code_of_4 (st := st) (e0 := some ((cP3 (cP2 cI cI) (cP2 cI cI) (cT (cP4 (cP2 cI cI) (cP2 cI cI) (cP2 cI cI) (cP2 cI cI)))) v_floor)) (e1 := e1) (e3 := none) (e4 := none) (e5 := e5) (e6 := e6)  q (h.2 q hq))
def t_code_of_2 (v_floor : ((Int × Int) × (Int × Int) × (List ((Int × Int) × (Int × Int) × (Int × Int) × (Int × Int))))) : ((List Int) ⊕ FL.Exc) := t_code_of_3 v_floor []
def c_code_of_2 (v_floor : ((Int × Int) × (Int × Int) × (List ((Int × Int) × (Int × Int) × (Int × Int) × (Int × Int))))) : Prop := c_code_of_3 v_floor []
theorem w_code_of_2 {st : Sto} {e1 e2 e3 e4 e5 e6 : Option D} (v_floor : ((Int × Int) × (Int × Int) × (List ((Int × Int) × (Int × Int) × (Int × Int) × (Int × Int))))) (h : c_code_of_2 v_floor) : RxP st (b_code_of_2 [some ((cP3 (cP2 cI cI) (cP2 cI cI) (cT (cP4 (cP2 cI cI) (cP2 cI cI) (cP2 cI cI) (cP2 cI cI)))) v_floor), e1, e2, e3, e4, e5, e6] (st ++ [])) ((xE (cT cI)) (t_code_of_2 v_floor)) :=
  rx_nx (do_set (ev_new (i := 0) (ev_lst (ev_nil) rfl) rfl)) (w_code_of_3 (st := st) (e1 := e1) (e3 := e3) (e4 := e4) (e5 := e5) (e6 := e6)  v_floor [] h)
def t_code_of_1 (v_floor : ((Int × Int) × (Int × Int) × (List ((Int × Int) × (Int × Int) × (Int × Int) × (Int × Int))))) (v_seen : D) : ((List Int) ⊕ FL.Exc) := if (!eqR v_seen ((cP1 cS) (("covers" : Str)))) = true then t_code_of_1a v_seen else t_code_of_2 v_floor
def c_code_of_1 (v_floor : ((Int × Int) × (Int × Int) × (List ((Int × Int) × (Int × Int) × (Int × Int) × (Int × Int))))) (v_seen : D) : Prop := EqOkR v_seen ((cP1 cS) (("covers" : Str))) ∧ ((!eqR v_seen ((cP1 cS) (("covers" : Str)))) = true → c_code_of_1a v_seen) ∧ ((!eqR v_seen ((cP1 cS) (("covers" : Str)))) = false → c_code_of_2 v_floor)
theorem w_code_of_1 {st : Sto} {e2 e3 e4 e5 e6 : Option D} (v_floor : ((Int × Int) × (Int × Int) × (List ((Int × Int) × (Int × Int) × (Int × Int) × (Int × Int))))) (v_seen : D) (h : c_code_of_1 v_floor v_seen) : RxP st (b_code_of_1 [some ((cP3 (cP2 cI cI) (cP2 cI cI) (cT (cP4 (cP2 cI cI) (cP2 cI cI) (cP2 cI cI) (cP2 cI cI)))) v_floor), some (cD v_seen), e2, e3, e4, e5, e6] (st ++ [])) ((xE (cT cI)) (t_code_of_1 v_floor v_seen)) :=
  iy_RX (e := (xE (cT cI))) (tt_B (ev_op (a := cD v_seen) (b := cD ((cP1 cS) (("covers" : Str)))) (ev_v rfl) (ev_tup (ev_cons (a := cS ("covers" : Str)) (rfl) (ev_nil)) rfl) (ne_R h.1))) (fun hc => w_code_of_1a (st := st) (e0 := some ((cP3 (cP2 cI cI) (cP2 cI cI) (cT (cP4 (cP2 cI cI) (cP2 cI cI) (cP2 cI cI) (cP2 cI cI)))) v_floor)) (e2 := e2) (e3 := e3) (e4 := e4) (e5 := e5) (e6 := e6)  v_seen (h.2.1 hc)) (fun hc => w_code_of_2 (st := st) (e1 := some (cD v_seen)) (e2 := e2) (e3 := e3) (e4 := e4) (e5 := e5) (e6 := e6)  v_floor (h.2.2 hc))
def t_code_of (v_floor : ((Int × Int) × (Int × Int) × (List ((Int × Int) × (Int × Int) × (Int × Int) × (Int × Int))))) : ((List Int) ⊕ FL.Exc) := t_code_of_1 v_floor (T_looked v_floor)
def c_code_of (v_floor : ((Int × Int) × (Int × Int) × (List ((Int × Int) × (Int × Int) × (Int × Int) × (Int × Int))))) : Prop := C_looked v_floor ∧ c_code_of_1 v_floor (T_looked v_floor)
theorem w_code_of {st : Sto} {e1 e2 e3 e4 e5 e6 : Option D} (v_floor : ((Int × Int) × (Int × Int) × (List ((Int × Int) × (Int × Int) × (Int × Int) × (Int × Int))))) (h : c_code_of v_floor) : RxP st (b_code_of [some ((cP3 (cP2 cI cI) (cP2 cI cI) (cT (cP4 (cP2 cI cI) (cP2 cI cI) (cP2 cI cI) (cP2 cI cI)))) v_floor), e1, e2, e3, e4, e5, e6] (st ++ [])) ((xE (cT cI)) (t_code_of v_floor)) :=
  rx_nx (do_set (ev_call (ev_cons (a := (cP3 (cP2 cI cI) (cP2 cI cI) (cT (cP4 (cP2 cI cI) (cP2 cI cI) (cP2 cI cI) (cP2 cI cI)))) v_floor) (ev_v rfl) (ev_nil)) rfl (f_looked v_floor h.1))) (w_code_of_1 (st := st) (e2 := e2) (e3 := e3) (e4 := e4) (e5 := e5) (e6 := e6)  v_floor (T_looked v_floor) h.2)
def T_code_of (v_floor : ((Int × Int) × (Int × Int) × (List ((Int × Int) × (Int × Int) × (Int × Int) × (Int × Int))))) : ((List Int) ⊕ FL.Exc) := t_code_of v_floor
def C_code_of (v_floor : ((Int × Int) × (Int × Int) × (List ((Int × Int) × (Int × Int) × (Int × Int) × (Int × Int))))) : Prop := c_code_of v_floor
theorem f_code_of {st : Sto} (v_floor : ((Int × Int) × (Int × Int) × (List ((Int × Int) × (Int × Int) × (Int × Int) × (Int × Int))))) (h : C_code_of v_floor) : m_code_of [(cP3 (cP2 cI cI) (cP2 cI cI) (cT (cP4 (cP2 cI cI) (cP2 cI cI) (cP2 cI cI) (cP2 cI cI)))) v_floor] st = resX (cT cI) (T_code_of v_floor) st :=
  RxP.enter (b := b_code_of) (env := [some ((cP3 (cP2 cI cI) (cP2 cI cI) (cT (cP4 (cP2 cI cI) (cP2 cI cI) (cP2 cI cI) (cP2 cI cI)))) v_floor), none, none, none, none, none, none]) (w_code_of (st := st) (e1 := none) (e2 := none) (e3 := none) (e4 := none) (e5 := none) (e6 := none)  v_floor h)
def T_code_ofV2 (x0 : ((Int × Int) × (Int × Int) × (List ((Int × Int) × (Int × Int) × (Int × Int) × (Int × Int))))) : (List Int) := Sum.elim id (fun _ => default) (T_code_of x0)
def C_code_ofV2 (x0 : ((Int × Int) × (Int × Int) × (List ((Int × Int) × (Int × Int) × (Int × Int) × (Int × Int))))) : Prop := C_code_of x0 ∧ ∃ v, T_code_of x0 = .inl v
theorem f_code_ofV2 {st : Sto} (x0 : ((Int × Int) × (Int × Int) × (List ((Int × Int) × (Int × Int) × (Int × Int) × (Int × Int))))) (h : C_code_ofV2 x0) : m_code_of [(cP3 (cP2 cI cI) (cP2 cI cI) (cT (cP4 (cP2 cI cI) (cP2 cI cI) (cP2 cI cI) (cP2 cI cI)))) x0] st = .ok ((cT cI) (T_code_ofV2 x0)) st := by
  obtain ⟨h1, v, hv⟩ := h
  rw [f_code_of x0 h1]
  unfold T_code_ofV2
  rw [hv]
  rfl
def t_highest_1a_0a_1 (v_found : Int) : Int := (v_found)
theorem w_highest_1a_0a_1 {st : Sto} {e0 e2 e3 : Option D} (v_found : Int) : NxP (sNext [e0, some (cI v_found), e2, e3] (st ++ [])) ((fun (s : Int) (env' : FL.Env) (S' : Sto) => env' = [e0, some (cI s), e2, e3] ∧ S' = st ++ []) (t_highest_1a_0a_1 v_found)) :=
  nx_end ⟨rfl, rfl⟩
def t_highest_1a_0a (v_number : Int) : Int := t_highest_1a_0a_1 v_number
theorem w_highest_1a_0a {st : Sto} {e0 e1 e3 : Option D} (v_number : Int) : NxP (b_highest_1a_0a [e0, e1, some (cI v_number), e3] (st ++ [])) ((fun (s : Int) (env' : FL.Env) (S' : Sto) => env' = [e0, some (cI s), some (cI v_number), e3] ∧ S' = st ++ []) (t_highest_1a_0a v_number)) :=
  nx_nx (do_set (ev_v rfl)) (w_highest_1a_0a_1 (st := st) (e0 := e0) (e2 := some (cI v_number)) (e3 := e3)  v_number)
def t_highest_1a_0b (v_found : Int) : Int := (v_found)
theorem w_highest_1a_0b {st : Sto} {e0 e2 e3 : Option D} (v_found : Int) : NxP (sNext [e0, some (cI v_found), e2, e3] (st ++ [])) ((fun (s : Int) (env' : FL.Env) (S' : Sto) => env' = [e0, some (cI s), e2, e3] ∧ S' = st ++ []) (t_highest_1a_0b v_found)) :=
  nx_end ⟨rfl, rfl⟩
def t_highest_1a_1 (v_found : Int) : Int := (v_found)
theorem w_highest_1a_1 {st : Sto} {e0 e2 e3 : Option D} (v_found : Int) : NxP (sNext [e0, some (cI v_found), e2, e3] (st ++ [])) ((fun (s : Int) (env' : FL.Env) (S' : Sto) => env' = [e0, some (cI s), e2, e3] ∧ S' = st ++ []) (t_highest_1a_1 v_found)) :=
  nx_end ⟨rfl, rfl⟩
def t_highest_1aq (v_border : (List (Int × Int × Int))) (v_found : Int) (v_number : Int) (v_piece : (Int × Int × Int)) (q : Int) : Int := t_highest_1a_1 q
def t_highest_1a (v_border : (List (Int × Int × Int))) (v_found : Int) (v_number : Int) (v_piece : (Int × Int × Int)) : Int := t_highest_1aq v_border v_found v_number v_piece (if decide ((getI v_border v_found).2.2 < v_piece.2.2) = true then t_highest_1a_0a v_number else t_highest_1a_0b v_found)
def c_highest_1a (v_border : (List (Int × Int × Int))) (v_found : Int) (v_number : Int) (v_piece : (Int × Int × Int)) : Prop := IxOk v_border.length v_found
theorem w_highest_1a {st : Sto} (v_border : (List (Int × Int × Int))) (v_found : Int) (v_number : Int) (v_piece : (Int × Int × Int)) (h : c_highest_1a v_border v_found v_number v_piece) : NxP (b_highest_1a [some ((cL (cP3 cI cI cI)) v_border), some (cI v_found), some (cI v_number), some ((cP3 cI cI cI) v_piece)] (st ++ [])) ((fun (s : Int) (env' : FL.Env) (S' : Sto) => env' = [some ((cL (cP3 cI cI cI)) v_border), some (cI s), some (cI v_number), some ((cP3 cI cI cI) v_piece)] ∧ S' = st ++ []) (t_highest_1a v_border v_found v_number v_piece)) :=
  nx_N (if_N (P := fun (s : Int) (env' : FL.Env) (S' : Sto) => env' = [some ((cL (cP3 cI cI cI)) v_border), some (cI s), some (cI v_number), some ((cP3 cI cI cI) v_piece)] ∧ S' = st ++ []) (tt_B (ev_op (a := cI v_piece.2.2) (b := cI ((getI v_border v_found).2.2)) (ev_op (ev_v rfl) (rfl) rfl) (ev_op (ev_op (ev_v rfl) (ev_v rfl) (ix_c (c := (cP3 cI cI cI)) (sq_L (c := (cP3 cI cI cI)) (xs := v_border)) h)) (rfl) rfl) rfl)) (fun hc => w_highest_1a_0a (st := st) (e0 := some ((cL (cP3 cI cI cI)) v_border)) (e1 := some (cI v_found)) (e3 := some ((cP3 cI cI cI) v_piece))  v_number) (fun hc => w_highest_1a_0b (st := st) (e0 := some ((cL (cP3 cI cI cI)) v_border)) (e2 := some (cI v_number)) (e3 := some ((cP3 cI cI cI) v_piece))  v_found)) (fun | _, _, ⟨rfl, rfl⟩ => w_highest_1a_1 (st := st) (e0 := some ((cL (cP3 cI cI cI)) v_border)) (e2 := some (cI v_number)) (e3 := some ((cP3 cI cI cI) v_piece))  (if decide ((getI v_border v_found).2.2 < v_piece.2.2) = true then t_highest_1a_0a v_number else t_highest_1a_0b v_found))
def t_highest_2 (v_found : Int) : Int := v_found
theorem w_highest_2 {st : Sto} {e0 e2 e3 : Option D} (v_found : Int) : RtP st (b_highest_2 [e0, some (cI v_found), e2, e3] (st ++ [])) (cI (t_highest_2 v_found)) :=
  rt_ret (d := cI v_found) (ev_v rfl) (fz_c fl_I)
def t_highest_1q (v_border : (List (Int × Int × Int))) (v_found : Int) (q : Int) : Int := t_highest_2 q
def t_highest_1 (v_border : (List (Int × Int × Int))) (v_found : Int) : Int := t_highest_1q v_border v_found ((enumI v_border).foldl (fun (s : Int) (x : (Int × (Int × Int × Int))) => t_highest_1a v_border s x.1 x.2) (v_found))
def c_highest_1 (v_border : (List (Int × Int × Int))) (v_found : Int) : Prop := (cFold (fun (s : Int) (x : (Int × (Int × Int × Int))) => c_highest_1a v_border s x.1 x.2) (fun (s : Int) (x : (Int × (Int × Int × Int))) => t_highest_1a v_border s x.1 x.2) (enumI v_border) (v_found))
theorem w_highest_1 {st : Sto} {e2 e3 : Option D} (v_border : (List (Int × Int × Int))) (v_found : Int) (h : c_highest_1 v_border v_found) : RtP st (b_highest_1 [some ((cL (cP3 cI cI cI)) v_border), some (cI v_found), e2, e3] (st ++ [])) (cI (t_highest_1 v_border v_found)) :=
  rt_nx (do_for (E := (fun (s : Int) => [some ((cL (cP3 cI cI cI)) v_border), some (cI s), none, none])) (O := (fun (s : Int) => [])) (cx := (cP2 cI (cP3 cI cI cI))) (c := (fun (s : Int) (x : (Int × (Int × Int × Int))) => c_highest_1a v_border s x.1 x.2)) (t := (fun (s : Int) (x : (Int × (Int × Int × Int))) => t_highest_1a v_border s x.1 x.2)) (s := (v_found)) (it_enum (c := (cP3 cI cI cI)) (ev_cons (ev_v rfl) ev_nil) (sq_L (c := (cP3 cI cI cI)) (xs := v_border))) rfl (fun _ => rfl) (fun _ _ => rfl) (fun s x hc => ⟨[some ((cL (cP3 cI cI cI)) v_border), some (cI s), some (cI x.1), some ((cP3 cI cI cI) x.2)], rfl, NxP.mono (w_highest_1a (st := st)   v_border s x.1 x.2 hc) (fun | _, _, ⟨rfl, rfl⟩ => ⟨rfl, rfl⟩)⟩) h) (w_highest_2 (st := st) (e0 := some ((cL (cP3 cI cI cI)) v_border)) (e2 := none) (e3 := none)  ((enumI v_border).foldl (fun (s : Int) (x : (Int × (Int × Int × Int))) => t_highest_1a v_border s x.1 x.2) (v_found)))
def t_highest (v_border : (List (Int × Int × Int))) : Int := t_highest_1 v_border (0 : Int)
def c_highest (v_border : (List (Int × Int × Int))) : Prop := c_highest_1 v_border (0 : Int)
theorem w_highest {st : Sto} {e1 e2 e3 : Option D} (v_border : (List (Int × Int × Int))) (h : c_highest v_border) : RtP st (b_highest [some ((cL (cP3 cI cI cI)) v_border), e1, e2, e3] (st ++ [])) (cI (t_highest v_border)) :=
  rt_nx (do_set (rfl)) (w_highest_1 (st := st) (e2 := e2) (e3 := e3)  v_border (0 : Int) h)
def T_highest (v_border : (List (Int × Int × Int))) : Int := t_highest v_border
def C_highest (v_border : (List (Int × Int × Int))) : Prop := c_highest v_border
theorem f_highest {st : Sto} (v_border : (List (Int × Int × Int))) (h : C_highest v_border) : m_highest [(cL (cP3 cI cI cI)) v_border] st = .ok (cI (T_highest v_border)) st :=
  RtP.enter (b := b_highest) (env := [some ((cL (cP3 cI cI cI)) v_border), none, none, none]) (w_highest (st := st) (e1 := none) (e2 := none) (e3 := none)  v_border h)
def t_joined_1a_0a_1 (v_border : (List (Int × Int × Int))) : (List (Int × Int × Int)) := (v_border)
theorem w_joined_1a_0a_1 {st : Sto} {e0 e2 : Option D} (v_border : (List (Int × Int × Int))) : NxP (sNext [e0, some (D.loc (st.length + 0)), e2] (st ++ [SO.lst (v_border.map (cP3 cI cI cI))])) ((fun (s : (List (Int × Int × Int))) (env' : FL.Env) (S' : Sto) => env' = [e0, some (D.loc (st.length + 0)), e2] ∧ S' = st ++ [SO.lst (s.map (cP3 cI cI cI))]) (t_joined_1a_0a_1 v_border)) :=
  nx_end ⟨rfl, rfl⟩
def t_joined_1a_0a (v_border : (List (Int × Int × Int))) (v_piece : (Int × Int × Int)) : (List (Int × Int × Int)) := t_joined_1a_0a_1 (setI v_border (-(1 : Int)) ((getI v_border (-(1 : Int))).1, v_piece.2.1, v_piece.2.2))
def c_joined_1a_0a (v_border : (List (Int × Int × Int))) (v_piece : (Int × Int × Int)) : Prop := IxOk v_border.length (-(1 : Int)) ∧ IxOk v_border.length (-(1 : Int))
theorem w_joined_1a_0a {st : Sto} {e0 : Option D} (v_border : (List (Int × Int × Int))) (v_piece : (Int × Int × Int)) (h : c_joined_1a_0a v_border v_piece) : NxP (b_joined_1a_0a [e0, some (D.loc (st.length + 0)), some ((cP3 cI cI cI) v_piece)] (st ++ [SO.lst (v_border.map (cP3 cI cI cI))])) ((fun (s : (List (Int × Int × Int))) (env' : FL.Env) (S' : Sto) => env' = [e0, some (D.loc (st.length + 0)), some ((cP3 cI cI cI) v_piece)] ∧ S' = st ++ [SO.lst (s.map (cP3 cI cI cI))]) (t_joined_1a_0a v_border v_piece)) :=
  nx_nx (put_M (c := (cP3 cI cI cI)) (xs := v_border) (x := ((getI v_border (-(1 : Int))).1, v_piece.2.1, v_piece.2.2)) (i := 0) (ev_tup (ev_cons (a := cI ((getI v_border (-(1 : Int))).1)) (ev_op (ev_op (ev_v rfl) (ev_un (a := cI (1 : Int)) (rfl) rfl) (ix_c (c := (cP3 cI cI cI)) (sq_M (i := 0) rfl) h.1)) (rfl) rfl) (ev_cons (a := cI v_piece.2.1) (ev_op (ev_v rfl) (rfl) rfl) (ev_cons (a := cI v_piece.2.2) (ev_op (ev_v rfl) (rfl) rfl) (ev_nil)))) rfl) (ev_v rfl) (ev_un (a := cI (1 : Int)) (rfl) rfl) rfl h.2) (w_joined_1a_0a_1 (st := st) (e0 := e0) (e2 := some ((cP3 cI cI cI) v_piece))  (setI v_border (-(1 : Int)) ((getI v_border (-(1 : Int))).1, v_piece.2.1, v_piece.2.2)))
def t_joined_1a_0b_1 (v_border : (List (Int × Int × Int))) : (List (Int × Int × Int)) := (v_border)
theorem w_joined_1a_0b_1 {st : Sto} {e0 e2 : Option D} (v_border : (List (Int × Int × Int))) : NxP (sNext [e0, some (D.loc (st.length + 0)), e2] (st ++ [SO.lst (v_border.map (cP3 cI cI cI))])) ((fun (s : (List (Int × Int × Int))) (env' : FL.Env) (S' : Sto) => env' = [e0, some (D.loc (st.length + 0)), e2] ∧ S' = st ++ [SO.lst (s.map (cP3 cI cI cI))]) (t_joined_1a_0b_1 v_border)) :=
  nx_end ⟨rfl, rfl⟩
def t_joined_1a_0b (v_border : (List (Int × Int × Int))) (v_piece : (Int × Int × Int)) : (List (Int × Int × Int)) := t_joined_1a_0b_1 (v_border ++ [v_piece])
def c_joined_1a_0b (v_border : (List (Int × Int × Int))) (v_piece : (Int × Int × Int)) : Prop := v_border.length < 1000000
theorem w_joined_1a_0b {st : Sto} {e0 : Option D} (v_border : (List (Int × Int × Int))) (v_piece : (Int × Int × Int)) (h : c_joined_1a_0b v_border v_piece) : NxP (b_joined_1a_0b [e0, some (D.loc (st.length + 0)), some ((cP3 cI cI cI) v_piece)] (st ++ [SO.lst (v_border.map (cP3 cI cI cI))])) ((fun (s : (List (Int × Int × Int))) (env' : FL.Env) (S' : Sto) => env' = [e0, some (D.loc (st.length + 0)), some ((cP3 cI cI cI) v_piece)] ∧ S' = st ++ [SO.lst (s.map (cP3 cI cI cI))]) (t_joined_1a_0b v_border v_piece)) :=
  nx_nx (do_drop (ev_mt (ev_v rfl) (isLst_M (i := 0) rfl) (ev_cons (ev_v rfl) ev_nil) (ap_M (c := (cP3 cI cI cI)) (xs := v_border) (x := v_piece) (i := 0) rfl h))) (w_joined_1a_0b_1 (st := st) (e0 := e0) (e2 := some ((cP3 cI cI cI) v_piece))  (v_border ++ [v_piece]))
def t_joined_1a_1 (v_border : (List (Int × Int × Int))) : (List (Int × Int × Int)) := (v_border)
theorem w_joined_1a_1 {st : Sto} {e0 e2 : Option D} (v_border : (List (Int × Int × Int))) : NxP (sNext [e0, some (D.loc (st.length + 0)), e2] (st ++ [SO.lst (v_border.map (cP3 cI cI cI))])) ((fun (s : (List (Int × Int × Int))) (env' : FL.Env) (S' : Sto) => env' = [e0, some (D.loc (st.length + 0)), e2] ∧ S' = st ++ [SO.lst (s.map (cP3 cI cI cI))]) (t_joined_1a_1 v_border)) :=
  nx_end ⟨rfl, rfl⟩
def t_joined_1aq (v_border : (List (Int × Int × Int))) (v_piece : (Int × Int × Int)) (q : (List (Int × Int × Int))) : (List (Int × Int × Int)) := t_joined_1a_1 q
def t_joined_1a (v_border : (List (Int × Int × Int))) (v_piece : (Int × Int × Int)) : (List (Int × Int × Int)) := t_joined_1aq v_border v_piece (if ((!decide (v_border = [])) && decide ((getI v_border (-(1 : Int))).2.2 = v_piece.2.2)) = true then t_joined_1a_0a v_border v_piece else t_joined_1a_0b v_border v_piece)
def c_joined_1a (v_border : (List (Int × Int × Int))) (v_piece : (Int × Int × Int)) : Prop := ((!decide (v_border = [])) = true → IxOk v_border.length (-(1 : Int))) ∧ (((!decide (v_border = [])) && decide ((getI v_border (-(1 : Int))).2.2 = v_piece.2.2)) = true → c_joined_1a_0a v_border v_piece) ∧ (((!decide (v_border = [])) && decide ((getI v_border (-(1 : Int))).2.2 = v_piece.2.2)) = false → c_joined_1a_0b v_border v_piece)
theorem w_joined_1a {st : Sto} {e0 : Option D} (v_border : (List (Int × Int × Int))) (v_piece : (Int × Int × Int)) (h : c_joined_1a v_border v_piece) : NxP (b_joined_1a [e0, some (D.loc (st.length + 0)), some ((cP3 cI cI cI) v_piece)] (st ++ [SO.lst (v_border.map (cP3 cI cI cI))])) ((fun (s : (List (Int × Int × Int))) (env' : FL.Env) (S' : Sto) => env' = [e0, some (D.loc (st.length + 0)), some ((cP3 cI cI cI) v_piece)] ∧ S' = st ++ [SO.lst (s.map (cP3 cI cI cI))]) (t_joined_1a v_border v_piece)) :=
  nx_N (if_N (P := fun (s : (List (Int × Int × Int))) (env' : FL.Env) (S' : Sto) => env' = [e0, some (D.loc (st.length + 0)), some ((cP3 cI cI cI) v_piece)] ∧ S' = st ++ [SO.lst (s.map (cP3 cI cI cI))]) (tt_and (tt_B (ev_op (ev_v rfl) (ev_frz (ev_lst (ev_nil) rfl)) (ne_M (c := (cP3 cI cI cI)) (xs := v_border) (ys := []) (eq_P3 eq_I eq_I eq_I) (i := 0) rfl))) (fun hg147 => tt_B (ev_op (a := cI ((getI v_border (-(1 : Int))).2.2)) (b := cI v_piece.2.2) (ev_op (ev_op (ev_v rfl) (ev_un (a := cI (1 : Int)) (rfl) rfl) (ix_c (c := (cP3 cI cI cI)) (sq_M (i := 0) rfl) (h.1 hg147))) (rfl) rfl) (ev_op (ev_v rfl) (rfl) rfl) rfl))) (fun hc => w_joined_1a_0a (st := st) (e0 := e0)  v_border v_piece (h.2.1 hc)) (fun hc => w_joined_1a_0b (st := st) (e0 := e0)  v_border v_piece (h.2.2 hc))) (fun | _, _, ⟨rfl, rfl⟩ => w_joined_1a_1 (st := st) (e0 := e0) (e2 := some ((cP3 cI cI cI) v_piece))  (if ((!decide (v_border = [])) && decide ((getI v_border (-(1 : Int))).2.2 = v_piece.2.2)) = true then t_joined_1a_0a v_border v_piece else t_joined_1a_0b v_border v_piece))
def t_joined_2 (v_border : (List (Int × Int × Int))) : (List (Int × Int × Int)) := v_border
theorem w_joined_2 {st : Sto} {e0 e2 : Option D} (v_border : (List (Int × Int × Int))) : RtP st (b_joined_2 [e0, some (D.loc (st.length + 0)), e2] (st ++ [SO.lst (v_border.map (cP3 cI cI cI))])) ((cL (cP3 cI cI cI)) (t_joined_2 v_border)) :=
  rt_ret (ev_v rfl) (fz_M (fl_P3 fl_I fl_I fl_I) (i := 0) rfl)
def t_joined_1q (v_pieces : (List (Int × Int × Int))) (v_border : (List (Int × Int × Int))) (q : (List (Int × Int × Int))) : (List (Int × Int × Int)) := t_joined_2 q
def t_joined_1 (v_pieces : (List (Int × Int × Int))) (v_border : (List (Int × Int × Int))) : (List (Int × Int × Int)) := t_joined_1q v_pieces v_border (v_pieces.foldl (fun (s : (List (Int × Int × Int))) (x : (Int × Int × Int)) => t_joined_1a s x) (v_border))
def c_joined_1 (v_pieces : (List (Int × Int × Int))) (v_border : (List (Int × Int × Int))) : Prop := (cFold (fun (s : (List (Int × Int × Int))) (x : (Int × Int × Int)) => c_joined_1a s x) (fun (s : (List (Int × Int × Int))) (x : (Int × Int × Int)) => t_joined_1a s x) v_pieces (v_border))
theorem w_joined_1 {st : Sto} {e2 : Option D} (v_pieces : (List (Int × Int × Int))) (v_border : (List (Int × Int × Int))) (h : c_joined_1 v_pieces v_border) : RtP st (b_joined_1 [some ((cL (cP3 cI cI cI)) v_pieces), some (D.loc (st.length + 0)), e2] (st ++ [SO.lst (v_border.map (cP3 cI cI cI))])) ((cL (cP3 cI cI cI)) (t_joined_1 v_pieces v_border)) :=
  rt_nx (do_for (E := (fun (s : (List (Int × Int × Int))) => [some ((cL (cP3 cI cI cI)) v_pieces), some (D.loc (st.length + 0)), none])) (O := (fun (s : (List (Int × Int × Int))) => [SO.lst (s.map (cP3 cI cI cI))])) (cx := (cP3 cI cI cI)) (c := (fun (s : (List (Int × Int × Int))) (x : (Int × Int × Int)) => c_joined_1a s x)) (t := (fun (s : (List (Int × Int × Int))) (x : (Int × Int × Int)) => t_joined_1a s x)) (s := (v_border)) (it_seq (c := (cP3 cI cI cI)) (ev_v rfl) (sq_L (c := (cP3 cI cI cI)) (xs := v_pieces))) rfl (fun _ => rfl) (fun _ _ => rfl) (fun s x hc => ⟨[some ((cL (cP3 cI cI cI)) v_pieces), some (D.loc (st.length + 0)), some ((cP3 cI cI cI) x)], rfl, NxP.mono (w_joined_1a (st := st) (e0 := some ((cL (cP3 cI cI cI)) v_pieces))  s x hc) (fun | _, _, ⟨rfl, rfl⟩ => ⟨rfl, rfl⟩)⟩) h) (w_joined_2 (st := st) (e0 := some ((cL (cP3 cI cI cI)) v_pieces)) (e2 := none)  (v_pieces.foldl (fun (s : (List (Int × Int × Int))) (x : (Int × Int × Int)) => t_joined_1a s x) (v_border)))
def t_joined (v_pieces : (List (Int × Int × Int))) : (List (Int × Int × Int)) := t_joined_1 v_pieces []
def c_joined (v_pieces : (List (Int × Int × Int))) : Prop := c_joined_1 v_pieces []
theorem w_joined {st : Sto} {e1 e2 : Option D} (v_pieces : (List (Int × Int × Int))) (h : c_joined v_pieces) : RtP st (b_joined [some ((cL (cP3 cI cI cI)) v_pieces), e1, e2] (st ++ [])) ((cL (cP3 cI cI cI)) (t_joined v_pieces)) :=
  rt_nx (do_set (ev_new (i := 0) (ev_lst (ev_nil) rfl) rfl)) (w_joined_1 (st := st) (e2 := e2)  v_pieces [] h)
def T_joined (v_pieces : (List (Int × Int × Int))) : (List (Int × Int × Int)) := t_joined v_pieces
def C_joined (v_pieces : (List (Int × Int × Int))) : Prop := c_joined v_pieces
theorem f_joined {st : Sto} (v_pieces : (List (Int × Int × Int))) (h : C_joined v_pieces) : m_joined [(cL (cP3 cI cI cI)) v_pieces] st = .ok ((cL (cP3 cI cI cI)) (T_joined v_pieces)) st :=
  RtP.enter (b := b_joined) (env := [some ((cL (cP3 cI cI cI)) v_pieces), none, none]) (w_joined (st := st) (e1 := none) (e2 := none)  v_pieces h)
def t_hung_2a  : (Option (List (Int × Int × Int))) := none
theorem w_hung_2a {st : Sto} {e0 e1 e2 e3 e4 e5 e6 : Option D}  : RtP st (b_hung_2a [e0, e1, e2, e3, e4, e5, e6] (st ++ [])) ((cO (cL (cP3 cI cI cI))) (t_hung_2a)) :=
  rt_ret (d := (cO (cL (cP3 cI cI cI))) none) (rfl) (fz_c (fl_O (fl_L (fl_P3 fl_I fl_I fl_I))))
def t_hung_4a_1 (v_pieces : (List (Int × Int × Int))) : (List (Int × Int × Int)) := (v_pieces)
theorem w_hung_4a_1 {st : Sto} {e0 e1 e2 e3 e4 e5 : Option D} (v_pieces : (List (Int × Int × Int))) : NxP (sNext [e0, e1, e2, e3, e4, e5, some (D.loc (st.length + 0))] (st ++ [SO.lst (v_pieces.map (cP3 cI cI cI))])) ((fun (s : (List (Int × Int × Int))) (env' : FL.Env) (S' : Sto) => env' = [e0, e1, e2, e3, e4, e5, some (D.loc (st.length + 0))] ∧ S' = st ++ [SO.lst (s.map (cP3 cI cI cI))]) (t_hung_4a_1 v_pieces)) :=
  nx_end ⟨rfl, rfl⟩
def t_hung_4a (v_size : Int) (v_left : Int) (v_right : Int) (v_level : Int) (v_pieces : (List (Int × Int × Int))) : (List (Int × Int × Int)) := t_hung_4a_1 (v_pieces ++ [((v_left + v_size), v_right, v_level)])
def c_hung_4a (v_size : Int) (v_left : Int) (v_right : Int) (v_level : Int) (v_pieces : (List (Int × Int × Int))) : Prop := v_pieces.length < 1000000
theorem w_hung_4a {st : Sto} {e0 e2 : Option D} (v_size : Int) (v_left : Int) (v_right : Int) (v_level : Int) (v_pieces : (List (Int × Int × Int))) (h : c_hung_4a v_size v_left v_right v_level v_pieces) : NxP (b_hung_4a [e0, some (cI v_size), e2, some (cI v_left), some (cI v_right), some (cI v_level), some (D.loc (st.length + 0))] (st ++ [SO.lst (v_pieces.map (cP3 cI cI cI))])) ((fun (s : (List (Int × Int × Int))) (env' : FL.Env) (S' : Sto) => env' = [e0, some (cI v_size), e2, some (cI v_left), some (cI v_right), some (cI v_level), some (D.loc (st.length + 0))] ∧ S' = st ++ [SO.lst (s.map (cP3 cI cI cI))]) (t_hung_4a v_size v_left v_right v_level v_pieces)) :=
  nx_nx (do_drop (ev_mt (ev_v rfl) (isLst_M (i := 0) rfl) (ev_cons (ev_tup (ev_cons (a := cI (v_left + v_size)) (ev_op (a := cI v_left) (b := cI v_size) (ev_v rfl) (ev_v rfl) rfl) (ev_cons (a := cI v_right) (ev_v rfl) (ev_cons (a := cI v_level) (ev_v rfl) (ev_nil)))) rfl) ev_nil) (ap_M (c := (cP3 cI cI cI)) (xs := v_pieces) (x := ((v_left + v_size), v_right, v_level)) (i := 0) rfl h))) (w_hung_4a_1 (st := st) (e0 := e0) (e1 := some (cI v_size)) (e2 := e2) (e3 := some (cI v_left)) (e4 := some (cI v_right)) (e5 := some (cI v_level))  (v_pieces ++ [((v_left + v_size), v_right, v_level)]))
def t_hung_4b (v_pieces : (List (Int × Int × Int))) : (List (Int × Int × Int)) := (v_pieces)
theorem w_hung_4b {st : Sto} {e0 e1 e2 e3 e4 e5 : Option D} (v_pieces : (List (Int × Int × Int))) : NxP (sNext [e0, e1, e2, e3, e4, e5, some (D.loc (st.length + 0))] (st ++ [SO.lst (v_pieces.map (cP3 cI cI cI))])) ((fun (s : (List (Int × Int × Int))) (env' : FL.Env) (S' : Sto) => env' = [e0, e1, e2, e3, e4, e5, some (D.loc (st.length + 0))] ∧ S' = st ++ [SO.lst (s.map (cP3 cI cI cI))]) (t_hung_4b v_pieces)) :=
  nx_end ⟨rfl, rfl⟩
def t_hung_5 (v_border : (List (Int × Int × Int))) (v_number : Int) (v_pieces : (List (Int × Int × Int))) : (Option (List (Int × Int × Int))) := some (T_joined (v_pieces ++ (cutL v_border (some (v_number + (1 : Int))) none)))
def c_hung_5 (v_border : (List (Int × Int × Int))) (v_number : Int) (v_pieces : (List (Int × Int × Int))) : Prop := v_pieces.length + (cutL v_border (some (v_number + (1 : Int))) none).length ≤ 1000000 ∧ C_joined (v_pieces ++ (cutL v_border (some (v_number + (1 : Int))) none))
theorem w_hung_5 {st : Sto} {e1 e3 e4 e5 : Option D} (v_border : (List (Int × Int × Int))) (v_number : Int) (v_pieces : (List (Int × Int × Int))) (h : c_hung_5 v_border v_number v_pieces) : RtP st (b_hung_5 [some ((cL (cP3 cI cI cI)) v_border), e1, some (cI v_number), e3, e4, e5, some (D.loc (st.length + 0))] (st ++ [SO.lst (v_pieces.map (cP3 cI cI cI))])) ((cO (cL (cP3 cI cI cI))) (t_hung_5 v_border v_number v_pieces)) :=
  rt_ret (d := (cO (cL (cP3 cI cI cI))) (some (T_joined (v_pieces ++ (cutL v_border (some (v_number + (1 : Int))) none))))) (ev_call (ev_cons (a := (cL (cP3 cI cI cI)) (v_pieces ++ (cutL v_border (some (v_number + (1 : Int))) none))) (ev_op (ev_v rfl) (ev_sl (ev_v rfl) (ev_oSome (ev_op (a := cI v_number) (b := cI (1 : Int)) (ev_v rfl) (rfl) rfl)) (rfl) (sl_l (ls_L (c := (cP3 cI cI cI)) (xs := v_border)))) (add_l (c := (cP3 cI cI cI)) (md_M (i := 0) rfl) (md_L (c := (cP3 cI cI cI)) (xs := (cutL v_border (some (v_number + (1 : Int))) none))) h.1)) (ev_nil)) rfl (f_joined (v_pieces ++ (cutL v_border (some (v_number + (1 : Int))) none)) h.2)) (fz_c (fl_O (fl_L (fl_P3 fl_I fl_I fl_I))))
def t_hung_4q (v_border : (List (Int × Int × Int))) (v_size : Int) (v_number : Int) (v_left : Int) (v_right : Int) (v_level : Int) (v_pieces : (List (Int × Int × Int))) (q : (List (Int × Int × Int))) : (Option (List (Int × Int × Int))) := t_hung_5 v_border v_number q
def c_hung_4q (v_border : (List (Int × Int × Int))) (v_size : Int) (v_number : Int) (v_left : Int) (v_right : Int) (v_level : Int) (v_pieces : (List (Int × Int × Int))) (q : (List (Int × Int × Int))) : Prop := c_hung_5 v_border v_number q
def t_hung_4 (v_border : (List (Int × Int × Int))) (v_size : Int) (v_number : Int) (v_left : Int) (v_right : Int) (v_level : Int) (v_pieces : (List (Int × Int × Int))) : (Option (List (Int × Int × Int))) := t_hung_4q v_border v_size v_number v_left v_right v_level v_pieces (if decide ((v_left + v_size) < v_right) = true then t_hung_4a v_size v_left v_right v_level v_pieces else t_hung_4b v_pieces)
def c_hung_4 (v_border : (List (Int × Int × Int))) (v_size : Int) (v_number : Int) (v_left : Int) (v_right : Int) (v_level : Int) (v_pieces : (List (Int × Int × Int))) : Prop := (decide ((v_left + v_size) < v_right) = true → c_hung_4a v_size v_left v_right v_level v_pieces) ∧ c_hung_4q v_border v_size v_number v_left v_right v_level v_pieces (if decide ((v_left + v_size) < v_right) = true then t_hung_4a v_size v_left v_right v_level v_pieces else t_hung_4b v_pieces)
theorem w_hung_4 {st : Sto} (v_border : (List (Int × Int × Int))) (v_size : Int) (v_number : Int) (v_left : Int) (v_right : Int) (v_level : Int) (v_pieces : (List (Int × Int × Int))) (h : c_hung_4 v_border v_size v_number v_left v_right v_level v_pieces) : RtP st (b_hung_4 [some ((cL (cP3 cI cI cI)) v_border), some (cI v_size), some (cI v_number), some (cI v_left), some (cI v_right), some (cI v_level), some (D.loc (st.length + 0))] (st ++ [SO.lst (v_pieces.map (cP3 cI cI cI))])) ((cO (cL (cP3 cI cI cI))) (t_hung_4 v_border v_size v_number v_left v_right v_level v_pieces)) :=
  rt_N (if_N (P := fun (s : (List (Int × Int × Int))) (env' : FL.Env) (S' : Sto) => env' = [some ((cL (cP3 cI cI cI)) v_border), some (cI v_size), some (cI v_number), some (cI v_left), some (cI v_right), some (cI v_level), some (D.loc (st.length + 0))] ∧ S' = st ++ [SO.lst (s.map (cP3 cI cI cI))]) (tt_B (ev_op (a := cI (v_left + v_size)) (b := cI v_right) (ev_op (a := cI v_left) (b := cI v_size) (ev_v rfl) (ev_v rfl) rfl) (ev_v rfl) rfl)) (fun hc => w_hung_4a (st := st) (e0 := some ((cL (cP3 cI cI cI)) v_border)) (e2 := some (cI v_number))  v_size v_left v_right v_level v_pieces (h.1 hc)) (fun hc => w_hung_4b (st := st) (e0 := some ((cL (cP3 cI cI cI)) v_border)) (e1 := some (cI v_size)) (e2 := some (cI v_number)) (e3 := some (cI v_left)) (e4 := some (cI v_right)) (e5 := some (cI v_level))  v_pieces)) (fun | _, _, ⟨rfl, rfl⟩ => w_hung_5 (st := st) (e1 := some (cI v_size)) (e3 := some (cI v_left)) (e4 := some (cI v_right)) (e5 := some (cI v_level))  v_border v_number (if decide ((v_left + v_size) < v_right) = true then t_hung_4a v_size v_left v_right v_level v_pieces else t_hung_4b v_pieces) h.2)
def t_hung_3 (v_border : (List (Int × Int × Int))) (v_size : Int) (v_number : Int) (v_left : Int) (v_right : Int) (v_level : Int) : (Option (List (Int × Int × Int))) := t_hung_4 v_border v_size v_number v_left v_right v_level ((cutL v_border none (some v_number)) ++ [(v_left, (v_left + v_size), (v_level - v_size))])
def c_hung_3 (v_border : (List (Int × Int × Int))) (v_size : Int) (v_number : Int) (v_left : Int) (v_right : Int) (v_level : Int) : Prop := (cutL v_border none (some v_number)).length + [(v_left, (v_left + v_size), (v_level - v_size))].length ≤ 1000000 ∧ c_hung_4 v_border v_size v_number v_left v_right v_level ((cutL v_border none (some v_number)) ++ [(v_left, (v_left + v_size), (v_level - v_size))])
theorem w_hung_3 {st : Sto} {e6 : Option D} (v_border : (List (Int × Int × Int))) (v_size : Int) (v_number : Int) (v_left : Int) (v_right : Int) (v_level : Int) (h : c_hung_3 v_border v_size v_number v_left v_right v_level) : RtP st (b_hung_3 [some ((cL (cP3 cI cI cI)) v_border), some (cI v_size), some (cI v_number), some (cI v_left), some (cI v_right), some (cI v_level), e6] (st ++ [])) ((cO (cL (cP3 cI cI cI))) (t_hung_3 v_border v_size v_number v_left v_right v_level)) :=
  rt_nx (do_set (ev_new (i := 0) (ev_nCat (ev_sl (ev_v rfl) (rfl) (ev_oSome (ev_v rfl)) (sl_l (ls_L (c := (cP3 cI cI cI)) (xs := v_border)))) (ev_frz (ev_lst (ev_cons (a := (cP3 cI cI cI) (v_left, (v_left + v_size), (v_level - v_size))) (ev_tup (ev_cons (a := cI v_left) (ev_v rfl) (ev_cons (a := cI (v_left + v_size)) (ev_op (a := cI v_left) (b := cI v_size) (ev_v rfl) (ev_v rfl) rfl) (ev_cons (a := cI (v_level - v_size)) (ev_op (a := cI v_level) (b := cI v_size) (ev_v rfl) (ev_v rfl) rfl) (ev_nil)))) rfl) (ev_nil)) rfl)) (md_L (c := (cP3 cI cI cI)) (xs := (cutL v_border none (some v_number)))) (md_L (c := (cP3 cI cI cI)) (xs := [(v_left, (v_left + v_size), (v_level - v_size))])) h.1) rfl)) (w_hung_4 (st := st)   v_border v_size v_number v_left v_right v_level ((cutL v_border none (some v_number)) ++ [(v_left, (v_left + v_size), (v_level - v_size))]) h.2)
def t_hung_2 (v_border : (List (Int × Int × Int))) (v_size : Int) (v_number : Int) (v_left : Int) (v_right : Int) (v_level : Int) : (Option (List (Int × Int × Int))) := if (decide (v_size < (1 : Int)) || (decide ((v_right - v_left) < v_size) || decide (v_level < v_size))) = true then t_hung_2a else t_hung_3 v_border v_size v_number v_left v_right v_level
def c_hung_2 (v_border : (List (Int × Int × Int))) (v_size : Int) (v_number : Int) (v_left : Int) (v_right : Int) (v_level : Int) : Prop := ((decide (v_size < (1 : Int)) || (decide ((v_right - v_left) < v_size) || decide (v_level < v_size))) = false → c_hung_3 v_border v_size v_number v_left v_right v_level)
theorem w_hung_2 {st : Sto} {e6 : Option D} (v_border : (List (Int × Int × Int))) (v_size : Int) (v_number : Int) (v_left : Int) (v_right : Int) (v_level : Int) (h : c_hung_2 v_border v_size v_number v_left v_right v_level) : RtP st (b_hung_2 [some ((cL (cP3 cI cI cI)) v_border), some (cI v_size), some (cI v_number), some (cI v_left), some (cI v_right), some (cI v_level), e6] (st ++ [])) ((cO (cL (cP3 cI cI cI))) (t_hung_2 v_border v_size v_number v_left v_right v_level)) :=
  if_RX (e := (cO (cL (cP3 cI cI cI)))) (tt_or (tt_B (ev_op (a := cI v_size) (b := cI (1 : Int)) (ev_v rfl) (rfl) rfl)) (fun hg152 => tt_or (tt_B (ev_op (a := cI v_size) (b := cI (v_right - v_left)) (ev_v rfl) (ev_op (a := cI v_right) (b := cI v_left) (ev_v rfl) (ev_v rfl) rfl) rfl)) (fun hg153 => tt_B (ev_op (a := cI v_size) (b := cI v_level) (ev_v rfl) (ev_v rfl) rfl)))) (fun hc => w_hung_2a (st := st) (e0 := some ((cL (cP3 cI cI cI)) v_border)) (e1 := some (cI v_size)) (e2 := some (cI v_number)) (e3 := some (cI v_left)) (e4 := some (cI v_right)) (e5 := some (cI v_level)) (e6 := e6)  ) (fun hc => w_hung_3 (st := st) (e6 := e6)  v_border v_size v_number v_left v_right v_level (h hc))
def t_hung_1q (v_border : (List (Int × Int × Int))) (v_size : Int) (v_number : Int) (q : (Int × Int × Int)) : (Option (List (Int × Int × Int))) := t_hung_2 v_border v_size v_number q.1 q.2.1 q.2.2
def c_hung_1q (v_border : (List (Int × Int × Int))) (v_size : Int) (v_number : Int) (q : (Int × Int × Int)) : Prop := c_hung_2 v_border v_size v_number q.1 q.2.1 q.2.2
def t_hung_1 (v_border : (List (Int × Int × Int))) (v_size : Int) (v_number : Int) : (Option (List (Int × Int × Int))) := t_hung_1q v_border v_size v_number (getI v_border v_number)
def c_hung_1 (v_border : (List (Int × Int × Int))) (v_size : Int) (v_number : Int) : Prop := IxOk v_border.length v_number ∧ c_hung_1q v_border v_size v_number (getI v_border v_number)
theorem w_hung_1 {st : Sto} {e3 e4 e5 e6 : Option D} (v_border : (List (Int × Int × Int))) (v_size : Int) (v_number : Int) (h : c_hung_1 v_border v_size v_number) : RtP st (b_hung_1 [some ((cL (cP3 cI cI cI)) v_border), some (cI v_size), some (cI v_number), e3, e4, e5, e6] (st ++ [])) ((cO (cL (cP3 cI cI cI))) (t_hung_1 v_border v_size v_number)) :=
  rt_nx (do_asg (env' := [some ((cL (cP3 cI cI cI)) v_border), some (cI v_size), some (cI v_number), some (cI (getI v_border v_number).1), some (cI (getI v_border v_number).2.1), some (cI (getI v_border v_number).2.2), e6]) (ev_op (ev_v rfl) (ev_v rfl) (ix_c (c := (cP3 cI cI cI)) (sq_L (c := (cP3 cI cI cI)) (xs := v_border)) h.1)) rfl) (w_hung_2 (st := st) (e6 := e6)  v_border v_size v_number ((getI v_border v_number).1) ((getI v_border v_number).2.1) ((getI v_border v_number).2.2) h.2)
def t_hung (v_border : (List (Int × Int × Int))) (v_size : Int) : (Option (List (Int × Int × Int))) := t_hung_1 v_border v_size (T_highest v_border)
def c_hung (v_border : (List (Int × Int × Int))) (v_size : Int) : Prop := C_highest v_border ∧ c_hung_1 v_border v_size (T_highest v_border)
theorem w_hung {st : Sto} {e2 e3 e4 e5 e6 : Option D} (v_border : (List (Int × Int × Int))) (v_size : Int) (h : c_hung v_border v_size) : RtP st (b_hung [some ((cL (cP3 cI cI cI)) v_border), some (cI v_size), e2, e3, e4, e5, e6] (st ++ [])) ((cO (cL (cP3 cI cI cI))) (t_hung v_border v_size)) :=
  rt_nx (do_set (ev_call (ev_cons (a := (cL (cP3 cI cI cI)) v_border) (ev_v rfl) (ev_nil)) rfl (f_highest v_border h.1))) (w_hung_1 (st := st) (e3 := e3) (e4 := e4) (e5 := e5) (e6 := e6)  v_border v_size (T_highest v_border) h.2)
def T_hung (v_border : (List (Int × Int × Int))) (v_size : Int) : (Option (List (Int × Int × Int))) := t_hung v_border v_size
def C_hung (v_border : (List (Int × Int × Int))) (v_size : Int) : Prop := c_hung v_border v_size
theorem f_hung {st : Sto} (v_border : (List (Int × Int × Int))) (v_size : Int) (h : C_hung v_border v_size) : m_hung [(cL (cP3 cI cI cI)) v_border, cI v_size] st = .ok ((cO (cL (cP3 cI cI cI))) (T_hung v_border v_size)) st :=
  RtP.enter (b := b_hung) (env := [some ((cL (cP3 cI cI cI)) v_border), some (cI v_size), none, none, none, none, none]) (w_hung (st := st) (e2 := none) (e3 := none) (e4 := none) (e5 := none) (e6 := none)  v_border v_size h)
def t_is_full (v_border : (List (Int × Int × Int))) : Bool := (decide ((v_border.length : Int) = (1 : Int)) && decide ((getI v_border (0 : Int)).2.2 = (0 : Int)))
def c_is_full (v_border : (List (Int × Int × Int))) : Prop := (decide ((v_border.length : Int) = (1 : Int)) = true → IxOk v_border.length (0 : Int))
theorem w_is_full {st : Sto} (v_border : (List (Int × Int × Int))) (h : c_is_full v_border) : RtP st (b_is_full [some ((cL (cP3 cI cI cI)) v_border)] (st ++ [])) (cB (t_is_full v_border)) :=
  rt_ret (d := cB (decide ((v_border.length : Int) = (1 : Int)) && decide ((getI v_border (0 : Int)).2.2 = (0 : Int)))) (ev_andB (ev_op (a := cI (v_border.length : Int)) (b := cI (1 : Int)) (ev_B (ev_cons (ev_v rfl) ev_nil) (len_c (c := (cP3 cI cI cI)) (sq_L (c := (cP3 cI cI cI)) (xs := v_border)))) (rfl) rfl) (fun hg156 => ev_op (a := cI ((getI v_border (0 : Int)).2.2)) (b := cI (0 : Int)) (ev_op (ev_op (ev_v rfl) (rfl) (ix_c (c := (cP3 cI cI cI)) (sq_L (c := (cP3 cI cI cI)) (xs := v_border)) (h hg156))) (rfl) rfl) (rfl) rfl)) (fz_c fl_B)
def T_is_full (v_border : (List (Int × Int × Int))) : Bool := t_is_full v_border
def C_is_full (v_border : (List (Int × Int × Int))) : Prop := c_is_full v_border
theorem f_is_full {st : Sto} (v_border : (List (Int × Int × Int))) (h : C_is_full v_border) : m_is_full [(cL (cP3 cI cI cI)) v_border] st = .ok (cB (T_is_full v_border)) st :=
  RtP.enter (b := b_is_full) (env := [some ((cL (cP3 cI cI cI)) v_border)]) (w_is_full (st := st)   v_border h)
def t_floor_by_2a_2a (v_at : Int) : (((Int × Int) × (Int × Int) × (List ((Int × Int) × (Int × Int) × (Int × Int) × (Int × Int)))) ⊕ FL.Exc) := .inr ⟨"NoSize", [("at", cI v_at)]⟩
theorem w_floor_by_2a_2a {st : Sto} {e0 e1 e2 e3 e4 e6 e7 e8 e9 : Option D} {o0 : SO} (v_at : Int) : RxP st (b_floor_by_2a_2a [e0, e1, e2, e3, e4, some (cI v_at), e6, e7, e8, e9] (st ++ [o0])) ((xE (cP3 (cP2 cI cI) (cP2 cI cI) (cT (cP4 (cP2 cI cI) (cP2 cI cI) (cP2 cI cI) (cP2 cI cI))))) (t_floor_by_2a_2a v_at)) :=
  rx_raise (x := ⟨"NoSize", [("at", cI v_at)]⟩) (dx_raiseF (ev_cons (a := cI v_at) (ev_v rfl) (ev_nil)) rfl) (fx_cons (fl_I v_at) (fx_nil))
def t_floor_by_2a_4 (v_border : (List (Int × Int × Int))) (v_rectangles : (List ((Int × Int) × (Int × Int) × (Int × Int) × (Int × Int)))) : (((List (Int × Int × Int)) × (List ((Int × Int) × (Int × Int) × (Int × Int) × (Int × Int)))) ⊕ (((Int × Int) × (Int × Int) × (List ((Int × Int) × (Int × Int) × (Int × Int) × (Int × Int)))) ⊕ FL.Exc)) := .inl (v_border, v_rectangles)
theorem w_floor_by_2a_4 {st : Sto} {e0 e1 e2 e5 e6 e7 e8 e9 : Option D} (v_border : (List (Int × Int × Int))) (v_rectangles : (List ((Int × Int) × (Int × Int) × (Int × Int) × (Int × Int)))) : MyP st (sNext [e0, e1, e2, some ((cL (cP3 cI cI cI)) v_border), some (D.loc (st.length + 0)), e5, e6, e7, e8, e9] (st ++ [SO.lst (v_rectangles.map (cP4 (cP2 cI cI) (cP2 cI cI) (cP2 cI cI) (cP2 cI cI)))])) (t_floor_by_2a_4 v_border v_rectangles) (fun (s : ((List (Int × Int × Int)) × (List ((Int × Int) × (Int × Int) × (Int × Int) × (Int × Int))))) (env' : FL.Env) (S' : Sto) => ∃ x7 x8 x9 : Option D, env' = [e0, e1, e2, some ((cL (cP3 cI cI cI)) s.1), some (D.loc (st.length + 0)), e5, e6, x7, x8, x9] ∧ S' = st ++ [SO.lst (s.2.map (cP4 (cP2 cI cI) (cP2 cI cI) (cP2 cI cI) (cP2 cI cI)))]) (xE (cP3 (cP2 cI cI) (cP2 cI cI) (cT (cP4 (cP2 cI cI) (cP2 cI cI) (cP2 cI cI) (cP2 cI cI))))) :=
  my_end ⟨_, _, _, rfl, rfl⟩
def t_floor_by_2a_3 (v_border : (List (Int × Int × Int))) (v_rectangles : (List ((Int × Int) × (Int × Int) × (Int × Int) × (Int × Int)))) (v_size : Int) (v_left : Int) (v_level : Int) : (((List (Int × Int × Int)) × (List ((Int × Int) × (Int × Int) × (Int × Int) × (Int × Int)))) ⊕ (((Int × Int) × (Int × Int) × (List ((Int × Int) × (Int × Int) × (Int × Int) × (Int × Int)))) ⊕ FL.Exc)) := t_floor_by_2a_4 v_border (v_rectangles ++ [((v_left, (1 : Int)), ((v_level - v_size), (1 : Int)), ((v_left + v_size), (1 : Int)), (v_level, (1 : Int)))])
def c_floor_by_2a_3 (v_border : (List (Int × Int × Int))) (v_rectangles : (List ((Int × Int) × (Int × Int) × (Int × Int) × (Int × Int)))) (v_size : Int) (v_left : Int) (v_level : Int) : Prop := v_rectangles.length < 1000000
theorem w_floor_by_2a_3 {st : Sto} {e0 e1 e2 e5 e8 : Option D} (v_border : (List (Int × Int × Int))) (v_rectangles : (List ((Int × Int) × (Int × Int) × (Int × Int) × (Int × Int)))) (v_size : Int) (v_left : Int) (v_level : Int) (h : c_floor_by_2a_3 v_border v_rectangles v_size v_left v_level) : MyP st (b_floor_by_2a_3 [e0, e1, e2, some ((cL (cP3 cI cI cI)) v_border), some (D.loc (st.length + 0)), e5, some (cI v_size), some (cI v_left), e8, some (cI v_level)] (st ++ [SO.lst (v_rectangles.map (cP4 (cP2 cI cI) (cP2 cI cI) (cP2 cI cI) (cP2 cI cI)))])) (t_floor_by_2a_3 v_border v_rectangles v_size v_left v_level) (fun (s : ((List (Int × Int × Int)) × (List ((Int × Int) × (Int × Int) × (Int × Int) × (Int × Int))))) (env' : FL.Env) (S' : Sto) => ∃ x7 x8 x9 : Option D, env' = [e0, e1, e2, some ((cL (cP3 cI cI cI)) s.1), some (D.loc (st.length + 0)), e5, some (cI v_size), x7, x8, x9] ∧ S' = st ++ [SO.lst (s.2.map (cP4 (cP2 cI cI) (cP2 cI cI) (cP2 cI cI) (cP2 cI cI)))]) (xE (cP3 (cP2 cI cI) (cP2 cI cI) (cT (cP4 (cP2 cI cI) (cP2 cI cI) (cP2 cI cI) (cP2 cI cI))))) :=
  my_nx (do_drop (ev_mt (ev_v rfl) (isLst_M (i := 0) rfl) (ev_cons (ev_tup (ev_cons (a := (cP2 cI cI) (v_left, (1 : Int))) (ev_tup (ev_cons (a := cI v_left) (ev_v rfl) (ev_cons (a := cI (1 : Int)) (rfl) (ev_nil))) rfl) (ev_cons (a := (cP2 cI cI) ((v_level - v_size), (1 : Int))) (ev_tup (ev_cons (a := cI (v_level - v_size)) (ev_op (a := cI v_level) (b := cI v_size) (ev_v rfl) (ev_v rfl) rfl) (ev_cons (a := cI (1 : Int)) (rfl) (ev_nil))) rfl) (ev_cons (a := (cP2 cI cI) ((v_left + v_size), (1 : Int))) (ev_tup (ev_cons (a := cI (v_left + v_size)) (ev_op (a := cI v_left) (b := cI v_size) (ev_v rfl) (ev_v rfl) rfl) (ev_cons (a := cI (1 : Int)) (rfl) (ev_nil))) rfl) (ev_cons (a := (cP2 cI cI) (v_level, (1 : Int))) (ev_tup (ev_cons (a := cI v_level) (ev_v rfl) (ev_cons (a := cI (1 : Int)) (rfl) (ev_nil))) rfl) (ev_nil))))) rfl) ev_nil) (ap_M (c := (cP4 (cP2 cI cI) (cP2 cI cI) (cP2 cI cI) (cP2 cI cI))) (xs := v_rectangles) (x := ((v_left, (1 : Int)), ((v_level - v_size), (1 : Int)), ((v_left + v_size), (1 : Int)), (v_level, (1 : Int)))) (i := 0) rfl h))) (w_floor_by_2a_4 (st := st) (e0 := e0) (e1 := e1) (e2 := e2) (e5 := e5) (e6 := some (cI v_size)) (e7 := some (cI v_left)) (e8 := e8) (e9 := some (cI v_level))  v_border (v_rectangles ++ [((v_left, (1 : Int)), ((v_level - v_size), (1 : Int)), ((v_left + v_size), (1 : Int)), (v_level, (1 : Int)))]))
def t_floor_by_2a_2 (v_border : (Option (List (Int × Int × Int)))) (v_rectangles : (List ((Int × Int) × (Int × Int) × (Int × Int) × (Int × Int)))) (v_at : Int) (v_size : Int) (v_left : Int) (v_level : Int) : (((List (Int × Int × Int)) × (List ((Int × Int) × (Int × Int) × (Int × Int) × (Int × Int)))) ⊕ (((Int × Int) × (Int × Int) × (List ((Int × Int) × (Int × Int) × (Int × Int) × (Int × Int)))) ⊕ FL.Exc)) := if v_border.isNone = true then .inr (t_floor_by_2a_2a v_at) else t_floor_by_2a_3 (v_border.getD default) v_rectangles v_size v_left v_level
def c_floor_by_2a_2 (v_border : (Option (List (Int × Int × Int)))) (v_rectangles : (List ((Int × Int) × (Int × Int) × (Int × Int) × (Int × Int)))) (v_at : Int) (v_size : Int) (v_left : Int) (v_level : Int) : Prop := (v_border.isNone = false → c_floor_by_2a_3 (v_border.getD default) v_rectangles v_size v_left v_level)
theorem w_floor_by_2a_2 {st : Sto} {e0 e1 e2 e8 : Option D} (v_border : (Option (List (Int × Int × Int)))) (v_rectangles : (List ((Int × Int) × (Int × Int) × (Int × Int) × (Int × Int)))) (v_at : Int) (v_size : Int) (v_left : Int) (v_level : Int) (h : c_floor_by_2a_2 v_border v_rectangles v_at v_size v_left v_level) : MyP st (b_floor_by_2a_2 [e0, e1, e2, some ((cO (cL (cP3 cI cI cI))) v_border), some (D.loc (st.length + 0)), some (cI v_at), some (cI v_size), some (cI v_left), e8, some (cI v_level)] (st ++ [SO.lst (v_rectangles.map (cP4 (cP2 cI cI) (cP2 cI cI) (cP2 cI cI) (cP2 cI cI)))])) (t_floor_by_2a_2 v_border v_rectangles v_at v_size v_left v_level) (fun (s : ((List (Int × Int × Int)) × (List ((Int × Int) × (Int × Int) × (Int × Int) × (Int × Int))))) (env' : FL.Env) (S' : Sto) => ∃ x7 x8 x9 : Option D, env' = [e0, e1, e2, some ((cL (cP3 cI cI cI)) s.1), some (D.loc (st.length + 0)), some (cI v_at), some (cI v_size), x7, x8, x9] ∧ S' = st ++ [SO.lst (s.2.map (cP4 (cP2 cI cI) (cP2 cI cI) (cP2 cI cI) (cP2 cI cI)))]) (xE (cP3 (cP2 cI cI) (cP2 cI cI) (cT (cP4 (cP2 cI cI) (cP2 cI cI) (cP2 cI cI) (cP2 cI cI))))) :=
  iy_MX (e := (xE (cP3 (cP2 cI cI) (cP2 cI cI) (cT (cP4 (cP2 cI cI) (cP2 cI cI) (cP2 cI cI) (cP2 cI cI)))))) (tt_B (ev_op (a := (cO (cL (cP3 cI cI cI))) v_border) (ev_v rfl) rfl (is_O (fun _ => rfl)))) (fun hc => w_floor_by_2a_2a (st := st) (e0 := e0) (e1 := e1) (e2 := e2) (e3 := some ((cO (cL (cP3 cI cI cI))) v_border)) (e4 := some (D.loc (st.length + 0))) (e6 := some (cI v_size)) (e7 := some (cI v_left)) (e8 := e8) (e9 := some (cI v_level)) (o0 := SO.lst (v_rectangles.map (cP4 (cP2 cI cI) (cP2 cI cI) (cP2 cI cI) (cP2 cI cI)))) v_at) (fun hc => cO_sub (c := (cL (cP3 cI cI cI))) (F := fun z => MyP st (sSeq sNext b_floor_by_2a_3 [e0, e1, e2, some z, some (D.loc (st.length + 0)), some (cI v_at), some (cI v_size), some (cI v_left), e8, some (cI v_level)] (st ++ [SO.lst (v_rectangles.map (cP4 (cP2 cI cI) (cP2 cI cI) (cP2 cI cI) (cP2 cI cI)))])) (t_floor_by_2a_3 (v_border.getD default) v_rectangles v_size v_left v_level) (fun (s : ((List (Int × Int × Int)) × (List ((Int × Int) × (Int × Int) × (Int × Int) × (Int × Int))))) (env' : FL.Env) (S' : Sto) => ∃ x7 x8 x9 : Option D, env' = [e0, e1, e2, some ((cL (cP3 cI cI cI)) s.1), some (D.loc (st.length + 0)), some (cI v_at), some (cI v_size), x7, x8, x9] ∧ S' = st ++ [SO.lst (s.2.map (cP4 (cP2 cI cI) (cP2 cI cI) (cP2 cI cI) (cP2 cI cI)))]) (xE (cP3 (cP2 cI cI) (cP2 cI cI) (cT (cP4 (cP2 cI cI) (cP2 cI cI) (cP2 cI cI) (cP2 cI cI)))))) hc (w_floor_by_2a_3 (st := st) (e0 := e0) (e1 := e1) (e2 := e2) (e5 := some (cI v_at)) (e8 := e8)  (v_border.getD default) v_rectangles v_size v_left v_level (h hc)))
def t_floor_by_2a_1 (v_border : (List (Int × Int × Int))) (v_rectangles : (List ((Int × Int) × (Int × Int) × (Int × Int) × (Int × Int)))) (v_at : Int) (v_size : Int) (v_left : Int) (v_level : Int) : (((List (Int × Int × Int)) × (List ((Int × Int) × (Int × Int) × (Int × Int) × (Int × Int)))) ⊕ (((Int × Int) × (Int × Int) × (List ((Int × Int) × (Int × Int) × (Int × Int) × (Int × Int)))) ⊕ FL.Exc)) := t_floor_by_2a_2 (T_hung v_border v_size) v_rectangles v_at v_size v_left v_level
def c_floor_by_2a_1 (v_border : (List (Int × Int × Int))) (v_rectangles : (List ((Int × Int) × (Int × Int) × (Int × Int) × (Int × Int)))) (v_at : Int) (v_size : Int) (v_left : Int) (v_level : Int) : Prop := C_hung v_border v_size ∧ c_floor_by_2a_2 (T_hung v_border v_size) v_rectangles v_at v_size v_left v_level
theorem w_floor_by_2a_1 {st : Sto} {e0 e1 e2 e8 : Option D} (v_border : (List (Int × Int × Int))) (v_rectangles : (List ((Int × Int) × (Int × Int) × (Int × Int) × (Int × Int)))) (v_at : Int) (v_size : Int) (v_left : Int) (v_level : Int) (h : c_floor_by_2a_1 v_border v_rectangles v_at v_size v_left v_level) : MyP st (b_floor_by_2a_1 [e0, e1, e2, some ((cL (cP3 cI cI cI)) v_border), some (D.loc (st.length + 0)), some (cI v_at), some (cI v_size), some (cI v_left), e8, some (cI v_level)] (st ++ [SO.lst (v_rectangles.map (cP4 (cP2 cI cI) (cP2 cI cI) (cP2 cI cI) (cP2 cI cI)))])) (t_floor_by_2a_1 v_border v_rectangles v_at v_size v_left v_level) (fun (s : ((List (Int × Int × Int)) × (List ((Int × Int) × (Int × Int) × (Int × Int) × (Int × Int))))) (env' : FL.Env) (S' : Sto) => ∃ x7 x8 x9 : Option D, env' = [e0, e1, e2, some ((cL (cP3 cI cI cI)) s.1), some (D.loc (st.length + 0)), some (cI v_at), some (cI v_size), x7, x8, x9] ∧ S' = st ++ [SO.lst (s.2.map (cP4 (cP2 cI cI) (cP2 cI cI) (cP2 cI cI) (cP2 cI cI)))]) (xE (cP3 (cP2 cI cI) (cP2 cI cI) (cT (cP4 (cP2 cI cI) (cP2 cI cI) (cP2 cI cI) (cP2 cI cI))))) :=
  my_nx (do_set (ev_call (ev_cons (a := (cL (cP3 cI cI cI)) v_border) (ev_v rfl) (ev_cons (a := cI v_size) (ev_v rfl) (ev_nil))) rfl (f_hung v_border v_size h.1))) (w_floor_by_2a_2 (st := st) (e0 := e0) (e1 := e1) (e2 := e2) (e8 := e8)  (T_hung v_border v_size) v_rectangles v_at v_size v_left v_level h.2)
def t_floor_by_2aq (v_border : (List (Int × Int × Int))) (v_rectangles : (List ((Int × Int) × (Int × Int) × (Int × Int) × (Int × Int)))) (v_at : Int) (v_size : Int) (q : (Int × Int × Int)) : (((List (Int × Int × Int)) × (List ((Int × Int) × (Int × Int) × (Int × Int) × (Int × Int)))) ⊕ (((Int × Int) × (Int × Int) × (List ((Int × Int) × (Int × Int) × (Int × Int) × (Int × Int)))) ⊕ FL.Exc)) := t_floor_by_2a_1 v_border v_rectangles v_at v_size q.1 q.2.2
def c_floor_by_2aq (v_border : (List (Int × Int × Int))) (v_rectangles : (List ((Int × Int) × (Int × Int) × (Int × Int) × (Int × Int)))) (v_at : Int) (v_size : Int) (q : (Int × Int × Int)) : Prop := c_floor_by_2a_1 v_border v_rectangles v_at v_size q.1 q.2.2
def t_floor_by_2a (v_border : (List (Int × Int × Int))) (v_rectangles : (List ((Int × Int) × (Int × Int) × (Int × Int) × (Int × Int)))) (v_at : Int) (v_size : Int) : (((List (Int × Int × Int)) × (List ((Int × Int) × (Int × Int) × (Int × Int) × (Int × Int)))) ⊕ (((Int × Int) × (Int × Int) × (List ((Int × Int) × (Int × Int) × (Int × Int) × (Int × Int)))) ⊕ FL.Exc)) := t_floor_by_2aq v_border v_rectangles v_at v_size (getI v_border (T_highest v_border))
def c_floor_by_2a (v_border : (List (Int × Int × Int))) (v_rectangles : (List ((Int × Int) × (Int × Int) × (Int × Int) × (Int × Int)))) (v_at : Int) (v_size : Int) : Prop := C_highest v_border ∧ IxOk v_border.length (T_highest v_border) ∧ c_floor_by_2aq v_border v_rectangles v_at v_size (getI v_border (T_highest v_border))
theorem w_floor_by_2a {st : Sto} {e0 e1 e2 e7 e8 e9 : Option D} (v_border : (List (Int × Int × Int))) (v_rectangles : (List ((Int × Int) × (Int × Int) × (Int × Int) × (Int × Int)))) (v_at : Int) (v_size : Int) (h : c_floor_by_2a v_border v_rectangles v_at v_size) : MyP st (b_floor_by_2a [e0, e1, e2, some ((cL (cP3 cI cI cI)) v_border), some (D.loc (st.length + 0)), some (cI v_at), some (cI v_size), e7, e8, e9] (st ++ [SO.lst (v_rectangles.map (cP4 (cP2 cI cI) (cP2 cI cI) (cP2 cI cI) (cP2 cI cI)))])) (t_floor_by_2a v_border v_rectangles v_at v_size) (fun (s : ((List (Int × Int × Int)) × (List ((Int × Int) × (Int × Int) × (Int × Int) × (Int × Int))))) (env' : FL.Env) (S' : Sto) => ∃ x7 x8 x9 : Option D, env' = [e0, e1, e2, some ((cL (cP3 cI cI cI)) s.1), some (D.loc (st.length + 0)), some (cI v_at), some (cI v_size), x7, x8, x9] ∧ S' = st ++ [SO.lst (s.2.map (cP4 (cP2 cI cI) (cP2 cI cI) (cP2 cI cI) (cP2 cI cI)))]) (xE (cP3 (cP2 cI cI) (cP2 cI cI) (cT (cP4 (cP2 cI cI) (cP2 cI cI) (cP2 cI cI) (cP2 cI cI))))) :=
  my_nx (do_asg (env' := [e0, e1, e2, some ((cL (cP3 cI cI cI)) v_border), some (D.loc (st.length + 0)), some (cI v_at), some (cI v_size), some (cI (getI v_border (T_highest v_border)).1), some (cI (getI v_border (T_highest v_border)).2.1), some (cI (getI v_border (T_highest v_border)).2.2)]) (ev_op (ev_v rfl) (ev_call (ev_cons (a := (cL (cP3 cI cI cI)) v_border) (ev_v rfl) (ev_nil)) rfl (f_highest v_border h.1)) (ix_c (c := (cP3 cI cI cI)) (sq_L (c := (cP3 cI cI cI)) (xs := v_border)) h.2.1)) rfl) (w_floor_by_2a_1 (st := st) (e0 := e0) (e1 := e1) (e2 := e2) (e8 := some (cI (getI v_border (T_highest v_border)).2.1))  v_border v_rectangles v_at v_size ((getI v_border (T_highest v_border)).1) ((getI v_border (T_highest v_border)).2.2) h.2.2)
def t_floor_by_3a (v_sizes : (List Int)) : (((Int × Int) × (Int × Int) × (List ((Int × Int) × (Int × Int) × (Int × Int) × (Int × Int)))) ⊕ FL.Exc) := .inr ⟨"NoSize", [("at", cI (v_sizes.length : Int))]⟩
theorem w_floor_by_3a {st : Sto} {e0 e1 e3 e4 e5 e6 e7 e8 e9 : Option D} {o0 : SO} (v_sizes : (List Int)) : RxP st (b_floor_by_3a [e0, e1, some ((cT cI) v_sizes), e3, e4, e5, e6, e7, e8, e9] (st ++ [o0])) ((xE (cP3 (cP2 cI cI) (cP2 cI cI) (cT (cP4 (cP2 cI cI) (cP2 cI cI) (cP2 cI cI) (cP2 cI cI))))) (t_floor_by_3a v_sizes)) :=
  rx_raise (x := ⟨"NoSize", [("at", cI (v_sizes.length : Int))]⟩) (dx_raiseF (ev_cons (a := cI (v_sizes.length : Int)) (ev_B (ev_cons (ev_v rfl) ev_nil) (len_c (c := cI) (sq_T (c := cI) (xs := v_sizes)))) (ev_nil)) rfl) (fx_cons (fl_I (v_sizes.length : Int)) (fx_nil))
def t_floor_by_4 (v_width : Int) (v_height : Int) (v_rectangles : (List ((Int × Int) × (Int × Int) × (Int × Int) × (Int × Int)))) : (((Int × Int) × (Int × Int) × (List ((Int × Int) × (Int × Int) × (Int × Int) × (Int × Int)))) ⊕ FL.Exc) := .inl ((v_width, (1 : Int)), (v_height, (1 : Int)), v_rectangles)
theorem w_floor_by_4 {st : Sto} {e2 e3 e5 e6 e7 e8 e9 : Option D} (v_width : Int) (v_height : Int) (v_rectangles : (List ((Int × Int) × (Int × Int) × (Int × Int) × (Int × Int)))) : RxP st (b_floor_by_4 [some (cI v_width), some (cI v_height), e2, e3, some (D.loc (st.length + 0)), e5, e6, e7, e8, e9] (st ++ [SO.lst (v_rectangles.map (cP4 (cP2 cI cI) (cP2 cI cI) (cP2 cI cI) (cP2 cI cI)))])) ((xE (cP3 (cP2 cI cI) (cP2 cI cI) (cT (cP4 (cP2 cI cI) (cP2 cI cI) (cP2 cI cI) (cP2 cI cI))))) (t_floor_by_4 v_width v_height v_rectangles)) :=
  rx_ret (d := (cP3 (cP2 cI cI) (cP2 cI cI) (cT (cP4 (cP2 cI cI) (cP2 cI cI) (cP2 cI cI) (cP2 cI cI)))) ((v_width, (1 : Int)), (v_height, (1 : Int)), v_rectangles)) (ev_tup (ev_cons (a := (cP2 cI cI) (v_width, (1 : Int))) (ev_tup (ev_cons (a := cI v_width) (ev_v rfl) (ev_cons (a := cI (1 : Int)) (rfl) (ev_nil))) rfl) (ev_cons (a := (cP2 cI cI) (v_height, (1 : Int))) (ev_tup (ev_cons (a := cI v_height) (ev_v rfl) (ev_cons (a := cI (1 : Int)) (rfl) (ev_nil))) rfl) (ev_cons (a := (cT (cP4 (cP2 cI cI) (cP2 cI cI) (cP2 cI cI) (cP2 cI cI))) v_rectangles) (ev_B (ev_cons (ev_v rfl) ev_nil) (tup_c (c := (cP4 (cP2 cI cI) (cP2 cI cI) (cP2 cI cI) (cP2 cI cI))) (ls_M (i := 0) rfl))) (ev_nil)))) rfl) (fz_c (fl_P3 (fl_P2 fl_I fl_I) (fl_P2 fl_I fl_I) (fl_T (fl_P4 (fl_P2 fl_I fl_I) (fl_P2 fl_I fl_I) (fl_P2 fl_I fl_I) (fl_P2 fl_I fl_I)))))
def t_floor_by_3 (v_width : Int) (v_height : Int) (v_sizes : (List Int)) (v_border : (List (Int × Int × Int))) (v_rectangles : (List ((Int × Int) × (Int × Int) × (Int × Int) × (Int × Int)))) : (((Int × Int) × (Int × Int) × (List ((Int × Int) × (Int × Int) × (Int × Int) × (Int × Int)))) ⊕ FL.Exc) := if (!(T_is_full v_border)) = true then t_floor_by_3a v_sizes else t_floor_by_4 v_width v_height v_rectangles
def c_floor_by_3 (v_width : Int) (v_height : Int) (v_sizes : (List Int)) (v_border : (List (Int × Int × Int))) (v_rectangles : (List ((Int × Int) × (Int × Int) × (Int × Int) × (Int × Int)))) : Prop := C_is_full v_border
theorem w_floor_by_3 {st : Sto} {e5 e6 e7 e8 e9 : Option D} (v_width : Int) (v_height : Int) (v_sizes : (List Int)) (v_border : (List (Int × Int × Int))) (v_rectangles : (List ((Int × Int) × (Int × Int) × (Int × Int) × (Int × Int)))) (h : c_floor_by_3 v_width v_height v_sizes v_border v_rectangles) : RxP st (b_floor_by_3 [some (cI v_width), some (cI v_height), some ((cT cI) v_sizes), some ((cL (cP3 cI cI cI)) v_border), some (D.loc (st.length + 0)), e5, e6, e7, e8, e9] (st ++ [SO.lst (v_rectangles.map (cP4 (cP2 cI cI) (cP2 cI cI) (cP2 cI cI) (cP2 cI cI)))])) ((xE (cP3 (cP2 cI cI) (cP2 cI cI) (cT (cP4 (cP2 cI cI) (cP2 cI cI) (cP2 cI cI) (cP2 cI cI))))) (t_floor_by_3 v_width v_height v_sizes v_border v_rectangles)) :=
  iy_RX (e := (xE (cP3 (cP2 cI cI) (cP2 cI cI) (cT (cP4 (cP2 cI cI) (cP2 cI cI) (cP2 cI cI) (cP2 cI cI)))))) (tt_not (tt_tru (ev_call (ev_cons (a := (cL (cP3 cI cI cI)) v_border) (ev_v rfl) (ev_nil)) rfl (f_is_full v_border h)) rfl)) (fun hc => w_floor_by_3a (st := st) (e0 := some (cI v_width)) (e1 := some (cI v_height)) (e3 := some ((cL (cP3 cI cI cI)) v_border)) (e4 := some (D.loc (st.length + 0))) (e5 := e5) (e6 := e6) (e7 := e7) (e8 := e8) (e9 := e9) (o0 := SO.lst (v_rectangles.map (cP4 (cP2 cI cI) (cP2 cI cI) (cP2 cI cI) (cP2 cI cI)))) v_sizes) (fun hc => w_floor_by_4 (st := st) (e2 := some ((cT cI) v_sizes)) (e3 := some ((cL (cP3 cI cI cI)) v_border)) (e5 := e5) (e6 := e6) (e7 := e7) (e8 := e8) (e9 := e9)  v_width v_height v_rectangles)
def t_floor_by_2q (v_width : Int) (v_height : Int) (v_sizes : (List Int)) (v_border : (List (Int × Int × Int))) (v_rectangles : (List ((Int × Int) × (Int × Int) × (Int × Int) × (Int × Int)))) (q : ((List (Int × Int × Int)) × (List ((Int × Int) × (Int × Int) × (Int × Int) × (Int × Int))))) : (((Int × Int) × (Int × Int) × (List ((Int × Int) × (Int × Int) × (Int × Int) × (Int × Int)))) ⊕ FL.Exc) := t_floor_by_3 v_width v_height v_sizes q.1 q.2
def c_floor_by_2q (v_width : Int) (v_height : Int) (v_sizes : (List Int)) (v_border : (List (Int × Int × Int))) (v_rectangles : (List ((Int × Int) × (Int × Int) × (Int × Int) × (Int × Int)))) (q : ((List (Int × Int × Int)) × (List ((Int × Int) × (Int × Int) × (Int × Int) × (Int × Int))))) : Prop := c_floor_by_3 v_width v_height v_sizes q.1 q.2
def t_floor_by_2 (v_width : Int) (v_height : Int) (v_sizes : (List Int)) (v_border : (List (Int × Int × Int))) (v_rectangles : (List ((Int × Int) × (Int × Int) × (Int × Int) × (Int × Int)))) : (((Int × Int) × (Int × Int) × (List ((Int × Int) × (Int × Int) × (Int × Int) × (Int × Int)))) ⊕ FL.Exc) := outR (forR (fun (s : ((List (Int × Int × Int)) × (List ((Int × Int) × (Int × Int) × (Int × Int) × (Int × Int))))) (x : (Int × Int)) => t_floor_by_2a s.1 s.2 x.1 x.2) (enumI v_sizes) (v_border, v_rectangles)) (t_floor_by_2q v_width v_height v_sizes v_border v_rectangles)
def c_floor_by_2 (v_width : Int) (v_height : Int) (v_sizes : (List Int)) (v_border : (List (Int × Int × Int))) (v_rectangles : (List ((Int × Int) × (Int × Int) × (Int × Int) × (Int × Int)))) : Prop := (cForR (fun (s : ((List (Int × Int × Int)) × (List ((Int × Int) × (Int × Int) × (Int × Int) × (Int × Int))))) (x : (Int × Int)) => c_floor_by_2a s.1 s.2 x.1 x.2) (fun (s : ((List (Int × Int × Int)) × (List ((Int × Int) × (Int × Int) × (Int × Int) × (Int × Int))))) (x : (Int × Int)) => t_floor_by_2a s.1 s.2 x.1 x.2) (enumI v_sizes) (v_border, v_rectangles)) ∧ (∀ q, (forR (fun (s : ((List (Int × Int × Int)) × (List ((Int × Int) × (Int × Int) × (Int × Int) × (Int × Int))))) (x : (Int × Int)) => t_floor_by_2a s.1 s.2 x.1 x.2) (enumI v_sizes) (v_border, v_rectangles)) = .inl q → c_floor_by_2q v_width v_height v_sizes v_border v_rectangles q)
theorem w_floor_by_2 {st : Sto} {e5 e6 e7 e8 e9 : Option D} (v_width : Int) (v_height : Int) (v_sizes : (List Int)) (v_border : (List (Int × Int × Int))) (v_rectangles : (List ((Int × Int) × (Int × Int) × (Int × Int) × (Int × Int)))) (h : c_floor_by_2 v_width v_height v_sizes v_border v_rectangles) : RxP st (b_floor_by_2 [some (cI v_width), some (cI v_height), some ((cT cI) v_sizes), some ((cL (cP3 cI cI cI)) v_border), some (D.loc (st.length + 0)), e5, e6, e7, e8, e9] (st ++ [SO.lst (v_rectangles.map (cP4 (cP2 cI cI) (cP2 cI cI) (cP2 cI cI) (cP2 cI cI)))])) ((xE (cP3 (cP2 cI cI) (cP2 cI cI) (cT (cP4 (cP2 cI cI) (cP2 cI cI) (cP2 cI cI) (cP2 cI cI))))) (t_floor_by_2 v_width v_height v_sizes v_border v_rectangles)) :=
  rx_M (e := (xE (cP3 (cP2 cI cI) (cP2 cI cI) (cT (cP4 (cP2 cI cI) (cP2 cI cI) (cP2 cI cI) (cP2 cI cI)))))) (do_forY (E := (fun (s : ((List (Int × Int × Int)) × (List ((Int × Int) × (Int × Int) × (Int × Int) × (Int × Int))))) => [some (cI v_width), some (cI v_height), some ((cT cI) v_sizes), some ((cL (cP3 cI cI cI)) s.1), some (D.loc (st.length + 0)), none, none, none, none, none])) (O := (fun (s : ((List (Int × Int × Int)) × (List ((Int × Int) × (Int × Int) × (Int × Int) × (Int × Int))))) => [SO.lst (s.2.map (cP4 (cP2 cI cI) (cP2 cI cI) (cP2 cI cI) (cP2 cI cI)))])) (cx := (cP2 cI cI)) (c := (fun (s : ((List (Int × Int × Int)) × (List ((Int × Int) × (Int × Int) × (Int × Int) × (Int × Int))))) (x : (Int × Int)) => c_floor_by_2a s.1 s.2 x.1 x.2)) (t := (fun (s : ((List (Int × Int × Int)) × (List ((Int × Int) × (Int × Int) × (Int × Int) × (Int × Int))))) (x : (Int × Int)) => t_floor_by_2a s.1 s.2 x.1 x.2)) (s := (v_border, v_rectangles)) (e := (xE (cP3 (cP2 cI cI) (cP2 cI cI) (cT (cP4 (cP2 cI cI) (cP2 cI cI) (cP2 cI cI) (cP2 cI cI)))))) (it_enum (c := cI) (ev_cons (ev_v rfl) ev_nil) (sq_T (c := cI) (xs := v_sizes))) rfl (fun _ => rfl) (fun _ _ => rfl) (fun s x hc => ⟨[some (cI v_width), some (cI v_height), some ((cT cI) v_sizes), some ((cL (cP3 cI cI cI)) s.1), some (D.loc (st.length + 0)), some (cI x.1), some (cI x.2), none, none, none], rfl, MyP.mono (w_floor_by_2a (st := st) (e0 := some (cI v_width)) (e1 := some (cI v_height)) (e2 := some ((cT cI) v_sizes)) (e7 := none) (e8 := none) (e9 := none)  s.1 s.2 x.1 x.2 hc) (fun _ => fun | _, _, ⟨_, _, _, rfl, rfl⟩ => ⟨rfl, rfl⟩)⟩) h.1) (fun | q, _, _, hq, ⟨rfl, rfl⟩ => w_floor_by_3 (st := st) (e5 := none) (e6 := none) (e7 := none) (e8 := none) (e9 := none)  v_width v_height v_sizes q.1 q.2 (h.2 q hq))
def t_floor_by_1 (v_width : Int) (v_height : Int) (v_sizes : (List Int)) (v_border : (List (Int × Int × Int))) : (((Int × Int) × (Int × Int) × (List ((Int × Int) × (Int × Int) × (Int × Int) × (Int × Int)))) ⊕ FL.Exc) := t_floor_by_2 v_width v_height v_sizes v_border []
def c_floor_by_1 (v_width : Int) (v_height : Int) (v_sizes : (List Int)) (v_border : (List (Int × Int × Int))) : Prop := c_floor_by_2 v_width v_height v_sizes v_border []
theorem w_floor_by_1 {st : Sto} {e4 e5 e6 e7 e8 e9 : Option D} (v_width : Int) (v_height : Int) (v_sizes : (List Int)) (v_border : (List (Int × Int × Int))) (h : c_floor_by_1 v_width v_height v_sizes v_border) : RxP st (b_floor_by_1 [some (cI v_width), some (cI v_height), some ((cT cI) v_sizes), some ((cL (cP3 cI cI cI)) v_border), e4, e5, e6, e7, e8, e9] (st ++ [])) ((xE (cP3 (cP2 cI cI) (cP2 cI cI) (cT (cP4 (cP2 cI cI) (cP2 cI cI) (cP2 cI cI) (cP2 cI cI))))) (t_floor_by_1 v_width v_height v_sizes v_border)) :=
  rx_nx (do_set (ev_new (i := 0) (ev_lst (ev_nil) rfl) rfl)) (w_floor_by_2 (st := st) (e5 := e5) (e6 := e6) (e7 := e7) (e8 := e8) (e9 := e9)  v_width v_height v_sizes v_border [] h)
def t_floor_by (v_width : Int) (v_height : Int) (v_sizes : (List Int)) : (((Int × Int) × (Int × Int) × (List ((Int × Int) × (Int × Int) × (Int × Int) × (Int × Int)))) ⊕ FL.Exc) := t_floor_by_1 v_width v_height v_sizes [((0 : Int), v_width, v_height)]
def c_floor_by (v_width : Int) (v_height : Int) (v_sizes : (List Int)) : Prop := c_floor_by_1 v_width v_height v_sizes [((0 : Int), v_width, v_height)]
theorem w_floor_by {st : Sto} {e3 e4 e5 e6 e7 e8 e9 : Option D} (v_width : Int) (v_height : Int) (v_sizes : (List Int)) (h : c_floor_by v_width v_height v_sizes) : RxP st (b_floor_by [some (cI v_width), some (cI v_height), some ((cT cI) v_sizes), e3, e4, e5, e6, e7, e8, e9] (st ++ [])) ((xE (cP3 (cP2 cI cI) (cP2 cI cI) (cT (cP4 (cP2 cI cI) (cP2 cI cI) (cP2 cI cI) (cP2 cI cI))))) (t_floor_by v_width v_height v_sizes)) :=
  rx_nx (do_set (ev_frz (ev_lst (ev_cons (a := (cP3 cI cI cI) ((0 : Int), v_width, v_height)) (ev_tup (ev_cons (a := cI (0 : Int)) (rfl) (ev_cons (a := cI v_width) (ev_v rfl) (ev_cons (a := cI v_height) (ev_v rfl) (ev_nil)))) rfl) (ev_nil)) rfl))) (w_floor_by_1 (st := st) (e4 := e4) (e5 := e5) (e6 := e6) (e7 := e7) (e8 := e8) (e9 := e9)  v_width v_height v_sizes [((0 : Int), v_width, v_height)] h)
def T_floor_by (v_width : Int) (v_height : Int) (v_sizes : (List Int)) : (((Int × Int) × (Int × Int) × (List ((Int × Int) × (Int × Int) × (Int × Int) × (Int × Int)))) ⊕ FL.Exc) := t_floor_by v_width v_height v_sizes
def C_floor_by (v_width : Int) (v_height : Int) (v_sizes : (List Int)) : Prop := c_floor_by v_width v_height v_sizes
theorem f_floor_by {st : Sto} (v_width : Int) (v_height : Int) (v_sizes : (List Int)) (h : C_floor_by v_width v_height v_sizes) : m_floor_by [cI v_width, cI v_height, (cT cI) v_sizes] st = resX (cP3 (cP2 cI cI) (cP2 cI cI) (cT (cP4 (cP2 cI cI) (cP2 cI cI) (cP2 cI cI) (cP2 cI cI)))) (T_floor_by v_width v_height v_sizes) st :=
  RxP.enter (b := b_floor_by) (env := [some (cI v_width), some (cI v_height), some ((cT cI) v_sizes), none, none, none, none, none, none, none]) (w_floor_by (st := st) (e3 := none) (e4 := none) (e5 := none) (e6 := none) (e7 := none) (e8 := none) (e9 := none)  v_width v_height v_sizes h)
def T_floor_byV2 (x0 : Int) (x1 : Int) (x2 : (List Int)) : ((Int × Int) × (Int × Int) × (List ((Int × Int) × (Int × Int) × (Int × Int) × (Int × Int)))) := Sum.elim id (fun _ => default) (T_floor_by x0 x1 x2)
def C_floor_byV2 (x0 : Int) (x1 : Int) (x2 : (List Int)) : Prop := C_floor_by x0 x1 x2 ∧ ∃ v, T_floor_by x0 x1 x2 = .inl v
theorem f_floor_byV2 {st : Sto} (x0 : Int) (x1 : Int) (x2 : (List Int)) (h : C_floor_byV2 x0 x1 x2) : m_floor_by [cI x0, cI x1, (cT cI) x2] st = .ok ((cP3 (cP2 cI cI) (cP2 cI cI) (cT (cP4 (cP2 cI cI) (cP2 cI cI) (cP2 cI cI) (cP2 cI cI)))) (T_floor_byV2 x0 x1 x2)) st := by
  obtain ⟨h1, v, hv⟩ := h
  rw [f_floor_by x0 x1 x2 h1]
  unfold T_floor_byV2
  rw [hv]
  rfl
def t_law_5a  : Bool := false
theorem w_law_5a {st : Sto} {e0 e1 e2 e3 e4 e5 e6 e7 e8 e9 e10 : Option D}  : RtP st (b_law_5a [e0, e1, e2, e3, e4, e5, e6, e7, e8, e9, e10] (st ++ [])) (cB (t_law_5a)) :=
  rt_ret (d := cB false) (rfl) (fz_c fl_B)
def t_law_6a  : Bool := false
theorem w_law_6a {st : Sto} {e0 e1 e2 e3 e4 e5 e6 e7 e8 e9 e10 : Option D}  : RtP st (b_law_6a [e0, e1, e2, e3, e4, e5, e6, e7, e8, e9, e10] (st ++ [])) (cB (t_law_6a)) :=
  rt_ret (d := cB false) (rfl) (fz_c fl_B)
def t_law_8 (v_wide : Int) (v_high : Int) (v_sizes : (List Int)) (v_order : (List (Int × Int × Int))) (v_found : ((Int × Int) × (Int × Int) × (List ((Int × Int) × (Int × Int) × (Int × Int) × (Int × Int))))) : Bool := (decide (v_found = (T_l_whole_floor v_order v_wide v_high)) && decide ((T_code_ofV2 v_found) = v_sizes))
def c_law_8 (v_wide : Int) (v_high : Int) (v_sizes : (List Int)) (v_order : (List (Int × Int × Int))) (v_found : ((Int × Int) × (Int × Int) × (List ((Int × Int) × (Int × Int) × (Int × Int) × (Int × Int))))) : Prop := C_l_whole_floor v_order v_wide v_high ∧ (decide (v_found = (T_l_whole_floor v_order v_wide v_high)) = true → C_code_ofV2 v_found)
theorem w_law_8 {st : Sto} {e0 e1 e4 e5 e9 e10 : Option D} (v_wide : Int) (v_high : Int) (v_sizes : (List Int)) (v_order : (List (Int × Int × Int))) (v_found : ((Int × Int) × (Int × Int) × (List ((Int × Int) × (Int × Int) × (Int × Int) × (Int × Int))))) (h : c_law_8 v_wide v_high v_sizes v_order v_found) : RtP st (b_law_8 [e0, e1, some (cI v_wide), some (cI v_high), e4, e5, some ((cT cI) v_sizes), some ((cL (cP3 cI cI cI)) v_order), some ((cP3 (cP2 cI cI) (cP2 cI cI) (cT (cP4 (cP2 cI cI) (cP2 cI cI) (cP2 cI cI) (cP2 cI cI)))) v_found), e9, e10] (st ++ [])) (cB (t_law_8 v_wide v_high v_sizes v_order v_found)) :=
  rt_ret (d := cB (decide (v_found = (T_l_whole_floor v_order v_wide v_high)) && decide ((T_code_ofV2 v_found) = v_sizes))) (ev_andB (ev_op (a := (cP3 (cP2 cI cI) (cP2 cI cI) (cT (cP4 (cP2 cI cI) (cP2 cI cI) (cP2 cI cI) (cP2 cI cI)))) v_found) (b := (cP3 (cP2 cI cI) (cP2 cI cI) (cT (cP4 (cP2 cI cI) (cP2 cI cI) (cP2 cI cI) (cP2 cI cI)))) (T_l_whole_floor v_order v_wide v_high)) (ev_v rfl) (ev_call (ev_cons (a := (cL (cP3 cI cI cI)) v_order) (ev_v rfl) (ev_cons (a := cI v_wide) (ev_v rfl) (ev_cons (a := cI v_high) (ev_v rfl) (ev_nil)))) rfl (f_l_whole_floor v_order v_wide v_high h.1)) (eq_c (eq_P3 (eq_P2 eq_I eq_I) (eq_P2 eq_I eq_I) (eq_T (eq_P4 (eq_P2 eq_I eq_I) (eq_P2 eq_I eq_I) (eq_P2 eq_I eq_I) (eq_P2 eq_I eq_I)))))) (fun hg183 => ev_op (a := (cT cI) (T_code_ofV2 v_found)) (b := (cT cI) v_sizes) (ev_call (ev_cons (a := (cP3 (cP2 cI cI) (cP2 cI cI) (cT (cP4 (cP2 cI cI) (cP2 cI cI) (cP2 cI cI) (cP2 cI cI)))) v_found) (ev_v rfl) (ev_nil)) rfl (f_code_ofV2 v_found (h.2 hg183))) (ev_v rfl) (eq_c (eq_T eq_I)))) (fz_c fl_B)
def t_law_7 (v_wide : Int) (v_high : Int) (v_sizes : (List Int)) (v_order : (List (Int × Int × Int))) : Bool := t_law_8 v_wide v_high v_sizes v_order (T_floor_byV2 v_wide v_high v_sizes)
def c_law_7 (v_wide : Int) (v_high : Int) (v_sizes : (List Int)) (v_order : (List (Int × Int × Int))) : Prop := C_floor_byV2 v_wide v_high v_sizes ∧ c_law_8 v_wide v_high v_sizes v_order (T_floor_byV2 v_wide v_high v_sizes)
theorem w_law_7 {st : Sto} {e0 e1 e4 e5 e8 e9 e10 : Option D} (v_wide : Int) (v_high : Int) (v_sizes : (List Int)) (v_order : (List (Int × Int × Int))) (h : c_law_7 v_wide v_high v_sizes v_order) : RtP st (b_law_7 [e0, e1, some (cI v_wide), some (cI v_high), e4, e5, some ((cT cI) v_sizes), some ((cL (cP3 cI cI cI)) v_order), e8, e9, e10] (st ++ [])) (cB (t_law_7 v_wide v_high v_sizes v_order)) :=
  rt_nx (do_set (ev_call (ev_cons (a := cI v_wide) (ev_v rfl) (ev_cons (a := cI v_high) (ev_v rfl) (ev_cons (a := (cT cI) v_sizes) (ev_v rfl) (ev_nil)))) rfl (f_floor_byV2 v_wide v_high v_sizes h.1))) (w_law_8 (st := st) (e0 := e0) (e1 := e1) (e4 := e4) (e5 := e5) (e9 := e9) (e10 := e10)  v_wide v_high v_sizes v_order (T_floor_byV2 v_wide v_high v_sizes) h.2)
def t_law_6 (v_wide : Int) (v_high : Int) (v_sizes : (List Int)) (v_order : (List (Int × Int × Int))) : Bool := if (!decide (v_sizes = (v_order.map (fun (y3 : (Int × Int × Int)) => y3.2.2)))) = true then t_law_6a else t_law_7 v_wide v_high v_sizes v_order
def c_law_6 (v_wide : Int) (v_high : Int) (v_sizes : (List Int)) (v_order : (List (Int × Int × Int))) : Prop := v_order.length ≤ 1000000 ∧ ((!decide (v_sizes = (v_order.map (fun (y3 : (Int × Int × Int)) => y3.2.2)))) = false → c_law_7 v_wide v_high v_sizes v_order)
theorem w_law_6 {st : Sto} {e0 e1 e4 e5 e8 e9 e10 : Option D} (v_wide : Int) (v_high : Int) (v_sizes : (List Int)) (v_order : (List (Int × Int × Int))) (h : c_law_6 v_wide v_high v_sizes v_order) : RtP st (b_law_6 [e0, e1, some (cI v_wide), some (cI v_high), e4, e5, some ((cT cI) v_sizes), some ((cL (cP3 cI cI cI)) v_order), e8, e9, e10] (st ++ [])) (cB (t_law_6 v_wide v_high v_sizes v_order)) :=
  if_RX (e := cB) (tt_B (ev_op (a := (cT cI) v_sizes) (b := (cT cI) (v_order.map (fun (y3 : (Int × Int × Int)) => y3.2.2))) (ev_v rfl) (ev_B (ev_cons (ev_frz (ev_comp0 (cx := (cP3 cI cI cI)) (cy := cI) (xs := v_order) (f := (fun (y3 : (Int × Int × Int)) => y3.2.2)) (it_seq (c := (cP3 cI cI cI)) (ev_v rfl) (sq_L (c := (cP3 cI cI cI)) (xs := v_order))) (fun y3 hx182 => ⟨[e0, e1, some (cI v_wide), some (cI v_high), e4, e5, some ((cT cI) v_sizes), some ((cL (cP3 cI cI cI)) v_order), e8, e9, some ((cP3 cI cI cI) y3)], rfl, ev_op (ev_v rfl) (rfl) rfl⟩) h.1)) ev_nil) (tup_c (c := cI) (ls_L (c := cI) (xs := (v_order.map (fun (y3 : (Int × Int × Int)) => y3.2.2)))))) (ne_c (eq_T eq_I)))) (fun hc => w_law_6a (st := st) (e0 := e0) (e1 := e1) (e2 := some (cI v_wide)) (e3 := some (cI v_high)) (e4 := e4) (e5 := e5) (e6 := some ((cT cI) v_sizes)) (e7 := some ((cL (cP3 cI cI cI)) v_order)) (e8 := e8) (e9 := e9) (e10 := e10)  ) (fun hc => w_law_7 (st := st) (e0 := e0) (e1 := e1) (e4 := e4) (e5 := e5) (e8 := e8) (e9 := e9) (e10 := e10)  v_wide v_high v_sizes v_order (h.2 hc))
def t_law_5 (v_wide : Int) (v_high : Int) (v_sizes : (List Int)) (v_order : (List (Int × Int × Int))) : Bool := if ((!true) || ((v_sizes.map (fun (y1 : Int) => ((!true) || false))).any id)) = true then t_law_5a else t_law_6 v_wide v_high v_sizes v_order
def c_law_5 (v_wide : Int) (v_high : Int) (v_sizes : (List Int)) (v_order : (List (Int × Int × Int))) : Prop := ((!true) = false → v_sizes.length ≤ 1000000) ∧ (((!true) || ((v_sizes.map (fun (y1 : Int) => ((!true) || false))).any id)) = false → c_law_6 v_wide v_high v_sizes v_order)
theorem w_law_5 {st : Sto} {e0 e1 e4 e5 e8 e9 e10 : Option D} (v_wide : Int) (v_high : Int) (v_sizes : (List Int)) (v_order : (List (Int × Int × Int))) (h : c_law_5 v_wide v_high v_sizes v_order) : RtP st (b_law_5 [e0, e1, some (cI v_wide), some (cI v_high), e4, e5, some ((cT cI) v_sizes), some ((cL (cP3 cI cI cI)) v_order), e8, e9, e10] (st ++ [])) (cB (t_law_5 v_wide v_high v_sizes v_order)) :=
  if_RX (e := cB) (tt_or (tt_not (tt_tru (ev_isi (t := .tup) (d := (cT cI) v_sizes) (ev_v rfl) rfl) rfl)) (fun hg175 => tt_tru (ev_B (ev_cons (ev_frz (ev_comp0 (cx := cI) (cy := cB) (xs := v_sizes) (f := (fun (y1 : Int) => ((!true) || false))) (it_seq (c := cI) (ev_v rfl) (sq_T (c := cI) (xs := v_sizes))) (fun y1 hx177 => ⟨[e0, e1, some (cI v_wide), some (cI v_high), e4, e5, some ((cT cI) v_sizes), some ((cL (cP3 cI cI cI)) v_order), e8, some (cI y1), e10], rfl, ev_orB (ev_notD (ev_isi (t := .int) (d := cI y1) (ev_v rfl) rfl) rfl) (fun hg178 => ev_isi (t := .int) (d := cI y1) (ev_v rfl) rfl)⟩) (h.1 hg175))) ev_nil) (any_c (ls_L (c := cB) (xs := (v_sizes.map (fun (y1 : Int) => ((!true) || false))))))) rfl)) (fun hc => w_law_5a (st := st) (e0 := e0) (e1 := e1) (e2 := some (cI v_wide)) (e3 := some (cI v_high)) (e4 := e4) (e5 := e5) (e6 := some ((cT cI) v_sizes)) (e7 := some ((cL (cP3 cI cI cI)) v_order)) (e8 := e8) (e9 := e9) (e10 := e10)  ) (fun hc => w_law_6 (st := st) (e0 := e0) (e1 := e1) (e4 := e4) (e5 := e5) (e8 := e8) (e9 := e9) (e10 := e10)  v_wide v_high v_sizes v_order (h.2 hc))
def t_law_4 (v_squares : (List (Int × Int × Int))) (v_wide : Int) (v_high : Int) (v_sizes : (List Int)) : Bool := t_law_5 v_wide v_high v_sizes (T_l_hung v_squares)
def c_law_4 (v_squares : (List (Int × Int × Int))) (v_wide : Int) (v_high : Int) (v_sizes : (List Int)) : Prop := c_law_5 v_wide v_high v_sizes (T_l_hung v_squares)
theorem w_law_4 {st : Sto} {e0 e4 e5 e7 e8 e9 e10 : Option D} (v_squares : (List (Int × Int × Int))) (v_wide : Int) (v_high : Int) (v_sizes : (List Int)) (h : c_law_4 v_squares v_wide v_high v_sizes) : RtP st (b_law_4 [e0, some ((cL (cP3 cI cI cI)) v_squares), some (cI v_wide), some (cI v_high), e4, e5, some ((cT cI) v_sizes), e7, e8, e9, e10] (st ++ [])) (cB (t_law_4 v_squares v_wide v_high v_sizes)) :=
  rt_nx (do_set (ev_call (ev_cons (a := (cL (cP3 cI cI cI)) v_squares) (ev_v rfl) (ev_nil)) rfl (f_l_hung v_squares))) (w_law_5 (st := st) (e0 := e0) (e1 := some ((cL (cP3 cI cI cI)) v_squares)) (e4 := e4) (e5 := e5) (e8 := e8) (e9 := e9) (e10 := e10)  v_wide v_high v_sizes (T_l_hung v_squares) h)
def t_law_3 (v_squares : (List (Int × Int × Int))) (v_wide : Int) (v_high : Int) (v_floor : ((Int × Int) × (Int × Int) × (List ((Int × Int) × (Int × Int) × (Int × Int) × (Int × Int))))) : Bool := t_law_4 v_squares v_wide v_high (T_code_ofV2 v_floor)
def c_law_3 (v_squares : (List (Int × Int × Int))) (v_wide : Int) (v_high : Int) (v_floor : ((Int × Int) × (Int × Int) × (List ((Int × Int) × (Int × Int) × (Int × Int) × (Int × Int))))) : Prop := C_code_ofV2 v_floor ∧ c_law_4 v_squares v_wide v_high (T_code_ofV2 v_floor)
theorem w_law_3 {st : Sto} {e0 e4 e6 e7 e8 e9 e10 : Option D} (v_squares : (List (Int × Int × Int))) (v_wide : Int) (v_high : Int) (v_floor : ((Int × Int) × (Int × Int) × (List ((Int × Int) × (Int × Int) × (Int × Int) × (Int × Int))))) (h : c_law_3 v_squares v_wide v_high v_floor) : RtP st (b_law_3 [e0, some ((cL (cP3 cI cI cI)) v_squares), some (cI v_wide), some (cI v_high), e4, some ((cP3 (cP2 cI cI) (cP2 cI cI) (cT (cP4 (cP2 cI cI) (cP2 cI cI) (cP2 cI cI) (cP2 cI cI)))) v_floor), e6, e7, e8, e9, e10] (st ++ [])) (cB (t_law_3 v_squares v_wide v_high v_floor)) :=
  rt_nx (do_set (ev_call (ev_cons (a := (cP3 (cP2 cI cI) (cP2 cI cI) (cT (cP4 (cP2 cI cI) (cP2 cI cI) (cP2 cI cI) (cP2 cI cI)))) v_floor) (ev_v rfl) (ev_nil)) rfl (f_code_ofV2 v_floor h.1))) (w_law_4 (st := st) (e0 := e0) (e4 := e4) (e5 := some ((cP3 (cP2 cI cI) (cP2 cI cI) (cT (cP4 (cP2 cI cI) (cP2 cI cI) (cP2 cI cI) (cP2 cI cI)))) v_floor)) (e7 := e7) (e8 := e8) (e9 := e9) (e10 := e10)  v_squares v_wide v_high (T_code_ofV2 v_floor) h.2)
def t_law_2 (v_squares : (List (Int × Int × Int))) (v_wide : Int) (v_high : Int) (v_turn : Int) : Bool := t_law_3 v_squares v_wide v_high (T_l_whole_floor ((cutL v_squares (some v_turn) none) ++ (cutL v_squares none (some v_turn))) v_wide v_high)
def c_law_2 (v_squares : (List (Int × Int × Int))) (v_wide : Int) (v_high : Int) (v_turn : Int) : Prop := (cutL v_squares (some v_turn) none).length + (cutL v_squares none (some v_turn)).length ≤ 1000000 ∧ C_l_whole_floor ((cutL v_squares (some v_turn) none) ++ (cutL v_squares none (some v_turn))) v_wide v_high ∧ c_law_3 v_squares v_wide v_high (T_l_whole_floor ((cutL v_squares (some v_turn) none) ++ (cutL v_squares none (some v_turn))) v_wide v_high)
theorem w_law_2 {st : Sto} {e0 e5 e6 e7 e8 e9 e10 : Option D} (v_squares : (List (Int × Int × Int))) (v_wide : Int) (v_high : Int) (v_turn : Int) (h : c_law_2 v_squares v_wide v_high v_turn) : RtP st (b_law_2 [e0, some ((cL (cP3 cI cI cI)) v_squares), some (cI v_wide), some (cI v_high), some (cI v_turn), e5, e6, e7, e8, e9, e10] (st ++ [])) (cB (t_law_2 v_squares v_wide v_high v_turn)) :=
  rt_nx (do_set (ev_call (ev_cons (a := (cL (cP3 cI cI cI)) ((cutL v_squares (some v_turn) none) ++ (cutL v_squares none (some v_turn)))) (ev_op (ev_sl (ev_v rfl) (ev_oSome (ev_v rfl)) (rfl) (sl_l (ls_L (c := (cP3 cI cI cI)) (xs := v_squares)))) (ev_sl (ev_v rfl) (rfl) (ev_oSome (ev_v rfl)) (sl_l (ls_L (c := (cP3 cI cI cI)) (xs := v_squares)))) (add_l (c := (cP3 cI cI cI)) (md_L (c := (cP3 cI cI cI)) (xs := (cutL v_squares (some v_turn) none))) (md_L (c := (cP3 cI cI cI)) (xs := (cutL v_squares none (some v_turn)))) h.1)) (ev_cons (a := cI v_wide) (ev_v rfl) (ev_cons (a := cI v_high) (ev_v rfl) (ev_nil)))) rfl (f_l_whole_floor ((cutL v_squares (some v_turn) none) ++ (cutL v_squares none (some v_turn))) v_wide v_high h.2.1))) (w_law_3 (st := st) (e0 := e0) (e4 := some (cI v_turn)) (e6 := e6) (e7 := e7) (e8 := e8) (e9 := e9) (e10 := e10)  v_squares v_wide v_high (T_l_whole_floor ((cutL v_squares (some v_turn) none) ++ (cutL v_squares none (some v_turn))) v_wide v_high) h.2.2)
def t_law_1 (v_script : (List Int)) (v_squares : (List (Int × Int × Int))) (v_wide : Int) (v_high : Int) : Bool := t_law_2 v_squares v_wide v_high (Int.fmod (T_l_cell_at v_script (0 : Int)) (v_squares.length : Int))
def c_law_1 (v_script : (List Int)) (v_squares : (List (Int × Int × Int))) (v_wide : Int) (v_high : Int) : Prop := C_l_cell_at v_script (0 : Int) ∧ (v_squares.length : Int) ≠ 0 ∧ c_law_2 v_squares v_wide v_high (Int.fmod (T_l_cell_at v_script (0 : Int)) (v_squares.length : Int))
theorem w_law_1 {st : Sto} {e4 e5 e6 e7 e8 e9 e10 : Option D} (v_script : (List Int)) (v_squares : (List (Int × Int × Int))) (v_wide : Int) (v_high : Int) (h : c_law_1 v_script v_squares v_wide v_high) : RtP st (b_law_1 [some (cZ v_script), some ((cL (cP3 cI cI cI)) v_squares), some (cI v_wide), some (cI v_high), e4, e5, e6, e7, e8, e9, e10] (st ++ [])) (cB (t_law_1 v_script v_squares v_wide v_high)) :=
  rt_nx (do_set (ev_op (a := cI (T_l_cell_at v_script (0 : Int))) (b := cI (v_squares.length : Int)) (ev_call (ev_cons (a := cZ v_script) (ev_v rfl) (ev_cons (a := cI (0 : Int)) (rfl) (ev_nil))) rfl (f_l_cell_at v_script (0 : Int) h.1)) (ev_B (ev_cons (ev_v rfl) ev_nil) (len_c (c := (cP3 cI cI cI)) (sq_L (c := (cP3 cI cI cI)) (xs := v_squares)))) (mod_c h.2.1))) (w_law_2 (st := st) (e0 := some (cZ v_script)) (e5 := e5) (e6 := e6) (e7 := e7) (e8 := e8) (e9 := e9) (e10 := e10)  v_squares v_wide v_high (Int.fmod (T_l_cell_at v_script (0 : Int)) (v_squares.length : Int)) h.2.2)
def t_lawq (v_script : (List Int)) (q : ((List (Int × Int × Int)) × Int × Int)) : Bool := t_law_1 v_script q.1 q.2.1 q.2.2
def c_lawq (v_script : (List Int)) (q : ((List (Int × Int × Int)) × Int × Int)) : Prop := c_law_1 v_script q.1 q.2.1 q.2.2
def t_law (v_script : (List Int)) : Bool := t_lawq v_script (T_l_square_floor v_script (1 : Int) (26 : Int) (14 : Int))
def c_law (v_script : (List Int)) : Prop := C_l_square_floor v_script (1 : Int) (26 : Int) (14 : Int) ∧ c_lawq v_script (T_l_square_floor v_script (1 : Int) (26 : Int) (14 : Int))
theorem w_law {st : Sto} {e1 e2 e3 e4 e5 e6 e7 e8 e9 e10 : Option D} (v_script : (List Int)) (h : c_law v_script) : RtP st (b_law [some (cZ v_script), e1, e2, e3, e4, e5, e6, e7, e8, e9, e10] (st ++ [])) (cB (t_law v_script)) :=
  rt_nx (do_asg (env' := [some (cZ v_script), some ((cL (cP3 cI cI cI)) (T_l_square_floor v_script (1 : Int) (26 : Int) (14 : Int)).1), some (cI (T_l_square_floor v_script (1 : Int) (26 : Int) (14 : Int)).2.1), some (cI (T_l_square_floor v_script (1 : Int) (26 : Int) (14 : Int)).2.2), e4, e5, e6, e7, e8, e9, e10]) (ev_call (ev_cons (a := cZ v_script) (ev_v rfl) (ev_cons (a := cI (1 : Int)) (rfl) (ev_cons (a := cI (26 : Int)) (rfl) (ev_cons (a := cI (14 : Int)) (rfl) (ev_nil))))) rfl (f_l_square_floor v_script (1 : Int) (26 : Int) (14 : Int) h.1)) rfl) (w_law_1 (st := st) (e4 := e4) (e5 := e5) (e6 := e6) (e7 := e7) (e8 := e8) (e9 := e9) (e10 := e10)  v_script ((T_l_square_floor v_script (1 : Int) (26 : Int) (14 : Int)).1) ((T_l_square_floor v_script (1 : Int) (26 : Int) (14 : Int)).2.1) ((T_l_square_floor v_script (1 : Int) (26 : Int) (14 : Int)).2.2) h.2)
def T_law (v_script : (List Int)) : Bool := t_law v_script
def C_law (v_script : (List Int)) : Prop := c_law v_script
theorem f_law {st : Sto} (v_script : (List Int)) (h : C_law v_script) : m_law [cZ v_script] st = .ok (cB (T_law v_script)) st :=
  RtP.enter (b := b_law) (env := [some (cZ v_script), none, none, none, none, none, none, none, none, none, none]) (w_law (st := st) (e1 := none) (e2 := none) (e3 := none) (e4 := none) (e5 := none) (e6 := none) (e7 := none) (e8 := none) (e9 := none) (e10 := none)  v_script h)
end K52

namespace K52
open PySem FL
variable [TabCtx]

theorem less_eq {s t a b : Int} (h : Sc s t) (ha : Sm a) (hb : Sm b) : C_less (scN s t a) (scN s t b) ∧ T_less (scN s t a) (scN s t b) = decide (a < b) := by
  obtain ⟨a1, a2, a3⟩ := scN_sz h ha
  obtain ⟨b1, b2, b3⟩ := scN_sz h hb
  simp only [t_less, T_less, c_less, C_less]
  refine ⟨⟨mulOk_of (lt_mono a1 (by decide)) (lt_mono b3 (by decide)), mulOk_of (lt_mono b1 (by decide)) (lt_mono a3 (by decide))⟩, ?_⟩
  rw [decide_eq_decide]
  exact lt_scaled h.1.1 h.2.1
theorem covered_eq {s t : Int} {c : Bx} {bs : List Bx} (h : Sc s t) (hc : BxS c) (hb : ∀ b ∈ bs, BxS b) : C_is_covered (scR s t c) (bs.map (scR s t)) ∧ T_is_covered (scR s t c) (bs.map (scR s t)) = covB c bs := by
  obtain ⟨c1, c2, c3, c4⟩ := hc
  simp only [t_is_covered_0a_0a_0a, t_is_covered_0a_0a_1, t_is_covered_0a_0a, t_is_covered_0a_0b, t_is_covered_0a_1, t_is_covered_0aq, t_is_covered_0a, t_is_covered_1, t_is_coveredq, t_is_covered, T_is_covered, c_is_covered_0a_0a, c_is_covered_0a, c_is_covered, C_is_covered]
  refine ⟨cForR_all fun _ x hx => ?_, ?_⟩
  · obtain ⟨b, hbm, rfl⟩ := List.mem_map.mp hx
    obtain ⟨b1, b2, b3, b4⟩ := hb b hbm
    exact ⟨(less_eq h c1 b1).1, fun _ => (less_eq h c2 b2).1, fun _ => ⟨(less_eq h b3 c3).1, fun _ => (less_eq h b4 c4).1⟩⟩
  · rw [forR_unit (p := fun x : Rc => (!(T_less (scR s t c).1 x.1) && !(T_less (scR s t c).2.1 x.2.1)) && (!(T_less x.2.2.1 (scR s t c).2.2.1) && !(T_less x.2.2.2 (scR s t c).2.2.2))) (r := true) (fun x _ => by
      cases (!(T_less (scR s t c).1 x.1) && !(T_less (scR s t c).2.1 x.2.1)) <;> cases (!(T_less x.2.2.1 (scR s t c).2.2.1) && !(T_less x.2.2.2 (scR s t c).2.2.2)) <;> rfl)]
    rw [List.any_map]
    have e : bs.any ((fun x : Rc => (!(T_less (scR s t c).1 x.1) && !(T_less (scR s t c).2.1 x.2.1)) && (!(T_less x.2.2.1 (scR s t c).2.2.1) && !(T_less x.2.2.2 (scR s t c).2.2.2))) ∘ scR s t) = covB c bs := by
      unfold covB
      refine any_congr fun b hbm => ?_
      obtain ⟨b1, b2, b3, b4⟩ := hb b hbm
      show ((!(T_less (scN s t c.1) (scN s t b.1)) && !(T_less (scN s t c.2.1) (scN s t b.2.1))) && (!(T_less (scN s t b.2.2.1) (scN s t c.2.2.1)) && !(T_less (scN s t b.2.2.2) (scN s t c.2.2.2)))) = _
      rw [(less_eq h c1 b1).2, (less_eq h c2 b2).2, (less_eq h b3 c3).2, (less_eq h b4 c4).2]
      simp only [← decide_not, ← Bool.decide_and, Int.not_lt]
    rw [e]
    cases covB c bs <;> rfl
theorem rising_step {s t x : Int} {l : List Int} (h : Sc s t) (hx : Sm x) (hl : ∀ y ∈ l, Sm y) (hlen : l.length ≤ 1000) : c_rising_1a (l.map (scN s t)) (scN s t x) ∧ t_rising_1a (l.map (scN s t)) (scN s t x) = (insU x l).map (scN s t) := by
  simp only [c_rising_1a, t_rising_1a, c_rising_1a_1, t_rising_1a_1, t_rising_1a_1a, t_rising_1a_1a_1, c_rising_1a_1q, t_rising_1a_1q, c_rising_1a_2, t_rising_1a_2, c_rising_1a_2a, t_rising_1a_2a, t_rising_1a_2a_1, t_rising_1a_2b, t_rising_1a_2q, t_rising_1a_3]
  have hget : ∀ k : Nat, k < l.length → getI (l.map (scN s t)) (k : Int) = scN s t (l.getD k 0) := fun k hk => by
    rw [getI_map (ixOk_of (by omega) (by omega)), getI_nat]
    rfl
  have hsm : ∀ k : Nat, k < l.length → Sm (l.getD k 0) := fun k hk => by
    rw [List.getD_eq_getElem?_getD, List.getElem?_eq_getElem hk]
    exact hl _ (List.getElem_mem _)
  obtain ⟨w1, j, w2, w3, w4, w5, w6⟩ := count_wh (m := l.length) (p := fun k => decide (l.getD k 0 < x)) (c := fun _ => True)
    (cb := fun k => decide (k < (((l.map (scN s t)).length : Nat) : Int)) = true → IxOk (l.map (scN s t)).length k ∧ C_less (getI (l.map (scN s t)) k) (scN s t x))
    (b := fun k => decide (k < (((l.map (scN s t)).length : Nat) : Int)) && T_less (getI (l.map (scN s t)) k) (scN s t x)) (fun k hk => by
      simp only [List.length_map]
      by_cases q : k < l.length
      · rw [hget k q, (less_eq h (hsm k q) hx).2, decide_eq_true (show (k : Int) < (l.length : Int) by omega), Bool.true_and, decide_eq_decide]
        simp [q]
      · rw [decide_eq_false (show ¬ (k : Int) < (l.length : Int) by omega), Bool.false_and]
        simp [q]) (fun k hk q => by
      simp only [List.length_map] at q ⊢
      have q2 : k < l.length := by simpa using q
      rw [hget k q2]
      exact ⟨ixOk_of (by omega) (by omega), (less_eq h (hsm k q2) hx).1⟩) (fun _ => trivial) fuelB 0 (by omega) (fuelB_big (by omega))
  have w2' := w2
  have w1' := w1
  simp only [Int.natCast_zero] at w1' w2'
  have ej : j = posU x l := posU_of w4 (fun i hi => by simpa using w5 i (by omega) hi) (fun hj => by simpa using w6 hj)
  simp only [w2']
  rw [insU_pos, ← ej]
  have hcond : (decide ((j : Int) = (((l.map (scN s t)).length : Nat) : Int)) || !decide (getI (l.map (scN s t)) (j : Int) = scN s t x)) = decide (j = l.length ∨ l[j]? ≠ some x) := by
    rw [List.length_map]
    by_cases q : j < l.length
    · rw [hget j q, decide_eq_false (show ¬ (j : Int) = (l.length : Int) by omega), Bool.false_or, ← decide_not, decide_eq_decide]
      rw [scN_inj h, List.getElem?_eq_getElem q, List.getD_eq_getElem?_getD, List.getElem?_eq_getElem q]
      simp only [Option.getD_some, Option.some.injEq, ne_eq]
      constructor
      · intro k; exact .inr k
      · rintro (k | k)
        · omega
        · exact k
    · have e : j = l.length := by omega
      rw [decide_eq_true (show (j : Int) = (l.length : Int) by omega), Bool.true_or, decide_eq_true (.inl e)]
  refine ⟨⟨w1', fun q => ixOk_of (by omega) (by have q2 := of_decide_eq_false q; rw [List.length_map] at q2 ⊢; omega), fun _ => ⟨by rw [List.length_map]; omega, by omega, by omega⟩⟩, ?_⟩
  rw [hcond]
  by_cases q : j = l.length ∨ l[j]? ≠ some x
  · rw [decide_eq_true q, if_pos rfl, if_pos q]
    unfold insI2
    simp [List.map_take, List.map_drop]
  · rw [decide_eq_false q, if_neg q]
    rfl
theorem insU_len {x : Int} : ∀ {l : List Int}, (insU x l).length ≤ l.length + 1
  | [] => by simp [insU]
  | y :: r => by
    unfold insU
    split
    · have := insU_len (x := x) (l := r); simp only [List.length_cons]; omega
    · split <;> simp
theorem rising_eq {s t : Int} {l : List Int} (h : Sc s t) (hl : ∀ y ∈ l, Sm y) (hlen : l.length ≤ 900) : C_rising (l.map (scN s t)) ∧ T_rising (l.map (scN s t)) = (risU l).map (scN s t) := by
  simp only [C_rising, T_rising, c_rising, t_rising, c_rising_1, t_rising_1, t_rising_1q, t_rising_2]
  obtain ⟨k1, k2⟩ := cFold_pre0 (c := fun (s_1 : List Fr) (x : Fr) => c_rising_1a s_1 x) (t := fun (s_1 : List Fr) (x : Fr) => t_rising_1a s_1 x) (xs := l.map (scN s t)) (s := [])
    (fun pre r => ∃ p : List Int, pre = p.map (scN s t) ∧ p.length = pre.length ∧ (∀ y ∈ p, Sm y) ∧ r = (risU p).map (scN s t) ∧ (risU p).length ≤ p.length) (fun pre x post r e ⟨p, p1, p2, p3, p4, p5⟩ => by
      have hx : x ∈ l.map (scN s t) := by rw [e]; simp
      obtain ⟨y, hy, rfl⟩ := List.mem_map.mp hx
      have hpl : pre.length ≤ 900 := by
        have := congrArg List.length e
        simp only [List.length_map, List.length_append] at this
        omega
      obtain ⟨q1, q2⟩ := rising_step (x := y) (l := risU p) h (hl y hy) (fun z hz => p3 z (mem_risU.mp hz)) (by omega)
      rw [p4]
      have e2 : risU (p ++ [y]) = insU y (risU p) := by unfold risU; rw [List.foldl_append]; rfl
      refine ⟨q1, p ++ [y], by rw [p1, List.map_append]; rfl, by simp [p2], fun z hz => ?_, by rw [q2, e2], by rw [e2]; have := insU_len (x := y) (l := risU p); simp only [List.length_append, List.length_singleton]; omega⟩
      rcases List.mem_append.mp hz with hz | hz
      · exact p3 z hz
      · rw [List.mem_singleton.mp hz]; exact hl y hy) ⟨[], rfl, rfl, by simp, rfl, by simp [risU]⟩
  obtain ⟨p, p1, p2, p3, p4, p5⟩ := k2
  refine ⟨k1, ?_⟩
  rw [p4]
  have : p = l := by
    refine List.map_inj_right (f := scN s t) (fun a b q => (scN_inj h).mp q) |>.mp p1.symm
  rw [this]
theorem overlap_eq {s t : Int} {a b : Bx} (h : Sc s t) (ha : BxS a) (hb : BxS b) : C_overlap (scR s t a) (scR s t b) ∧ T_overlap (scR s t a) (scR s t b) = meetB a b := by
  obtain ⟨a1, a2, a3, a4⟩ := ha
  obtain ⟨b1, b2, b3, b4⟩ := hb
  simp only [t_overlap_0a, t_overlap_1a, t_overlap_2, t_overlap_1, t_overlap, T_overlap, c_overlap_2, c_overlap_1, c_overlap, C_overlap]
  unfold scR meetB
  simp only [(less_eq h a1 b3).2, (less_eq h b1 a3).2, (less_eq h a2 b4).2, (less_eq h b2 a4).2, scN_inj h]
  refine ⟨fun _ => ⟨(less_eq h a1 b3).1, fun _ => (less_eq h b1 a3).1, fun _ => ⟨(less_eq h a2 b4).1, fun _ => (less_eq h b2 a4).1⟩⟩, ?_⟩
  rw [Bool.eq_iff_iff]
  simp only [Bool.or_eq_true, decide_eq_true_eq, Bool.not_eq_true', decide_eq_false_iff_not]
  split
  · simp only [Bool.false_eq_true, false_iff]; omega
  · split
    · simp only [Bool.false_eq_true, false_iff]; omega
    · simp only [Bool.and_eq_true, decide_eq_true_eq]; omega
theorem none_eq {s t : Int} {a : Bx} (h : Sc s t) (ha : BxS a) : C_is_none (scR s t a) ∧ T_is_none (scR s t a) = noneB a := by
  obtain ⟨a1, a2, a3, a4⟩ := ha
  simp only [t_is_none_1a, t_is_none_2, t_is_none_1, t_is_none, T_is_none, c_is_none_1, c_is_none, C_is_none]
  unfold scR noneB
  simp only [(less_eq h a3 a1).2, (less_eq h a4 a2).2, scN_inj h]
  refine ⟨⟨(less_eq h a3 a1).1, fun _ => (less_eq h a4 a2).1⟩, ?_⟩
  rw [← Bool.or_assoc]
  cases q : (decide (a.2.2.1 < a.1) || decide (a.2.2.2 < a.2.1)) with
  | true => rfl
  | false =>
    simp only [Bool.false_eq_true, if_false, Bool.false_or]
    cases decide (a.1 = a.2.2.1) <;> cases decide (a.2.1 = a.2.2.2) <;> rfl
theorem out_eq {s t w hh : Int} {a : Bx} (h : Sc s t) (ha : BxS a) (hw : Sm w) (hh' : Sm hh) : C_is_out (scR s t a) (scN s t w) (scN s t hh) ∧ T_is_out (scR s t a) (scN s t w) (scN s t hh) = outB w hh a := by
  obtain ⟨a1, a2, a3, a4⟩ := ha
  have z : Sm 0 := by unfold Sm; decide
  simp only [t_is_out_1, t_is_out, T_is_out, c_is_out_1, c_is_out, C_is_out]
  rw [← scN_zero h]
  unfold scR outB
  simp only [(less_eq h a1 z).2, (less_eq h a2 z).2, (less_eq h hw a3).2, (less_eq h hh' a4).2]
  exact ⟨⟨(less_eq h a1 z).1, fun _ => ⟨(less_eq h a2 z).1, fun _ => ⟨(less_eq h hw a3).1, fun _ => (less_eq h hh' a4).1⟩⟩⟩, by first | rfl | trivial⟩
theorem over_eq {s t : Int} {bs : List Bx} (h : Sc s t) (hb : ∀ b ∈ bs, BxS b) (hl : bs.length ≤ 900) : C_first_overlap (bs.map (scR s t)) ∧ T_first_overlap (bs.map (scR s t)) = (overP bs).map fun p => (("overlap" : PySem.Str), p.1, p.2) := by
  simp only [t_first_overlap_0a_0a_0a, t_first_overlap_0a_0a_1, t_first_overlap_0a_0a, t_first_overlap_0a_1, t_first_overlap_0aq, t_first_overlap_0a, t_first_overlap_1, t_first_overlapq, t_first_overlap, T_first_overlap, c_first_overlap_0a_0a, c_first_overlap_0a, c_first_overlap, C_first_overlap, List.length_map]
  have hg : ∀ k : Int, 0 ≤ k → k < bs.length → getI (bs.map (scR s t)) k = scR s t (getI bs k) ∧ BxS (getI bs k) := fun k k0 k1 => ⟨getI_map (ixOk_of k0 k1), hb _ (getI_mem (ixOk_of k0 k1))⟩
  have hin : ∀ p ∈ enumI bs, BxS p.2 ∧ 0 ≤ p.1 ∧ p.1 < bs.length := fun p hp => by
    obtain ⟨k, e, hk⟩ := mem_enumI.mp hp
    have := (List.getElem?_eq_some_iff.mp hk).1
    exact ⟨hb _ (List.mem_of_getElem? hk), by omega, by omega⟩
  rw [enumI_map]
  refine ⟨cForR_all fun _ x hx => ?_, ?_⟩
  · obtain ⟨p, hp, rfl⟩ := List.mem_map.mp hx
    obtain ⟨p1, p2, p3⟩ := hin p hp
    refine ⟨⟨by omega, by simp only; omega⟩, ⟨by omega, by omega⟩, cForR_all fun _ k hk => ?_⟩
    rw [mem_rngI] at hk
    simp only at hk
    obtain ⟨g1, g2⟩ := hg k (by omega) hk.2
    rw [g1]
    exact ⟨ixOk_of (by omega) hk.2, (overlap_eq h p1 g2).1⟩
  · rw [forR_find (f := fun p : Int × Rc => (rngI (p.1 + 1) (bs.length : Int)).findSome? fun k => if T_overlap p.2 (getI (bs.map (scR s t)) k) = true then some (some (("overlap" : PySem.Str), p.1, k)) else none) (fun x hx => by
      refine outM_find (forR_find fun k _ => ?_) _ rfl
      split <;> rfl)]
    rw [List.findSome?_map]
    have e : (enumI bs).findSome? ((fun p : Int × Rc => (rngI (p.1 + 1) (bs.length : Int)).findSome? fun k => if T_overlap p.2 (getI (bs.map (scR s t)) k) = true then some (some (("overlap" : PySem.Str), p.1, k)) else none) ∘ fun p => (p.1, scR s t p.2)) =
        (overP bs).map fun p => some (("overlap" : PySem.Str), p.1, p.2) := by
      unfold overP
      rw [List.map_findSome?]
      refine findSome_congr fun p hp => ?_
      obtain ⟨p1, p2, p3⟩ := hin p hp
      simp only [Function.comp]
      rw [List.map_findSome?]
      refine findSome_congr fun k hk => ?_
      rw [mem_rngI] at hk
      obtain ⟨g1, g2⟩ := hg k (by omega) hk.2
      rw [g1, (overlap_eq h p1 g2).2]
      simp only [Function.comp]
      split <;> rfl
    rw [e]
    cases overP bs <;> rfl
theorem nbr_cut {α : Type} {l : List α} : l.zip (cutL l (some 1) none) = nbr l := by
  unfold nbr
  rw [cut_from (by decide)]
  rfl
theorem gap_eq {s t w hh : Int} {bs : List Bx} (h : Sc s t) (hb : ∀ b ∈ bs, BxS b) (hw : Sm w) (hh' : Sm hh) (hl : bs.length ≤ 400) :
    C_first_gap (scN s t w, scN s t hh, bs.map (scR s t)) ∧ T_first_gap (scN s t w, scN s t hh, bs.map (scR s t)) = (gapP w hh bs).map fun b => (("gap" : PySem.Str), scN s t b.1, scN s t b.2.1, scN s t b.2.2.1, scN s t b.2.2.2) := by
  have z : Sm 0 := by unfold Sm; decide
  have ha : ∀ y ∈ [0, w] ++ bs.map (·.1) ++ bs.map (·.2.2.1), Sm y := fun y hy => by
    simp only [List.mem_append, List.mem_cons, List.not_mem_nil, or_false, List.mem_map] at hy
    rcases hy with ((rfl | rfl) | ⟨b, hbm, rfl⟩) | ⟨b, hbm, rfl⟩
    · exact z
    · exact hw
    · exact (hb b hbm).1
    · exact (hb b hbm).2.2.1
  have hu : ∀ y ∈ [0, hh] ++ bs.map (·.2.1) ++ bs.map (·.2.2.2), Sm y := fun y hy => by
    simp only [List.mem_append, List.mem_cons, List.not_mem_nil, or_false, List.mem_map] at hy
    rcases hy with ((rfl | rfl) | ⟨b, hbm, rfl⟩) | ⟨b, hbm, rfl⟩
    · exact z
    · exact hh'
    · exact (hb b hbm).2.1
    · exact (hb b hbm).2.2.2
  have ea : [((0 : Int), (1 : Int)), scN s t w] ++ (bs.map (scR s t)).map (fun y => y.1) ++ (bs.map (scR s t)).map (fun y => y.2.2.1) = ([0, w] ++ bs.map (·.1) ++ bs.map (·.2.2.1)).map (scN s t) := by
    simp only [List.map_append, List.map_map, List.map_cons, List.map_nil, scN_zero h]
    rfl
  have eu : [((0 : Int), (1 : Int)), scN s t hh] ++ (bs.map (scR s t)).map (fun y => y.2.1) ++ (bs.map (scR s t)).map (fun y => y.2.2.2) = ([0, hh] ++ bs.map (·.2.1) ++ bs.map (·.2.2.2)).map (scN s t) := by
    simp only [List.map_append, List.map_map, List.map_cons, List.map_nil, scN_zero h]
    rfl
  obtain ⟨ra1, ra2⟩ := rising_eq h ha (by simp; omega)
  obtain ⟨ru1, ru2⟩ := rising_eq h hu (by simp; omega)
  simp only [C_first_gap, T_first_gap, c_first_gap, t_first_gap, c_first_gap_1, t_first_gap_1, c_first_gap_2, t_first_gap_2]
  rw [ea, eu, ra2, ru2]
  have aS : ∀ y ∈ acrossP w bs, Sm y := fun y hy => ha y (mem_risU.mp hy)
  have uS : ∀ y ∈ upwardP hh bs, Sm y := fun y hy => hu y (mem_risU.mp hy)
  have e1 : risU ([0, w] ++ bs.map (·.1) ++ bs.map (·.2.2.1)) = acrossP w bs := rfl
  have e2 : risU ([0, hh] ++ bs.map (·.2.1) ++ bs.map (·.2.2.2)) = upwardP hh bs := rfl
  rw [e1, e2]
  have hcell : ∀ u ∈ nbr (upwardP hh bs), ∀ a ∈ nbr (acrossP w bs), BxS (a.1, u.1, a.2, u.2) := fun u hu' a ha' => by
    obtain ⟨p, q⟩ := u
    obtain ⟨r, v⟩ := a
    obtain ⟨_, k2, k3, _⟩ := nbr_gap risU_sorted hu'
    obtain ⟨_, l2, l3, _⟩ := nbr_gap risU_sorted ha'
    exact ⟨aS r l2, uS p k2, aS v l3, uS q k3⟩
  simp only [c_first_gap_3, t_first_gap_3, c_first_gap_3a, t_first_gap_3a, c_first_gap_3a_0a, t_first_gap_3a_0a, t_first_gap_3a_0a_0a, t_first_gap_3a_0a_1, t_first_gap_3a_1, nbr_cut, nbr_map]
  refine ⟨⟨by rw [List.length_map]; omega, by simp; omega, by rw [List.length_map]; omega, by simp; omega, ra1, by rw [List.length_map]; omega, by simp; omega, by rw [List.length_map]; omega, by simp; omega, ru1, cForR_all fun _ x hx => cForR_all fun _ y hy => ?_⟩, ?_⟩
  · obtain ⟨u, hu', rfl⟩ := List.mem_map.mp hx
    obtain ⟨a, ha', rfl⟩ := List.mem_map.mp hy
    exact (covered_eq h (hcell u hu' a ha') hb).1
  · rw [forR_find (f := fun x : Fr × Fr => ((nbr (acrossP w bs)).map fun p => (scN s t p.1, scN s t p.2)).findSome? fun y => if (!(T_is_covered (y.1, x.1, y.2, x.2) (bs.map (scR s t)))) = true then some (some (("gap" : PySem.Str), y.1, x.1, y.2, x.2)) else none) (fun x hx => by
      refine outM_find (forR_find fun k _ => ?_) _ rfl
      split <;> rfl)]
    rw [List.findSome?_map]
    have e : (nbr (upwardP hh bs)).findSome? ((fun x : Fr × Fr => ((nbr (acrossP w bs)).map fun p => (scN s t p.1, scN s t p.2)).findSome? fun y => if (!(T_is_covered (y.1, x.1, y.2, x.2) (bs.map (scR s t)))) = true then some (some (("gap" : PySem.Str), y.1, x.1, y.2, x.2)) else none) ∘ fun p => (scN s t p.1, scN s t p.2)) =
        (gapP w hh bs).map fun b => some (("gap" : PySem.Str), scN s t b.1, scN s t b.2.1, scN s t b.2.2.1, scN s t b.2.2.2) := by
      unfold gapP
      rw [List.map_findSome?]
      refine findSome_congr fun u hu' => ?_
      simp only [Function.comp]
      rw [List.findSome?_map, List.map_findSome?]
      refine findSome_congr fun a ha' => ?_
      have := (covered_eq h (hcell u hu' a ha') hb).2
      unfold scR at this
      simp only [Function.comp]
      rw [show T_is_covered (scN s t a.1, scN s t u.1, scN s t a.2, scN s t u.2) (bs.map (scR s t)) = covB (a.1, u.1, a.2, u.2) bs from this]
      cases covB (a.1, u.1, a.2, u.2) bs <;> rfl
    rw [e]
    cases gapP w hh bs <;> rfl
theorem looked_eq {s t w hh : Int} {bs : List Bx} (h : Sc s t) (hb : ∀ b ∈ bs, BxS b) (hw : Sm w) (hh' : Sm hh) (hl : bs.length ≤ 400) :
    C_looked (scN s t w, scN s t hh, bs.map (scR s t)) ∧ T_looked (scN s t w, scN s t hh, bs.map (scR s t)) = lookD s t (seenP w hh bs) := by
  have hin : ∀ p ∈ enumI bs, BxS p.2 := fun p hp => by
    obtain ⟨k, e, hk⟩ := mem_enumI.mp hp
    exact hb _ (List.mem_of_getElem? hk)
  obtain ⟨o1, o2⟩ := over_eq h hb (by omega)
  obtain ⟨g1, g2⟩ := gap_eq h hb hw hh' hl
  have f1 : forR (fun (_ : Unit) (x : Int × Rc) => t_looked_1a x.1 x.2) (enumI (bs.map (scR s t))) () = match firstP noneB bs with | some k => .inr (lookD s t (.no k)) | none => .inl () := by
    rw [forR_find (f := fun x : Int × Rc => if T_is_none x.2 = true then some (lookD s t (.no x.1)) else none) (fun x _ => by simp only [t_looked_1a, t_looked_1a_0a, t_looked_1a_1]; split <;> rfl), enumI_map, List.findSome?_map]
    have e : (enumI bs).findSome? ((fun x : Int × Rc => if T_is_none x.2 = true then some (lookD s t (.no x.1)) else none) ∘ fun p => (p.1, scR s t p.2)) = (firstP noneB bs).map fun k => lookD s t (.no k) := by
      unfold firstP
      rw [List.map_findSome?]
      refine findSome_congr fun p hp => ?_
      simp only [Function.comp]
      rw [(none_eq h (hin p hp)).2]
      cases noneB p.2 <;> rfl
    rw [e]
    cases firstP noneB bs <;> rfl
  have f2 : forR (fun (_ : Unit) (x : Int × Rc) => t_looked_2a (scN s t w) (scN s t hh) x.1 x.2) (enumI (bs.map (scR s t))) () = match firstP (outB w hh) bs with | some k => .inr (lookD s t (.out k)) | none => .inl () := by
    rw [forR_find (f := fun x : Int × Rc => if T_is_out x.2 (scN s t w) (scN s t hh) = true then some (lookD s t (.out x.1)) else none) (fun x _ => by simp only [t_looked_2a, t_looked_2a_0a, t_looked_2a_1]; split <;> rfl), enumI_map, List.findSome?_map]
    have e : (enumI bs).findSome? ((fun x : Int × Rc => if T_is_out x.2 (scN s t w) (scN s t hh) = true then some (lookD s t (.out x.1)) else none) ∘ fun p => (p.1, scR s t p.2)) = (firstP (outB w hh) bs).map fun k => lookD s t (.out k) := by
      unfold firstP
      rw [List.map_findSome?]
      refine findSome_congr fun p hp => ?_
      simp only [Function.comp]
      rw [(out_eq h (hin p hp) hw hh').2]
      cases outB w hh p.2 <;> rfl
    rw [e]
    cases firstP (outB w hh) bs <;> rfl
  have c1 : cForR (fun (_ : Unit) (x : Int × Rc) => c_looked_1a x.1 x.2) (fun (_ : Unit) (x : Int × Rc) => t_looked_1a x.1 x.2) (enumI (bs.map (scR s t))) () := cForR_all fun _ x hx => by
    rw [enumI_map] at hx
    obtain ⟨p, hp, rfl⟩ := List.mem_map.mp hx
    exact ⟨(none_eq h (hin p hp)).1, fun _ => rfl⟩
  have c2 : cForR (fun (_ : Unit) (x : Int × Rc) => c_looked_2a (scN s t w) (scN s t hh) x.1 x.2) (fun (_ : Unit) (x : Int × Rc) => t_looked_2a (scN s t w) (scN s t hh) x.1 x.2) (enumI (bs.map (scR s t))) () := cForR_all fun _ x hx => by
    rw [enumI_map] at hx
    obtain ⟨p, hp, rfl⟩ := List.mem_map.mp hx
    exact ⟨(out_eq h (hin p hp) hw hh').1, fun _ => rfl⟩
  simp only [C_looked, T_looked, c_looked, t_looked, c_looked_1, t_looked_1, c_looked_1q, t_looked_1q, c_looked_2, t_looked_2, c_looked_2q, t_looked_2q, c_looked_3, t_looked_3, c_looked_4, t_looked_4, c_looked_4a, t_looked_4a, t_looked_4a_1, t_looked_4b, c_looked_4q, t_looked_4q, c_looked_5, t_looked_5, c_looked_5a, t_looked_5a, c_looked_6, t_looked_6, f1, f2, o2, g2]
  have tail : (D.flt 20 (if isNon (cO (cP3 cS cI cI) ((overP bs).map fun p => (("overlap" : PySem.Str), p.1, p.2))) = true then cO (cP5 cS (cP2 cI cI) (cP2 cI cI) (cP2 cI cI) (cP2 cI cI)) ((gapP w hh bs).map fun b => (("gap" : PySem.Str), scN s t b.1, scN s t b.2.1, scN s t b.2.2.1, scN s t b.2.2.2)) else cO (cP3 cS cI cI) ((overP bs).map fun p => (("overlap" : PySem.Str), p.1, p.2))) = true) := by
    cases overP bs with
    | some p => rfl
    | none => cases gapP w hh bs <;> rfl
  refine ⟨⟨c1, fun _ _ => ⟨c2, fun _ _ => ⟨o1, fun _ => g1, fun _ => rfl, fun _ => tail⟩⟩⟩, ?_⟩
  unfold seenP
  cases firstP noneB bs with
  | some k => rfl
  | none =>
    simp only [outR, t_looked_1q, t_looked_2, f2]
    cases firstP (outB w hh) bs with
    | some k => rfl
    | none =>
      simp only [t_looked_2q, t_looked_3, t_looked_4, t_looked_4a, t_looked_4a_1, t_looked_4b, t_looked_4q, t_looked_5, t_looked_5a, t_looked_6, o2, g2]
      cases overP bs with
      | some p => rfl
      | none => cases gapP w hh bs <;> rfl


theorem common_eq {a b : Int} (hl : b.natAbs < 2 ^ 2000) : C_common a b ∧ T_common a b = (Int.gcd a b : Int) := by
  simp only [t_common_2a_3, t_common_2a_2, t_common_2a_1, t_common_2a, t_common_3, t_common_2q, t_common_2, t_common_1, t_common, T_common, c_common_2a, c_common_2, c_common_1, c_common, C_common]
  obtain ⟨h1, h2⟩ := gcd_wh (cb := fun s => True) (c := fun s => s.2 ≠ 0) (b := fun s => decide (0 < s.2)) (t := fun s => (s.2, Int.fmod s.1 s.2)) (fun _ => trivial) (fun _ _ _ => rfl) (fun x y h => by simp only; omega) (fun _ _ => rfl) fuelB (a.natAbs : Int) (b.natAbs : Int) (by omega) (by omega) (fuelB_gt (by omega))
  rw [h2]
  refine ⟨h1, ?_⟩
  show ((Int.gcd (a.natAbs : Int) (b.natAbs : Int) : Nat) : Int) = _
  congr 1
theorem fraction_eq {t b : Int} (hb : b ≠ 0) (hl : b.natAbs < 2 ^ 2000) : C_fraction t b ∧ T_fraction t b = lowI t b := by
  obtain ⟨c1, c2⟩ := common_eq (a := t) hl
  simp only [t_fraction_0a, t_fraction_2a_1, t_fraction_2a, t_fraction_2b, t_fraction_3, t_fraction_2q, t_fraction_2, t_fraction_1, t_fraction, T_fraction, c_fraction_0a, c_fraction_3, c_fraction_2q, c_fraction_2, c_fraction_1, c_fraction, C_fraction]
  rw [decide_eq_false hb, c2]
  have e : (if decide (b < 0) = true then -(Int.gcd t b : Int) else (Int.gcd t b : Int)) = shI t b := by
    unfold shI
    simp only [decide_eq_true_eq]
  rw [e]
  refine ⟨⟨fun h => Bool.noConfusion h, fun _ => ⟨c1, divOk_sh hb hl, divOk_sh hb hl⟩⟩, ?_⟩
  simp only [Bool.false_eq_true, if_false]
  rfl

theorem minus_eq {s t a b : Int} (h : Sc s t) (ha : Sm a) (hb : Sm b) : C_minus (scN s t a) (scN s t b) ∧ T_minus (scN s t a) (scN s t b) = scN s t (a - b) := by
  obtain ⟨a1, a2, a3⟩ := scN_sz h ha
  obtain ⟨b1, b2, b3⟩ := scN_sz h hb
  have hne : (scN s t a).2 * (scN s t b).2 ≠ 0 := Int.mul_ne_zero (by omega) (by omega)
  obtain ⟨f1, f2⟩ := fraction_eq (t := (scN s t a).1 * (scN s t b).2 - (scN s t b).1 * (scN s t a).2) hne (lt_mono (mul_lt a3 b3) (by decide))
  simp only [t_minus, T_minus, c_minus, C_minus]
  refine ⟨⟨mulOk_of (lt_mono a1 (by decide)) (lt_mono b3 (by decide)), mulOk_of (lt_mono b1 (by decide)) (lt_mono a3 (by decide)), mulOk_of (lt_mono a3 (by decide)) (lt_mono b3 (by decide)), f1⟩, ?_⟩
  rw [f2]
  have ht := h.2.1
  refine lowI_inj hne (by omega) ?_
  obtain ⟨_, _, p3, _, _⟩ := lowI_facts (t := a * s) (b := t) (by omega)
  obtain ⟨_, _, q3, _, _⟩ := lowI_facts (t := b * s) (b := t) (by omega)
  unfold scN
  generalize lowI (a * s) t = p at *
  generalize lowI (b * s) t = q at *
  rw [Int.sub_mul, Int.sub_mul, Int.sub_mul]
  have e1 : p.1 * q.2 * t = a * s * (p.2 * q.2) := by
    calc p.1 * q.2 * t = (p.1 * t) * q.2 := by ac_rfl
      _ = a * s * p.2 * q.2 := by rw [p3]
      _ = _ := by ac_rfl
  have e2 : q.1 * p.2 * t = b * s * (p.2 * q.2) := by
    calc q.1 * p.2 * t = (q.1 * t) * p.2 := by ac_rfl
      _ = b * s * q.2 * p.2 := by rw [q3]
      _ = _ := by ac_rfl
  rw [e1, e2]
end K52

namespace K52
open PySem FL
variable [TabCtx]

theorem cell_c {ns : List Int} {k : Int} (h : 0 ≤ k) (hk : k < 1000) : C_l_cell_at ns k := by
  simp only [t_l_cell_at_1a_1, t_l_cell_at_1a, t_l_cell_at_1b, t_l_cell_at_2, t_l_cell_at_1q, t_l_cell_at_1, t_l_cell_at, T_l_cell_at, c_l_cell_at_1a, c_l_cell_at_2, c_l_cell_at_1q, c_l_cell_at_1, c_l_cell_at, C_l_cell_at]
  have e : ∀ c : Int, (0 ≤ c ∧ c < 1000000000000000000) → MulK c 48271 ∧ MulK 16807 k ∧ MulK ((c * 48271 + 16807 * k) % 2147483647) 69621 :=
    fun c hc => ⟨mulOk_s (by omega) (by omega), mulOk_s (by omega) (by omega), mulOk_s (by omega) (by omega)⟩
  by_cases hl : k < (ns.length : Int)
  · simp only [hl, decide_true, if_true]
    exact ⟨fun _ => ixOk_of h hl, e _ (by omega)⟩
  · simp only [hl, decide_false, Bool.false_eq_true, if_false]
    exact ⟨fun h => h.elim, e _ (by omega)⟩

theorem setI_split {α : Type} [Inhabited α] {bs : List α} {j : Int} {x : α} (h0 : 0 ≤ j) (h1 : j < bs.length) : setI bs j x = bs.take j.toNat ++ x :: bs.drop (j + 1).toNat := by
  unfold setI
  rw [if_neg (by omega), List.set_eq_take_append_cons_drop, if_pos (by omega), show (j + 1).toNat = j.toNat + 1 by omega]
def SqP (most : Int) (s : List (Int × Int × Int) × Int × Int) : Prop :=
  Til s.2.1 s.2.2 (s.1.map sqB) ∧ s.1 ≠ [] ∧ (s.1.length : Int) ≤ most ∧ (1 ≤ s.2.1 ∧ s.2.1 ≤ 60 * ((2 ^ s.1.length : Nat) : Int)) ∧ (1 ≤ s.2.2 ∧ s.2.2 ≤ 60 * ((2 ^ s.1.length : Nat) : Int)) ∧ ∀ q ∈ s.1, 1 ≤ q.2.2
theorem sq_step {ns : List Int} {most k : Int} {s : List (Int × Int × Int) × Int × Int} (h0 : 0 ≤ k) (hk : k < 1000) (hm : most ≤ 100) (p : SqP most s) :
    c_l_square_floor_4a ns most s.1 s.2.1 s.2.2 k ∧ SqP most (t_l_square_floor_4a ns most s.1 s.2.1 s.2.2 k) := by
  obtain ⟨sq, w, h⟩ := s
  obtain ⟨p1, p2, p3, p4, p5, p6⟩ := p
  simp only at p1 p2 p3 p4 p5 p6
  have hp : 0 < sq.length := List.length_pos_iff.mpr p2
  simp only [c_l_square_floor_4a, t_l_square_floor_4a, c_l_square_floor_4a_1, t_l_square_floor_4a_1, c_l_square_floor_4a_2, t_l_square_floor_4a_2, c_l_square_floor_4a_2q, t_l_square_floor_4a_2q, c_l_square_floor_4a_3, t_l_square_floor_4a_3]
  have hc := cell_c (ns := ns) h0 hk
  generalize T_l_cell_at ns k = c at *
  obtain ⟨j0, j1⟩ := fmod_b (a := c / 3) (b := (sq.length : Int)) (by omega)
  generalize Int.fmod (c / 3) (sq.length : Int) = j at *
  have hix := ixOk_of j0 j1
  have hsp := split_at j0 j1
  have hq := p6 _ (getI_mem hix)
  have hst : ∀ x, setI sq j x = sq.take j.toNat ++ x :: sq.drop (j + 1).toNat := fun x => setI_split j0 j1
  generalize getI sq j = q at *
  obtain ⟨l, lo, sz⟩ := q
  simp only at hq
  have hpow : (1 : Int) ≤ ((2 ^ sq.length : Nat) : Int) := by have := Nat.two_pow_pos sq.length; omega
  have e1 : ((2 ^ (sq.length + 1) : Nat) : Int) = 2 * ((2 ^ sq.length : Nat) : Int) := by rw [Nat.pow_succ]; omega
  have e3 : ((2 ^ (sq.length + 3) : Nat) : Int) = 8 * ((2 ^ sq.length : Nat) : Int) := by rw [Nat.pow_add]; omega
  have mem1 : ∀ (x : Int × Int × Int), 1 ≤ x.2.2 → ∀ q ∈ sq ++ [x], 1 ≤ q.2.2 := fun x hx q hq => by
    rcases List.mem_append.mp hq with hq | hq
    · exact p6 q hq
    · rw [List.mem_singleton.mp hq]; exact hx
  simp only [c_l_square_floor_4a_3a, t_l_square_floor_4a_3q, t_l_square_floor_4a_4, t_l_square_floor_4a_3a, t_l_square_floor_4a_3a_1, t_l_square_floor_4a_3a_2]
  refine (fun key => ⟨⟨hc, by omega, hix, key.1⟩, key.2⟩ : _ ∧ _ → _) ?_
  by_cases c1 : (decide (c % 3 = 0) && decide ((sq.length : Int) < most)) = true
  · rw [if_pos c1]
    simp only [Bool.and_eq_true, decide_eq_true_eq] at c1
    refine ⟨⟨fun _ => by omega, fun q => by simp only [Bool.and_eq_false_iff, decide_eq_false_iff_not] at q; omega⟩, ?_, by simp, by simp; omega, ?_, ?_, mem1 _ (by simp only; omega)⟩
    · have := til_right p1 (d := h) (by omega) (by omega) (by omega)
      simp only [List.map_append, List.map_cons, List.map_nil, sqB]
      rw [Int.zero_add]
      exact this
    · simp only [List.length_append, List.length_singleton, e1]; omega
    · simp only [List.length_append, List.length_singleton, e1]; omega
  · have c1f : (decide (c % 3 = 0) && decide ((sq.length : Int) < most)) = false := by simpa using c1
    rw [if_neg c1]
    refine and_assoc.mpr ⟨fun q => absurd q c1, ?_⟩
    simp only [c1f, forall_const, c_l_square_floor_4a_3b, t_l_square_floor_4a_3b, t_l_square_floor_4a_3bq, t_l_square_floor_4a_3b_1, c_l_square_floor_4a_3b_0a, t_l_square_floor_4a_3b_0a, t_l_square_floor_4a_3b_0a_1, t_l_square_floor_4a_3b_0a_2]
    by_cases c2 : (decide (c % 3 = 1) && decide ((sq.length : Int) < most)) = true
    · rw [if_pos c2]
      simp only [Bool.and_eq_true, decide_eq_true_eq] at c2
      refine ⟨⟨fun _ => by omega, fun q => by simp only [Bool.and_eq_false_iff, decide_eq_false_iff_not] at q; omega⟩, ?_, by simp, by simp; omega, ?_, ?_, mem1 _ (by simp only; omega)⟩
      · have := til_top p1 (d := w) (by omega) (by omega) (by omega)
        simp only [List.map_append, List.map_cons, List.map_nil, sqB]
        rw [Int.zero_add]
        exact this
      · simp only [List.length_append, List.length_singleton, e1]; omega
      · simp only [List.length_append, List.length_singleton, e1]; omega
    · have c2f : (decide (c % 3 = 1) && decide ((sq.length : Int) < most)) = false := by simpa using c2
      rw [if_neg c2]
      refine and_assoc.mpr ⟨fun q => absurd q c2, ?_⟩
      simp only [c2f, forall_const, c_l_square_floor_4a_3b_0b, t_l_square_floor_4a_3b_0b, t_l_square_floor_4a_3b_0bq, t_l_square_floor_4a_3b_0b_1, t_l_square_floor_4a_3b_0b_0b]
      by_cases c3 : (decide ((sq.length : Int) + 3 ≤ most) && decide (sz % 2 = 0)) = true
      · rw [if_pos c3]
        simp only [Bool.and_eq_true, decide_eq_true_eq] at c3
        simp only [c_l_square_floor_4a_3b_0b_0a, t_l_square_floor_4a_3b_0b_0a, c_l_square_floor_4a_3b_0b_0a_1, t_l_square_floor_4a_3b_0b_0a_1, c_l_square_floor_4a_3b_0b_0a_2, t_l_square_floor_4a_3b_0b_0a_2, t_l_square_floor_4a_3b_0b_0a_3]
        have hl : (setI sq j (l, lo, sz / 2)).length = sq.length := by unfold setI; rw [List.length_set]
        refine ⟨fun _ => ⟨hix, by rw [hl]; simp only [List.length_cons, List.length_nil]; omega⟩, ?_, by simp, by simp only [List.length_append, hl, List.length_cons, List.length_nil]; omega, ?_, ?_, fun q hq2 => ?_⟩
        · have tt : Til w h ((sq.take j.toNat).map sqB ++ sqB (l, lo, sz) :: (sq.drop (j + 1).toNat).map sqB) := by
            rw [← List.map_cons, ← List.map_append, ← hsp]; exact p1
          refine til_four (x := l + sz / 2) (y := lo + sz / 2) tt (by simp only [sqB]; omega) (by simp only [sqB]; omega) ?_
          rw [hst]
          simp only [List.map_append, List.map_cons, List.map_nil, List.append_assoc, sqB, List.cons_append]
          refine List.Perm.append_left _ ?_
          rw [show l + sz / 2 + sz / 2 = l + sz by omega, show lo + sz / 2 + sz / 2 = lo + sz by omega]
          refine List.Perm.cons _ ?_
          exact List.perm_append_comm
        · simp only [List.length_append, hl, List.length_cons, List.length_nil]
          rw [show sq.length + (0 + 1 + 1 + 1) = sq.length + 3 by omega, e3]; omega
        · simp only [List.length_append, hl, List.length_cons, List.length_nil]
          rw [show sq.length + (0 + 1 + 1 + 1) = sq.length + 3 by omega, e3]; omega
        · rw [hst] at hq2
          simp only [List.mem_append, List.mem_cons, List.not_mem_nil, or_false] at hq2
          rcases hq2 with (hq2 | rfl | hq2) | rfl | rfl | rfl
          · exact p6 q (List.mem_of_mem_take hq2)
          · simp only; omega
          · exact p6 q (List.mem_of_mem_drop hq2)
          · simp only; omega
          · simp only; omega
          · simp only; omega
      · rw [if_neg c3]
        exact ⟨fun q => absurd q c3, p1, p2, p3, p4, p5, p6⟩
theorem sqfloor_f {ns : List Int} {a z most : Int} (ha : 0 ≤ a ∧ a ≤ 900) (hz : 0 ≤ z ∧ z ≤ 900) (hm : 1 ≤ most ∧ most ≤ 100) (hl : ns.length ≤ 63) :
    C_l_square_floor ns a z most ∧ SqP most (T_l_square_floor ns a z most) := by
  simp only [T_l_square_floor, C_l_square_floor, t_l_square_floor, c_l_square_floor, t_l_square_floor_1, c_l_square_floor_1, t_l_square_floor_2, c_l_square_floor_2, t_l_square_floor_3, c_l_square_floor_3, t_l_square_floor_4, c_l_square_floor_4, t_l_square_floor_4q, t_l_square_floor_5]
  have hb : 1 ≤ 1 + T_l_cell_at ns a % 60 ∧ 1 + T_l_cell_at ns a % 60 ≤ 60 := by omega
  generalize 1 + T_l_cell_at ns a % 60 = sd at *
  obtain ⟨k1, k2⟩ := cFold_inv (c := fun (s : List (Int × Int × Int) × Int × Int) (x : Int) => c_l_square_floor_4a ns most s.1 s.2.1 s.2.2 x) (t := fun (s : List (Int × Int × Int) × Int × Int) (x : Int) => t_l_square_floor_4a ns most s.1 s.2.1 s.2.2 x) (SqP most)
    (xs := rngI (a + 1) (min (ns.length : Int) z)) (s := ([(0, 0, sd)], sd, sd)) (fun s x hx p => by
      rw [mem_rngI] at hx
      exact sq_step (by omega) (by omega) hm.2 p) ⟨by
        have := Til.one (w := sd) (h := sd) (by omega) (by omega)
        simp only [List.map_cons, List.map_nil, sqB, Int.zero_add]
        exact this, by simp, by simp only [List.length_cons, List.length_nil]; omega, by simp only [List.length_cons, List.length_nil]; omega, by simp only [List.length_cons, List.length_nil]; omega, fun q hq => by rw [List.mem_singleton.mp hq]; simp only; omega⟩
  exact ⟨⟨cell_c (by omega) (by omega), small_I (by omega), small_I (by omega), k1⟩, k2⟩


theorem highest_f {B : List Pc} (hB : B ≠ []) : C_highest B ∧ ∃ pre p post, Hi B pre post p ∧ T_highest B = (pre.length : Int) := by
  simp only [T_highest, C_highest, t_highest, c_highest, t_highest_1, c_highest_1, t_highest_1q, t_highest_2]
  exact hi_fold (c := fun (s : Int) (x : Int × Pc) => c_highest_1a B s x.1 x.2) (t := fun (s : Int) (x : Int × Pc) => t_highest_1a B s x.1 x.2) hB (fun f x h => h) (fun f x => rfl)
theorem hi_get {B pre post : List Pc} {p : Pc} (h : Hi B pre post p) : getI B (pre.length : Int) = p ∧ IxOk B.length (pre.length : Int) ∧ B.take pre.length = pre ∧ B.drop (pre.length + 1) = post := by
  have hl := congrArg List.length h.eq
  rw [List.length_append, List.length_cons] at hl
  refine ⟨?_, ixOk_of (by omega) (by omega), ?_, ?_⟩
  · rw [getI_nat, List.getD_eq_getElem?_getD, h.eq, List.getElem?_append_right (Nat.le_refl _)]
    simp
  · rw [h.eq, List.take_left]
  · rw [h.eq, List.drop_append]
    simp
theorem jn_eq {s : List Pc} {x : Pc} (hl : s.length < 1000000) : c_joined_1a s x ∧ t_joined_1a s x = jnP s x := by
  simp only [c_joined_1a, t_joined_1a, t_joined_1aq, t_joined_1a_1, c_joined_1a_0a, c_joined_1a_0b, t_joined_1a_0a, t_joined_1a_0a_1, t_joined_1a_0b, t_joined_1a_0b_1]
  rcases snoc_cases s with rfl | ⟨s', p, rfl⟩
  · simp [jn_nil]
  · have hix : IxOk (s' ++ [p]).length (-1) := by
      rw [List.length_append, List.length_singleton]
      exact ⟨by omega, by omega⟩
    have hg : getI (s' ++ [p]) (-1) = p := by
      unfold getI
      rw [if_pos (by omega), List.length_append, List.length_singleton, List.getD_eq_getElem?_getD, List.getElem?_append_right (by omega), show (-1 + ((s'.length + 1 : Nat) : Int)).toNat - s'.length = 0 by omega]
      rfl
    have hs : ∀ y, setI (s' ++ [p]) (-1) y = s' ++ [y] := fun y => by
      unfold setI
      rw [if_pos (by omega), List.length_append, List.length_singleton, show (-1 + ((s'.length + 1 : Nat) : Int)).toNat = s'.length by omega, List.set_append_right _ _ (Nat.le_refl _)]
      simp
    rw [jn_snoc, hg]
    refine ⟨⟨fun _ => hix, fun _ => ⟨hix, hix⟩, fun _ => hl⟩, ?_⟩
    have hne : (!decide (s' ++ [p] = [])) = true := by simp
    rw [hne, Bool.true_and, hs]
    by_cases e : p.2.2 = x.2.2
    · rw [decide_eq_true e, if_pos rfl, if_pos e]
    · rw [decide_eq_false e, if_neg e]
      simp
theorem joined_f {l : List Pc} {a b : Int} (h : Ch a l b) (hl : l.length ≤ 900000) : C_joined l ∧ Ch a (T_joined l) b ∧ Ad (T_joined l) ∧ exT (T_joined l) = exT l ∧ (T_joined l).length ≤ l.length := by
  simp only [T_joined, C_joined, t_joined, c_joined, t_joined_1, c_joined_1, t_joined_1q, t_joined_2]
  obtain ⟨k1, k2, k3⟩ := cFold_pre0 (c := fun (s : List Pc) (x : Pc) => c_joined_1a s x) (t := fun (s : List Pc) (x : Pc) => t_joined_1a s x) (xs := l) (s := []) (fun pre s => s = pre.foldl jnP [] ∧ s.length ≤ pre.length) (fun pre x post s e ⟨p1, p2⟩ => by
    have := congrArg List.length e
    rw [List.length_append] at this
    obtain ⟨q1, q2⟩ := jn_eq (s := s) (x := x) (by omega)
    refine ⟨q1, ?_, ?_⟩
    · rw [q2, p1, List.foldl_append]; rfl
    · rw [q2, List.length_append, List.length_singleton]
      rcases snoc_cases s with rfl | ⟨s', p, rfl⟩
      · rw [jn_nil]; simp
      · rw [jn_snoc]
        rw [List.length_append, List.length_singleton] at p2
        split <;> simp <;> omega) ⟨rfl, by simp⟩
  obtain ⟨j1, j2, j3, j4⟩ := join_f (s := []) (m := a) (a := a) rfl trivial h
  rw [k2]
  refine ⟨k1, j1, j2, by rw [j3]; rfl, by rw [← k2]; exact k3⟩
theorem hung_f {B pre post : List Pc} {p : Pc} {w sz : Int} (hh : Hi B pre post p) (hT : T_highest B = (pre.length : Int)) (hC : C_highest B) (hc : Ch 0 B w) (hl : B.length ≤ 800000) :
    C_hung B sz ∧ ((¬ (1 ≤ sz ∧ sz ≤ p.2.1 - p.1 ∧ sz ≤ p.2.2) ∧ T_hung B sz = none) ∨ ((1 ≤ sz ∧ sz ≤ p.2.1 - p.1 ∧ sz ≤ p.2.2) ∧ ∃ B', T_hung B sz = some B' ∧ Ch 0 B' w ∧ Ad B' ∧ B'.length ≤ B.length + 1 ∧
      exT B' = exT pre ++ List.replicate sz.toNat (p.2.2 - sz) ++ List.replicate (p.2.1 - p.1 - sz).toNat p.2.2 ++ exT post)) := by
  obtain ⟨g1, g2, g3, g4⟩ := hi_get hh
  have hlen := congrArg List.length hh.eq
  rw [List.length_append, List.length_cons] at hlen
  simp only [T_hung, C_hung, t_hung, c_hung, t_hung_1, c_hung_1, hT, g1, t_hung_1q, c_hung_1q, t_hung_2, c_hung_2, t_hung_2a]
  by_cases q : 1 ≤ sz ∧ sz ≤ p.2.1 - p.1 ∧ sz ≤ p.2.2
  · have hd : (decide (sz < 1) || (decide (p.2.1 - p.1 < sz) || decide (p.2.2 < sz))) = false := by
      simp only [Bool.or_eq_false_iff, decide_eq_false_iff_not]; omega
    rw [hd]
    simp only [Bool.false_eq_true, if_false, forall_const, t_hung_3, c_hung_3, t_hung_4, c_hung_4, t_hung_4q, c_hung_4q, t_hung_5, c_hung_5, t_hung_4a, c_hung_4a, t_hung_4a_1, t_hung_4b]
    rw [cut_to (show (0 : Int) ≤ (pre.length : Int) by omega), cut_from (show (0 : Int) ≤ (pre.length : Int) + 1 by omega), show ((pre.length : Int)).toNat = pre.length by omega, show ((pre.length : Int) + 1).toNat = pre.length + 1 by omega, g3, g4]
    have hc' : Ch 0 (pre ++ p :: post) w := by rw [← hh.eq]; exact hc
    obtain ⟨h1, h2⟩ := hang_f hc' q.1 q.2.1
    have eh : (if decide (p.1 + sz < p.2.1) = true then pre ++ [(p.1, p.1 + sz, p.2.2 - sz)] ++ [(p.1 + sz, p.2.1, p.2.2)] else pre ++ [(p.1, p.1 + sz, p.2.2 - sz)]) ++ post = hangP pre post p sz := by
      unfold hangP
      simp only [decide_eq_true_eq]
      split <;> simp
    have el : (if decide (p.1 + sz < p.2.1) = true then pre ++ [(p.1, p.1 + sz, p.2.2 - sz)] ++ [(p.1 + sz, p.2.1, p.2.2)] else pre ++ [(p.1, p.1 + sz, p.2.2 - sz)]).length ≤ pre.length + 2 := by
      split <;> simp
    have ehl : (hangP pre post p sz).length ≤ pre.length + 2 + post.length := by rw [← eh, List.length_append]; omega
    obtain ⟨j1, j2, j3, j4, j5⟩ := joined_f h1 (by omega)
    rw [← eh] at j1 j2 j3 j4 j5
    refine ⟨⟨hC, g2, by simp only [List.length_singleton]; omega, fun _ => by simp only [List.length_append, List.length_singleton]; omega, by omega, j1⟩, .inr ⟨q, _, rfl, j2, j3, by rw [List.length_append] at j5; omega, by rw [j4, eh, h2]⟩⟩
  · have hd : (decide (sz < 1) || (decide (p.2.1 - p.1 < sz) || decide (p.2.2 < sz))) = true := by
      simp only [Bool.or_eq_true, decide_eq_true_eq]; omega
    rw [hd]
    exact ⟨⟨hC, g2, fun z => Bool.noConfusion z⟩, .inl ⟨q, rfl⟩⟩
theorem full_f {B : List Pc} {w : Int} (hc : Ch 0 B w) (hw : 0 < w) (had : Ad B) (h0 : ∀ v ∈ exT B, 0 ≤ v) : C_is_full B ∧ (T_is_full B = true ↔ ∀ v ∈ exT B, v = 0) := by
  simp only [T_is_full, C_is_full, t_is_full, c_is_full]
  obtain ⟨_, hp⟩ := ch_le hc
  have inx : ∀ p ∈ B, p.2.2 ∈ exT B := fun p hpB => by
    have := hp p hpB
    unfold exT
    refine List.mem_flatMap.mpr ⟨p, hpB, ?_⟩
    rw [List.mem_replicate]
    exact ⟨by omega, rfl⟩
  refine ⟨fun q => ?_, ?_⟩
  · rw [decide_eq_true_eq] at q
    exact ixOk_of (by omega) (by omega)
  · rw [Bool.and_eq_true, decide_eq_true_eq, decide_eq_true_eq]
    match B, hc, had, h0, inx with
    | [], hc, _, _, _ =>
      have : (0 : Int) = w := hc
      omega
    | [p], _, _, h0, inx =>
      have e : getI [p] 0 = p := rfl
      rw [e]
      constructor
      · rintro ⟨_, h⟩ v hv
        obtain ⟨q, hq, e2⟩ := ex_mem hv
        rw [List.mem_singleton.mp hq] at e2
        omega
      · intro h
        exact ⟨rfl, h _ (inx p List.mem_cons_self)⟩
    | p :: q :: r, _, had, h0, inx =>
      constructor
      · rintro ⟨h, _⟩
        simp only [List.length_cons] at h
        omega
      · intro h
        have h1 := h _ (inx p List.mem_cons_self)
        have h2 := h _ (inx q (by simp))
        have := had.1
        omega

def rcOf (q : Int × Int × Int) : Rc := ((q.1, 1), (q.2.1, 1), (q.1 + q.2.2, 1), (q.2.1 + q.2.2, 1))
theorem fby_step {B : List Pc} {w at_ sz : Int} {R : List Rc} (hc : Ch 0 B w) (hw : 0 < w) (hl : B.length ≤ 800000) (hR : R.length ≤ 900000) :
    c_floor_by_2a B R at_ sz ∧ ∃ pre p post, Hi B pre post p ∧ ((¬ (1 ≤ sz ∧ sz ≤ p.2.1 - p.1 ∧ sz ≤ p.2.2) ∧ t_floor_by_2a B R at_ sz = .inr (.inr ⟨"NoSize", [("at", cI at_)]⟩)) ∨
      ((1 ≤ sz ∧ sz ≤ p.2.1 - p.1 ∧ sz ≤ p.2.2) ∧ ∃ B', t_floor_by_2a B R at_ sz = .inl (B', R ++ [rcOf (p.1, p.2.2 - sz, sz)]) ∧ Ch 0 B' w ∧ Ad B' ∧ B'.length ≤ B.length + 1 ∧
      exT B' = exT pre ++ List.replicate sz.toNat (p.2.2 - sz) ++ List.replicate (p.2.1 - p.1 - sz).toNat p.2.2 ++ exT post)) := by
  have hne : B ≠ [] := fun q => by
    rw [q] at hc
    have : (0 : Int) = w := hc
    omega
  obtain ⟨h1, pre, p, post, h2, h3⟩ := highest_f hne
  obtain ⟨g1, g2, g3, g4⟩ := hi_get h2
  obtain ⟨k1, k2⟩ := hung_f (sz := sz) h2 h3 h1 hc hl
  simp only [c_floor_by_2a, t_floor_by_2a, h3, g1, c_floor_by_2aq, t_floor_by_2aq, c_floor_by_2a_1, t_floor_by_2a_1, c_floor_by_2a_2, t_floor_by_2a_2, t_floor_by_2a_2a]
  rcases k2 with ⟨k2, k3⟩ | ⟨k2, B', k3, k4, k5, k6, k7⟩
  · rw [k3]
    exact ⟨⟨h1, g2, k1, fun z => Bool.noConfusion z⟩, pre, p, post, h2, .inl ⟨k2, rfl⟩⟩
  · rw [k3]
    refine ⟨⟨h1, g2, k1, fun _ => by simp only [c_floor_by_2a_3]; omega⟩, pre, p, post, h2, .inr ⟨k2, B', ?_, k4, k5, k6, k7⟩⟩
    simp only [Option.isNone_some, Bool.false_eq_true, if_false, Option.getD_some, t_floor_by_2a_3, t_floor_by_2a_4, rcOf]
    rw [show p.2.2 - sz + sz = p.2.2 by omega]


theorem side_eq {s t : Int} {b : Bx} (h : Sc s t) (hb : BxS b) : C_side_of (scR s t b) ∧ T_side_of (scR s t b) = if b.2.2.1 - b.1 = 0 ∨ b.2.2.1 - b.1 ≠ b.2.2.2 - b.2.1 then none else some (scN s t (b.2.2.1 - b.1)) := by
  obtain ⟨b1, b2, b3, b4⟩ := hb
  obtain ⟨m1, m2⟩ := minus_eq h b3 b1
  obtain ⟨n1, n2⟩ := minus_eq h b4 b2
  simp only [t_side_of_1a, t_side_of_2, t_side_of_1, t_side_of, T_side_of, c_side_of_1, c_side_of, C_side_of]
  unfold scR
  simp only [m2, n2, scN_inj h]
  refine ⟨⟨m1, fun _ => n1⟩, ?_⟩
  have e : (decide ((scN s t (b.2.2.1 - b.1)).1 = 0) || !decide (b.2.2.1 - b.1 = b.2.2.2 - b.2.1)) = decide (b.2.2.1 - b.1 = 0 ∨ b.2.2.1 - b.1 ≠ b.2.2.2 - b.2.1) := by
    rw [Bool.eq_iff_iff]
    simp only [Bool.or_eq_true, decide_eq_true_eq, Bool.not_eq_true', decide_eq_false_iff_not, scN_z h]
  rw [e]
  simp only [decide_eq_true_eq]
end K52

namespace K52
open PySem FL
variable [TabCtx]

abbrev Sq3 := Int × Int × Int
def topQ (q : Sq3) : Int := q.2.1 + q.2.2
def Bef (a b : Sq3) : Prop := topQ b < topQ a ∨ (topQ b = topQ a ∧ a.1 < b.1)
theorem cell_sq {q : Sq3} {x y : Int} : cellIn (sqB q) x y ↔ (q.1 ≤ x ∧ x < q.1 + q.2.2) ∧ q.2.1 ≤ y ∧ y < q.2.1 + q.2.2 := Iff.rfl
theorem getD_put {A D : List Int} {s : Nat} {u : Int} {k : Nat} : (A ++ List.replicate s u ++ D).getD k 0 = if k < A.length then A.getD k 0 else if k < A.length + s then u else D.getD (k - A.length - s) 0 := by
  rw [List.getD, List.append_assoc]
  by_cases h1 : k < A.length
  · rw [if_pos h1, List.getElem?_append_left h1]; rfl
  · rw [if_neg h1, List.getElem?_append_right (by omega)]
    by_cases h2 : k < A.length + s
    · rw [if_pos h2, List.getElem?_append_left (by rw [List.length_replicate]; omega), List.getElem?_replicate, if_pos (by omega)]; rfl
    · rw [if_neg h2, List.getElem?_append_right (by rw [List.length_replicate]; omega), List.length_replicate]; rfl
theorem getD_mem {T : List Int} {k : Nat} (h : k < T.length) : T.getD k 0 ∈ T := by
  rw [List.getD, List.getElem?_eq_getElem h]
  exact List.getElem_mem h
structure SkyI (w : Int) (T : List Int) (ys : List Sq3) : Prop where
  len : (T.length : Int) = w
  pos : ∀ v ∈ T, 0 ≤ v
  cov : ∀ x y, 0 ≤ x → x < w → ((0 ≤ y ∧ y < T.getD x.toNat 0) ↔ ∃ q ∈ ys, cellIn (sqB q) x y)
  inn : ∀ q ∈ ys, 0 ≤ q.1 ∧ q.1 + q.2.2 ≤ w ∧ 1 ≤ q.2.2
  dis : ys.Pairwise fun a b => Disj (sqB a) (sqB b)
  ord : ys.Pairwise Bef
theorem sky_head {w v : Int} {T A C : List Int} {n : Nat} {q : Sq3} {ys : List Sq3} (I : SkyI w T (q :: ys)) (e : T = A ++ List.replicate (n + 1) v ++ C) (hA : ∀ x ∈ A, x < v) (hC : ∀ x ∈ C, x ≤ v) (hh : C.head? ≠ some v) :
    q.1 = A.length ∧ topQ q = v ∧ q.2.2 ≤ ((n + 1 : Nat) : Int) ∧ q.2.2 ≤ v ∧ SkyI w (A ++ List.replicate q.2.2.toNat (v - q.2.2) ++ (List.replicate (n + 1 - q.2.2.toNat) v ++ C)) ys := by
  have hl : A.length + (n + 1) + C.length = T.length := by rw [e]; simp; omega
  have hw := I.len
  have hgd : ∀ k, T.getD k 0 = if k < A.length then A.getD k 0 else if k < A.length + (n + 1) then v else C.getD (k - A.length - (n + 1)) 0 := fun k => by rw [e]; exact getD_put
  have tv : ∀ x ∈ T, x ≤ v := fun x hx => by
    rw [e] at hx
    simp only [List.mem_append, List.mem_replicate] at hx
    rcases hx with (hx | hx) | hx
    · exact Int.le_of_lt (hA x hx)
    · omega
    · exact hC x hx
  have tvk : ∀ x : Int, 0 ≤ x → x < w → T.getD x.toNat 0 ≤ v := fun x h0 h1 => tv _ (getD_mem (by omega))
  have cel : ∀ r ∈ q :: ys, ∀ x y, cellIn (sqB r) x y → 0 ≤ x ∧ x < w ∧ 0 ≤ y ∧ y < T.getD x.toNat 0 := fun r hr x y hc => by
    obtain ⟨i1, i2, i3⟩ := I.inn r hr
    have hc' := cell_sq.mp hc
    have := (I.cov x y (by omega) (by omega)).mpr ⟨r, hr, hc⟩
    exact ⟨by omega, by omega, this.1, this.2⟩
  have topc : ∀ r ∈ q :: ys, cellIn (sqB r) r.1 (topQ r - 1) := fun r hr => by
    obtain ⟨i1, i2, i3⟩ := I.inn r hr
    exact cell_sq.mpr ⟨by omega, by unfold topQ; omega⟩
  have tople : ∀ r ∈ q :: ys, topQ r ≤ v := fun r hr => by
    obtain ⟨c1, c2, c3, c4⟩ := cel r hr _ _ (topc r hr)
    have := tvk r.1 c1 c2
    omega
  obtain ⟨i1, i2, i3⟩ := I.inn q List.mem_cons_self
  have low0 : 0 ≤ q.2.1 := (cel q List.mem_cons_self q.1 q.2.1 (cell_sq.mpr ⟨by omega, by omega⟩)).2.2.1
  have hq1 := tople q List.mem_cons_self
  have htq : topQ q = q.2.1 + q.2.2 := rfl
  have vA : T.getD A.length 0 = v := by rw [hgd, if_neg (by omega), if_pos (by omega)]
  -- who lies under the highest leftmost spot
  obtain ⟨r, hr, hrc⟩ := (I.cov (A.length : Int) (v - 1) (by omega) (by omega)).mp ⟨by omega, by rw [show ((A.length : Int)).toNat = A.length by omega, vA]; omega⟩
  have hrc' := cell_sq.mp hrc
  have hrt := tople r hr
  have htr : topQ r = r.2.1 + r.2.2 := rfl
  have hqr : topQ r ≤ topQ q ∧ (topQ r = topQ q → q.1 ≤ r.1) := by
    rcases List.mem_cons.mp hr with rfl | hr
    · exact ⟨by omega, fun _ => by omega⟩
    · rcases (List.pairwise_cons.mp I.ord).1 r hr with h | ⟨h1, h2⟩
      · exact ⟨by omega, fun z => by omega⟩
      · exact ⟨by omega, fun _ => by omega⟩
  have hv : topQ q = v := by omega
  have hle : q.1 ≤ A.length := by have := hqr.2 (by omega); omega
  have colq : ∀ x, q.1 ≤ x → x < q.1 + q.2.2 → T.getD x.toNat 0 = v := fun x h1 h2 => by
    have c := cel q List.mem_cons_self x (v - 1) (cell_sq.mpr ⟨by omega, by omega⟩)
    have := tvk x c.1 c.2.1
    omega
  have hge : (A.length : Int) ≤ q.1 := by
    rcases Int.lt_or_le q.1 A.length with h | h
    · have k := colq q.1 (by omega) (by omega)
      rw [hgd, if_pos (by omega)] at k
      have := hA _ (getD_mem (T := A) (k := q.1.toNat) (by omega))
      omega
    · exact h
  have hqA : q.1 = A.length := by omega
  have hwd : q.2.2 ≤ ((n + 1 : Nat) : Int) := by
    rcases Int.lt_or_le ((n + 1 : Nat) : Int) q.2.2 with h | h
    · have k := colq ((A.length + (n + 1) : Nat) : Int) (by omega) (by omega)
      rw [hgd, if_neg (by omega), if_neg (by omega)] at k
      match C, hh, k, hl with
      | [], _, _, hl => simp at hl; omega
      | c :: C, hh, k, _ =>
        rw [show ((A.length + (n + 1) : Nat) : Int).toNat - A.length - (n + 1) = 0 by omega] at k
        exact absurd (congrArg some (show c = v from k)) hh
    · exact h
  have es : T = A ++ List.replicate q.2.2.toNat v ++ (List.replicate (n + 1 - q.2.2.toNat) v ++ C) := by
    rw [e, List.append_assoc, List.append_assoc, ← List.append_assoc (List.replicate _ _), List.replicate_append_replicate, show q.2.2.toNat + (n + 1 - q.2.2.toNat) = n + 1 by omega]
  have hgd2 : ∀ k, T.getD k 0 = if k < A.length then A.getD k 0 else if k < A.length + q.2.2.toNat then v else (List.replicate (n + 1 - q.2.2.toNat) v ++ C).getD (k - A.length - q.2.2.toNat) 0 := fun k => by
    conv => lhs; rw [es]
    exact getD_put
  obtain ⟨d1, d2⟩ := List.pairwise_cons.mp I.dis
  refine ⟨hqA, hv, hwd, by omega, ⟨?_, fun x hx => ?_, fun x y h0 h1 => ?_, fun r hr => I.inn r (List.mem_cons_of_mem _ hr), d2, (List.pairwise_cons.mp I.ord).2⟩⟩
  · simp only [List.length_append, List.length_replicate]
    omega
  · simp only [List.mem_append, List.mem_replicate] at hx
    rcases hx with (hx | hx) | hx | hx
    · exact I.pos x (by rw [e]; simp [hx])
    · omega
    · omega
    · exact I.pos x (by rw [e]; simp [hx])
  · have hcov := I.cov x y h0 h1
    rw [getD_put]
    by_cases hin : q.1 ≤ x ∧ x < q.1 + q.2.2
    · rw [if_neg (by omega), if_pos (by omega)]
      have hT := colq x hin.1 hin.2
      rw [hT] at hcov
      constructor
      · rintro ⟨y0, y1⟩
        obtain ⟨r, hr, hc⟩ := hcov.mp ⟨y0, by omega⟩
        rcases List.mem_cons.mp hr with rfl | hr
        · have := cell_sq.mp hc
          omega
        · exact ⟨r, hr, hc⟩
      · rintro ⟨r, hr, hc⟩
        obtain ⟨y0, y1⟩ := hcov.mpr ⟨r, List.mem_cons_of_mem _ hr, hc⟩
        refine ⟨y0, ?_⟩
        rcases Int.lt_or_le y (v - q.2.2) with h | h
        · exact h
        · exact absurd ⟨cell_sq.mpr ⟨hin, by omega⟩, hc⟩ (d1 r hr x y)
    · have eT : (if x.toNat < A.length then A.getD x.toNat 0 else if x.toNat < A.length + q.2.2.toNat then v - q.2.2 else (List.replicate (n + 1 - q.2.2.toNat) v ++ C).getD (x.toNat - A.length - q.2.2.toNat) 0) = T.getD x.toNat 0 := by
        rw [hgd2]
        by_cases h2 : x.toNat < A.length
        · rw [if_pos h2, if_pos h2]
        · rw [if_neg h2, if_neg h2, if_neg (by omega), if_neg (by omega)]
      rw [eT, hcov]
      constructor
      · rintro ⟨r, hr, hc⟩
        rcases List.mem_cons.mp hr with rfl | hr
        · exact absurd (cell_sq.mp hc).1 hin
        · exact ⟨r, hr, hc⟩
      · rintro ⟨r, hr, hc⟩
        exact ⟨r, List.mem_cons_of_mem _ hr, hc⟩
theorem sky_done {w : Int} {T : List Int} (I : SkyI w T []) : ∀ v ∈ T, v = 0 := fun v hv => by
  obtain ⟨k, hk, e⟩ := List.getElem_of_mem hv
  have h := I.cov (k : Int) 0 (by omega) (by have := I.len; omega)
  have h0 := I.pos v hv
  rw [show ((k : Int)).toNat = k by omega, List.getD, List.getElem?_eq_getElem hk, e] at h
  rcases Int.lt_or_le 0 v with q | q
  · obtain ⟨r, hr, _⟩ := h.mp ⟨by omega, q⟩
    cases hr
  · omega
theorem top_cut {B pre post : List Pc} {p : Pc} {w : Int} (hh : Hi B pre post p) (hc : Ch 0 B w) (had : Ad B) : ∃ n : Nat, ((n + 1 : Nat) : Int) = p.2.1 - p.1 ∧ exT B = exT pre ++ List.replicate (n + 1) p.2.2 ++ exT post ∧ ((exT pre).length : Int) = p.1 ∧
    (∀ x ∈ exT pre, x < p.2.2) ∧ (∀ x ∈ exT post, x ≤ p.2.2) ∧ (exT post).head? ≠ some p.2.2 := by
  have hc' : Ch 0 (pre ++ p :: post) w := by rw [← hh.eq]; exact hc
  obtain ⟨m, c1, c2, c3, c4⟩ := ch_app.mp hc'
  have hl := ex_len c1
  refine ⟨(p.2.1 - p.1).toNat - 1, by omega, ?_, by omega, fun x hx => ?_, fun x hx => ?_, ?_⟩
  · rw [hh.eq, ex_app, ex_cons, show (p.2.1 - p.1).toNat - 1 + 1 = (p.2.1 - p.1).toNat by omega, List.append_assoc]
  · obtain ⟨q, hq, rfl⟩ := ex_mem hx
    exact hh.lt q hq
  · obtain ⟨q, hq, rfl⟩ := ex_mem hx
    exact hh.le q hq
  · match post, c4, hh with
    | [], _, _ => simp [exT]
    | q :: r, c4, hh =>
      obtain ⟨d1, d2, _⟩ := c4
      have := ad_mid (by rw [← hh.eq]; exact had : Ad (pre ++ p :: q :: r))
      obtain ⟨k, hk⟩ : ∃ k, (q.2.1 - q.1).toNat = k + 1 := ⟨(q.2.1 - q.1).toNat - 1, by omega⟩
      rw [ex_cons, hk, List.replicate_succ]
      simp only [List.cons_append, List.head?_cons, ne_eq, Option.some.injEq]
      omega
theorem sky_go {w : Int} (hw : 0 < w) : ∀ (ys : List Sq3) (zs : List (Int × Int)) (B : List Pc) (R : List Rc), zs.map (·.2) = ys.map (·.2.2) → Ch 0 B w → Ad B → SkyI w (exT B) ys → B.length + ys.length ≤ 700000 → R.length + ys.length ≤ 700000 →
    cForR (fun (s : List Pc × List Rc) (x : Int × Int) => c_floor_by_2a s.1 s.2 x.1 x.2) (fun (s : List Pc × List Rc) (x : Int × Int) => t_floor_by_2a s.1 s.2 x.1 x.2) zs (B, R) ∧
    ∃ B', forR (fun (s : List Pc × List Rc) (x : Int × Int) => t_floor_by_2a s.1 s.2 x.1 x.2) zs (B, R) = .inl (B', R ++ ys.map rcOf) ∧ Ch 0 B' w ∧ Ad B' ∧ SkyI w (exT B') []
  | [], [], B, R, _, hc, had, I, _, _ => ⟨trivial, B, by rw [List.map_nil, List.append_nil]; rfl, hc, had, I⟩
  | [], _ :: _, _, _, e, _, _, _, _, _ => by simp at e
  | _ :: _, [], _, _, e, _, _, _, _, _ => by simp at e
  | q :: ys, z :: zs, B, R, e, hc, had, I, hB, hR => by
    rw [List.map_cons, List.map_cons] at e
    obtain ⟨e1, e2⟩ := List.cons.inj e
    rw [List.length_cons] at hB hR
    obtain ⟨k1, pre, p, post, hh, k2⟩ := fby_step (at_ := z.1) (sz := z.2) (R := R) hc hw (by omega) (by omega)
    obtain ⟨n, n1, n2, n3, n4, n5, n6⟩ := top_cut hh hc had
    obtain ⟨s1, s2, s3, s4, s5⟩ := sky_head I n2 n4 n5 n6
    obtain ⟨i1, i2, i3⟩ := I.inn q List.mem_cons_self
    have ht : topQ q = q.2.1 + q.2.2 := rfl
    unfold forR cForR
    rcases k2 with ⟨nq, _⟩ | ⟨_, B', k2, k3, k4, k5, k6⟩
    · exact absurd ⟨by omega, by omega, by omega⟩ nq
    · have er : rcOf (p.1, p.2.2 - z.2, z.2) = rcOf q := by
        obtain ⟨qa, qb, qc⟩ := q
        simp only at *
        rw [e1, show p.1 = qa by omega, show p.2.2 - qc = qb by omega]
      rw [er] at k2
      have eT : exT B' = exT pre ++ List.replicate q.2.2.toNat (p.2.2 - q.2.2) ++ (List.replicate (n + 1 - q.2.2.toNat) p.2.2 ++ exT post) := by
        rw [k6, e1, show (p.2.1 - p.1 - q.2.2).toNat = n + 1 - q.2.2.toNat by omega, List.append_assoc, List.append_assoc]
      obtain ⟨g1, B'', g2, g3, g4, g5⟩ := sky_go hw ys zs B' (R ++ [rcOf q]) e2 k3 k4 (by rw [eT]; exact s5) (by omega) (by rw [List.length_append, List.length_singleton]; omega)
      simp only [k2]
      refine ⟨⟨k1, fun s' z => by cases z; exact g1⟩, B'', ?_, g3, g4, g5⟩
      rw [g2]
      simp
theorem sky_start {w h : Int} {ys : List Sq3} (hw : 0 < w) (hh : 0 < h) (ht : Til w h (ys.map sqB)) (hq : ∀ q ∈ ys, 1 ≤ q.2.2) (ho : ys.Pairwise Bef) : SkyI w (List.replicate w.toNat h) ys := by
  refine ⟨by rw [List.length_replicate]; omega, fun v hv => by have := List.eq_of_mem_replicate hv; omega, fun x y h0 h1 => ?_, fun q hqm => ?_, List.pairwise_map.mp ht.2.1, ho⟩
  · rw [List.getD, List.getElem?_replicate, if_pos (by omega)]
    show 0 ≤ y ∧ y < h ↔ _
    constructor
    · rintro ⟨y0, y1⟩
      obtain ⟨b, hb, hc⟩ := ht.2.2 x y h0 h1 y0 y1
      obtain ⟨q, hqm, rfl⟩ := List.mem_map.mp hb
      exact ⟨q, hqm, hc⟩
    · rintro ⟨q, hqm, hc⟩
      have hb := ht.1 _ (List.mem_map_of_mem hqm)
      have hc' := cell_sq.mp hc
      unfold BxP sqB at hb
      simp only at hb
      omega
  · have hb := ht.1 _ (List.mem_map_of_mem hqm)
    have := hq q hqm
    unfold BxP sqB at hb
    simp only at hb
    omega
theorem fby_f {w h : Int} {ys : List Sq3} (hw : 0 < w) (hh : 0 < h) (ht : Til w h (ys.map sqB)) (hq : ∀ q ∈ ys, 1 ≤ q.2.2) (ho : ys.Pairwise Bef) (hl : ys.length ≤ 1000) :
    C_floor_by w h (ys.map (·.2.2)) ∧ T_floor_by w h (ys.map (·.2.2)) = .inl ((w, 1), (h, 1), ys.map rcOf) := by
  have hc : Ch 0 [((0 : Int), w, h)] w := ⟨rfl, by simp only; omega, rfl⟩
  have e0 : exT [((0 : Int), w, h)] = List.replicate w.toNat h := by rw [ex_one]; simp
  obtain ⟨g1, B', g2, g3, g4, g5⟩ := sky_go hw ys (enumI (ys.map (·.2.2))) [((0 : Int), w, h)] [] enumI_snd hc trivial (by rw [e0]; exact sky_start hw hh ht hq ho) (by rw [List.length_singleton]; omega) (by rw [List.length_nil]; omega)
  rw [List.nil_append] at g2
  obtain ⟨f1, f2⟩ := full_f g3 hw g4 g5.pos
  have f3 := f2.mpr (sky_done g5)
  simp only [T_floor_by, C_floor_by, t_floor_by, c_floor_by, t_floor_by_1, c_floor_by_1, t_floor_by_2, c_floor_by_2]
  rw [g2]
  refine ⟨⟨g1, fun q z => by cases z; exact f1⟩, ?_⟩
  simp only [outR, t_floor_by_2q, t_floor_by_3, f3, Bool.not_true, Bool.false_eq_true, if_false, t_floor_by_4]
end K52

namespace K52
open PySem FL
variable [TabCtx]

theorem rc_one {q : Sq3} : scR 1 1 (sqB q) = rcOf q := by
  unfold scR rcOf sqB
  simp only [scN_one]
def cdOf (q : Sq3) : Int × Int × Int := (-(q.2.1 + q.2.2), q.1, q.2.2)
abbrev key3 : (Int × Int × Int) → TKey := fun a => [.inl a.1, .inl a.2.1, .inl a.2.2]
theorem code_go52 : ∀ (ys : List (Int × Rc)) (qs : List Sq3) (P : List (Int × Int × Int)), ys.map (·.2) = qs.map rcOf → (∀ q ∈ qs, BxS (sqB q) ∧ 1 ≤ q.2.2) → P.length + qs.length ≤ 1000 →
    cForR (fun (s : (List (Int × Int × Int))) (x : Int × Rc) => c_code_of_3a s x.1 x.2) (fun (s : (List (Int × Int × Int))) (x : Int × Rc) => t_code_of_3a s x.1 x.2) ys P ∧
    forR (fun (s : (List (Int × Int × Int))) (x : Int × Rc) => t_code_of_3a s x.1 x.2) ys P = .inl (P ++ qs.map cdOf)
  | [], [], P, _, _, _ => ⟨trivial, by rw [List.map_nil, List.append_nil]; rfl⟩
  | [], _ :: _, _, e, _, _ => by simp at e
  | _ :: _, [], _, e, _, _ => by simp at e
  | x :: ys, q :: qs, P, e, hq, hl => by
    rw [List.map_cons, List.map_cons] at e
    obtain ⟨e1, e2⟩ := List.cons.inj e
    rw [List.length_cons] at hl
    obtain ⟨hb, h1⟩ := hq q List.mem_cons_self
    have hsc : Sc 1 1 := sc_of (by omega) (by omega)
    obtain ⟨s1, s2⟩ := side_eq (s := 1) (t := 1) (b := sqB q) hsc hb
    rw [rc_one] at s1 s2
    have es : T_side_of (rcOf q) = some (q.2.2, 1) := by
      rw [s2, if_neg (by unfold sqB; simp only; omega)]
      unfold sqB
      simp only [scN_one]
      rw [show q.1 + q.2.2 - q.1 = q.2.2 by omega]
    have hbad : ((T_side_of x.2).isNone || (!(([x.2.1, x.2.2.1, x.2.2.2.1, x.2.2.2.2].map fun y1 : Int × Int => decide (y1.2 = 1)).all id))) = false := by
      rw [e1, es]
      rfl
    obtain ⟨i1, i2⟩ := code_go52 ys qs (P ++ [cdOf q]) e2 (fun r hr => hq r (List.mem_cons_of_mem _ hr)) (by rw [List.length_append, List.length_singleton]; omega)
    have et : t_code_of_3a P x.1 x.2 = .inl (P ++ [cdOf q]) := by
      simp only [t_code_of_3a, hbad, Bool.false_eq_true, if_false, t_code_of_3a_1, t_code_of_3a_2]
      rw [e1, es]
      rfl
    unfold cForR forR
    simp only [et]
    refine ⟨⟨?_, fun s' z => by cases z; exact i1⟩, by rw [i2]; simp⟩
    simp only [c_code_of_3a, c_code_of_3a_1]
    rw [e1]
    exact ⟨s1, fun _ => by simp, fun _ => ⟨s1, by rw [es]; rfl, by omega⟩⟩
theorem code_f {w h : Int} {qs : List Sq3} (ht : Til w h (qs.map sqB)) (hq : ∀ q ∈ qs, 1 ≤ q.2.2) (hw : 0 ≤ w ∧ w < 2 ^ 50) (hh : 0 ≤ h ∧ h < 2 ^ 50) (hl : qs.length ≤ 400) :
    C_code_of ((w, 1), (h, 1), qs.map rcOf) ∧ T_code_of ((w, 1), (h, 1), qs.map rcOf) = .inl ((srtY key3 (qs.map cdOf)).map (·.2.2)) := by
  have hsc : Sc 1 1 := sc_of (by omega) (by omega)
  have hbs : ∀ b ∈ qs.map sqB, BxS b := fun b hb => by
    have := ht.1 b hb
    unfold BxP at this
    exact ⟨sm_of (by omega), sm_of (by omega), sm_of (by omega), sm_of (by omega)⟩
  have em : (qs.map sqB).map (scR 1 1) = qs.map rcOf := by
    rw [List.map_map]
    exact List.map_congr_left fun q _ => rc_one
  obtain ⟨l1, l2⟩ := looked_eq (s := 1) (t := 1) (w := w) (hh := h) hsc hbs (sm_of (by omega)) (sm_of (by omega)) (by rw [List.length_map]; exact hl)
  have hc : seenP w h (qs.map sqB) = .covers := (covers_iff hw.1 hh.1).mpr (til_tiles ht)
  obtain ⟨e1, e2⟩ := look_eq (s := 1) (t := 1) (l := seenP w h (qs.map sqB))
  rw [decide_eq_true hc] at e2
  rw [em, scN_one, scN_one] at l1 l2
  obtain ⟨g1, g2⟩ := code_go52 (enumI (qs.map rcOf)) qs [] enumI_snd (fun q hqm => ⟨hbs _ (List.mem_map_of_mem hqm), hq q hqm⟩) (by rw [List.length_nil]; omega)
  rw [List.nil_append] at g2
  have hsl : ∀ P : List (Int × Int × Int), (srtY key3 P).length = P.length := fun P => (srtY_perm P).length_eq
  refine ⟨?_, ?_⟩
  · simp only [C_code_of, c_code_of, l2, c_code_of_1, e2, c_code_of_2, c_code_of_3]
    refine ⟨l1, e1, fun q => Bool.noConfusion q, fun _ => ⟨g1, fun q z => ?_⟩⟩
    rw [g2] at z
    cases z
    simp only [c_code_of_3q, c_code_of_4]
    rw [hsl, List.length_map]
    omega
  · simp only [T_code_of, t_code_of, l2, t_code_of_1, e2, t_code_of_2, t_code_of_3, Bool.not_true, Bool.false_eq_true, if_false]
    rw [g2]
    rfl
theorem bef_key {a b : Sq3} (h : Bef a b) : ltK (key3 (cdOf b)) (key3 (cdOf a)) = false := by
  unfold Bef topQ at h
  show PyProof.Rows.lexLt PyProof.Rows.itemOrd [.inl (-(b.2.1 + b.2.2)), .inl b.1, .inl b.2.2] [.inl (-(a.2.1 + a.2.2)), .inl a.1, .inl a.2.2] = false
  refine PyProof.Rows.lex_false.mpr ⟨decide_eq_false (by omega), ?_⟩
  by_cases q : b.2.1 + b.2.2 < a.2.1 + a.2.2
  · exact .inl (decide_eq_true (by omega))
  · exact .inr (PyProof.Rows.lex_false.mpr ⟨decide_eq_false (by omega), .inl (decide_eq_true (by omega))⟩)
theorem key3_inj {a b : Int × Int × Int} (h : key3 a = key3 b) : a = b := by
  obtain ⟨a1, a2, a3⟩ := a
  obtain ⟨b1, b2, b3⟩ := b
  simp only [key3, List.cons.injEq, Sum.inl.injEq, and_true] at h
  obtain ⟨rfl, rfl, rfl⟩ := h
  rfl
theorem srt_hung {os qs : List Sq3} (ho : os.Pairwise Bef) (hp : qs.Perm os) : srtY key3 (qs.map cdOf) = os.map cdOf := by
  refine List.Perm.eq_of_pairwise (fun a b _ _ h1 h2 => ?_) (srtY_mono (key := key3) _) (List.pairwise_map.mpr (ho.imp fun h => bef_key h)) ((srtY_perm _).trans (hp.map _))
  exact key3_inj ((PyProof.Rows.listOrd PyProof.Rows.itemOrd).total (key3 b) (key3 a) h1 h2).symm
theorem hung_bef {w h : Int} {sq : List Sq3} (ht : Til w h (sq.map sqB)) (hq : ∀ q ∈ sq, 1 ≤ q.2.2) : (T_l_hung sq).Perm sq ∧ (T_l_hung sq).Pairwise Bef := by
  simp only [t_l_hung, T_l_hung]
  refine ⟨srtKy_perm, ?_⟩
  have hd : (srtKy (fun x => T_l_place x) sq).Pairwise fun a b => Disj (sqB a) (sqB b) := List.pairwise_map.mp (((srtKy_perm (key := fun x => T_l_place x) (xs := sq)).map sqB).pairwise_iff (fun q => Disj.symm q) |>.mpr ht.2.1)
  refine ((srtKy_mono (key := fun x => T_l_place x) (xs := sq)).and hd).imp_of_mem fun {a b} ha hb ⟨h1, h2⟩ => ?_
  have qa := hq a (srtKy_perm.mem_iff.mp ha)
  have qb := hq b (srtKy_perm.mem_iff.mp hb)
  have h1' := SrtO.lexB_no.mp h1
  simp only [t_l_place, T_l_place] at h1'
  unfold Bef topQ
  have h3 := h2 b.1 (b.2.1 + b.2.2 - 1)
  rw [cell_sq, cell_sq] at h3
  omega
end K52

namespace K52
open PySem FL
variable [TabCtx]

theorem til_rot {w h : Int} {qs os : List Sq3} (t : Til w h (qs.map sqB)) (p : os.Perm qs) : Til w h (os.map sqB) := t.perm (p.map _)
theorem main (ns : List Int) (hn : ns.length ≤ 63) : C_law ns ∧ T_law ns = true := by
  obtain ⟨f1, f2⟩ := sqfloor_f (ns := ns) (a := 1) (z := 26) (most := 14) (by omega) (by omega) (by omega) hn
  simp only [T_law, C_law, t_law, c_law]
  generalize T_l_square_floor ns 1 26 14 = s at *
  obtain ⟨sq, w, h⟩ := s
  obtain ⟨p1, p2, p3, p4, p5, p6⟩ := f2
  simp only at p1 p2 p3 p4 p5 p6
  have hsl : sq.length ≤ 14 := by omega
  have hp : 0 < sq.length := List.length_pos_iff.mpr p2
  have hpow : ((2 ^ sq.length : Nat) : Int) ≤ 16384 := by
    have := Nat.pow_le_pow_right (n := 2) (by omega) hsl
    omega
  obtain ⟨j0, j1⟩ := fmod_b (a := T_l_cell_at ns 0) (b := (sq.length : Int)) (by omega)
  simp only [c_lawq, t_lawq, c_law_1, t_law_1, c_law_2, t_law_2]
  generalize Int.fmod (T_l_cell_at ns 0) (sq.length : Int) = j at *
  have er : cutL sq (some j) none ++ cutL sq none (some j) = sq.drop j.toNat ++ sq.take j.toNat := by
    rw [cut_from j0, cut_to j0]
  have pr : (sq.drop j.toNat ++ sq.take j.toNat).Perm sq := by
    have := List.perm_append_comm (l₁ := sq.drop j.toNat) (l₂ := sq.take j.toNat)
    rwa [List.take_append_drop] at this
  have hrl := pr.length_eq
  have hlen : (cutL sq (some j) none).length + (cutL sq none (some j)).length ≤ 1000000 := by
    rw [← List.length_append, er]; omega
  rw [er]
  obtain ⟨h1, h2⟩ := hung_bef p1 p6
  have ol := h1.length_eq
  have e1 : ∀ l : List Sq3, T_l_whole_floor l w h = ((w, 1), (h, 1), l.map rcOf) := fun l => rfl
  obtain ⟨a1, a2⟩ := code_f (til_rot p1 pr) (fun q hq => p6 q (pr.mem_iff.mp hq)) (by omega) (by omega) (by omega)
  obtain ⟨b1, b2⟩ := code_f (til_rot p1 h1) (fun q hq => p6 q (h1.mem_iff.mp hq)) (by omega) (by omega) (by omega)
  obtain ⟨g1, g2⟩ := fby_f (by omega) (by omega) (til_rot p1 h1) (fun q hq => p6 q (h1.mem_iff.mp hq)) h2 (by omega)
  rw [srt_hung h2 (pr.trans h1.symm), List.map_map] at a2
  rw [srt_hung h2 (List.Perm.refl _), List.map_map] at b2
  have em : (T_l_hung sq).map ((fun x => x.2.2) ∘ cdOf) = (T_l_hung sq).map (·.2.2) := rfl
  rw [em] at a2 b2
  have v1 : T_code_ofV2 ((w, 1), (h, 1), (sq.drop j.toNat ++ sq.take j.toNat).map rcOf) = (T_l_hung sq).map (·.2.2) := by unfold T_code_ofV2; rw [a2]; rfl
  have v2 : T_code_ofV2 ((w, 1), (h, 1), (T_l_hung sq).map rcOf) = (T_l_hung sq).map (·.2.2) := by unfold T_code_ofV2; rw [b2]; rfl
  have v3 : T_floor_byV2 w h ((T_l_hung sq).map (·.2.2)) = ((w, 1), (h, 1), (T_l_hung sq).map rcOf) := by unfold T_floor_byV2; rw [g2]; rfl
  have ha : ∀ l : List Int, ((!true) || ((l.map fun y1 : Int => ((!true) || false)).any id)) = false := fun l => by
    induction l with
    | nil => rfl
    | cons x l ih => simpa using ih
  simp only [c_law_3, t_law_3, c_law_4, t_law_4, e1, v1, c_law_5, t_law_5, ha, Bool.false_eq_true, if_false, c_law_6, t_law_6, decide_true, Bool.not_true, c_law_7, t_law_7, v3, c_law_8, t_law_8, v2, Bool.and_true, forall_const]
  exact ⟨⟨f1, cell_c (by omega) (by omega), by omega, hlen, show _ ≤ _ by omega, ⟨a1, _, a2⟩, by rw [List.length_map]; omega, fun _ => ⟨by omega, ⟨g1, _, g2⟩, show _ ≤ _ by omega, ⟨b1, _, b2⟩⟩⟩, by simp⟩
theorem law_true : ∀ ns : List Int, ns.length ≤ 63 → ∃ st, m_law [.scr ns] [] = .ok (.bl true) st := fun ns hl => by
  obtain ⟨h1, h2⟩ := main ns hl
  have := f_law (st := []) ns h1
  rw [h2] at this
  exact ⟨[], this⟩
end K52

namespace K52
open PySem PySem.Spec PyProof.Rows L2 FL
instance : TabCtx := ⟨[]⟩
def spLaw (K : PySem.W.Frag) : Sp := fun vs H Q _ => ∃ (a : Addr) (ns : List Int), vs = [.ref a] ∧ SqL K H a (ns.map V.int) ∧ ns.length ≤ 63 ∧ LamX.Tabs TabCtx.tabs H ∧ ∀ H', Q (.bl true) H'
theorem all_mk {l : PySem.W.OpenLaw} {w : World} {K : PySem.W.Frag} {h : Heap} {mg : Str → Option Value} {fa f0 f1 f2 f3 f4 f5 f6 f7 f8 f9 f10 f11 f12 f13 f14 f15 f16 f17 f18 f19 f20 f21 f22 f23 f24 : Addr} (X : K.In h) (G : h.Ns mainGlobals mg) (hfa : mg "law" = some (.ref fa))
    {od0 an0 od1 an1 od2 an2 od3 an3 od4 an4 od5 an5 od6 an6 od7 an7 od8 an8 od9 an9 od10 an10 od11 an11 od12 an12 od13 an13 od14 an14 od15 an15 od16 an16 od17 an17 od18 an18 od19 an19 od20 an20 od21 an21 od22 an22 od23 an23 od24 an24 : Option Addr} {sl0 sl1 sl2 sl3 sl4 sl5 sl6 sl7 sl8 sl9 sl10 sl11 sl12 sl13 sl14 sl15 sl16 sl17 sl18 sl19 sl20 sl21 sl22 sl23 sl24 : Array (Option Value)} {oc0 kV0 dc0 pm0 cd0 ct0 oc1 kV1 dc1 pm1 cd1 ct1 oc2 kV2 dc2 pm2 cd2 ct2 oc3 kV3 dc3 pm3 cd3 ct3 oc4 kV4 dc4 pm4 cd4 ct4 oc5 kV5 dc5 pm5 cd5 ct5 oc6 kV6 dc6 pm6 cd6 ct6 oc7 kV7 dc7 pm7 cd7 ct7 oc8 kV8 dc8 pm8 cd8 ct8 oc9 kV9 dc9 pm9 cd9 ct9 oc10 kV10 dc10 pm10 cd10 ct10 oc11 kV11 dc11 pm11 cd11 ct11 oc12 kV12 dc12 pm12 cd12 ct12 oc13 kV13 dc13 pm13 cd13 ct13 oc14 kV14 dc14 pm14 cd14 ct14 oc15 kV15 dc15 pm15 cd15 ct15 oc16 kV16 dc16 pm16 cd16 ct16 oc17 kV17 dc17 pm17 cd17 ct17 oc18 kV18 dc18 pm18 cd18 ct18 oc19 kV19 dc19 pm19 cd19 ct19 oc20 kV20 dc20 pm20 cd20 ct20 oc21 kV21 dc21 pm21 cd21 ct21 oc22 kV22 dc22 pm22 cd22 ct22 oc23 kV23 dc23 pm23 cd23 ct23 oc24 kV24 dc24 pm24 cd24 ct24 : Value} {t0_NOUGHT t1_NOUGHT : Tok} {r_NOUGHT : Addr} {n_NOUGHT : Nat} {y_NOUGHT : Array (Option Value)} {C_NoNumber C_NoFloor C_NoCode C_NoSize C_FloorError : Addr} {iF_NoFloor N_NoFloor : Addr} {nm_NoFloor q_NoFloor : Str} {bs_NoFloor : List Value} {sn_NoFloor : List Str} {sub_NoFloor : List Value} {ab_NoFloor : Bool} {col_NoFloor : Option Bool} {dd_NoFloor : Option Addr} {k0_NoFloor k1_NoFloor k2_NoFloor k3_NoFloor k5_NoFloor : Option Value} {oc_NoFloor kV_NoFloor doc_NoFloor pm_NoFloor cdv_NoFloor ct_NoFloor : Value} {od_NoFloor an_NoFloor : Option Addr} {osl_NoFloor : Array (Option Value)} {iF_NoCode N_NoCode : Addr} {nm_NoCode q_NoCode : Str} {bs_NoCode : List Value} {sn_NoCode : List Str} {sub_NoCode : List Value} {ab_NoCode : Bool} {col_NoCode : Option Bool} {dd_NoCode : Option Addr} {k0_NoCode k1_NoCode k2_NoCode k3_NoCode k5_NoCode : Option Value} {oc_NoCode kV_NoCode doc_NoCode pm_NoCode cdv_NoCode ct_NoCode : Value} {od_NoCode an_NoCode : Option Addr} {osl_NoCode : Array (Option Value)} {iF_NoSize N_NoSize : Addr} {nm_NoSize q_NoSize : Str} {bs_NoSize : List Value} {sn_NoSize : List Str} {sub_NoSize : List Value} {ab_NoSize : Bool} {col_NoSize : Option Bool} {dd_NoSize : Option Addr} {k0_NoSize k1_NoSize k2_NoSize k3_NoSize k5_NoSize : Option Value} {oc_NoSize kV_NoSize doc_NoSize pm_NoSize cdv_NoSize ct_NoSize : Value} {od_NoSize an_NoSize : Option Addr} {osl_NoSize : Array (Option Value)}
    (a0 : PySem.W.nsIn K mainGlobals "_law_cell_at" = some (some (.ref f0))) (l0 : K.lookup f0 = some ⟨oc0, od0, .func (PySem.W.fnOf "_law_cell_at" "_law_cell_at" (defArgs s_l_cell_at) (defBody s_l_cell_at) (defScope s_l_cell_at) .none kV0 dc0 pm0 an0 cd0 ct0), sl0⟩) (c0 : PySem.W.codeIn K cd0 "_law_cell_at" = true) (k0 : PySem.W.keepIn K (.ref f0) = true)
    (a1 : PySem.W.nsIn K mainGlobals "_law_place" = some (some (.ref f1))) (l1 : K.lookup f1 = some ⟨oc1, od1, .func (PySem.W.fnOf "_law_place" "_law_place" (defArgs s_l_place) (defBody s_l_place) (defScope s_l_place) .none kV1 dc1 pm1 an1 cd1 ct1), sl1⟩) (c1 : PySem.W.codeIn K cd1 "_law_place" = true) (k1 : PySem.W.keepIn K (.ref f1) = true)
    (a2 : PySem.W.nsIn K mainGlobals "_law_hung" = some (some (.ref f2))) (l2 : K.lookup f2 = some ⟨oc2, od2, .func (PySem.W.fnOf "_law_hung" "_law_hung" (defArgs s_l_hung) (defBody s_l_hung) (defScope s_l_hung) .none kV2 dc2 pm2 an2 cd2 ct2), sl2⟩) (c2 : PySem.W.codeIn K cd2 "_law_hung" = true) (k2 : PySem.W.keepIn K (.ref f2) = true)
    (a3 : PySem.W.nsIn K mainGlobals "_law_square_floor" = some (some (.ref f3))) (l3 : K.lookup f3 = some ⟨oc3, od3, .func (PySem.W.fnOf "_law_square_floor" "_law_square_floor" (defArgs s_l_square_floor) (defBody s_l_square_floor) (defScope s_l_square_floor) .none kV3 dc3 pm3 an3 cd3 ct3), sl3⟩) (c3 : PySem.W.codeIn K cd3 "_law_square_floor" = true) (k3 : PySem.W.keepIn K (.ref f3) = true)
    (a4 : PySem.W.nsIn K mainGlobals "_law_whole_floor" = some (some (.ref f4))) (l4 : K.lookup f4 = some ⟨oc4, od4, .func (PySem.W.fnOf "_law_whole_floor" "_law_whole_floor" (defArgs s_l_whole_floor) (defBody s_l_whole_floor) (defScope s_l_whole_floor) .none kV4 dc4 pm4 an4 cd4 ct4), sl4⟩) (c4 : PySem.W.codeIn K cd4 "_law_whole_floor" = true) (k4 : PySem.W.keepIn K (.ref f4) = true)
    (a5 : PySem.W.nsIn K mainGlobals "less" = some (some (.ref f5))) (l5 : K.lookup f5 = some ⟨oc5, od5, .func (PySem.W.fnOf "less" "less" (defArgs s_less) (defBody s_less) (defScope s_less) .none kV5 dc5 pm5 an5 cd5 ct5), sl5⟩) (c5 : PySem.W.codeIn K cd5 "less" = true) (k5 : PySem.W.keepIn K (.ref f5) = true)
    (a6 : PySem.W.nsIn K mainGlobals "is_covered" = some (some (.ref f6))) (l6 : K.lookup f6 = some ⟨oc6, od6, .func (PySem.W.fnOf "is_covered" "is_covered" (defArgs s_is_covered) (defBody s_is_covered) (defScope s_is_covered) .none kV6 dc6 pm6 an6 cd6 ct6), sl6⟩) (c6 : PySem.W.codeIn K cd6 "is_covered" = true) (k6 : PySem.W.keepIn K (.ref f6) = true)
    (a7 : PySem.W.nsIn K mainGlobals "rising" = some (some (.ref f7))) (l7 : K.lookup f7 = some ⟨oc7, od7, .func (PySem.W.fnOf "rising" "rising" (defArgs s_rising) (defBody s_rising) (defScope s_rising) .none kV7 dc7 pm7 an7 cd7 ct7), sl7⟩) (c7 : PySem.W.codeIn K cd7 "rising" = true) (k7 : PySem.W.keepIn K (.ref f7) = true)
    (a8 : PySem.W.nsIn K mainGlobals "first_gap" = some (some (.ref f8))) (l8 : K.lookup f8 = some ⟨oc8, od8, .func (PySem.W.fnOf "first_gap" "first_gap" (defArgs s_first_gap) (defBody s_first_gap) (defScope s_first_gap) .none kV8 dc8 pm8 an8 cd8 ct8), sl8⟩) (c8 : PySem.W.codeIn K cd8 "first_gap" = true) (k8 : PySem.W.keepIn K (.ref f8) = true)
    (a9 : PySem.W.nsIn K mainGlobals "overlap" = some (some (.ref f9))) (l9 : K.lookup f9 = some ⟨oc9, od9, .func (PySem.W.fnOf "overlap" "overlap" (defArgs s_overlap) (defBody s_overlap) (defScope s_overlap) .none kV9 dc9 pm9 an9 cd9 ct9), sl9⟩) (c9 : PySem.W.codeIn K cd9 "overlap" = true) (k9 : PySem.W.keepIn K (.ref f9) = true)
    (a10 : PySem.W.nsIn K mainGlobals "first_overlap" = some (some (.ref f10))) (l10 : K.lookup f10 = some ⟨oc10, od10, .func (PySem.W.fnOf "first_overlap" "first_overlap" (defArgs s_first_overlap) (defBody s_first_overlap) (defScope s_first_overlap) .none kV10 dc10 pm10 an10 cd10 ct10), sl10⟩) (c10 : PySem.W.codeIn K cd10 "first_overlap" = true) (k10 : PySem.W.keepIn K (.ref f10) = true)
    (a11 : PySem.W.nsIn K mainGlobals "is_none" = some (some (.ref f11))) (l11 : K.lookup f11 = some ⟨oc11, od11, .func (PySem.W.fnOf "is_none" "is_none" (defArgs s_is_none) (defBody s_is_none) (defScope s_is_none) .none kV11 dc11 pm11 an11 cd11 ct11), sl11⟩) (c11 : PySem.W.codeIn K cd11 "is_none" = true) (k11 : PySem.W.keepIn K (.ref f11) = true)
    (a12 : PySem.W.nsIn K mainGlobals "is_out" = some (some (.ref f12))) (l12 : K.lookup f12 = some ⟨oc12, od12, .func (PySem.W.fnOf "is_out" "is_out" (defArgs s_is_out) (defBody s_is_out) (defScope s_is_out) .none kV12 dc12 pm12 an12 cd12 ct12), sl12⟩) (c12 : PySem.W.codeIn K cd12 "is_out" = true) (k12 : PySem.W.keepIn K (.ref f12) = true)
    (a13 : PySem.W.nsIn K mainGlobals "looked" = some (some (.ref f13))) (l13 : K.lookup f13 = some ⟨oc13, od13, .func (PySem.W.fnOf "looked" "looked" (defArgs s_looked) (defBody s_looked) (defScope s_looked) .none kV13 dc13 pm13 an13 cd13 ct13), sl13⟩) (c13 : PySem.W.codeIn K cd13 "looked" = true) (k13 : PySem.W.keepIn K (.ref f13) = true)
    (a14 : PySem.W.nsIn K mainGlobals "common" = some (some (.ref f14))) (l14 : K.lookup f14 = some ⟨oc14, od14, .func (PySem.W.fnOf "common" "common" (defArgs s_common) (defBody s_common) (defScope s_common) .none kV14 dc14 pm14 an14 cd14 ct14), sl14⟩) (c14 : PySem.W.codeIn K cd14 "common" = true) (k14 : PySem.W.keepIn K (.ref f14) = true)
    (a15 : PySem.W.nsIn K mainGlobals "fraction" = some (some (.ref f15))) (l15 : K.lookup f15 = some ⟨oc15, od15, .func (PySem.W.fnOf "fraction" "fraction" (defArgs s_fraction) (defBody s_fraction) (defScope s_fraction) .none kV15 dc15 pm15 an15 cd15 ct15), sl15⟩) (c15 : PySem.W.codeIn K cd15 "fraction" = true) (k15 : PySem.W.keepIn K (.ref f15) = true)
    (a16 : PySem.W.nsIn K mainGlobals "minus" = some (some (.ref f16))) (l16 : K.lookup f16 = some ⟨oc16, od16, .func (PySem.W.fnOf "minus" "minus" (defArgs s_minus) (defBody s_minus) (defScope s_minus) .none kV16 dc16 pm16 an16 cd16 ct16), sl16⟩) (c16 : PySem.W.codeIn K cd16 "minus" = true) (k16 : PySem.W.keepIn K (.ref f16) = true)
    (a17 : PySem.W.nsIn K mainGlobals "side_of" = some (some (.ref f17))) (l17 : K.lookup f17 = some ⟨oc17, od17, .func (PySem.W.fnOf "side_of" "side_of" (defArgs s_side_of) (defBody s_side_of) (defScope s_side_of) .none kV17 dc17 pm17 an17 cd17 ct17), sl17⟩) (c17 : PySem.W.codeIn K cd17 "side_of" = true) (k17 : PySem.W.keepIn K (.ref f17) = true)
    (a18 : PySem.W.nsIn K mainGlobals "code_of" = some (some (.ref f18))) (l18 : K.lookup f18 = some ⟨oc18, od18, .func (PySem.W.fnOf "code_of" "code_of" (defArgs s_code_of) (defBody s_code_of) (defScope s_code_of) .none kV18 dc18 pm18 an18 cd18 ct18), sl18⟩) (c18 : PySem.W.codeIn K cd18 "code_of" = true) (k18 : PySem.W.keepIn K (.ref f18) = true)
    (a19 : PySem.W.nsIn K mainGlobals "highest" = some (some (.ref f19))) (l19 : K.lookup f19 = some ⟨oc19, od19, .func (PySem.W.fnOf "highest" "highest" (defArgs s_highest) (defBody s_highest) (defScope s_highest) .none kV19 dc19 pm19 an19 cd19 ct19), sl19⟩) (c19 : PySem.W.codeIn K cd19 "highest" = true) (k19 : PySem.W.keepIn K (.ref f19) = true)
    (a20 : PySem.W.nsIn K mainGlobals "joined" = some (some (.ref f20))) (l20 : K.lookup f20 = some ⟨oc20, od20, .func (PySem.W.fnOf "joined" "joined" (defArgs s_joined) (defBody s_joined) (defScope s_joined) .none kV20 dc20 pm20 an20 cd20 ct20), sl20⟩) (c20 : PySem.W.codeIn K cd20 "joined" = true) (k20 : PySem.W.keepIn K (.ref f20) = true)
    (a21 : PySem.W.nsIn K mainGlobals "hung" = some (some (.ref f21))) (l21 : K.lookup f21 = some ⟨oc21, od21, .func (PySem.W.fnOf "hung" "hung" (defArgs s_hung) (defBody s_hung) (defScope s_hung) .none kV21 dc21 pm21 an21 cd21 ct21), sl21⟩) (c21 : PySem.W.codeIn K cd21 "hung" = true) (k21 : PySem.W.keepIn K (.ref f21) = true)
    (a22 : PySem.W.nsIn K mainGlobals "is_full" = some (some (.ref f22))) (l22 : K.lookup f22 = some ⟨oc22, od22, .func (PySem.W.fnOf "is_full" "is_full" (defArgs s_is_full) (defBody s_is_full) (defScope s_is_full) .none kV22 dc22 pm22 an22 cd22 ct22), sl22⟩) (c22 : PySem.W.codeIn K cd22 "is_full" = true) (k22 : PySem.W.keepIn K (.ref f22) = true)
    (a23 : PySem.W.nsIn K mainGlobals "floor_by" = some (some (.ref f23))) (l23 : K.lookup f23 = some ⟨oc23, od23, .func (PySem.W.fnOf "floor_by" "floor_by" (defArgs s_floor_by) (defBody s_floor_by) (defScope s_floor_by) .none kV23 dc23 pm23 an23 cd23 ct23), sl23⟩) (c23 : PySem.W.codeIn K cd23 "floor_by" = true) (k23 : PySem.W.keepIn K (.ref f23) = true)
    (a24 : PySem.W.nsIn K mainGlobals "law" = some (some (.ref f24))) (l24 : K.lookup f24 = some ⟨oc24, od24, .func (PySem.W.fnOf "law" "law" (defArgs s_law) (defBody s_law) (defScope s_law) .none kV24 dc24 pm24 an24 cd24 ct24), sl24⟩) (c24 : PySem.W.codeIn K cd24 "law" = true) (k24 : PySem.W.keepIn K (.ref f24) = true)
    (z_abs : PySem.W.nsIn K mainGlobals "abs" = some none)
    (z_enumerate : PySem.W.nsIn K mainGlobals "enumerate" = some none)
    (z_range : PySem.W.nsIn K mainGlobals "range" = some none)
    (z_len : PySem.W.nsIn K mainGlobals "len" = some none)
    (z_zip : PySem.W.nsIn K mainGlobals "zip" = some none)
    (z_all : PySem.W.nsIn K mainGlobals "all" = some none)
    (z_tuple : PySem.W.nsIn K mainGlobals "tuple" = some none)
    (z_sorted : PySem.W.nsIn K mainGlobals "sorted" = some none)
    (z_min : PySem.W.nsIn K mainGlobals "min" = some none)
    (z_isinstance : PySem.W.nsIn K mainGlobals "isinstance" = some none)
    (z_any : PySem.W.nsIn K mainGlobals "any" = some none)
    (z_int : PySem.W.nsIn K mainGlobals "int" = some none)
    (z_bool : PySem.W.nsIn K mainGlobals "bool" = some none)
    (v_NOUGHT : PySem.W.nsIn K mainGlobals "NOUGHT" = some (some (.ref r_NOUGHT))) (w_NOUGHT : K.lookup r_NOUGHT = some ⟨.type "tuple", none, .seq #[.int 0 t0_NOUGHT, .int 1 t1_NOUGHT] n_NOUGHT, y_NOUGHT⟩)
    (ac_NoNumber : PySem.W.nsIn K mainGlobals (Str.ofString "NoNumber") = some (some (.ref C_NoNumber)))
    (ac_NoFloor : PySem.W.nsIn K mainGlobals (Str.ofString "NoFloor") = some (some (.ref C_NoFloor)))
    (ac_NoCode : PySem.W.nsIn K mainGlobals (Str.ofString "NoCode") = some (some (.ref C_NoCode)))
    (ac_NoSize : PySem.W.nsIn K mainGlobals (Str.ofString "NoSize") = some (some (.ref C_NoSize)))
    (ac_FloorError : PySem.W.nsIn K mainGlobals (Str.ofString "FloorError") = some (some (.ref C_FloorError)))
    (kc_NoNumber : PySem.W.keepIn K (.ref C_NoNumber) = true) (bc_NoNumber : PySem.W.subIn K (.ref C_NoNumber) (.type "BaseException") = some true) (tc_NoNumber : PySem.W.typeIn K (.ref C_NoNumber) = some (.type "type")) (qc_NoNumber : PySem.W.excIn K C_NoNumber [.type "ValueError", .type "Exception", .type "BaseException", .type "object"] "ValueError.__new__" = true)
    (xL_NoFloor : K.lookup C_NoFloor = some (excClassObj nm_NoFloor q_NoFloor C_NoFloor N_NoFloor bs_NoFloor [.ref C_FloorError, .type "ValueError", .type "Exception", .type "BaseException", .type "object"] true sn_NoFloor sub_NoFloor ab_NoFloor col_NoFloor dd_NoFloor k0_NoFloor k1_NoFloor k2_NoFloor k3_NoFloor k5_NoFloor "ValueError.__new__")) (sa_NoFloor : PySem.W.findIn K (.ref C_NoFloor) "__setattr__" = some (some (.builtin "object.__setattr__"))) (eC_NoFloor : PySem.W.subIn K (.ref C_NoFloor) (.type "BaseException") = some true) (tC_NoFloor : PySem.W.typeIn K (.ref C_NoFloor) = some (.type "type")) (kC_NoFloor : PySem.W.keepIn K (.ref C_NoFloor) = true) (a1_NoFloor : PySem.W.findIn K (.ref C_NoFloor) "__init__" = some (some (.ref iF_NoFloor))) (t1_NoFloor : PySem.W.typeIn K (.ref iF_NoFloor) = some (.type "function")) (l1_NoFloor : K.lookup iF_NoFloor = some ⟨oc_NoFloor, od_NoFloor, .func (PySem.W.fnOf "__init__" "NoFloor.__init__" (defArgs s_i_NoFloor) (defBody s_i_NoFloor) (defScope s_i_NoFloor) .none kV_NoFloor doc_NoFloor pm_NoFloor an_NoFloor cdv_NoFloor ct_NoFloor), osl_NoFloor⟩) (c1_NoFloor : PySem.W.codeIn K cdv_NoFloor "NoFloor.__init__" = true) (k1_NoFloor_ : PySem.W.keepIn K (.ref iF_NoFloor) = true)
    (nf_NoFloor_found : PySem.W.findIn K (.ref C_NoFloor) "found" = some none)
    (xL_NoCode : K.lookup C_NoCode = some (excClassObj nm_NoCode q_NoCode C_NoCode N_NoCode bs_NoCode [.ref C_FloorError, .type "ValueError", .type "Exception", .type "BaseException", .type "object"] true sn_NoCode sub_NoCode ab_NoCode col_NoCode dd_NoCode k0_NoCode k1_NoCode k2_NoCode k3_NoCode k5_NoCode "ValueError.__new__")) (sa_NoCode : PySem.W.findIn K (.ref C_NoCode) "__setattr__" = some (some (.builtin "object.__setattr__"))) (eC_NoCode : PySem.W.subIn K (.ref C_NoCode) (.type "BaseException") = some true) (tC_NoCode : PySem.W.typeIn K (.ref C_NoCode) = some (.type "type")) (kC_NoCode : PySem.W.keepIn K (.ref C_NoCode) = true) (a1_NoCode : PySem.W.findIn K (.ref C_NoCode) "__init__" = some (some (.ref iF_NoCode))) (t1_NoCode : PySem.W.typeIn K (.ref iF_NoCode) = some (.type "function")) (l1_NoCode : K.lookup iF_NoCode = some ⟨oc_NoCode, od_NoCode, .func (PySem.W.fnOf "__init__" "NoCode.__init__" (defArgs s_i_NoCode) (defBody s_i_NoCode) (defScope s_i_NoCode) .none kV_NoCode doc_NoCode pm_NoCode an_NoCode cdv_NoCode ct_NoCode), osl_NoCode⟩) (c1_NoCode : PySem.W.codeIn K cdv_NoCode "NoCode.__init__" = true) (k1_NoCode_ : PySem.W.keepIn K (.ref iF_NoCode) = true)
    (nf_NoCode_place : PySem.W.findIn K (.ref C_NoCode) "place" = some none)
    (xL_NoSize : K.lookup C_NoSize = some (excClassObj nm_NoSize q_NoSize C_NoSize N_NoSize bs_NoSize [.ref C_FloorError, .type "ValueError", .type "Exception", .type "BaseException", .type "object"] true sn_NoSize sub_NoSize ab_NoSize col_NoSize dd_NoSize k0_NoSize k1_NoSize k2_NoSize k3_NoSize k5_NoSize "ValueError.__new__")) (sa_NoSize : PySem.W.findIn K (.ref C_NoSize) "__setattr__" = some (some (.builtin "object.__setattr__"))) (eC_NoSize : PySem.W.subIn K (.ref C_NoSize) (.type "BaseException") = some true) (tC_NoSize : PySem.W.typeIn K (.ref C_NoSize) = some (.type "type")) (kC_NoSize : PySem.W.keepIn K (.ref C_NoSize) = true) (a1_NoSize : PySem.W.findIn K (.ref C_NoSize) "__init__" = some (some (.ref iF_NoSize))) (t1_NoSize : PySem.W.typeIn K (.ref iF_NoSize) = some (.type "function")) (l1_NoSize : K.lookup iF_NoSize = some ⟨oc_NoSize, od_NoSize, .func (PySem.W.fnOf "__init__" "NoSize.__init__" (defArgs s_i_NoSize) (defBody s_i_NoSize) (defScope s_i_NoSize) .none kV_NoSize doc_NoSize pm_NoSize an_NoSize cdv_NoSize ct_NoSize), osl_NoSize⟩) (c1_NoSize : PySem.W.codeIn K cdv_NoSize "NoSize.__init__" = true) (k1_NoSize_ : PySem.W.keepIn K (.ref iF_NoSize) = true)
    (nf_NoSize_at : PySem.W.findIn K (.ref C_NoSize) "at" = some none)
    (rd_FloorError : PySem.W.readsIn K C_FloorError (.type "type") = true) (sg_FloorError : PySem.W.specialIn K (.ref C_FloorError) "__getattribute__" = some (some (.builtin "type.__getattribute__"))) (fc_FloorError : PySem.W.findCls K (.ref C_FloorError) (.type "type") "__init__" = some (.val (.builtin "ValueError.__init__"))) :
    ∃ fd : FuncData, (∀ (s : Shared) (v : Value), BindsTo s fd ⟨[v], []⟩ [("_law_script", v)]) ∧ ∀ base : Heap, K.In base → base.Ns mainGlobals mg → FnOk l.prog w K mg base (L2.CX l.prog w) 6 fa fd ["_law_script"] (spLaw K) := by
  have e := hfa.symm.trans (PySem.W.mg_of X G a24)
  cases e
  have d0 : DefAt K mg "_law_cell_at" s_l_cell_at ["_law_script", "_law_k"] := defAt_mk X G a0 l0 c0 k0 fun F => F.binds (ps := ["_law_script", "_law_k"]) fun _ _ _ _ _ _ us hl => match us, hl with | [_, _], _ => rfl
  have d1 : DefAt K mg "_law_place" s_l_place ["_law_square"] := defAt_mk X G a1 l1 c1 k1 fun F => F.binds (ps := ["_law_square"]) fun _ _ _ _ _ _ us hl => match us, hl with | [_], _ => rfl
  have d2 : DefAt K mg "_law_hung" s_l_hung ["_law_squares"] := defAt_mk X G a2 l2 c2 k2 fun F => F.binds (ps := ["_law_squares"]) fun _ _ _ _ _ _ us hl => match us, hl with | [_], _ => rfl
  have d3 : DefAt K mg "_law_square_floor" s_l_square_floor ["_law_script", "_law_first", "_law_last", "_law_most"] := defAt_mk X G a3 l3 c3 k3 fun F => F.binds (ps := ["_law_script", "_law_first", "_law_last", "_law_most"]) fun _ _ _ _ _ _ us hl => match us, hl with | [_, _, _, _], _ => rfl
  have d4 : DefAt K mg "_law_whole_floor" s_l_whole_floor ["_law_squares", "_law_wide", "_law_high"] := defAt_mk X G a4 l4 c4 k4 fun F => F.binds (ps := ["_law_squares", "_law_wide", "_law_high"]) fun _ _ _ _ _ _ us hl => match us, hl with | [_, _, _], _ => rfl
  have d5 : DefAt K mg "less" s_less ["one", "other"] := defAt_mk X G a5 l5 c5 k5 fun F => F.binds (ps := ["one", "other"]) fun _ _ _ _ _ _ us hl => match us, hl with | [_, _], _ => rfl
  have d6 : DefAt K mg "is_covered" s_is_covered ["cell", "rectangles"] := defAt_mk X G a6 l6 c6 k6 fun F => F.binds (ps := ["cell", "rectangles"]) fun _ _ _ _ _ _ us hl => match us, hl with | [_, _], _ => rfl
  have d7 : DefAt K mg "rising" s_rising ["numbers"] := defAt_mk X G a7 l7 c7 k7 fun F => F.binds (ps := ["numbers"]) fun _ _ _ _ _ _ us hl => match us, hl with | [_], _ => rfl
  have d8 : DefAt K mg "first_gap" s_first_gap ["floor"] := defAt_mk X G a8 l8 c8 k8 fun F => F.binds (ps := ["floor"]) fun _ _ _ _ _ _ us hl => match us, hl with | [_], _ => rfl
  have d9 : DefAt K mg "overlap" s_overlap ["one", "other"] := defAt_mk X G a9 l9 c9 k9 fun F => F.binds (ps := ["one", "other"]) fun _ _ _ _ _ _ us hl => match us, hl with | [_, _], _ => rfl
  have d10 : DefAt K mg "first_overlap" s_first_overlap ["rectangles"] := defAt_mk X G a10 l10 c10 k10 fun F => F.binds (ps := ["rectangles"]) fun _ _ _ _ _ _ us hl => match us, hl with | [_], _ => rfl
  have d11 : DefAt K mg "is_none" s_is_none ["one"] := defAt_mk X G a11 l11 c11 k11 fun F => F.binds (ps := ["one"]) fun _ _ _ _ _ _ us hl => match us, hl with | [_], _ => rfl
  have d12 : DefAt K mg "is_out" s_is_out ["one", "width", "height"] := defAt_mk X G a12 l12 c12 k12 fun F => F.binds (ps := ["one", "width", "height"]) fun _ _ _ _ _ _ us hl => match us, hl with | [_, _, _], _ => rfl
  have d13 : DefAt K mg "looked" s_looked ["floor"] := defAt_mk X G a13 l13 c13 k13 fun F => F.binds (ps := ["floor"]) fun _ _ _ _ _ _ us hl => match us, hl with | [_], _ => rfl
  have d14 : DefAt K mg "common" s_common ["one", "other"] := defAt_mk X G a14 l14 c14 k14 fun F => F.binds (ps := ["one", "other"]) fun _ _ _ _ _ _ us hl => match us, hl with | [_, _], _ => rfl
  have d15 : DefAt K mg "fraction" s_fraction ["top", "bottom"] := defAt_mk X G a15 l15 c15 k15 fun F => F.binds (ps := ["top", "bottom"]) fun _ _ _ _ _ _ us hl => match us, hl with | [_, _], _ => rfl
  have d16 : DefAt K mg "minus" s_minus ["one", "other"] := defAt_mk X G a16 l16 c16 k16 fun F => F.binds (ps := ["one", "other"]) fun _ _ _ _ _ _ us hl => match us, hl with | [_, _], _ => rfl
  have d17 : DefAt K mg "side_of" s_side_of ["rectangle"] := defAt_mk X G a17 l17 c17 k17 fun F => F.binds (ps := ["rectangle"]) fun _ _ _ _ _ _ us hl => match us, hl with | [_], _ => rfl
  have d18 : DefAt K mg "code_of" s_code_of ["floor"] := defAt_mk X G a18 l18 c18 k18 fun F => F.binds (ps := ["floor"]) fun _ _ _ _ _ _ us hl => match us, hl with | [_], _ => rfl
  have d19 : DefAt K mg "highest" s_highest ["border"] := defAt_mk X G a19 l19 c19 k19 fun F => F.binds (ps := ["border"]) fun _ _ _ _ _ _ us hl => match us, hl with | [_], _ => rfl
  have d20 : DefAt K mg "joined" s_joined ["pieces"] := defAt_mk X G a20 l20 c20 k20 fun F => F.binds (ps := ["pieces"]) fun _ _ _ _ _ _ us hl => match us, hl with | [_], _ => rfl
  have d21 : DefAt K mg "hung" s_hung ["border", "size"] := defAt_mk X G a21 l21 c21 k21 fun F => F.binds (ps := ["border", "size"]) fun _ _ _ _ _ _ us hl => match us, hl with | [_, _], _ => rfl
  have d22 : DefAt K mg "is_full" s_is_full ["border"] := defAt_mk X G a22 l22 c22 k22 fun F => F.binds (ps := ["border"]) fun _ _ _ _ _ _ us hl => match us, hl with | [_], _ => rfl
  have d23 : DefAt K mg "floor_by" s_floor_by ["width", "height", "sizes"] := defAt_mk X G a23 l23 c23 k23 fun F => F.binds (ps := ["width", "height", "sizes"]) fun _ _ _ _ _ _ us hl => match us, hl with | [_, _, _], _ => rfl
  have d24 : DefAt K mg "law" s_law ["_law_script"] := defAt_mk X G a24 l24 c24 k24 fun F => F.binds (ps := ["_law_script"]) fun _ _ _ _ _ _ us hl => match us, hl with | [_], _ => rfl
  have F : Facts K mg := ⟨d0, d1, d2, d3, d4, d5, d6, d7, d8, d9, d10, d11, d12, d13, d14, d15, d16, d17, d18, d19, d20, d21, d22, d23, d24, PySem.W.mg_none_of X G z_abs, PySem.W.mg_none_of X G z_enumerate, PySem.W.mg_none_of X G z_range, PySem.W.mg_none_of X G z_len, PySem.W.mg_none_of X G z_zip, PySem.W.mg_none_of X G z_all, PySem.W.mg_none_of X G z_tuple, PySem.W.mg_none_of X G z_sorted, PySem.W.mg_none_of X G z_min, PySem.W.mg_none_of X G z_isinstance, PySem.W.mg_none_of X G z_any, PySem.W.mg_none_of X G z_int, PySem.W.mg_none_of X G z_bool, const_tup (xs := [V.int (0), V.int (1)]) (ds := [D.int (0), D.int (1)]) X G v_NOUGHT w_NOUGHT (by simp) (.cons ⟨_, rfl⟩ (.cons ⟨_, rfl⟩ (.nil))) (fun _ _ => ⟨_, _, rfl, rfl, ⟨_, _, rfl, rfl, rfl⟩⟩), ⟨C_NoNumber, ac_NoNumber, PySem.W.mg_of X G ac_NoNumber, kc_NoNumber, bc_NoNumber, tc_NoNumber, qc_NoNumber⟩, clsR_mk X G ac_NoFloor xL_NoFloor (by rfl) sa_NoFloor eC_NoFloor tC_NoFloor kC_NoFloor (by intro f hf; simp only [List.mem_cons, List.not_mem_nil, or_false] at hf; subst hf; exact nf_NoFloor_found) a1_NoFloor t1_NoFloor l1_NoFloor c1_NoFloor k1_NoFloor_ (fun F => F.binds (ps := ["self", "found"]) fun _ _ _ _ _ _ us hl => match us, hl with | [_, _], _ => rfl), clsR_mk X G ac_NoCode xL_NoCode (by rfl) sa_NoCode eC_NoCode tC_NoCode kC_NoCode (by intro f hf; simp only [List.mem_cons, List.not_mem_nil, or_false] at hf; subst hf; exact nf_NoCode_place) a1_NoCode t1_NoCode l1_NoCode c1_NoCode k1_NoCode_ (fun F => F.binds (ps := ["self", "place"]) fun _ _ _ _ _ _ us hl => match us, hl with | [_, _], _ => rfl), clsR_mk X G ac_NoSize xL_NoSize (by rfl) sa_NoSize eC_NoSize tC_NoSize kC_NoSize (by intro f hf; simp only [List.mem_cons, List.not_mem_nil, or_false] at hf; subst hf; exact nf_NoSize_at) a1_NoSize t1_NoSize l1_NoSize c1_NoSize k1_NoSize_ (fun F => F.binds (ps := ["self", "at"]) fun _ _ _ _ _ _ us hl => match us, hl with | [_, _], _ => rfl), ⟨C_FloorError, PySem.W.mg_of X G ac_FloorError, rd_FloorError, sg_FloorError, fc_FloorError⟩⟩
  refine ⟨PySem.W.fnOf "law" "law" (defArgs s_law) (defBody s_law) (defScope s_law) .none kV24 dc24 pm24 an24 cd24 ct24, fun s v => .of_eq rfl, fun base _ _ => ?_⟩
  exact (ok_law F (fun_mk l24 c24 k24)).imp (law_sp law_true)
end K52
open PySem PySem.W PyProof.Rows
set_option maxHeartbeats 0 in
theorem PySem.Challenge.cw_currentfloor_k52_sizes_there_and_back_holds : PySem.Challenge.rw_currentfloor_k52_sizes_there_and_back.Holds := by
  w_on; o_law; k_head; (case hw => w_witness2)
  k_fill
  refine L2.walk_of (l := PySem.Challenge.rw_currentfloor_k52_sizes_there_and_back) (n := 63) (k := 6) (x := "_law_script") (CX := fun w => L2.CX PySem.Challenge.rw_currentfloor_k52_sizes_there_and_back.prog w) (sp := fun w => K52.spLaw _) rfl (by decide) rfl ⟨rfl, by decide, by decide⟩ (fun w h Y => by first | exact PySem.W.kIn_of Y | exact PySem.W.km_in_of Y) ?F (fun _ _ a ns hl _ hS => ⟨a, ns, rfl, hS, hl, (fun p hp => nomatch hp), fun _ => rfl⟩) (fun _ _ _ _ _ h => FL.cx_false h)
  case F =>
    intro w mg fa h KX G hmg
    refine' K52.all_mk KX G hmg ?a0 ?l0 ?c0 ?k0 ?a1 ?l1 ?c1 ?k1 ?a2 ?l2 ?c2 ?k2 ?a3 ?l3 ?c3 ?k3 ?a4 ?l4 ?c4 ?k4 ?a5 ?l5 ?c5 ?k5 ?a6 ?l6 ?c6 ?k6 ?a7 ?l7 ?c7 ?k7 ?a8 ?l8 ?c8 ?k8 ?a9 ?l9 ?c9 ?k9 ?a10 ?l10 ?c10 ?k10 ?a11 ?l11 ?c11 ?k11 ?a12 ?l12 ?c12 ?k12 ?a13 ?l13 ?c13 ?k13 ?a14 ?l14 ?c14 ?k14 ?a15 ?l15 ?c15 ?k15 ?a16 ?l16 ?c16 ?k16 ?a17 ?l17 ?c17 ?k17 ?a18 ?l18 ?c18 ?k18 ?a19 ?l19 ?c19 ?k19 ?a20 ?l20 ?c20 ?k20 ?a21 ?l21 ?c21 ?k21 ?a22 ?l22 ?c22 ?k22 ?a23 ?l23 ?c23 ?k23 ?a24 ?l24 ?c24 ?k24 ?z_abs ?z_enumerate ?z_range ?z_len ?z_zip ?z_all ?z_tuple ?z_sorted ?z_min ?z_isinstance ?z_any ?z_int ?z_bool ?v_NOUGHT ?w_NOUGHT ?ac_NoNumber ?ac_NoFloor ?ac_NoCode ?ac_NoSize ?ac_FloorError ?kc_NoNumber ?bc_NoNumber ?tc_NoNumber ?qc_NoNumber ?xL_NoFloor ?sa_NoFloor ?eC_NoFloor ?tC_NoFloor ?kC_NoFloor ?a1_NoFloor ?t1_NoFloor ?l1_NoFloor ?c1_NoFloor ?k1_NoFloor_ ?nf_NoFloor_found ?xL_NoCode ?sa_NoCode ?eC_NoCode ?tC_NoCode ?kC_NoCode ?a1_NoCode ?t1_NoCode ?l1_NoCode ?c1_NoCode ?k1_NoCode_ ?nf_NoCode_place ?xL_NoSize ?sa_NoSize ?eC_NoSize ?tC_NoSize ?kC_NoSize ?a1_NoSize ?t1_NoSize ?l1_NoSize ?c1_NoSize ?k1_NoSize_ ?nf_NoSize_at ?rd_FloorError ?sg_FloorError ?fc_FloorError
    (case a0 => k_is); (case l0 => k_is); (case c0 => k_is); (case k0 => k_is); (case a1 => k_is); (case l1 => k_is); (case c1 => k_is); (case k1 => k_is); (case a2 => k_is); (case l2 => k_is); (case c2 => k_is); (case k2 => k_is); (case a3 => k_is); (case l3 => k_is); (case c3 => k_is); (case k3 => k_is); (case a4 => k_is); (case l4 => k_is); (case c4 => k_is); (case k4 => k_is); (case a5 => k_is); (case l5 => k_is); (case c5 => k_is); (case k5 => k_is); (case a6 => k_is); (case l6 => k_is); (case c6 => k_is); (case k6 => k_is); (case a7 => k_is); (case l7 => k_is); (case c7 => k_is); (case k7 => k_is); (case a8 => k_is); (case l8 => k_is); (case c8 => k_is); (case k8 => k_is); (case a9 => k_is); (case l9 => k_is); (case c9 => k_is); (case k9 => k_is); (case a10 => k_is); (case l10 => k_is); (case c10 => k_is); (case k10 => k_is); (case a11 => k_is); (case l11 => k_is); (case c11 => k_is); (case k11 => k_is); (case a12 => k_is); (case l12 => k_is); (case c12 => k_is); (case k12 => k_is); (case a13 => k_is); (case l13 => k_is); (case c13 => k_is); (case k13 => k_is); (case a14 => k_is); (case l14 => k_is); (case c14 => k_is); (case k14 => k_is); (case a15 => k_is); (case l15 => k_is); (case c15 => k_is); (case k15 => k_is); (case a16 => k_is); (case l16 => k_is); (case c16 => k_is); (case k16 => k_is); (case a17 => k_is); (case l17 => k_is); (case c17 => k_is); (case k17 => k_is); (case a18 => k_is); (case l18 => k_is); (case c18 => k_is); (case k18 => k_is); (case a19 => k_is); (case l19 => k_is); (case c19 => k_is); (case k19 => k_is); (case a20 => k_is); (case l20 => k_is); (case c20 => k_is); (case k20 => k_is); (case a21 => k_is); (case l21 => k_is); (case c21 => k_is); (case k21 => k_is); (case a22 => k_is); (case l22 => k_is); (case c22 => k_is); (case k22 => k_is); (case a23 => k_is); (case l23 => k_is); (case c23 => k_is); (case k23 => k_is); (case a24 => k_is); (case l24 => k_is); (case c24 => k_is); (case k24 => k_is); (case z_abs => k_is); (case z_enumerate => k_is); (case z_range => k_is); (case z_len => k_is); (case z_zip => k_is); (case z_all => k_is); (case z_tuple => k_is); (case z_sorted => k_is); (case z_min => k_is); (case z_isinstance => k_is); (case z_any => k_is); (case z_int => k_is); (case z_bool => k_is); (case v_NOUGHT => k_is); (case w_NOUGHT => k_is); (case ac_NoNumber => k_is); (case ac_NoFloor => k_is); (case ac_NoCode => k_is); (case ac_NoSize => k_is); (case ac_FloorError => k_is); (case kc_NoNumber => k_is); (case bc_NoNumber => k_is); (case tc_NoNumber => k_is); (case qc_NoNumber => k_exc); (case xL_NoFloor => k_is); (case sa_NoFloor => k_is); (case eC_NoFloor => k_is); (case tC_NoFloor => k_is); (case kC_NoFloor => k_is); (case a1_NoFloor => k_is); (case t1_NoFloor => k_is); (case l1_NoFloor => k_is); (case c1_NoFloor => k_is); (case k1_NoFloor_ => k_is); (case nf_NoFloor_found => k_is); (case xL_NoCode => k_is); (case sa_NoCode => k_is); (case eC_NoCode => k_is); (case tC_NoCode => k_is); (case kC_NoCode => k_is); (case a1_NoCode => k_is); (case t1_NoCode => k_is); (case l1_NoCode => k_is); (case c1_NoCode => k_is); (case k1_NoCode_ => k_is); (case nf_NoCode_place => k_is); (case xL_NoSize => k_is); (case sa_NoSize => k_is); (case eC_NoSize => k_is); (case tC_NoSize => k_is); (case kC_NoSize => k_is); (case a1_NoSize => k_is); (case t1_NoSize => k_is); (case l1_NoSize => k_is); (case c1_NoSize => k_is); (case k1_NoSize_ => k_is); (case nf_NoSize_at => k_is); (case rd_FloorError => first | k_is | rfl); (case sg_FloorError => first | k_is | rfl); (case fc_FloorError => first | k_is | rfl)
