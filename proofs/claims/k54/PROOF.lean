import PyProof.Rows.All
import Wide.All
import OpenK.AllK
import Wide.FinOn
import HandS.ForMost
import HandS.ForExc
import HandS.Wide
import HandS.TupAny
import HandS.Conv
import KE.DataEq
import HandS.Lambda
import HandS.EndTab
import HandS.Flow
import HandS.More
import HandS.Zip
import HandS.Rev
import HandS.RevRange
import KE.GoesEnum
import KE.GoesMore
import HandS.IsInst
import HandS.Text
import HandS.WordsDict
import HandS.Deep
import HandS.SortInts
import HandS.WordsExc
import HandS.Words
import HandS.TupSets
import KE.KSortTupG
import HandS.ExcIs
import HandS.ExcOwn
import HandS.ExcValue
import HandS.TupLe
import KE.KIndexOf
import HandS.SetFor
import HandS.Strs
import HandS.NoneIn
import HandS.ExcInit
import HandS.ExcField
import KE.KExcIs
import HandS.EndOwn
import PySem.Challenge.RW_currentfloor_k54_all_rows_of_sizes
set_option Elab.async false
set_option linter.all false
set_option maxRecDepth 100000
set_option maxHeartbeats 4000000
set_option exponentiation.threshold 3000
set_option synthInstance.maxHeartbeats 400000
set_option synthInstance.maxSize 2000
/-! Values as data over a store of mutable objects. -/
namespace FL
open PySem PySem.Spec PyProof.Rows L2

inductive D where
  | non | bl (b : Bool) | int (i : Int) | str (x : Str) | tup (ds : List D) | lst (ds : List D) | loc (l : Nat) | scr (ns : List Int) | exc (cls : String) (ns : List Str) (ds : List D)
  deriving Inhabited

/-- what stands in the store -/
inductive SO where
  | lst (ds : List D)
  | dic (kvs : List (Key × D))
  deriving Inhabited
mutual
def D.beq : D → D → Bool
  | .non, .non => true
  | .bl a, .bl b => a == b
  | .int a, .int b => decide (a = b)
  | .str a, .str b => decide (a = b)
  | .tup a, .tup b => D.beqs a b
  | .lst a, .lst b => D.beqs a b
  | .loc a, .loc b => decide (a = b)
  | .scr a, .scr b => decide (a = b)
  | .exc c n a, .exc c' n' b => decide (c = c') && decide (n = n') && D.beqs a b
  | _, _ => false
def D.beqs : List D → List D → Bool
  | [], [] => true
  | a :: as, b :: bs => D.beq a b && D.beqs as bs
  | _, _ => false
end
mutual
theorem D.beq_eq : ∀ {a b : D}, D.beq a b = true → a = b
  | .non, b, h => by cases b <;> simp_all [D.beq]
  | .bl _, b, h => by cases b <;> simp_all [D.beq]
  | .int _, b, h => by cases b <;> simp_all [D.beq]
  | .str _, b, h => by cases b <;> simp_all [D.beq]
  | .tup as, b, h => by
    cases b with
    | tup bs => rw [D.beqs_eq (show D.beqs as bs = true by simpa [D.beq] using h)]
    | _ => simp [D.beq] at h
  | .lst as, b, h => by
    cases b with
    | lst bs => rw [D.beqs_eq (show D.beqs as bs = true by simpa [D.beq] using h)]
    | _ => simp [D.beq] at h
  | .loc _, b, h => by cases b <;> simp_all [D.beq]
  | .scr _, b, h => by cases b <;> simp_all [D.beq]
  | .exc c n as, b, h => by
    cases b with
    | exc c' n' bs =>
      have h' : (decide (c = c') && decide (n = n') && D.beqs as bs) = true := by simpa [D.beq] using h
      simp only [Bool.and_eq_true, decide_eq_true_eq] at h'
      rw [h'.1.1, h'.1.2, D.beqs_eq h'.2]
    | _ => simp [D.beq] at h
theorem D.beqs_eq : ∀ {as bs : List D}, D.beqs as bs = true → as = bs
  | [], bs, h => by cases bs <;> simp_all [D.beqs]
  | a :: as, bs, h => by
    cases bs with
    | nil => simp [D.beqs] at h
    | cons b bs =>
      simp only [D.beqs, Bool.and_eq_true] at h
      rw [D.beq_eq h.1, D.beqs_eq h.2]
end
mutual
theorem D.beq_refl : ∀ a : D, D.beq a a = true
  | .non => rfl
  | .bl _ => by simp [D.beq]
  | .int _ => by simp [D.beq]
  | .str _ => by simp [D.beq]
  | .tup as => by simpa [D.beq] using D.beqs_refl as
  | .lst as => by simpa [D.beq] using D.beqs_refl as
  | .loc _ => by simp [D.beq]
  | .scr _ => by simp [D.beq]
  | .exc _ _ as => by simpa [D.beq] using D.beqs_refl as
theorem D.beqs_refl : ∀ as : List D, D.beqs as as = true
  | [] => rfl
  | a :: as => by simp [D.beqs, D.beq_refl a, D.beqs_refl as]
end
def kvsB : List (Key × D) → List (Key × D) → Bool
  | [], [] => true
  | a :: as, b :: bs => decide (a.1 = b.1) && D.beq a.2 b.2 && kvsB as bs
  | _, _ => false
theorem kvsB_eq : ∀ {as bs : List (Key × D)}, kvsB as bs = true → as = bs
  | [], [], _ => rfl
  | [], _ :: _, h => by simp [kvsB] at h
  | _ :: _, [], h => by simp [kvsB] at h
  | a :: as, b :: bs, h => by
    unfold kvsB at h
    simp only [Bool.and_eq_true, decide_eq_true_eq] at h
    rw [kvsB_eq h.2, Prod.ext h.1.1 (D.beq_eq h.1.2)]
theorem kvsB_refl : ∀ as : List (Key × D), kvsB as as = true
  | [] => rfl
  | a :: as => by simp [kvsB, D.beq_refl, kvsB_refl as]
def SO.beq : SO → SO → Bool
  | .lst a, .lst b => D.beqs a b
  | .dic a, .dic b => kvsB a b
  | _, _ => false
theorem SO.beq_eq {a b : SO} (h : SO.beq a b = true) : a = b := by
  cases a with
  | lst as =>
    cases b with
    | lst bs => rw [D.beqs_eq (show D.beqs as bs = true from h)]
    | dic _ => cases h
  | dic as =>
    cases b with
    | dic bs => rw [kvsB_eq (show kvsB as bs = true from h)]
    | lst _ => cases h
theorem SO.beq_refl (a : SO) : SO.beq a a = true := by
  cases a with
  | lst as => exact D.beqs_refl as
  | dic as => exact kvsB_refl as
abbrev Sto := List SO
abbrev Env := List (Option D)

/-- where the store's objects stand; what is kept apart -/
structure Rho where
  ad : List Addr
  pv : List Addr := []
def Rho.out (r : Rho) (a : Addr) : Prop := a ∉ r.ad ∧ a ∉ r.pv
def Rho.app (r : Rho) (t q : List Addr) : Rho := ⟨r.ad ++ t, q ++ r.pv⟩
@[simp] theorem Rho.app_ad (r : Rho) (t q : List Addr) : (r.app t q).ad = r.ad ++ t := rfl
@[simp] theorem Rho.app_pv (r : Rho) (t q : List Addr) : (r.app t q).pv = q ++ r.pv := rfl
@[simp] theorem Rho.app_nil (r : Rho) : r.app [] [] = r := by cases r; simp [Rho.app]
theorem Rho.app_app (r : Rho) (t u q p : List Addr) : (r.app t q).app u p = r.app (t ++ u) (p ++ q) := by simp [Rho.app]
/-- a tuple, a list that nobody may change any more -/
def TupAt (K : PySem.W.Frag) (H : Hp) (r : Rho) (a : Addr) (xs : List V) : Prop :=
  (r.out a ∧ ∃ o : Obj, o.dict = none ∧ H a = some (.frz o (.tup xs))) ∨
    ∃ (o : Obj) (its : Array Value) (n : Nat), K.lookup a = some o ∧ o.cls = .type "tuple" ∧ o.dict = none ∧ o.data = .seq its n ∧ its.size ≤ sizeLine ∧ Vals xs its.toList
def LstAt (H : Hp) (r : Rho) (a : Addr) (xs : List V) : Prop := r.out a ∧ H a = some (.lst xs)
/-- the script -/
def ScrAt (K : PySem.W.Frag) (H : Hp) (r : Rho) (a : Addr) (xs : List V) : Prop :=
  (r.out a ∧ Rd H a (.lst xs)) ∨
    ∃ (o : Obj) (its : Array Value) (n : Nat), K.lookup a = some o ∧ o.cls = .type "list" ∧ o.dict = none ∧ o.data = .seq its n ∧ its.size ≤ sizeLine ∧ Vals xs its.toList
theorem TupAt.sq {K H r a xs} (h : TupAt K H r a xs) : SqT K H a xs := by
  rcases h with ⟨_, o, _, h⟩ | ⟨o, its, n, h1, h2, _, h3⟩
  · exact .inl (.inr ⟨o, h⟩)
  · exact .inr ⟨o, its, n, h1, h2, h3⟩
theorem LstAt.sq {K H r a xs} (h : LstAt H r a xs) : SqL K H a xs := .inl (.inl h.2)
theorem ScrAt.sq {K H r a xs} (h : ScrAt K H r a xs) : SqL K H a xs := by
  rcases h with ⟨_, h⟩ | h
  · exact .inl h
  · exact .inr h

/-- an exception that was caught: it stays as it is -/
def ExE (cls : Value) (d : Option Addr) (a : Addr) : HO := .ext fun h => ∃ (oe : Obj) (vs : Array Value), h.get? a = some oe ∧ Zc cls d oe ∧ oe.data = .fields vs
theorem exE_ok {P : Program} {w : World} {H : Hp} {h : Heap} {a : Addr} {cls : Value} {d : Option Addr} {oe : Obj} {vs : Array Value} (e : h.get? a = some oe) (z : Zc cls d oe) (hd : oe.data = .fields vs) : ObjOk P w H h a (ExE cls d a) :=
  ⟨⟨oe, vs, e, z, hd⟩, ⟨oe, e⟩, fun _ _ ⟨o, v, q, r⟩ k => ⟨o, v, k o q, r⟩⟩
def ExcAt (K : PySem.W.Frag) (H : Hp) (r : Rho) (cls : String) (ns : List Str) (a : Addr) (vs : List V) : Prop :=
  ∃ (C : Addr) (d : Option Addr), r.out a ∧ PySem.W.nsIn K mainGlobals (Str.ofString cls) = some (some (.ref C)) ∧ H a = some (ExE (.ref C) d a) ∧
    ((ns = [] ∧ vs = [] ∧ d = none) ∨ ∃ dd, d = some dd ∧ r.out dd ∧ H dd = some (.xd (ns.zip vs)) ∧ ns ≠ [])
mutual
def VD (K : PySem.W.Frag) (H : Hp) (r : Rho) : D → V → Prop
  | .non, v => v = .non
  | .bl b, v => v = .bl b
  | .int i, v => v = .int i
  | .str x, v => v = .str x
  | .tup ds, v => ∃ a xs, v = .ref a ∧ TupAt K H r a xs ∧ VDs K H r ds xs
  | .lst ds, v => ∃ a xs, v = .ref a ∧ LstAt H r a xs ∧ VDs K H r ds xs
  | .loc l, v => ∃ a, v = .ref a ∧ r.ad[l]? = some a
  | .scr ns, v => ∃ a, v = .ref a ∧ ScrAt K H r a (ns.map V.int)
  | .exc cls ns ds, v => ∃ a vs, v = .ref a ∧ ExcAt K H r cls ns a vs ∧ VDs K H r ds vs
def VDs (K : PySem.W.Frag) (H : Hp) (r : Rho) : List D → List V → Prop
  | [], xs => xs = []
  | d :: ds, xs => ∃ x t, xs = x :: t ∧ VD K H r d x ∧ VDs K H r ds t
end

/-- what a loop draws: for a target of many names a tuple of which less is known will do -/
def VDi (w : Bool) (K : PySem.W.Frag) (H : Hp) (r : Rho) (d : D) (v : V) : Prop :=
  VD K H r d v ∨ (w = true ∧ ∃ ds a xs, d = .tup ds ∧ v = .ref a ∧ r.out a ∧ Rd H a (.tup xs) ∧ VDs K H r ds xs)
theorem VDi.vd {K H r d v} (h : VDi false K H r d v) : VD K H r d v := h.resolve_right fun q => by cases q.1
theorem VDi.tup {w K H r ds v} (h : VDi w K H r (.tup ds) v) : ∃ a xs, v = .ref a ∧ SqT K H a xs ∧ VDs K H r ds xs := by
  rcases h with ⟨a, xs, h1, h2, h3⟩ | ⟨_, es, a, xs, h0, h1, _, h2, h3⟩
  · exact ⟨a, xs, h1, h2.sq, h3⟩
  · cases h0; exact ⟨a, xs, h1, .inl h2, h3⟩
/-- a target of many names -/
def wkT : Expr → Bool
  | .Tuple _ _ _ => true
  | _ => false

def OD (K : PySem.W.Frag) (H : Hp) (r : Rho) : SO → HO → Prop
  | .lst ds, o => ∃ xs, o = .lst xs ∧ VDs K H r ds xs
  | .dic kvs, o => ∃ kxs : List (Key × V), o = .dK kxs ∧ Paired (fun p q => p.1 = q.1 ∧ VD K H r p.2 q.2) kvs kxs

/-- neither a table of code objects nor one of these -/
def Nx (o : HO) : Prop := (∀ ps, o ≠ .tbl ps) ∧ ∀ c q, o ≠ LamX.CodeO c q
theorem nx_lst {xs : List V} : Nx (.lst xs) := ⟨fun ps z => (by cases z), fun c q z => by unfold LamX.CodeO at z; cases z⟩
theorem nx_dK {kxs : List (Key × V)} : Nx (.dK kxs) := ⟨fun ps z => (by cases z), fun c q z => by unfold LamX.CodeO at z; cases z⟩
theorem OD.nx {K H r} : ∀ {o : SO} {h : HO}, OD K H r o h → Nx h
  | .lst _, _, ⟨_, e, _⟩ => e ▸ nx_lst
  | .dic _, _, ⟨_, e, _⟩ => e ▸ nx_dK
/-- nothing is known but perhaps a table -/
def Nt (H : Hp) (a : Addr) : Prop := ∀ o, H a = some o → ∃ ps, o = .tbl ps
theorem Nt.none {H : Hp} {a : Addr} (h : H a = none) : Nt H a := fun o e => by rw [h] at e; cases e
/-- tables stay where an object that is none of them is changed -/
theorem tabS_at {H H' : Hp} {p P : Addr} {q : Str} (hH : ∀ a, a ≠ p → H' a = H a) (hn : ∀ o, H p = some o → Nx o) (t : LamX.TabS H P q) : LamX.TabS H' P q := by
  obtain ⟨ps, h1, h2, h3⟩ := t
  refine ⟨ps, (hH P fun e => (hn _ (e ▸ h1)).1 ps rfl).trans h1, h2, fun pos cv hc => ?_⟩
  obtain ⟨c, e1, e2⟩ := h3 pos cv hc
  exact ⟨c, e1, (hH c fun e => (hn _ (e ▸ e2)).2 c q rfl).trans e2⟩
/-- the tables of code objects that are known -/
class TabCtx where
  tabs : List (Addr × Str)
variable [TabCtx]
structure SR (K : PySem.W.Frag) (H : Hp) (r : Rho) (st : Sto) : Prop where
  len : r.ad.length = st.length
  nd : r.ad.Nodup
  obj : ∀ (l : Nat) o, st[l]? = some o → ∃ a h, r.ad[l]? = some a ∧ H a = some h ∧ OD K H r o h
  apart : ∀ a ∈ r.pv, a ∉ r.ad ∧ ∃ o, Nx o ∧ H a = some o
  tabs : ∀ p ∈ TabCtx.tabs, LamX.TabS H p.1 p.2

structure Ext (H : Hp) (r : Rho) (H' : Hp) (r' : Rho) : Prop where
  pre : ∃ t q, r' = r.app t q ∧ (∀ a ∈ t, Nt H a) ∧ ∀ a ∈ q, Nt H a
  keep : ∀ a o, a ∉ r.ad → (∀ ps, o ≠ HO.tbl ps) → H a = some o → H' a = some o

theorem Ext.refl (H : Hp) (r : Rho) : Ext H r H r := ⟨⟨[], [], by simp, by simp, by simp⟩, fun _ _ _ _ h => h⟩
theorem Ext.newad {H r H' r'} (e : Ext H r H' r') {a : Addr} (h1 : a ∉ r.ad) {o : HO} (h2 : H a = some o) (n : ∀ ps, o ≠ .tbl ps := by intro ps z; cases z) : a ∉ r'.ad := by
  obtain ⟨t, q, rfl, ht, _⟩ := e.pre
  intro h
  rcases List.mem_append.mp h with h | h
  · exact h1 h
  · obtain ⟨ps, z⟩ := ht a h o h2
    exact n ps z
theorem Ext.new {H r H' r'} (e : Ext H r H' r') {a : Addr} (h1 : r.out a) {o : HO} (h2 : H a = some o) (n : ∀ ps, o ≠ .tbl ps := by intro ps z; cases z) : r'.out a := by
  refine ⟨e.newad h1.1 h2 n, ?_⟩
  obtain ⟨t, q, rfl, _, hq⟩ := e.pre
  intro h
  rcases List.mem_append.mp h with h | h
  · obtain ⟨ps, z⟩ := hq a h o h2
    exact n ps z
  · exact h1.2 h
theorem SR.thereN {K H r st} (s : SR K H r st) {a : Addr} (h : a ∈ r.ad) : ∃ o, Nx o ∧ H a = some o := by
  obtain ⟨l, hl, e⟩ := List.getElem_of_mem h
  have hl2 : l < st.length := by rw [← s.len]; exact hl
  obtain ⟨b, o, h1, h2, h3⟩ := s.obj l st[l] (List.getElem?_eq_getElem hl2)
  rw [List.getElem?_eq_getElem hl, e] at h1
  cases h1
  exact ⟨o, h3.nx, h2⟩
theorem SR.there {K H r st} (s : SR K H r st) {a : Addr} (h : a ∈ r.ad) : ∃ o, H a = some o := let ⟨o, _, e⟩ := s.thereN h; ⟨o, e⟩
theorem Ext.back {K H r H1 r1 st} (e : Ext H r H1 r1) (s : SR K H1 r1 st) {a : Addr} (h : Nt H1 a) : Nt H a := fun o q => by
  by_cases n : ∃ ps, o = .tbl ps
  · exact n
  exfalso
  have n' : ∀ ps, o ≠ .tbl ps := fun ps z => n ⟨ps, z⟩
  by_cases hr : a ∈ r.ad
  · obtain ⟨t, p, rfl, _⟩ := e.pre
    obtain ⟨o', hn, ho'⟩ := s.thereN (List.mem_append_left t hr)
    obtain ⟨ps, z⟩ := h o' ho'
    exact hn.1 ps z
  · obtain ⟨ps, z⟩ := h o (e.keep a o hr n' q)
    exact n' ps z
theorem Ext.trans {K H r H1 r1 H2 r2 st} (e : Ext H r H1 r1) (s : SR K H1 r1 st) (f : Ext H1 r1 H2 r2) : Ext H r H2 r2 := by
  obtain ⟨t, q, e1, ht, hq⟩ := id e.pre
  obtain ⟨u, p, e2, hu, hp⟩ := id f.pre
  refine ⟨⟨t ++ u, p ++ q, by rw [e2, e1, Rho.app_app], fun a ha => ?_, fun a ha => ?_⟩, fun a o h1 n h2 => f.keep a o (e.newad h1 h2 n) n (e.keep a o h1 n h2)⟩
  · rcases List.mem_append.mp ha with h | h
    · exact ht a h
    · exact e.back s (hu a h)
  · rcases List.mem_append.mp ha with h | h
    · exact e.back s (hp a h)
    · exact hq a h
theorem Rd.ext {H r H' r'} (e : Ext H r H' r') {a : Addr} {u : HO} (h1 : r.out a) (h : Rd H a u) (n : ∀ ps, u ≠ .tbl ps := by intro ps z; cases z) : r'.out a ∧ Rd H' a u := by
  rcases h with h | ⟨o, h⟩
  · exact ⟨e.new h1 h n, .inl (e.keep _ _ h1.1 n h)⟩
  · exact ⟨e.new h1 h, .inr ⟨o, e.keep _ _ h1.1 (fun ps z => by cases z) h⟩⟩
theorem TupAt.ext {K H r H' r' a xs} (e : Ext H r H' r') (h : TupAt K H r a xs) : TupAt K H' r' a xs := by
  rcases h with ⟨h1, o, h2, h⟩ | h
  · exact .inl ⟨e.new h1 h, o, h2, e.keep _ _ h1.1 (fun ps z => by cases z) h⟩
  · exact .inr h
theorem LstAt.ext {H r H' r' a xs} (e : Ext H r H' r') (h : LstAt H r a xs) : LstAt H' r' a xs := ⟨e.new h.1 h.2, e.keep _ _ h.1.1 (fun ps z => by cases z) h.2⟩
theorem ScrAt.ext {K H r H' r' a xs} (e : Ext H r H' r') (h : ScrAt K H r a xs) : ScrAt K H' r' a xs := by
  rcases h with ⟨h1, h⟩ | h
  · exact .inl (Rd.ext e h1 h)
  · exact .inr h
theorem exE_nt {cls : Value} {d : Option Addr} {a : Addr} : ∀ ps, ExE cls d a ≠ .tbl ps := fun ps z => by unfold ExE at z; cases z
theorem ExcAt.ext {K H r H' r' cls ns a vs} (e : Ext H r H' r') (h : ExcAt K H r cls ns a vs) : ExcAt K H' r' cls ns a vs := by
  obtain ⟨C, d, h1, h2, h3, h4⟩ := h
  refine ⟨C, d, e.new h1 h3 exE_nt, h2, e.keep _ _ h1.1 exE_nt h3, ?_⟩
  rcases h4 with h4 | ⟨dd, h5, h6, h7, h8⟩
  · exact .inl h4
  · exact .inr ⟨dd, h5, e.new h6 h7, e.keep _ _ h6.1 (fun ps z => by cases z) h7, h8⟩
theorem Ext.get {H r H' r'} (e : Ext H r H' r') {l : Nat} {a : Addr} (h : r.ad[l]? = some a) : r'.ad[l]? = some a := by
  obtain ⟨t, q, rfl, _⟩ := e.pre
  rw [Rho.app_ad, List.getElem?_append_left (List.getElem?_eq_some_iff.mp h).1]
  exact h
mutual
theorem VD.ext {K H r H' r'} (e : Ext H r H' r') : ∀ (d : D) (v : V), VD K H r d v → VD K H' r' d v
  | .non, _, h => h
  | .bl _, _, h => h
  | .int _, _, h => h
  | .str _, _, h => h
  | .tup ds, v, h => by
    obtain ⟨a, xs, h1, h2, h3⟩ := h
    exact ⟨a, xs, h1, h2.ext e, VDs.ext e ds xs h3⟩
  | .lst ds, v, h => by
    obtain ⟨a, xs, h1, h2, h3⟩ := h
    exact ⟨a, xs, h1, h2.ext e, VDs.ext e ds xs h3⟩
  | .loc l, v, h => by
    obtain ⟨a, h1, h2⟩ := h
    exact ⟨a, h1, e.get h2⟩
  | .scr ns, v, h => by
    obtain ⟨a, h1, h2⟩ := h
    exact ⟨a, h1, h2.ext e⟩
  | .exc cls ns ds, v, h => by
    obtain ⟨a, vs, h1, h2, h3⟩ := h
    exact ⟨a, vs, h1, h2.ext e, VDs.ext e ds vs h3⟩
theorem VDs.ext {K H r H' r'} (e : Ext H r H' r') : ∀ (ds : List D) (xs : List V), VDs K H r ds xs → VDs K H' r' ds xs
  | [], _, h => h
  | d :: ds, xs, h => by
    obtain ⟨x, t, h1, h2, h3⟩ := h
    exact ⟨x, t, h1, VD.ext e d x h2, VDs.ext e ds t h3⟩
end
theorem VDs.len {K H r} : ∀ {ds : List D} {xs : List V}, VDs K H r ds xs → ds.length = xs.length
  | [], _, h => by cases h; rfl
  | d :: ds, xs, h => by
    obtain ⟨x, t, rfl, h2, h3⟩ := h
    simp [VDs.len h3]
theorem VDs.get {K H r} : ∀ {ds : List D} {xs : List V} {i : Nat} {d : D}, VDs K H r ds xs → ds[i]? = some d → ∃ x, xs[i]? = some x ∧ VD K H r d x
  | [], _, i, d, h, e => by simp at e
  | d' :: ds, xs, 0, d, h, e => by
    obtain ⟨x, t, rfl, h2, h3⟩ := h
    simp at e; subst e
    exact ⟨x, rfl, h2⟩
  | d' :: ds, xs, i + 1, d, h, e => by
    obtain ⟨x, t, rfl, h2, h3⟩ := h
    obtain ⟨y, h4, h5⟩ := VDs.get (i := i) h3 (by simpa using e)
    exact ⟨y, by simpa using h4, h5⟩
theorem VDs.getD {K H r} {ds : List D} {xs : List V} (h : VDs K H r ds xs) {i : Nat} {x : V} (e : xs[i]? = some x) : ∃ d, ds[i]? = some d ∧ VD K H r d x := by
  have hl := h.len
  have hi : i < ds.length := by rw [hl]; exact (List.getElem?_eq_some_iff.mp e).1
  obtain ⟨y, h1, h2⟩ := h.get (List.getElem?_eq_getElem hi)
  rw [e] at h1; cases h1
  exact ⟨_, List.getElem?_eq_getElem hi, h2⟩
theorem VDs.app {K H r} : ∀ {ds : List D} {xs : List V} {es : List D} {ys : List V}, VDs K H r ds xs → VDs K H r es ys → VDs K H r (ds ++ es) (xs ++ ys)
  | [], _, _, _, h, g => by cases h; exact g
  | d :: ds, _, _, _, h, g => by
    obtain ⟨x, t, rfl, h2, h3⟩ := h
    exact ⟨x, t ++ _, rfl, h2, VDs.app h3 g⟩
theorem VDs.take {K H r} : ∀ {ds : List D} {xs : List V} (n : Nat), VDs K H r ds xs → VDs K H r (ds.take n) (xs.take n)
  | _, _, 0, h => by simp [VDs]
  | [], _, n + 1, h => by cases h; simp [VDs]
  | d :: ds, _, n + 1, h => by
    obtain ⟨x, t, rfl, h2, h3⟩ := h
    exact ⟨x, t.take n, rfl, h2, VDs.take n h3⟩
theorem VDs.drop {K H r} : ∀ {ds : List D} {xs : List V} (n : Nat), VDs K H r ds xs → VDs K H r (ds.drop n) (xs.drop n)
  | _, _, 0, h => by simpa using h
  | [], _, n + 1, h => by cases h; simp [VDs]
  | d :: ds, _, n + 1, h => by
    obtain ⟨x, t, rfl, h2, h3⟩ := h
    simpa using VDs.drop n h3
theorem VDs.set {K H r} {d : D} {x : V} (hd : VD K H r d x) : ∀ {ds : List D} {xs : List V} (i : Nat), VDs K H r ds xs → VDs K H r (ds.set i d) (xs.set i x)
  | [], _, i, h => by cases h; simp [VDs]
  | d' :: ds, _, 0, h => by
    obtain ⟨y, t, rfl, h2, h3⟩ := h
    exact ⟨x, t, rfl, hd, h3⟩
  | d' :: ds, _, i + 1, h => by
    obtain ⟨y, t, rfl, h2, h3⟩ := h
    exact ⟨y, t.set i x, rfl, h2, VDs.set hd i h3⟩
theorem VDs.rev {K H r} {ds : List D} {xs : List V} (h : VDs K H r ds xs) : VDs K H r ds.reverse xs.reverse := by
  induction ds generalizing xs with
  | nil => cases h; simp [VDs]
  | cons d ds ih =>
    obtain ⟨x, t, rfl, h2, h3⟩ := h
    rw [List.reverse_cons, List.reverse_cons]
    exact VDs.app (ih h3) ⟨x, [], rfl, h2, rfl⟩
theorem VDs.one {K H r d x} (h : VD K H r d x) : VDs K H r [d] [x] := ⟨x, [], rfl, h, rfl⟩
theorem VDs.ints {K H r} : ∀ (ns : List Int), VDs K H r (ns.map D.int) (ns.map V.int)
  | [] => rfl
  | n :: ns => ⟨_, _, rfl, rfl, VDs.ints ns⟩

/-! ### results -/
/-- an exception: its class, its fields -/
structure Exc where
  cls : String
  fs : List (Str × D) := []
inductive Res (α : Type) where
  | ok (a : α) (st : Sto)
  | ex (x : Exc) (st : Sto)
  | bad
def Res.bind {α β : Type} (r : Res α) (k : α → Sto → Res β) : Res β :=
  match r with
  | .ok a st => k a st
  | .ex x st => .ex x st
  | .bad => .bad
@[simp] theorem Res.bind_ok {α β : Type} (a : α) (st : Sto) (k : α → Sto → Res β) : (Res.ok a st).bind k = k a st := rfl
@[simp] theorem Res.bind_ex {α β : Type} (x : Exc) (st : Sto) (k : α → Sto → Res β) : (Res.ex x st).bind k = .ex x st := rfl
@[simp] theorem Res.bind_bad {α β : Type} (k : α → Sto → Res β) : (Res.bad : Res α).bind k = .bad := rfl

abbrev EM := Env → Sto → Res D
abbrev Fn := List D → Sto → Res D

/-- the end of a statement -/
inductive Out where
  | nx (env : Env) | rt (d : D)
abbrev SM := Env → Sto → Res Out

/-! ### tuples laid: their object is known -/
section
variable {X : Cx} {e : Expr} {es : List Expr} {te : TE} {t : TA} {pos : Pos}
def tupO (us : Array Value) : Obj := { cls := .type "tuple", data := .seq us }
theorem tupO_ok {P : Program} {w : World} {H : Hp} {h : Heap} {xs : List V} {us : List Value} (hz : xs.length ≤ sizeLine) (rv : Vals xs us) :
    ObjOk P w H (h.push (tupO us.toArray)) h.objs.size (.frz (tupO us.toArray) (.tup xs)) :=
  ⟨Heap.get?_push_size _ rfl, hz, us, rv, IsTup.new _ _⟩
def NewT (H : Hp) (Q : VK) (xs : List V) : Prop := ∀ (p : Addr) (o : Obj), o.dict = none → H p = none → Q (.ref p) (upd H p (.frz o (.tup xs)))
theorem laidT {pins : List (Addr × Obj)} {s : Shared} {σ : L2.St} {H : Hp} {xs : List V} {us : List Value} {Q : VK} (I : Inv X pins σ H s) (hz : xs.length ≤ sizeLine) (rv : Vals xs us) (q : NewT H Q xs) :
    EP X pins σ Q (.ref s.heap.objs.size) { s with heap := s.heap.push (tupO us.toArray) } :=
  ⟨.ref s.heap.objs.size, _, I.laid (t' := s.toks) (fun _ _ z => Heap.get?_push_of_some _ z) (Nat.le_refl _) (tupO_ok hz rv), rfl, q _ _ rfl (I.hok.fresh (Nat.le_refl _))⟩
def tTupZ (t : TA) : TE := fun σ H Q => t σ H fun xs H1 => xs.length ≤ sizeLine ∧ NewT H1 Q xs
theorem pe_tupZ {x1} (h : PA X es t) : PE X (.Tuple es x1 pos) (tTupZ t) :=
  ⟨fun pins s σ H Q I hq => wpAny_Tuple_spliced (thn (h.run pos pins s σ H _ I hq) fun us s1 ⟨xs, H1, I1, r, z, q⟩ =>
    ⟨by rw [← r.length]; exact z, laidT I1 z r q⟩)⟩
def rCatZ (K : PySem.W.Frag) : R2 := fun x y H Q => ∃ a b xs ys, x = .ref a ∧ y = .ref b ∧ SqT K H a xs ∧ SqT K H b ys ∧
  xs.length + ys.length ≤ sizeLine ∧ (xs = [] → Q (.ref b) H) ∧ (xs ≠ [] → ys = [] → Q (.ref a) H) ∧ (xs ≠ [] → ys ≠ [] → NewT H Q (xs ++ ys))
theorem op_catZ : OpR X (binaryOp .Add) (rCatZ X.K) := by
  intro pins s σ H x y v u Q I rx ry ⟨a, b, xs, ys, ex, ey, ha, hb, hz, q0, q1, q2⟩
  subst ex ey
  cases rx; cases ry
  obtain ⟨us, r1, p1, _⟩ := I.tuple ha
  obtain ⟨ws, r2, p2, _⟩ := I.tuple hb
  by_cases hx : xs = []
  · subst hx
    cases r1
    exact cat_tup0 p1 p2 ⟨.ref b, H, I, rfl, q0 rfl⟩
  refine HT.cat_tup p1 p2 (fun z => hx (r1.nil_iff.mp z)) (fun z => ⟨.ref a, H, I, rfl, q1 hx (r2.nil_iff.mp z)⟩) (fun z => ?_) ?_
  · exact laidT (us := us ++ ws) I (by simpa using hz) (r1.append r2) (q2 hx fun e => z (r2.nil_iff.mpr e))
  · rw [← r1.length, ← r2.length]; exact hz
def rSlZ (K : PySem.W.Frag) : V → Option Int → Option Int → Hp → VK → Prop := fun x lo hi H Q => ∃ a xs, x = .ref a ∧ SqT K H a xs ∧
  (HT.sIx xs.length 0 lo = 0 ∧ HT.sIx xs.length xs.length hi = xs.length → Q (.ref a) H) ∧ (¬ (HT.sIx xs.length 0 lo = 0 ∧ HT.sIx xs.length xs.length hi = xs.length) → NewT H Q (cutV xs lo hi))
theorem sl_tupZ : SlR X (rSlZ X.K) := by
  intro pins s σ H x v vl vu lo hi sl Q I rx hs pl pu ⟨a, xs, ex, hx, q1, q2⟩
  subst ex
  cases rx
  obtain ⟨us, r, ht, hz⟩ := I.tuple hx
  have hn : us.toArray.size = xs.length := by rw [List.size_toArray, r.length]
  refine ⟨"tuple", _, PyProof.Rows.slot_tuple_getitem.lookup, ht.typeIs, ?_⟩
  by_cases hw : HT.sIx xs.length 0 lo = 0 ∧ HT.sIx xs.length xs.length hi = xs.length
  · exact getItem_tuple_whole ht hs pl pu (hn ▸ hw) ⟨.ref a, H, I, rfl, q1 hw⟩
  · refine HT.getItem_tuple_cut ht hs pl pu (hn ▸ hw) ?_ (hn ▸ hz)
    rw [hn]
    exact laidT I (Nat.le_trans (cutV_length xs lo hi) hz) ((r.drop _).take _) (q2 hw)
theorem call_tupZ : CallR X (.type "tuple") (fun xs H Q => ∃ p ys, xs = [.ref p] ∧ ((SqL X.K H p ys ∧ NewT H Q ys) ∨ (SqT X.K H p ys ∧ Q (.ref p) H))) := by
  intro pins s σ H xs us Q I r ⟨p, ys, ex, h⟩
  subst ex
  obtain ⟨u, eu, rx⟩ := vals1 r
  subst eu
  cases rx
  rcases h with ⟨hq, q⟩ | ⟨hq, q⟩
  · obtain ⟨ws, rw', pl, hz⟩ := I.list hq
    refine call_tuple_list pl.isList (fun h' kp => ?_) (by rw [List.size_toArray, ← rw'.length]; exact hz)
    exact laidT (I.kept (t' := s.toks) kp) hz rw' q
  · obtain ⟨ws, _, pl, _⟩ := I.tuple hq
    exact call_tuple_same pl ⟨.ref p, H, I, rfl, q⟩
def tTupRgZ (te : L2.St → Hp → (Int → Int → Hp → Prop) → Prop) : TE := fun σ H Q => te σ H fun a b H1 => RgOk a b ∧ NewT H1 Q (rgV a b)
theorem pe_tupRgZ {te : L2.St → Hp → (Int → Int → Hp → Prop) → Prop} {p pos : Pos} (hc : X.calm = true) (hg : Gl X "tuple") (hm : X.mg "tuple" = none) (he : PRg X e te)
    (na : starEach [e] X.env = (false, eval e X.env) :: starEach [] X.env := by rfl) : PE X (.Call (.Name "tuple" p) [e] [] pos) (tTupRgZ te) :=
  ⟨fun pins s σ H Q I h => Call_ (ld_blt I hg hm boot_tuple (PyProof.Rows.callWith_type1 (args_cons (thn (he pins s σ H _ I h) fun x s1 ⟨r, a, b, t, u, v, H1, ex, hr, I1, ok, q⟩ => args_nil (by
    subst ex
    have z := ok
    obtain ⟨b1, b2, b3, b4, b5⟩ := ok
    refine call_tuple_range (n := (b - a).toNat) (I1.ok.hd hc) hr (small_one b1 b2 b3 b4) (rangeSize_nat a b) b5 fun h' tk acc hk hi => ?_
    have l := laidT (us := acc.toList) (I1.kept (t' := tk) hk) (by rw [rgV_length, sizeLine_eq]; omega) (vals_rg hi) q
    rw [Array.toArray_toList] at l
    exact l)) na) na))⟩
end

/-! ### a method of a tuple -/
section
variable {X : Cx} {o e : Expr} {es : List Expr} {to : TE} {t : TA} {name : Str} {apos cpos : Pos} {id : String} {r : V → List V → Hp → VK → Prop}
/-- a tuple whose own dict is none -/
def TupN (K : PySem.W.Frag) (H : Hp) (x : V) : Prop := ∃ p, x = .ref p ∧ ((∃ xs, ∃ o : Obj, o.dict = none ∧ H p = some (.frz o (.tup xs))) ∨ ∃ o : Obj, K.lookup p = some o ∧ o.cls = .type "tuple" ∧ o.dict = none)
theorem TupN.is {pins : List (Addr × Obj)} {σ : L2.St} {H : Hp} {s : Shared} {x : V} {v : Value} (I : Inv X pins σ H s) (rv : RelV x v) (h : TupN X.K H x) :
    s.TypeIs v "tuple" ∧ ∀ a, v = .ref a → ∃ ob, s.heap.get? a = some ob ∧ ob.dict = none := by
  obtain ⟨p, rfl, h⟩ := h
  cases rv
  rcases h with ⟨xs, ob, hd, h⟩ | ⟨ob, h1, h2, h3⟩
  · obtain ⟨k1, _, _, _, k2⟩ := (show ObjOk X.prog X.w H s.heap p (.frz ob (.tup xs)) from I.hok p _ h)
    exact ⟨IsTup.typeIs k2, fun a q => by cases q; exact ⟨ob, k1, hd⟩⟩
  · exact ⟨⟨ob, I.kIn p ob h1, h2⟩, fun a q => by cases q; exact ⟨ob, I.kIn _ ob h1, h3⟩⟩
def MtOk (X : Cx) (T : String) (id : String) (name : Str) (r : V → List V → Hp → VK → Prop) : Prop :=
  PlainAttrs T ∧ Slot T name id ∧ typeOf (.builtin id) = pure (.type "method_descriptor") ∧ MtR X id r
/-- a method that tuples have, and lists -/
def tTM (K : PySem.W.Frag) (r r2 : V → List V → Hp → VK → Prop) (to : TE) (t : TA) : TE := fun σ H Q => to σ H fun x H1 =>
  (TupN K H1 x ∧ t σ H1 fun xs H2 => r x xs H2 Q) ∨ (tyV K "list" x H1 ∧ t σ H1 fun xs H2 => r2 x xs H2 Q)
theorem pe_tm {r2 : V → List V → Hp → VK → Prop} {id2 : String} (m1 : MtOk X "tuple" id name r) (m2 : MtOk X "list" id2 name r2) (ho : PE X o to) (ha : PA X (e :: es) t)
    (hb : attributeBase o name X.env (eval o X.env) = eval o X.env := by rfl)
    (hf : ((backTo cpos (starEach (e :: es) X.env)).all (fun x => !x.1) && (backToKw cpos (keywordEach [] X.env)).all (fun x => x.1.isSome)
      && decide ((e :: es).length + ([] : List Keyword).length + (if ([] : List Keyword).isEmpty then 0 else 1) < 30)) = true := by rfl)
    (hl : (apos.endLine == cpos.line) = true := by rfl) (hs : starEach (e :: es) X.env = (false, eval e X.env) :: starEach es X.env := by rfl) (hp : (backTo cpos (starEach es X.env)).any (·.1) = false := by rfl) :
    PE X (.Call (.Attribute o name apos) (e :: es) [] cpos) (tTM X.K r r2 to t) := by
  have h0 : (false || (backTo cpos (starEach es X.env)).any (·.1)) = false := by rw [hp] <;> rfl
  refine ⟨fun pins s σ H Q I h => wpAny_Call_method_late hb hf hl rfl (thn (ho.run pins s σ H _ I h) fun v s1 ⟨x, H1, I1, r1, z⟩ => ?_)⟩
  rcases z with ⟨ty, q1⟩ | ⟨ty, q1⟩
  · obtain ⟨h1, h2⟩ := TupN.is I1 r1 ty
    obtain ⟨pa, slot, hty, hm⟩ := m1
    refine ⟨"tuple", _, pa, slot, hty, h1, h2, ?_⟩
    have hA := ha.run cpos pins s1 σ H1 _ I1 q1
    rw [hs] at hA ⊢
    exact Calls.callWith_builtin h0 (Calls.evalArgs_plain (thn hA fun us s2 ⟨vs, H2, I2, r2, q2⟩ => hm pins s2 σ H2 x vs v us Q I2 r1 r2 q2))
  · obtain ⟨h1, h2⟩ := tyV_is I1 r1 ty
    obtain ⟨pa, slot, hty, hm⟩ := m2
    refine ⟨"list", _, pa, slot, hty, h1, h2, ?_⟩
    have hA := ha.run cpos pins s1 σ H1 _ I1 q1
    rw [hs] at hA ⊢
    exact Calls.callWith_builtin h0 (Calls.evalArgs_plain (thn hA fun us s2 ⟨vs, H2, I2, r2, q2⟩ => hm pins s2 σ H2 x vs v us Q I2 r1 r2 q2))
end

end FL

namespace FL
open PySem PySem.Spec PyProof.Rows L2
variable [TabCtx]

/-! ### the store kept over a growing heap -/
theorem paired_imp {α β : Type} {F G : α → β → Prop} (f : ∀ a b, F a b → G a b) : ∀ {l₁ : List α} {l₂ : List β}, Paired F l₁ l₂ → Paired G l₁ l₂
  | _, _, .nil => .nil
  | _, _, .cons r t => .cons (f _ _ r) (paired_imp f t)
theorem OD.ext {K H r H' r'} (e : Ext H r H' r') : ∀ (o : SO) (h : HO), OD K H r o h → OD K H' r' o h
  | .lst ds, h, ⟨xs, h1, h2⟩ => ⟨xs, h1, h2.ext e⟩
  | .dic kvs, h, ⟨xs, h1, h2⟩ => ⟨xs, h1, paired_imp (fun _ _ q => ⟨q.1, q.2.ext e⟩) h2⟩
theorem SR.notad {K H r st} (s : SR K H r st) {p : Addr} (h : H p = none) : p ∉ r.ad := fun q => by
  obtain ⟨o, e⟩ := s.there q
  rw [h] at e; cases e
theorem SR.notin {K H r st} (s : SR K H r st) {p : Addr} (h : H p = none) : r.out p := ⟨s.notad h, fun q => by
  obtain ⟨_, o, _, e⟩ := s.apart p q
  rw [h] at e; cases e⟩
theorem Ext.fresh {H : Hp} {r : Rho} {p : Addr} {o : HO} (h : H p = none) : Ext H r (upd H p o) r :=
  ⟨⟨[], [], by simp, by simp, by simp⟩, fun a o' _ _ e => by rw [upd_ne (ne_of_none e h)]; exact e⟩
theorem SR.apart_ext {K H r st H' t} (s : SR K H r st) (e : Ext H r H' (r.app t [])) : ∀ a ∈ (r.app t []).pv, a ∉ (r.app t []).ad ∧ ∃ o, Nx o ∧ H' a = some o := fun a ha => by
  obtain ⟨h1, o, n, h2⟩ := s.apart a ha
  exact ⟨e.newad h1 h2 n.1, o, n, e.keep a o h1 n.1 h2⟩
theorem SR.tabs_fresh {K H r st} (s : SR K H r st) {p : Addr} {o : HO} (h : H p = none) : ∀ q ∈ TabCtx.tabs, LamX.TabS (upd H p o) q.1 q.2 := fun q hq => (s.tabs q hq).ext fun b o' e => by rw [upd_ne (ne_of_none e h)]; exact e
theorem SR.fresh {K H r st} (s : SR K H r st) {p : Addr} {o : HO} (h : H p = none) : SR K (upd H p o) r st := by
  refine ⟨s.len, s.nd, fun l so e => ?_, fun a ha => ?_, s.tabs_fresh h⟩
  · obtain ⟨a, x, h1, h2, h3⟩ := s.obj l so e
    exact ⟨a, x, h1, by rw [upd_ne (ne_of_none h2 h)]; exact h2, h3.ext (Ext.fresh h)⟩
  · obtain ⟨h1, o', n, h2⟩ := s.apart a ha
    exact ⟨h1, o', n, by rw [upd_ne (ne_of_none h2 h)]; exact h2⟩
/-- a new object of the store -/
theorem Ext.grown {K H r st} (s : SR K H r st) {p : Addr} {o : HO} (h : H p = none) : Ext H r (upd H p o) (r.app [p] []) :=
  ⟨⟨[p], [], rfl, (fun a ha => by rw [List.mem_singleton.mp ha]; exact .none h), by simp⟩, fun a o' _ _ e => by rw [upd_ne (ne_of_none e h)]; exact e⟩
theorem SR.grown {K H r st} (s : SR K H r st) {p : Addr} {o : HO} {so : SO} (h : H p = none) (ho : OD K H r so o) : SR K (upd H p o) (r.app [p] []) (st ++ [so]) := by
  have e := Ext.grown s (o := o) h
  refine ⟨by simp [s.len], ?_, fun l so' q => ?_, s.apart_ext e, s.tabs_fresh h⟩
  · rw [Rho.app_ad, List.nodup_append]
    refine ⟨s.nd, by simp, fun a ha b hb => ?_⟩
    rw [List.mem_singleton.mp hb]
    rintro rfl
    exact s.notad h ha
  · by_cases hl : l < st.length
    · rw [List.getElem?_append_left hl] at q
      obtain ⟨a, x, h1, h2, h3⟩ := s.obj l so' q
      exact ⟨a, x, e.get h1, by rw [upd_ne (ne_of_none h2 h)]; exact h2, h3.ext e⟩
    · have hl2 : l = st.length := by
        have := (List.getElem?_eq_some_iff.mp q).1
        simp at this; omega
      subst hl2
      simp at q; subst q
      refine ⟨p, o, by rw [← s.len]; simp, upd_same, ho.ext e⟩
/-- an object of the store is changed -/
theorem Ext.set {H : Hp} {r : Rho} {l : Nat} {a : Addr} {o : HO} (h : r.ad[l]? = some a) : Ext H r (upd H a o) r :=
  ⟨⟨[], [], by simp, by simp, by simp⟩, fun b o' hb _ e => by
    rw [upd_ne]
    · exact e
    · rintro rfl
      exact hb (List.mem_of_getElem? h)⟩
theorem SR.set {K H r st} (s : SR K H r st) {l : Nat} {a : Addr} {o : HO} {so : SO} (h : r.ad[l]? = some a) (ho : OD K H r so o) : SR K (upd H a o) r (st.set l so) := by
  have e := Ext.set (H := H) (o := o) h
  refine ⟨by simp [s.len], s.nd, fun k so' q => ?_, by have := s.apart_ext (t := []) (by simpa using e); simpa using this, fun q hq => tabS_at (p := a) (fun b hb => upd_ne hb) (fun o' ho' => by
    obtain ⟨o2, n, h2⟩ := s.thereN (List.mem_of_getElem? h)
    rw [h2] at ho'; cases ho'; exact n) (s.tabs q hq)⟩
  by_cases hk : k = l
  · subst hk
    have hk2 : k < st.length := by
      have := (List.getElem?_eq_some_iff.mp h).1
      rw [s.len] at this; exact this
    rw [List.getElem?_set_self hk2] at q
    cases q
    exact ⟨a, o, h, upd_same, ho.ext e⟩
  · rw [List.getElem?_set_ne (Ne.symm hk)] at q
    obtain ⟨b, x, h1, h2, h3⟩ := s.obj k so' q
    refine ⟨b, x, h1, ?_, h3.ext e⟩
    rw [upd_ne]
    · exact h2
    · rintro rfl
      obtain ⟨h4, h5⟩ := List.getElem?_eq_some_iff.mp h1
      obtain ⟨h6, h7⟩ := List.getElem?_eq_some_iff.mp h
      exact hk ((List.getElem_inj s.nd).mp (h5.trans h7.symm))

/-! ### slots -/
structure ER (K : PySem.W.Frag) (H : Hp) (r : Rho) (env : Env) (σ : L2.St) : Prop where
  len : env.length = σ.length
  get : ∀ (i : Nat) (d : D), env[i]? = some (some d) → ∃ v, σ[i]? = some (some v) ∧ VD K H r d v
theorem ER.ext {K H r H' r' env σ} (x : ER K H r env σ) (e : Ext H r H' r') : ER K H' r' env σ := ⟨x.len, fun i d h => by
  obtain ⟨v, h1, h2⟩ := x.get i d h
  exact ⟨v, h1, h2.ext e⟩⟩
theorem ER.set {K H r env σ} (x : ER K H r env σ) (i : Nat) {d : D} {v : V} (h : VD K H r d v) : ER K H r (env.set i (some d)) (σ.set i (some v)) := by
  refine ⟨by simp [x.len], fun j e q => ?_⟩
  by_cases hj : j = i
  · subst hj
    have hl : j < env.length := by
      have := (List.getElem?_eq_some_iff.mp q).1
      simpa using this
    rw [List.getElem?_set_self hl] at q
    cases q
    exact ⟨v, by rw [List.getElem?_set_self (by rw [← x.len]; exact hl)], h⟩
  · rw [List.getElem?_set_ne (Ne.symm hj)] at q
    obtain ⟨w, h1, h2⟩ := x.get j e q
    exact ⟨w, by rw [List.getElem?_set_ne (Ne.symm hj)]; exact h1, h2⟩

/-! ### what is wanted of a result -/
/-- how an exception lies -/
def XR (K : PySem.W.Frag) (mg : Str → Option Value) (H : Hp) (r : Rho) (x : Exc) (cls : Value) (d : Option Addr) : Prop :=
  (∃ C, PySem.W.nsIn K mainGlobals (Str.ofString x.cls) = some (some (.ref C)) ∧ cls = .ref C) ∧
    (match x.fs with
      | [] => d = none
      | _ => ∃ dd vs, d = some dd ∧ r.out dd ∧ H dd = some (.xd vs) ∧ Paired (fun (p : Str × D) (q : Str × V) => p.1 = q.1 ∧ VD K H r p.2 q.2) x.fs vs)
def RES {α β : Type} (K : PySem.W.Frag) (mg : Str → Option Value) (R : Hp → Rho → α → β → Prop) (E : XK) (H : Hp) (r : Rho) (m : Res α) (Q : β → Hp → Prop) : Prop :=
  match m with
  | .ok a st => ∀ b H' r', Ext H r H' r' → SR K H' r' st → R H' r' a b → Q b H'
  | .ex x st => ∀ cls d H' r', Ext H r H' r' → SR K H' r' st → XR K mg H' r' x cls d → E cls d H'
  | .bad => False
/-- one step, then the rest -/
theorem RES.seq {α β γ δ : Type} {K mg} {R : Hp → Rho → α → β → Prop} {R2 : Hp → Rho → γ → δ → Prop} {E : XK} {H r} {m : Res α} {k : α → Sto → Res γ} {Q : δ → Hp → Prop} {Q1 : β → Hp → Prop}
    (h : RES K mg R2 E H r (m.bind k) Q)
    (hk : ∀ a st b H1 r1, Ext H r H1 r1 → SR K H1 r1 st → R H1 r1 a b → RES K mg R2 E H1 r1 (k a st) Q → Q1 b H1) : RES K mg R E H r m Q1 := by
  cases m with
  | ok a st =>
    intro b H1 r1 e s hr
    refine hk a st b H1 r1 e s hr ?_
    have h' : RES K mg R2 E H r (k a st) Q := h
    revert h'
    cases k a st with
    | ok c st2 => exact fun h' d H2 r2 e2 s2 q => h' d H2 r2 (e.trans s e2) s2 q
    | ex x st2 => exact fun h' cls dd H2 r2 e2 s2 q => h' cls dd H2 r2 (e.trans s e2) s2 q
    | bad => exact fun h' => h'
  | ex x st => exact h
  | bad => exact h
/-- .. known at once -/
theorem RES.ok {α β : Type} {K mg} {R : Hp → Rho → α → β → Prop} {E : XK} {H r st} {a : α} {Q : β → Hp → Prop} (h : RES K mg R E H r (.ok a st) Q) {b : β} (s : SR K H r st) (q : R H r a b) : Q b H :=
  h b H r (Ext.refl H r) s q
theorem RES.ok' {α β : Type} {K mg} {R : Hp → Rho → α → β → Prop} {E : XK} {H r st H' r'} {a : α} {Q : β → Hp → Prop} (h : RES K mg R E H r (.ok a st) Q) {b : β} (e : Ext H r H' r') (s : SR K H' r' st) (q : R H' r' a b) : Q b H' :=
  h b H' r' e s q

abbrev RV (K : PySem.W.Frag) : Hp → Rho → D → V → Prop := fun H r d v => VD K H r d v
abbrev RVs (K : PySem.W.Frag) : Hp → Rho → List D → List V → Prop := fun H r ds vs => VDs K H r ds vs
abbrev RB : Hp → Rho → Bool → Bool → Prop := fun _ _ a b => a = b

/-- the readings -/
def tM (K : PySem.W.Frag) (mg : Str → Option Value) (W : WX) (m : EM) : TE := fun σ H Q => ∃ r env st, ER K H r env σ ∧ SR K H r st ∧ RES K mg (RV K) (WE W σ) H r (m env st) Q
def tT (K : PySem.W.Frag) (mg : Str → Option Value) (W : WX) (m : Env → Sto → Res Bool) : TT := fun σ H Q => ∃ r env st, ER K H r env σ ∧ SR K H r st ∧ RES K mg RB (WE W σ) H r (m env st) Q
def tA (K : PySem.W.Frag) (mg : Str → Option Value) (W : WX) (m : Env → Sto → Res (List D)) : TA := fun σ H Q => ∃ r env st, ER K H r env σ ∧ SR K H r st ∧ RES K mg (RVs K) (WE W σ) H r (m env st) Q
/-- a new list -/
def tN (K : PySem.W.Frag) (mg : Str → Option Value) (W : WX) (m : Env → Sto → Res (List D)) : TE := fun σ H Q =>
  ∃ r env st, ER K H r env σ ∧ SR K H r st ∧ RES K mg (RVs K) (WE W σ) H r (m env st) (fun xs H1 => ∀ p, H1 p = none → Q (.ref p) (upd H1 p (.lst xs)))

abbrev FE (X : Cx) (W : WX) (e : Expr) (m : EM) : Prop := PE X e (tM X.K X.mg W m)
abbrev FT (X : Cx) (W : WX) (e : Expr) (m : Env → Sto → Res Bool) : Prop := PT X e (tT X.K X.mg W m)
abbrev FA (X : Cx) (W : WX) (es : List Expr) (m : Env → Sto → Res (List D)) : Prop := PA X es (tA X.K X.mg W m)
abbrev FN (X : Cx) (W : WX) (e : Expr) (m : Env → Sto → Res (List D)) : Prop := PE X e (tN X.K X.mg W m)

theorem PE.imp {X : Cx} {e : Expr} {t t' : TE} (h : PE X e t) (i : ∀ σ H Q, t' σ H Q → t σ H Q) : PE X e t' := ⟨fun pins s σ H Q I q => h.run pins s σ H Q I (i σ H Q q)⟩
theorem PT.imp {X : Cx} {e : Expr} {t t' : TT} (h : PT X e t) (i : ∀ σ H Q, t' σ H Q → t σ H Q) : PT X e t' := ⟨fun pins s σ H Q I q => h.run pins s σ H Q I (i σ H Q q)⟩
theorem PA.imp {X : Cx} {es : List Expr} {t t' : TA} (h : PA X es t) (i : ∀ σ H Q, t' σ H Q → t σ H Q) : PA X es t' := ⟨fun pos pins s σ H Q I q => h.run pos pins s σ H Q I (i σ H Q q)⟩

section
variable {X : Cx} {W : WX} {e a b : Expr} {es : List Expr} {m ma mb : EM} {ms : Env → Sto → Res (List D)} {pos : Pos}

/-! ### names, constants -/
def eV (i : Nat) : EM := fun env st => match env[i]? with
  | some (some d) => .ok d st
  | _ => .bad
theorem fe_var {i : Nat} (h : PE X e (tVar i)) : FE X W e (eV i) := PE.imp h fun σ H Q ⟨r, env, st, hE, hS, h⟩ => by
  unfold eV at h
  cases q : env[i]? with
  | none => rw [q] at h; exact h.elim
  | some o =>
    cases o with
    | none => rw [q] at h; exact h.elim
    | some d =>
      rw [q] at h
      obtain ⟨v, h1, h2⟩ := hE.get i d q
      exact ⟨v, h1, RES.ok h hS h2⟩
def eC (d : D) : EM := fun _ st => .ok d st
theorem fe_int {i j} : FE X W (.Constant (.int i) j pos) (eC (.int i)) := PE.imp pe_int fun σ H Q ⟨r, env, st, hE, hS, h⟩ => RES.ok h hS rfl
theorem fe_bl {i j} : FE X W (.Constant (.bool i) j pos) (eC (.bl i)) := PE.imp pe_bl fun σ H Q ⟨r, env, st, hE, hS, h⟩ => RES.ok h hS rfl
theorem fe_non {j} : FE X W (.Constant .none j pos) (eC .non) := PE.imp pe_non fun σ H Q ⟨r, env, st, hE, hS, h⟩ => RES.ok h hS rfl
theorem fe_str {i j} : FE X W (.Constant (.str i) j pos) (eC (.str i)) := PE.imp pe_str fun σ H Q ⟨r, env, st, hE, hS, h⟩ => RES.ok h hS rfl
/-- a constant of the module -/
def ConstD (K : PySem.W.Frag) (mg : Str → Option Value) (x : Str) (d : D) : Prop := ∃ u v, mg x = some u ∧ RelV v u ∧ ∀ H r, VD K H r d v
theorem fe_glob {x : Str} {d : D} (hg : Gl X x) (h : ConstD X.K X.mg x d) (hd : (x == ("__debug__" : Str)) = false := by decide) : FE X W (.Name x pos) (eC d) := by
  obtain ⟨u, v, h1, h2, h3⟩ := h
  exact PE.imp (pe_glob hg h1 h2 hd) fun σ H Q ⟨r, env, st, hE, hS, h⟩ => RES.ok h hS (h3 H r)

/-! ### argument lists, tuples, lists -/
def aNil : Env → Sto → Res (List D) := fun _ st => .ok [] st
def aCons (ma : EM) (mr : Env → Sto → Res (List D)) : Env → Sto → Res (List D) := fun env st => (ma env st).bind fun d st1 => (mr env st1).bind fun ds st2 => .ok (d :: ds) st2
theorem fa_nil : FA X W [] aNil := PA.imp pa_nil fun σ H Q ⟨r, env, st, hE, hS, h⟩ => RES.ok h hS rfl
theorem fa_cons (ha : FE X W e ma) (hr : FA X W es ms) (hs : starEach (e :: es) X.env = (false, eval e X.env) :: starEach es X.env := by rfl) : FA X W (e :: es) (aCons ma ms) :=
  PA.imp (pa_cons ha hr hs) fun σ H Q ⟨r, env, st, hE, hS, h⟩ => by
    refine ⟨r, env, st, hE, hS, RES.seq h fun d st1 x H1 r1 e1 s1 v1 h1 => ?_⟩
    refine ⟨r1, env, st1, hE.ext e1, s1, RES.seq h1 fun ds st2 xs H2 r2 e2 s2 v2 h2 => ?_⟩
    exact RES.ok h2 s2 ⟨x, xs, rfl, v1.ext e2, v2⟩
def eTup (ms : Env → Sto → Res (List D)) : EM := fun env st => (ms env st).bind fun ds st1 => if ds.length ≤ 1000 then .ok (.tup ds) st1 else .bad
theorem fe_tup {x1} (h : FA X W es ms) : FE X W (.Tuple es x1 pos) (eTup ms) := PE.imp (pe_tupZ h) fun σ H Q ⟨r, env, st, hE, hS, h⟩ => by
  refine ⟨r, env, st, hE, hS, RES.seq h fun ds st1 xs H1 r1 e1 s1 v1 h1 => ?_⟩
  by_cases hl : ds.length ≤ 1000
  · rw [if_pos hl] at h1
    refine ⟨by rw [← v1.len]; exact Nat.le_of_lt (small1000 hl), fun p o ho hp => ?_⟩
    refine RES.ok' h1 (Ext.fresh hp) (s1.fresh hp) ⟨p, xs, rfl, .inl ⟨s1.notin hp, o, ho, upd_same⟩, v1.ext (Ext.fresh hp)⟩
  · rw [if_neg hl] at h1; exact h1.elim
def nLst (ms : Env → Sto → Res (List D)) : Env → Sto → Res (List D) := fun env st => (ms env st).bind fun ds st1 => if ds.length ≤ 1000 then .ok ds st1 else .bad
theorem fn_lst (h : FA X W es ms) : FN X W (.List es pos) (nLst ms) := PE.imp (pe_lst h) fun σ H Q ⟨r, env, st, hE, hS, h⟩ => by
  refine ⟨r, env, st, hE, hS, RES.seq h fun ds st1 xs H1 r1 e1 s1 v1 h1 => ?_⟩
  by_cases hl : ds.length ≤ 1000
  · rw [if_pos hl] at h1
    exact ⟨by rw [← v1.len]; exact Nat.le_of_lt (small1000 hl), fun p hp => RES.ok h1 s1 v1 p hp⟩
  · rw [if_neg hl] at h1; exact h1.elim
/-- a new list that nobody changes -/
def eFrz (ms : Env → Sto → Res (List D)) : EM := fun env st => (ms env st).bind fun ds st1 => .ok (.lst ds) st1
theorem fe_frz (h : FN X W e ms) : FE X W e (eFrz ms) := PE.imp h fun σ H Q ⟨r, env, st, hE, hS, h⟩ => by
  refine ⟨r, env, st, hE, hS, RES.seq h fun ds st1 xs H1 r1 e1 s1 v1 h1 p hp => ?_⟩
  exact RES.ok' h1 (Ext.fresh hp) (s1.fresh hp) ⟨p, xs, rfl, ⟨s1.notin hp, upd_same⟩, v1.ext (Ext.fresh hp)⟩
/-- .. that is laid into the store -/
def eNew (ms : Env → Sto → Res (List D)) : EM := fun env st => (ms env st).bind fun ds st1 => .ok (.loc st1.length) (st1 ++ [.lst ds])
theorem fe_new (h : FN X W e ms) : FE X W e (eNew ms) := PE.imp h fun σ H Q ⟨r, env, st, hE, hS, h⟩ => by
  refine ⟨r, env, st, hE, hS, RES.seq h fun ds st1 xs H1 r1 e1 s1 v1 h1 p hp => ?_⟩
  exact RES.ok' h1 (Ext.grown s1 hp) (s1.grown hp ⟨xs, rfl, v1⟩) ⟨p, rfl, by rw [← s1.len]; simp⟩

/-! ### operations on two values -/
/-- an operation f by values keeps g -/
def OpF (X : Cx) (f : Value → Value → Sem Value) (g : D → D → Sto → Res D) : Prop :=
  ∃ rr : R2, OpR X f rr ∧ ∀ (E : XK) H r st d e x y Q, SR X.K H r st → VD X.K H r d x → VD X.K H r e y → RES X.K X.mg (RV X.K) E H r (g d e st) Q → rr x y H Q
def eOp (g : D → D → Sto → Res D) (ma mb : EM) : EM := fun env st => (ma env st).bind fun d st1 => (mb env st1).bind fun e st2 => g d e st2
theorem sim_op {g : D → D → Sto → Res D} {rr : R2} (hr : ∀ (E : XK) H r st d e x y Q, SR X.K H r st → VD X.K H r d x → VD X.K H r e y → RES X.K X.mg (RV X.K) E H r (g d e st) Q → rr x y H Q)
    {σ : L2.St} {H : Hp} {Q : VK} (q : tM X.K X.mg W (eOp g ma mb) σ H Q) : tOp rr (tM X.K X.mg W ma) (tM X.K X.mg W mb) σ H Q := by
  obtain ⟨r, env, st, hE, hS, h⟩ := q
  refine ⟨r, env, st, hE, hS, RES.seq h fun d st1 x H1 r1 e1 s1 v1 h1 => ?_⟩
  refine ⟨r1, env, st1, hE.ext e1, s1, RES.seq h1 fun e st2 y H2 r2 e2 s2 v2 h2 => ?_⟩
  exact hr _ H2 r2 st2 d e x y Q s2 (v1.ext e2) v2 h2
theorem fe_bin {op : Operator} {g : D → D → Sto → Res D} (ho : OpF X (binaryOp op) g) (ha : FE X W a ma) (hb : FE X W b mb) : FE X W (.BinOp a op b pos) (eOp g ma mb) := by
  obtain ⟨rr, h1, h2⟩ := ho
  exact PE.imp (pe_op h1 ha hb) fun σ H Q q => sim_op h2 q
theorem fe_cmp {op : CmpOp} {g : D → D → Sto → Res D} (ho : OpF X (compareOp op) g) (ha : FE X W a ma) (hb : FE X W b mb) (hm : behindInMarks op b = false) : FE X W (.Compare a [op] [b] pos) (eOp g ma mb) := by
  obtain ⟨rr, h1, h2⟩ := ho
  exact PE.imp (pe_cmpR h1 ha hb hm) fun σ H Q q => sim_op h2 q
/-- a value that must be a truth -/
def asB (m : EM) : Env → Sto → Res Bool := fun env st => (m env st).bind fun d st1 => match d with
  | .bl k => .ok k st1
  | _ => .bad
theorem ft_cmp {op : CmpOp} {g : D → D → Sto → Res D} (ho : OpF X (compareOp op) g) (ha : FE X W a ma) (hb : FE X W b mb) (hm : behindInMarks op b = false) : FT X W (.Compare a [op] [b] pos) (asB (eOp g ma mb)) := by
  obtain ⟨rr, h1, h2⟩ := ho
  refine PT.imp (pt_cmpR h1 ha hb hm) fun σ H Q ⟨r, env, st, hE, hS, h⟩ => ?_
  refine sim_op (W := W) h2 ⟨r, env, st, hE, hS, RES.seq h fun d st1 x H1 r1 e1 s1 v1 q1 => ?_⟩
  cases d with
  | bl k => cases v1; exact ⟨k, rfl, RES.ok q1 s1 rfl⟩
  | _ => exact q1.elim
end
end FL

namespace FL
open PySem PySem.Spec PyProof.Rows L2
variable [TabCtx]

/-! ### truth -/
def truD : D → Sto → Res Bool
  | .non, st => .ok false st
  | .bl b, st => .ok b st
  | .int i, st => .ok (i != 0) st
  | .str y, st => if y.length ≤ sizeLine then .ok ((y.length : Int) != 0) st else .bad
  | .tup ds, st => .ok (!ds.isEmpty) st
  | .lst ds, st => .ok (!ds.isEmpty) st
  | .scr ns, st => .ok (!ns.isEmpty) st
  | .loc l, st => match st[l]? with
    | some (.lst ds) => .ok (!ds.isEmpty) st
    | some (.dic kvs) => .ok (!kvs.isEmpty) st
    | none => .bad
  | .exc _ _ _, _ => .bad
theorem VDs.emp {K H r ds xs} (h : VDs K H r ds xs) : ds.isEmpty = xs.isEmpty := by
  cases ds with
  | nil => cases h; rfl
  | cons d ds => obtain ⟨x, t, rfl, _⟩ := h; rfl
theorem paired_len {α β : Type} {F : α → β → Prop} : ∀ {l₁ : List α} {l₂ : List β}, Paired F l₁ l₂ → l₁.length = l₂.length
  | _, _, .nil => rfl
  | _, _, .cons _ t => by simp [paired_len t]
theorem paired_emp {α β : Type} {F : α → β → Prop} {l₁ : List α} {l₂ : List β} (h : Paired F l₁ l₂) : l₁.isEmpty = l₂.isEmpty := by
  cases h <;> rfl
theorem sim_tru {K mg} {E : XK} {H r st} {d : D} {x : V} {Q : Bool → Hp → Prop} (s : SR K H r st) (v : VD K H r d x) (h : RES K mg RB E H r (truD d st) Q) : ∃ k, TruV K x H k ∧ Q k H := by
  cases d with
  | non => cases v; exact ⟨false, rfl, RES.ok h s rfl⟩
  | bl b => cases v; exact ⟨b, rfl, RES.ok h s rfl⟩
  | int i => cases v; exact ⟨_, rfl, RES.ok h s rfl⟩
  | str y =>
    cases v
    unfold truD at h
    by_cases hl : y.length ≤ sizeLine
    · simp only [if_pos hl] at h
      exact ⟨_, ⟨hl, rfl⟩, RES.ok h s rfl⟩
    · simp only [if_neg hl] at h
      exact h.elim
  | tup ds =>
    obtain ⟨a, xs, rfl, h1, h2⟩ := v
    exact ⟨!ds.isEmpty, .inr (.inl ⟨xs, h1.sq, by rw [h2.emp]⟩), RES.ok h s rfl⟩
  | lst ds =>
    obtain ⟨a, xs, rfl, h1, h2⟩ := v
    exact ⟨!ds.isEmpty, .inl ⟨xs, h1.sq, by rw [h2.emp]⟩, RES.ok h s rfl⟩
  | scr ns =>
    obtain ⟨a, rfl, h1⟩ := v
    refine ⟨!ns.isEmpty, .inl ⟨_, h1.sq, ?_⟩, RES.ok h s rfl⟩
    cases ns <;> rfl
  | exc _ _ _ => exact h.elim
  | loc l =>
    obtain ⟨a, rfl, h1⟩ := v
    unfold truD at h
    cases q : st[l]? with
    | none => simp only [q] at h; exact h.elim
    | some o =>
      obtain ⟨b, ho, e1, e2, e3⟩ := s.obj l o q
      rw [h1] at e1; cases e1
      cases o with
      | lst ds =>
        obtain ⟨xs, rfl, e3⟩ := e3
        simp only [q] at h
        exact ⟨!ds.isEmpty, .inl ⟨xs, .inl (.inl e2), by rw [e3.emp]⟩, RES.ok h s rfl⟩
      | dic kvs =>
        obtain ⟨xs, rfl, e3⟩ := e3
        simp only [q] at h
        exact ⟨!kvs.isEmpty, .inr (.inr ⟨xs, e2, by rw [paired_emp e3]⟩), RES.ok h s rfl⟩
section
variable {X : Cx} {W : WX} {e a b c : Expr} {rest : List Expr} {m ma mb : EM} {ta tb : Env → Sto → Res Bool} {pos : Pos}
def tTru (m : EM) : Env → Sto → Res Bool := fun env st => (m env st).bind truD
theorem ft_truth (h : FE X W e m) (he : ∀ whole, isTrue e X.env whole = (do let v ← whole; standAt e.pos; holding [v] (truthy v)) := by intro _; rfl) : FT X W e (tTru m) :=
  PT.imp (pt_truth h he) fun σ H Q ⟨r, env, st, hE, hS, h⟩ => ⟨r, env, st, hE, hS, RES.seq h fun d st1 x H1 r1 e1 s1 v1 h1 => sim_tru s1 v1 h1⟩

/-! ### and, or, not in tests -/
def tAndM (ta tb : Env → Sto → Res Bool) : Env → Sto → Res Bool := fun env st => (ta env st).bind fun k st1 => if k = true then tb env st1 else .ok false st1
def tOrM (ta tb : Env → Sto → Res Bool) : Env → Sto → Res Bool := fun env st => (ta env st).bind fun k st1 => if k = true then .ok true st1 else tb env st1
def tNotM (ta : Env → Sto → Res Bool) : Env → Sto → Res Bool := fun env st => (ta env st).bind fun k st1 => .ok (!k) st1
abbrev FW (X : Cx) (W : WX) (e : Expr) (m : Env → Sto → Res Bool) : Prop := PW X e (tT X.K X.mg W m)
theorem PW.imp {X : Cx} {e : Expr} {t t' : TT} (h : PW X e t) (i : ∀ σ H Q, t' σ H Q → t σ H Q) : PW X e t' := ⟨fun wh pins s σ H Q I q => h.run wh pins s σ H Q I (i σ H Q q)⟩
theorem fw_and1 (ha : FT X W a ta) : FW X W (.BoolOp .And [a] pos) ta := pw_and1 ha
theorem fw_or1 (ha : FT X W a ta) : FW X W (.BoolOp .Or [a] pos) ta := pw_or1 ha
theorem fw_and (ha : FT X W a ta) (hb : FW X W (.BoolOp .And (b :: rest) pos) tb) : FW X W (.BoolOp .And (a :: b :: rest) pos) (tAndM ta tb) :=
  PW.imp (pw_and ha hb) fun σ H Q ⟨r, env, st, hE, hS, h⟩ => ⟨r, env, st, hE, hS, RES.seq h fun k st1 k' H1 r1 e1 s1 v1 h1 => by
    cases v1
    cases k with
    | true => exact ⟨r1, env, st1, hE.ext e1, s1, h1⟩
    | false => exact RES.ok h1 s1 rfl⟩
theorem fw_or (ha : FT X W a ta) (hb : FW X W (.BoolOp .Or (b :: rest) pos) tb) : FW X W (.BoolOp .Or (a :: b :: rest) pos) (tOrM ta tb) :=
  PW.imp (pw_or ha hb) fun σ H Q ⟨r, env, st, hE, hS, h⟩ => ⟨r, env, st, hE, hS, RES.seq h fun k st1 k' H1 r1 e1 s1 v1 h1 => by
    cases v1
    cases k with
    | false => exact ⟨r1, env, st1, hE.ext e1, s1, h1⟩
    | true => exact RES.ok h1 s1 rfl⟩
theorem fw_pt (h : FW X W e ta) : FT X W e ta := PW.pt h
theorem ft_not (ha : FT X W a ta) : FT X W (.UnaryOp .Not a pos) (tNotM ta) :=
  PT.imp (pt_not ha) fun σ H Q ⟨r, env, st, hE, hS, h⟩ => ⟨r, env, st, hE, hS, RES.seq h fun k st1 k' H1 r1 e1 s1 v1 h1 => by
    cases v1
    exact RES.ok h1 s1 rfl⟩

/-! ### as values -/
def eAnd (ma mb : EM) : EM := fun env st => (ma env st).bind fun d st1 => (truD d st1).bind fun k st2 => if k = true then mb env st2 else .ok d st2
def eOr (ma mb : EM) : EM := fun env st => (ma env st).bind fun d st1 => (truD d st1).bind fun k st2 => if k = true then .ok d st2 else mb env st2
def eNot (ma : EM) : EM := fun env st => (ma env st).bind fun d st1 => (truD d st1).bind fun k st2 => .ok (.bl (!k)) st2
theorem truD_st {d : D} {st st2 : Sto} {k : Bool} (h : truD d st = .ok k st2) : st2 = st := by
  unfold truD at h
  split at h <;> first | (cases h; rfl) | (cases h; done) | skip
  · split at h
    · cases h; rfl
    · cases h
  · split at h <;> first | (cases h; rfl) | cases h
theorem sim_tru2 {K mg} {E : XK} {H r st} {d : D} {x : V} {k : Bool → Sto → Res D} {Q : VK} (s : SR K H r st) (v : VD K H r d x) (h : RES K mg (RV K) E H r ((truD d st).bind k) Q) :
    ∃ c, TruV K x H c ∧ RES K mg (RV K) E H r (k c st) Q := by
  cases q : truD d st with
  | bad => rw [q] at h; exact h.elim
  | ex x st2 =>
    exfalso
    unfold truD at q
    split at q <;> first | cases q | skip
    · split at q <;> cases q
    · split at q <;> cases q
  | ok c st2 =>
    have e := truD_st q
    subst e
    rw [q] at h
    obtain ⟨c', t1, t2⟩ := sim_tru (Q := fun c' _ => c' = c) (mg := mg) (E := E) s v (by rw [q]; intro b H' r' _ _ hb; exact hb.symm)
    subst t2
    exact ⟨_, t1, h⟩
theorem fe_one {op} (h : FE X W a ma) : FE X W (.BoolOp op [a] pos) ma := pe_one h
theorem fe_and (ha : FE X W a ma) (hb : FE X W (.BoolOp .And (b :: rest) pos) mb) : FE X W (.BoolOp .And (a :: b :: rest) pos) (eAnd ma mb) :=
  PE.imp (pe_andT ha hb) fun σ H Q ⟨r, env, st, hE, hS, h⟩ => ⟨r, env, st, hE, hS, RES.seq h fun d st1 x H1 r1 e1 s1 v1 h1 => by
    obtain ⟨c, t1, t2⟩ := sim_tru2 s1 v1 h1
    refine ⟨c, t1, ?_⟩
    cases c with
    | true => exact ⟨r1, env, st1, hE.ext e1, s1, t2⟩
    | false => exact RES.ok t2 s1 v1⟩
theorem fe_or (ha : FE X W a ma) (hb : FE X W (.BoolOp .Or (b :: rest) pos) mb) : FE X W (.BoolOp .Or (a :: b :: rest) pos) (eOr ma mb) :=
  PE.imp (pe_orT ha hb) fun σ H Q ⟨r, env, st, hE, hS, h⟩ => ⟨r, env, st, hE, hS, RES.seq h fun d st1 x H1 r1 e1 s1 v1 h1 => by
    obtain ⟨c, t1, t2⟩ := sim_tru2 s1 v1 h1
    refine ⟨c, t1, ?_⟩
    cases c with
    | false => exact ⟨r1, env, st1, hE.ext e1, s1, t2⟩
    | true => exact RES.ok t2 s1 v1⟩
theorem fe_not (ha : FE X W a ma) : FE X W (.UnaryOp .Not a pos) (eNot ma) :=
  PE.imp (pe_notT ha) fun σ H Q ⟨r, env, st, hE, hS, h⟩ => ⟨r, env, st, hE, hS, RES.seq h fun d st1 x H1 r1 e1 s1 v1 h1 => by
    obtain ⟨c, t1, t2⟩ := sim_tru2 s1 v1 h1
    exact ⟨c, t1, RES.ok t2 s1 rfl⟩⟩
def eIf (t : Env → Sto → Res Bool) (ma mb : EM) : EM := fun env st => (t env st).bind fun k st1 => if k = true then ma env st1 else mb env st1
theorem fe_if {t : Env → Sto → Res Bool} (hc : FT X W c t) (ha : FE X W a ma) (hb : FE X W b mb) : FE X W (.IfExp c a b pos) (eIf t ma mb) :=
  PE.imp (pe_ifExp hc ha hb) fun σ H Q ⟨r, env, st, hE, hS, h⟩ => ⟨r, env, st, hE, hS, RES.seq h fun k st1 k' H1 r1 e1 s1 v1 h1 => by
    cases v1
    cases k with
    | true => exact ⟨r1, env, st1, hE.ext e1, s1, h1⟩
    | false => exact ⟨r1, env, st1, hE.ext e1, s1, h1⟩⟩
/-- a op b op' c -/
def eChain (g g' : D → D → Sto → Res D) (ma mb mc : EM) : EM := fun env st => (ma env st).bind fun d st1 => (mb env st1).bind fun e st2 => (g d e st2).bind fun z st3 => match z with
  | .bl true => (mc env st3).bind fun f st4 => g' e f st4
  | .bl false => .ok (.bl false) st3
  | _ => .bad
theorem sim_chain {mc : EM} {g g' : D → D → Sto → Res D} {rr rr' : R2}
    (hr : ∀ (E : XK) H r st d e x y Q, SR X.K H r st → VD X.K H r d x → VD X.K H r e y → RES X.K X.mg (RV X.K) E H r (g d e st) Q → rr x y H Q)
    (hr' : ∀ (E : XK) H r st d e x y Q, SR X.K H r st → VD X.K H r d x → VD X.K H r e y → RES X.K X.mg (RV X.K) E H r (g' d e st) Q → rr' x y H Q)
    {σ : L2.St} {H : Hp} {Q : VK} (q : tM X.K X.mg W (eChain g g' ma mb mc) σ H Q) : tChain rr rr' (tM X.K X.mg W ma) (tM X.K X.mg W mb) (tM X.K X.mg W mc) σ H Q := by
  obtain ⟨r, env, st, hE, hS, h⟩ := q
  refine ⟨r, env, st, hE, hS, RES.seq h fun d st1 x H1 r1 e1 s1 v1 h1 => ?_⟩
  refine ⟨r1, env, st1, hE.ext e1, s1, RES.seq h1 fun e st2 y H2 r2 e2 s2 v2 h2 => ?_⟩
  have x12 := e1.trans s1 e2
  refine hr (WE W σ) H2 r2 st2 d e x y _ s2 (v1.ext e2) v2 (RES.seq h2 fun z st3 z' H3 r3 e3 s3 v3 h3 => ?_)
  cases z with
  | bl k =>
    cases v3
    refine ⟨k, rfl, ?_⟩
    cases k with
    | true =>
      rw [if_pos rfl]
      refine ⟨r3, env, st3, (hE.ext x12).ext e3, s3, RES.seq h3 fun f st4 w H4 r4 e4 s4 v4 h4 => ?_⟩
      exact hr' (WE W σ) H4 r4 st4 e f y w Q s4 ((v2.ext e3).ext e4) v4 h4
    | false =>
      rw [if_neg Bool.false_ne_true]
      exact RES.ok h3 s3 rfl
  | _ => exact h3.elim
theorem fe_chain {op op' : CmpOp} {mc : EM} {g g' : D → D → Sto → Res D} (ho : OpF X (compareOp op) g) (ho' : OpF X (compareOp op') g') (ha : FE X W a ma) (hb : FE X W b mb) (hc : FE X W c mc)
    (hm : lastMarks [op, op'] [b, c] = false := by with_unfolding_all rfl) : FE X W (.Compare a [op, op'] [b, c] pos) (eChain g g' ma mb mc) := by
  obtain ⟨rr, h1, h2⟩ := ho
  obtain ⟨rr', h1', h2'⟩ := ho'
  exact PE.imp (pe_chain h1 h1' ha hb hc hm) fun σ H Q q => sim_chain h2 h2' q
theorem ft_chain {op op' : CmpOp} {mc : EM} {g g' : D → D → Sto → Res D} (ho : OpF X (compareOp op) g) (ho' : OpF X (compareOp op') g') (ha : FE X W a ma) (hb : FE X W b mb) (hc : FE X W c mc)
    (hm : lastMarks [op, op'] [b, c] = false := by with_unfolding_all rfl) : FT X W (.Compare a [op, op'] [b, c] pos) (asB (eChain g g' ma mb mc)) := by
  obtain ⟨rr, h1, h2⟩ := ho
  obtain ⟨rr', h1', h2'⟩ := ho'
  refine PT.imp (pt_chain h1 h1' ha hb hc hm) fun σ H Q ⟨r, env, st, hE, hS, h⟩ => ?_
  refine sim_chain (W := W) h2 h2' ⟨r, env, st, hE, hS, RES.seq h fun d st1 x H1 r1 e1 s1 v1 q1 => ?_⟩
  cases d with
  | bl k => cases v1; exact ⟨k, rfl, RES.ok q1 s1 rfl⟩
  | _ => exact q1.elim
end
end FL

namespace FL
open PySem PySem.Spec PyProof.Rows L2
variable [TabCtx]

/-! ### ends of statements -/
inductive SRes where
  | nx (env : Env) (st : Sto)
  | rt (d : D) (st : Sto)
  | ex (x : Exc) (env : Env) (st : Sto)
  | bad
abbrev SM4 := Env → Sto → SRes
def SRes.bind (r : SRes) (k : Env → Sto → SRes) : SRes :=
  match r with
  | .nx env st => k env st
  | .rt d st => .rt d st
  | .ex x env st => .ex x env st
  | .bad => .bad
@[simp] theorem SRes.bind_nx (env : Env) (st : Sto) (k : Env → Sto → SRes) : (SRes.nx env st).bind k = k env st := rfl
@[simp] theorem SRes.bind_rt (d : D) (st : Sto) (k : Env → Sto → SRes) : (SRes.rt d st).bind k = .rt d st := rfl
@[simp] theorem SRes.bind_ex (x : Exc) (env : Env) (st : Sto) (k : Env → Sto → SRes) : (SRes.ex x env st).bind k = .ex x env st := rfl
@[simp] theorem SRes.bind_bad (k : Env → Sto → SRes) : SRes.bad.bind k = .bad := rfl
/-- a value's reckoning within a statement -/
def Res.on {α : Type} (r : Res α) (env : Env) (k : α → Sto → SRes) : SRes :=
  match r with
  | .ok a st => k a st
  | .ex x st => .ex x env st
  | .bad => .bad
@[simp] theorem Res.on_ok {α : Type} (a : α) (st : Sto) (env : Env) (k : α → Sto → SRes) : (Res.ok a st).on env k = k a st := rfl
@[simp] theorem Res.on_ex {α : Type} (x : Exc) (st : Sto) (env : Env) (k : α → Sto → SRes) : (Res.ex x st : Res α).on env k = .ex x env st := rfl
@[simp] theorem Res.on_bad {α : Type} (env : Env) (k : α → Sto → SRes) : (Res.bad : Res α).on env k = .bad := rfl

def RS (K : PySem.W.Frag) (mg : Str → Option Value) (W : WX) (D : Ends) (H : Hp) (r : Rho) (m : SRes) : Prop :=
  match m with
  | .nx env st => ∀ σ' H' r', Ext H r H' r' → SR K H' r' st → ER K H' r' env σ' → D.nx σ' H'
  | .rt d st => ∀ v H' r', Ext H r H' r' → SR K H' r' st → VD K H' r' d v → D.rt v H'
  | .ex x env st => ∀ cls d σ' H' r', Ext H r H' r' → SR K H' r' st → ER K H' r' env σ' → XR K mg H' r' x cls d → W cls d σ' H'
  | .bad => False
theorem RS.mono {K mg} {W : WX} {D : Ends} {H r H1 r1 st} {m : SRes} (h : RS K mg W D H r m) (e : Ext H r H1 r1) (s : SR K H1 r1 st) : RS K mg W D H1 r1 m := by
  cases m with
  | nx env st2 => exact fun σ' H' r' e2 s2 q => h σ' H' r' (e.trans s e2) s2 q
  | rt d st2 => exact fun v H' r' e2 s2 q => h v H' r' (e.trans s e2) s2 q
  | ex x env st2 => exact fun cls d σ' H' r' e2 s2 q => h cls d σ' H' r' (e.trans s e2) s2 q
  | bad => exact h
theorem RS.on {α β : Type} {K mg} {R : Hp → Rho → α → β → Prop} {W : WX} {D : Ends} {H r σ env} {m : Res α} {k : α → Sto → SRes} {Q1 : β → Hp → Prop} (hE : ER K H r env σ)
    (h : RS K mg W D H r (m.on env k)) (hk : ∀ a st b H1 r1, Ext H r H1 r1 → SR K H1 r1 st → R H1 r1 a b → RS K mg W D H1 r1 (k a st) → Q1 b H1) : RES K mg R (WE W σ) H r m Q1 := by
  cases m with
  | ok a st =>
    intro b H1 r1 e s hr
    exact hk a st b H1 r1 e s hr (RS.mono (m := k a st) h e s)
  | ex x st => exact fun cls d H' r' e s q => h cls d σ H' r' e s (hE.ext e) q
  | bad => exact h
/-- the readings of statements -/
def tS (K : PySem.W.Frag) (mg : Str → Option Value) (W : WX) (m : SM4) : TS := fun D σ H => ∃ r env st, ER K H r env σ ∧ SR K H r st ∧ RS K mg W D H r (m env st)
abbrev FS (X : Cx) (W : WX) (s : Stmt) (m : SM4) : Prop := PS X s (tS X.K X.mg W m)
abbrev FB (X : Cx) (W : WX) (s : List Stmt) (m : SM4) : Prop := PSs X s (tS X.K X.mg W m)
theorem PS.imp {X : Cx} {s : Stmt} {t t' : TS} (h : PS X s t) (i : ∀ D σ H, t' D σ H → t D σ H) : PS X s t' := ⟨fun pins s σ H D I q => h.run pins s σ H D I (i D σ H q)⟩
theorem PSs.imp {X : Cx} {s : List Stmt} {t t' : TS} (h : PSs X s t) (i : ∀ D σ H, t' D σ H → t D σ H) : PSs X s t' := ⟨fun pins s σ H D I q => h.run pins s σ H D I (i D σ H q)⟩
theorem RS.seq {K mg} {W : WX} {D : Ends} {H r} {m : SRes} {k : SM4} (h : RS K mg W D H r (m.bind k)) : RS K mg W { D with nx := tS K mg W k D } H r m := by
  cases m with
  | nx env st => exact fun σ' H' r' e s q => ⟨r', env, st, q, s, RS.mono (m := k env st) h e s⟩
  | rt d st => exact h
  | ex x env st => exact h
  | bad => exact h

section
variable {X : Cx} {W : WX} {e c : Expr} {s : Stmt} {ss as bs : List Stmt} {m : EM} {t : Env → Sto → Res Bool} {u v : SM4} {pos : Pos}
def sNext : SM4 := fun env st => .nx env st
def sSeq (u v : SM4) : SM4 := fun env st => (u env st).bind v
theorem fb_nil : FB X W [] sNext := PSs.imp pss_nil fun D σ H ⟨r, env, st, hE, hS, h⟩ => h σ H r (Ext.refl _ _) hS hE
theorem fb_cons (h1 : FS X W s u) (h2 : FB X W ss v) : FB X W (s :: ss) (sSeq u v) := PSs.imp (pss_cons h1 h2) fun D σ H ⟨r, env, st, hE, hS, h⟩ => ⟨r, env, st, hE, hS, RS.seq h⟩
theorem fb_one (h1 : FS X W s u) : FB X W [s] u := pss_one h1
theorem fs_pass : FS X W (.Pass pos) sNext := PS.imp ps_pass fun D σ H ⟨r, env, st, hE, hS, h⟩ => h σ H r (Ext.refl _ _) hS hE
def sDrop (m : EM) : SM4 := fun env st => (m env st).on env fun _ st1 => .nx env st1
theorem fs_expr (he : FE X W e m) (hs : swapsWith e none pos.line X.env = pure false := by rfl) : FS X W (.Expr e pos) (sDrop m) :=
  PS.imp (ps_expr he hs) fun D σ H ⟨r, env, st, hE, hS, h⟩ => ⟨r, env, st, hE, hS, RS.on hE h fun d st1 x H1 r1 e1 s1 v1 h1 => h1 σ H1 r1 (Ext.refl _ _) s1 (hE.ext e1)⟩
def sRet (m : EM) : SM4 := fun env st => (m env st).on env fun d st1 => .rt d st1
theorem fs_ret (he : FE X W e m) : FS X W (.Return (some e) pos) (sRet m) :=
  PS.imp (ps_ret he) fun D σ H ⟨r, env, st, hE, hS, h⟩ => ⟨r, env, st, hE, hS, RS.on hE h fun d st1 x H1 r1 e1 s1 v1 h1 => h1 x H1 r1 (Ext.refl _ _) s1 v1⟩
def sRetN : SM4 := fun _ st => .rt .non st
theorem fs_retN : FS X W (.Return none pos) sRetN := PS.imp ps_retN fun D σ H ⟨r, env, st, hE, hS, h⟩ => h .non H r (Ext.refl _ _) hS rfl
def sIf (t : Env → Sto → Res Bool) (u v : SM4) : SM4 := fun env st => (t env st).on env fun k st1 => if k = true then u env st1 else v env st1
theorem fs_if (hc : FT X W c t) (ha : FB X W as u) (hb : FB X W bs v) : FS X W (.If c as bs pos) (sIf t u v) :=
  PS.imp (ps_if hc ha hb) fun D σ H ⟨r, env, st, hE, hS, h⟩ => ⟨r, env, st, hE, hS, RS.on hE h fun k st1 k' H1 r1 e1 s1 v1 h1 => by
    cases v1
    cases k with
    | true => exact ⟨r1, env, st1, hE.ext e1, s1, h1⟩
    | false => exact ⟨r1, env, st1, hE.ext e1, s1, h1⟩⟩
/-- a statement that is not reached -/
def sNever : SM4 := fun _ _ => .bad
theorem fs_never : FS X W s sNever := PS.imp ps_never fun D σ H ⟨r, env, st, hE, hS, h⟩ => h

/-! ### targets -/
abbrev GM := D → Env → Sto → Res Env
/-- σ' is σ but at the slots sl -/
def Only (sl : List Nat) (σ σ' : L2.St) : Prop := σ'.length = σ.length ∧ ∀ j, j ∉ sl → σ'[j]? = σ[j]?
theorem Only.refl (sl : List Nat) (σ : L2.St) : Only sl σ σ := ⟨rfl, fun _ _ => rfl⟩
theorem Only.mono {s t : List Nat} {σ σ' : L2.St} (h : Only s σ σ') (hs : ∀ j ∈ s, j ∈ t) : Only t σ σ' := ⟨h.1, fun j hj => h.2 j fun q => hj (hs j q)⟩
theorem Only.trans {s : List Nat} {σ σ1 σ2 : L2.St} (h : Only s σ σ1) (g : Only s σ1 σ2) : Only s σ σ2 := ⟨g.1.trans h.1, fun j hj => (g.2 j hj).trans (h.2 j hj)⟩
def tG (w : Bool) (K : PySem.W.Frag) (mg : Str → Option Value) (W : WX) (sl : List Nat) (g : GM) : TG := fun v σ H Q => ∃ r env st d, ER K H r env σ ∧ SR K H r st ∧ VDi w K H r d v ∧
  (match g d env st with
    | .ok env' st' => ∀ σ' H' r', Ext H r H' r' → SR K H' r' st' → ER K H' r' env' σ' → Only sl σ σ' → Q σ' H'
    | _ => False)
abbrev FG (X : Cx) (W : WX) (t : Expr) (sl : List Nat) (g : GM) : Prop := PG X t (tG (wkT t) X.K X.mg W sl g)
theorem PG.imp {X : Cx} {e : Expr} {t t' : TG} (h : PG X e t) (i : ∀ v σ H Q, t' v σ H Q → t v σ H Q) : PG X e t' := ⟨fun pins s σ H v u Q I rv q => h.run pins s σ H v u Q I rv (i v σ H Q q)⟩
def gSet (i : Nat) : GM := fun d env st => .ok (env.set i (some d)) st
theorem fg_name {i : Nat} {x : Str} (hN : X.N.Nodup) (hi : X.N[i]? = some x) (hx : Loc X.env.scope x) (hf : X.fn x = true ∨ X.env.scope.names.lookup x = some .local := by first | exact .inl rfl | exact .inr rfl | assumption) : FG X W (.Name x pos) [i] (gSet i) :=
  PG.imp (pg_name hN hi hx hf) fun v σ H Q ⟨r, env, st, d, hE, hS, hv, h⟩ => h _ H r (Ext.refl _ _) hS (hE.set i hv.vd) ⟨by simp, fun j hj => List.getElem?_set_ne (fun q => hj (by simp [q]))⟩
/-- several names, one after another -/
abbrev GMs := List D → Env → Sto → Res Env
def tGs (K : PySem.W.Frag) (mg : Str → Option Value) (W : WX) (sl : List Nat) (g : GMs) : TGs := fun vs σ H Q => ∃ r env st ds, ER K H r env σ ∧ SR K H r st ∧ VDs K H r ds vs ∧
  (match g ds env st with
    | .ok env' st' => ∀ σ' H' r', Ext H r H' r' → SR K H' r' st' → ER K H' r' env' σ' → Only sl σ σ' → Q σ' H'
    | _ => False)
abbrev FGs (X : Cx) (W : WX) (t : List Expr) (sl : List Nat) (g : GMs) : Prop := PGs X t (tGs X.K X.mg W sl g)
theorem PGs.imp {X : Cx} {e : List Expr} {t t' : TGs} (h : PGs X e t) (i : ∀ v σ H Q, t' v σ H Q → t v σ H Q) : PGs X e t' := ⟨fun pins s σ H v u Q I rv q => h.run pins s σ H v u Q I rv (i v σ H Q q)⟩
def gsNil : GMs := fun ds env st => match ds with
  | [] => .ok env st
  | _ => .bad
def gsCons (g : GM) (gs : GMs) : GMs := fun ds env st => match ds with
  | [] => .bad
  | d :: r => match g d env st with
    | .ok env' st' => gs r env' st'
    | _ => .bad
theorem fgs_nil : FGs X W [] [] gsNil := PGs.imp pgs_nil fun vs σ H Q ⟨r, env, st, ds, hE, hS, hv, h⟩ => by
  cases ds with
  | nil => cases hv; exact ⟨rfl, h σ H r (Ext.refl _ _) hS hE (Only.refl _ _)⟩
  | cons d ds => exact h.elim
theorem fgs_cons {sl sl2 : List Nat} {g : GM} {gs : GMs} {es : List Expr} (h1 : FG X W e sl g) (h2 : FGs X W es sl2 gs)
    (hs : (assignEach (e :: es) X.env).map (·.2) = assign e X.env :: (assignEach es X.env).map (·.2) := by rfl) : FGs X W (e :: es) (sl ++ sl2) (gsCons g gs) := PGs.imp (pgs_cons h1 h2 hs) fun vs σ H Q ⟨r, env, st, ds, hE, hS, hv, h⟩ => by
  cases ds with
  | nil => exact h.elim
  | cons d ds =>
    obtain ⟨x, t, rfl, hx, ht⟩ := hv
    refine ⟨x, t, rfl, r, env, st, d, hE, hS, .inl hx, ?_⟩
    have h' : match (match g d env st with | .ok env' st' => gs ds env' st' | _ => Res.bad) with
      | .ok env' st' => ∀ σ' H' r', Ext H r H' r' → SR X.K H' r' st' → ER X.K H' r' env' σ' → Only (sl ++ sl2) σ σ' → Q σ' H'
      | _ => False := h
    cases q : g d env st with
    | bad => rw [q] at h'; exact h'.elim
    | ex x st' => rw [q] at h'; exact h'.elim
    | ok env1 st1 =>
      rw [q] at h'
      intro σ1 H1 r1 e1 s1 hE1 o1
      refine ⟨r1, env1, st1, ds, hE1, s1, ht.ext e1, ?_⟩
      simp only at h'
      revert h'
      cases gs ds env1 st1 with
      | ok env2 st2 => exact fun h' σ2 H2 r2 e2 s2 hE2 o2 => h' σ2 H2 r2 (e1.trans s1 e2) s2 hE2 ((o1.mono fun j q => List.mem_append_left _ q).trans (o2.mono fun j q => List.mem_append_right _ q))
      | ex x st2 => exact fun h' => h'
      | bad => exact fun h' => h'
/-- (a, b, ..): a tuple is taken apart -/
def gTupM (n : Nat) (gs : GMs) : GM := fun d env st => match d with
  | .tup ds => if ds.length = n then gs ds env st else .bad
  | _ => .bad
theorem fg_tup {sl : List Nat} {gs : GMs} {es : List Expr} {k n : Nat} (hc : X.calm = true) (h : FGs X W es sl gs)
    (hn : (assignEach es X.env).length = n := by rfl) (hst : (assignEach es X.env).findIdx? (·.1) = none := by rfl) : FG X W (.Tuple es k pos) sl (gTupM n gs) := PG.imp (pg_tup hc h hn hst) fun v σ H Q ⟨r, env, st, d, hE, hS, hv, h⟩ => by
  cases d with
  | tup ds =>
    obtain ⟨a, xs, rfl, h1, h2⟩ := hv.tup
    unfold gTupM at h
    by_cases hl : ds.length = n
    · simp only [if_pos hl] at h
      refine ⟨a, xs, rfl, h1, by rw [← h2.len]; exact hl, r, env, st, ds, hE, hS, h2, ?_⟩
      exact h
    · simp only [if_neg hl] at h
  | _ => exact h.elim
end
end FL

namespace FL
open PySem PySem.Spec PyProof.Rows L2
variable [TabCtx]

/-! ### what is read of a value -/
def keyD : D → Option Key
  | .int i => some (.inl i)
  | .str x => some (.inr x)
  | _ => none
theorem keyD_v {K H r} {d : D} {k : Key} {x : V} (h : keyD d = some k) (v : VD K H r d x) : x = kV k := by
  cases d with
  | int i => cases h; exact v
  | str i => cases h; exact v
  | _ => cases h
/-- a list's or tuple's items -/
def seqD : D → Sto → Option (List D)
  | .tup ds, _ => some ds
  | .lst ds, _ => some ds
  | .scr ns, _ => some (ns.map .int)
  | .loc l, st => match st[l]? with
    | some (.lst ds) => some ds
    | _ => none
  | _, _ => none
theorem seqD_v {K H r st} {d : D} {x : V} {ds : List D} (s : SR K H r st) (h : seqD d st = some ds) (v : VD K H r d x) : ∃ a xs, x = .ref a ∧ VDs K H r ds xs ∧ (SqL K H a xs ∨ SqT K H a xs) := by
  cases d with
  | tup es => cases h; obtain ⟨a, xs, rfl, h1, h2⟩ := v; exact ⟨a, xs, rfl, h2, .inr h1.sq⟩
  | lst es => cases h; obtain ⟨a, xs, rfl, h1, h2⟩ := v; exact ⟨a, xs, rfl, h2, .inl h1.sq⟩
  | scr ns => cases h; obtain ⟨a, rfl, h1⟩ := v; exact ⟨a, _, rfl, VDs.ints ns, .inl h1.sq⟩
  | loc l =>
    obtain ⟨a, rfl, h1⟩ := v
    unfold seqD at h
    cases q : st[l]? with
    | none => simp only [q] at h; cases h
    | some o =>
      cases o with
      | lst es =>
        simp only [q] at h; cases h
        obtain ⟨b, ho, e1, e2, xs, rfl, e3⟩ := s.obj l _ q
        rw [h1] at e1; cases e1
        exact ⟨a, xs, rfl, e3, .inl (.inl (.inl e2))⟩
      | dic kvs => simp only [q] at h; cases h
  | _ => cases h
/-- a list's items alone -/
def lstD : D → Sto → Option (List D)
  | .lst ds, _ => some ds
  | .scr ns, _ => some (ns.map .int)
  | .loc l, st => match st[l]? with
    | some (.lst ds) => some ds
    | _ => none
  | _, _ => none
theorem lstD_v {K H r st} {d : D} {x : V} {ds : List D} (s : SR K H r st) (h : lstD d st = some ds) (v : VD K H r d x) : ∃ a xs, x = .ref a ∧ VDs K H r ds xs ∧ SqL K H a xs := by
  cases d with
  | lst es => cases h; obtain ⟨a, xs, rfl, h1, h2⟩ := v; exact ⟨a, xs, rfl, h2, h1.sq⟩
  | scr ns => cases h; obtain ⟨a, rfl, h1⟩ := v; exact ⟨a, _, rfl, VDs.ints ns, h1.sq⟩
  | loc l =>
    obtain ⟨a, rfl, h1⟩ := v
    unfold lstD at h
    cases q : st[l]? with
    | none => simp only [q] at h; cases h
    | some o =>
      cases o with
      | lst es =>
        simp only [q] at h; cases h
        obtain ⟨b, ho, e1, e2, xs, rfl, e3⟩ := s.obj l _ q
        rw [h1] at e1; cases e1
        exact ⟨a, xs, rfl, e3, .inl (.inl e2)⟩
      | dic kvs => simp only [q] at h; cases h
  | _ => cases h
/-- .. that the program made (tracked, no script) -/
def madeD : D → Sto → Option (List D)
  | .lst ds, _ => some ds
  | .loc l, st => match st[l]? with
    | some (.lst ds) => some ds
    | _ => none
  | _, _ => none
theorem madeD_v {K H r st} {d : D} {x : V} {ds : List D} (s : SR K H r st) (h : madeD d st = some ds) (v : VD K H r d x) : ∃ a xs, x = .ref a ∧ VDs K H r ds xs ∧ H a = some (.lst xs) := by
  cases d with
  | lst es => cases h; obtain ⟨a, xs, rfl, h1, h2⟩ := v; exact ⟨a, xs, rfl, h2, h1.2⟩
  | loc l =>
    obtain ⟨a, rfl, h1⟩ := v
    unfold madeD at h
    cases q : st[l]? with
    | none => simp only [q] at h; cases h
    | some o =>
      cases o with
      | lst es =>
        simp only [q] at h; cases h
        obtain ⟨b, ho, e1, e2, xs, rfl, e3⟩ := s.obj l _ q
        rw [h1] at e1; cases e1
        exact ⟨a, xs, rfl, e3, e2⟩
      | dic kvs => simp only [q] at h; cases h
  | _ => cases h
def dicD : D → Sto → Option (List (Key × D))
  | .loc l, st => match st[l]? with
    | some (.dic kvs) => some kvs
    | _ => none
  | _, _ => none
theorem dicD_v {K H r st} {d : D} {x : V} {kvs : List (Key × D)} (s : SR K H r st) (h : dicD d st = some kvs) (v : VD K H r d x) :
    ∃ a kxs, x = .ref a ∧ Paired (fun (p : Key × D) (q : Key × V) => p.1 = q.1 ∧ VD K H r p.2 q.2) kvs kxs ∧ H a = some (.dK kxs) := by
  cases d with
  | loc l =>
    obtain ⟨a, rfl, h1⟩ := v
    unfold dicD at h
    cases q : st[l]? with
    | none => simp only [q] at h; cases h
    | some o =>
      cases o with
      | dic es =>
        simp only [q] at h; cases h
        obtain ⟨b, ho, e1, e2, xs, rfl, e3⟩ := s.obj l _ q
        rw [h1] at e1; cases e1
        exact ⟨a, xs, rfl, e3, e2⟩
      | lst kvs => simp only [q] at h; cases h
  | _ => cases h
/-- the item at a place -/
theorem VDs.at {K H r} {ds : List D} {xs : List V} {i : Int} {d : D} (h : VDs K H r ds xs) (e : atI ds i = some d) : ∃ x, atI xs i = some x ∧ VD K H r d x := by
  unfold atI at e ⊢
  rw [← h.len]
  cases q : ixN ds.length i with
  | none => rw [q] at e; cases e
  | some j =>
    rw [q] at e
    obtain ⟨x, h1, h2⟩ := h.get (show ds[j]? = some d from e)
    exact ⟨x, h1, h2⟩
def dget (kvs : List (Key × D)) (k : Key) : Option D := (kvs.find? fun kv => decide (kv.1 = k)).map (·.2)
/-- the pair's value under a key -/
theorem val_of {K H r} {k : Key} : ∀ {kvs : List (Key × D)} {kxs : List (Key × V)}, Paired (fun (p : Key × D) (q : Key × V) => p.1 = q.1 ∧ VD K H r p.2 q.2) kvs kxs →
    (match dget kvs k with | some d => ∃ x, valV kxs k = some x ∧ VD K H r d x | none => valV kxs k = none)
  | _, _, .nil => rfl
  | _, _, .cons (a := a) (b := b) h t => by
    have ih := val_of (k := k) t
    unfold dget valV at ih ⊢
    rw [List.find?_cons, List.find?_cons, ← h.1]
    cases q : decide (a.1 = k) with
    | true => exact ⟨b.2, rfl, h.2⟩
    | false => exact ih

section
variable {X : Cx} {W : WX} {e a b c : Expr} {m ma mb : EM} {pos : Pos}

/-! ### a[b] -/
def rIxD : R2 := fun x y H Q => ∃ a v, x = .ref a ∧ DGet H a y (some v) ∧ Q v H
theorem ix_dict (hu : X.A.units + 1 < cLine) : IxR X rIxD := by
  intro value slice pins s σ H x y v u Q I rx ry h hs
  obtain ⟨a, z, rfl, g, q⟩ := h
  cases rx
  exact tail_any (dict_typeIs I g) PySem.F.slot_dict_getitem.lookup (d_getItem hu I g ry fun w' s3 I3 rw' => ⟨z, H, I3, rw', q⟩) hs
def ixD (d e : D) (st : Sto) : Res D := match e with
  | .int i => match d with
    | .str z => if z.length ≤ sizeLine then (match atI z.cps.toList i with | some c => .ok (.str ⟨#[c]⟩) st | none => .bad) else .bad
    | _ => match seqD d st with
      | some ds => (match atI ds i with | some x => .ok x st | none => .bad)
      | none => match dicD d st with
        | some kvs => (match dget kvs (Sum.inl i) with | some x => .ok x st | none => .bad)
        | none => .bad
  | .str k => match dicD d st with
    | some kvs => (match dget kvs (Sum.inr k) with | some x => .ok x st | none => .bad)
    | none => .bad
  | _ => .bad
theorem ix_sim {E : XK} {H : Hp} {r st} {d e : D} {x y : V} {Q : VK} (s : SR X.K H r st) (vd : VD X.K H r d x) (ve : VD X.K H r e y)
    (h : RES X.K X.mg (RV X.K) E H r (ixD d e st) Q) : rIx X.K x y H Q ∨ rIxD x y H Q := by
  have dk : ∀ (k : Key), keyD e = some k → ∀ kvs, dicD d st = some kvs → RES X.K X.mg (RV X.K) E H r (match dget kvs k with | some x => .ok x st | none => .bad) Q → rIxD x y H Q := by
    intro k hk kvs hq h
    obtain ⟨a, kxs, rfl, h1, h2⟩ := dicD_v s hq vd
    have h3 := val_of (k := k) h1
    cases q : dget kvs k with
    | none => simp only [q] at h; exact h.elim
    | some z =>
      rw [q] at h3
      simp only [q] at h
      obtain ⟨w, h4, h5⟩ := h3
      refine ⟨a, w, rfl, ?_, RES.ok h s h5⟩
      rw [keyD_v hk ve, ← h4]
      exact DGet.k h2
  unfold ixD at h
  cases e with
  | int i =>
    cases ve
    by_cases hz : ∃ z, d = .str z
    · obtain ⟨z, rfl⟩ := hz
      cases vd
      simp only at h
      by_cases hl : z.length ≤ sizeLine
      · simp only [if_pos hl] at h
        cases q : atI z.cps.toList i with
        | none => simp only [q] at h; exact h.elim
        | some c =>
          simp only [q] at h
          exact .inl (.inr (.inr ⟨z, i, c, rfl, rfl, hl, q, RES.ok h s rfl⟩))
      · simp only [if_neg hl] at h; exact h.elim
    · have h' : RES X.K X.mg (RV X.K) E H r (match seqD d st with
        | some ds => (match atI ds i with | some x => .ok x st | none => .bad)
        | none => match dicD d st with
          | some kvs => (match dget kvs (Sum.inl i) with | some x => .ok x st | none => .bad)
          | none => .bad) Q := by
        revert h
        cases d <;> first | exact fun h => h | exact absurd ⟨_, rfl⟩ hz
      cases q : seqD d st with
      | none =>
        simp only [q] at h'
        cases q2 : dicD d st with
        | none => simp only [q2] at h'; exact h'.elim
        | some kvs => simp only [q2] at h'; exact .inr (dk (.inl i) rfl kvs q2 h')
      | some ds =>
        simp only [q] at h'
        obtain ⟨a, xs, rfl, h1, h2⟩ := seqD_v s q vd
        cases q2 : atI ds i with
        | none => simp only [q2] at h'; exact h'.elim
        | some z =>
          simp only [q2] at h'
          obtain ⟨w, h3, h4⟩ := h1.at q2
          rcases h2 with h2 | h2
          · exact .inl (.inl ⟨a, xs, i, w, rfl, rfl, h2, h3, RES.ok h' s h4⟩)
          · exact .inl (.inr (.inl ⟨a, xs, i, w, rfl, rfl, h2, h3, RES.ok h' s h4⟩))
  | str k =>
    simp only at h
    cases q2 : dicD d st with
    | none => simp only [q2] at h; exact h.elim
    | some kvs => simp only [q2] at h; exact .inr (dk (.inr k) rfl kvs q2 h)
  | _ => exact h.elim
theorem fe_ix (hu : X.A.units + 1 < cLine) (ha : FE X W a ma) (hb : FE X W b mb) (hs : PlainIx b := by exact fun _ _ => rfl) : FE X W (.Subscript a b pos) (eOp ixD ma mb) :=
  PE.imp (pe_ix (ix_seq.or (ix_dict hu)) ha hb hs) fun σ H Q q => sim_op (fun E H r st d e x y Q s v1 v2 h => ix_sim s v1 v2 h) q

/-! ### xs[i:j] -/
abbrev OM := Env → Sto → Res (Option Int)
def tOM (K : PySem.W.Frag) (mg : Str → Option Value) (W : WX) (m : OM) : TO := fun σ H Q => ∃ r env st, ER K H r env σ ∧ SR K H r st ∧ RES K mg (fun _ _ a b => a = b) (WE W σ) H r (m env st) Q
abbrev FO (X : Cx) (W : WX) (e : Option Expr) (m : OM) : Prop := PO X e (tOM X.K X.mg W m)
theorem PO.imp {e : Option Expr} {t t' : TO} (h : PO X e t) (i : ∀ σ H Q, t' σ H Q → t σ H Q) : PO X e t' := ⟨fun pins s σ H Q I q => h.run pins s σ H Q I (i σ H Q q)⟩
def oNo : OM := fun _ st => .ok none st
def oSome (m : EM) : OM := fun env st => (m env st).bind fun d st1 => match d with
  | .int i => .ok (some i) st1
  | _ => .bad
theorem fo_none : FO X W none oNo := PO.imp po_none fun σ H Q ⟨r, env, st, hE, hS, h⟩ => RES.ok h hS rfl
theorem fo_some (he : FE X W e m) : FO X W (some e) (oSome m) := PO.imp (po_some he) fun σ H Q ⟨r, env, st, hE, hS, h⟩ => ⟨r, env, st, hE, hS, RES.seq h fun d st1 x H1 r1 e1 s1 v1 h1 => by
  cases d with
  | int i => cases v1; exact ⟨i, rfl, RES.ok h1 s1 rfl⟩
  | _ => exact h1.elim⟩
/-- the part that a slice takes -/
def cutL {α : Type} (xs : List α) (lo hi : Option Int) : List α := (xs.drop (HT.sIx xs.length 0 lo)).take (HT.sIx xs.length xs.length hi - HT.sIx xs.length 0 lo)
theorem VDs.cut {K H r ds xs} (h : VDs K H r ds xs) (lo hi : Option Int) : VDs K H r (cutL ds lo hi) (cutV xs lo hi) := by
  unfold cutL cutV
  rw [← h.len]
  exact (h.drop _).take _
def nSl (ma : EM) (ml mh : OM) : Env → Sto → Res (List D) := fun env st => (ma env st).bind fun d st1 => (ml env st1).bind fun lo st2 => (mh env st2).bind fun hi st3 => match lstD d st3 with
  | some ds => .ok (cutL ds lo hi) st3
  | none => .bad
theorem fn_slice {lo hi : Option Expr} {p2 : Pos} {ml mh : OM} (he : FE X W e m) (hl : FO X W lo ml) (hu : FO X W hi mh) : FN X W (.Subscript e (.Slice lo hi none p2) pos) (nSl m ml mh) :=
  PE.imp (pe_slice sl_list he hl hu) fun σ H Q ⟨r, env, st, hE, hS, h⟩ => by
    refine ⟨r, env, st, hE, hS, RES.seq h fun d st1 x H1 r1 e1 s1 v1 h1 => ?_⟩
    refine ⟨r1, env, st1, hE.ext e1, s1, RES.seq h1 fun lo st2 lo' H2 r2 e2 s2 v2 h2 => ?_⟩
    refine ⟨r2, env, st2, (hE.ext e1).ext e2, s2, RES.seq h2 fun hi st3 hi' H3 r3 e3 s3 v3 h3 => ?_⟩
    cases v2; cases v3
    cases q : lstD d st3 with
    | none => simp only [q] at h3; exact h3.elim
    | some ds =>
      simp only [q] at h3
      obtain ⟨a, xs, rfl, h4, h5⟩ := lstD_v s3 q ((v1.ext e2).ext e3)
      exact ⟨a, xs, rfl, h5, fun p hp => RES.ok h3 s3 (h4.cut lo hi) p hp⟩
/-- of a tuple, a text -/
def slD (d : D) (lo hi : Option Int) (st : Sto) : Res D := match d with
  | .tup ds => .ok (.tup (cutL ds lo hi)) st
  | .str z => if z.length ≤ sizeLine then .ok (.str (cutS z lo hi)) st else .bad
  | _ => match lstD d st with
    | some ds => .ok (.lst (cutL ds lo hi)) st
    | none => .bad
def eSl (ma : EM) (ml mh : OM) : EM := fun env st => (ma env st).bind fun d st1 => (ml env st1).bind fun lo st2 => (mh env st2).bind fun hi st3 => slD d lo hi st3
theorem fe_slice {lo hi : Option Expr} {p2 : Pos} {ml mh : OM} (he : FE X W e m) (hl : FO X W lo ml) (hu : FO X W hi mh) : FE X W (.Subscript e (.Slice lo hi none p2) pos) (eSl m ml mh) :=
  PE.imp (pe_slice (sl_list.or (sl_tupZ.or sl_str)) he hl hu) fun σ H Q ⟨r, env, st, hE, hS, h⟩ => by
    refine ⟨r, env, st, hE, hS, RES.seq h fun d st1 x H1 r1 e1 s1 v1 h1 => ?_⟩
    refine ⟨r1, env, st1, hE.ext e1, s1, RES.seq h1 fun lo st2 lo' H2 r2 e2 s2 v2 h2 => ?_⟩
    refine ⟨r2, env, st2, (hE.ext e1).ext e2, s2, RES.seq h2 fun hi st3 hi' H3 r3 e3 s3 v3 h3 => ?_⟩
    cases v2; cases v3
    have vx := (v1.ext e2).ext e3
    have gen : ∀ ds, lstD d st3 = some ds → RES X.K X.mg (RV X.K) (WE W σ) H3 r3 (.ok (.lst (cutL ds lo hi)) st3) Q → rSlL X.K x lo hi H3 Q := fun ds q h3 => by
      obtain ⟨a, xs, rfl, h4, h5⟩ := lstD_v s3 q vx
      exact ⟨a, xs, rfl, h5, fun p hp => RES.ok' h3 (Ext.fresh hp) (s3.fresh hp) ⟨p, _, rfl, ⟨s3.notin hp, upd_same⟩, (h4.cut lo hi).ext (Ext.fresh hp)⟩⟩
    have gen2 : RES X.K X.mg (RV X.K) (WE W σ) H3 r3 (match lstD d st3 with | some ds => .ok (.lst (cutL ds lo hi)) st3 | none => .bad) Q → rSlL X.K x lo hi H3 Q := fun h3 => by
      cases q : lstD d st3 with
      | none => simp only [q] at h3; exact h3.elim
      | some ds => simp only [q] at h3; exact gen ds q h3
    cases d with
    | tup ds =>
      obtain ⟨a, xs, rfl, h4, h5⟩ := vx
      refine .inr (.inl ⟨a, xs, rfl, h4.sq, fun hw => ?_, fun hw p o ho hp => ?_⟩)
      · refine RES.ok h3 s3 ⟨a, xs, rfl, h4, ?_⟩
        have e : cutL ds lo hi = ds := by
          unfold cutL
          rw [h5.len, hw.1, hw.2, List.drop_zero, Nat.sub_zero, ← h5.len, List.take_length]
        rw [e]
        exact h5
      · exact RES.ok' h3 (Ext.fresh hp) (s3.fresh hp) ⟨p, _, rfl, .inl ⟨s3.notin hp, o, ho, upd_same⟩, (h5.cut lo hi).ext (Ext.fresh hp)⟩
    | str z =>
      cases vx
      have h3' : RES X.K X.mg (RV X.K) (WE W σ) H3 r3 (if z.length ≤ sizeLine then .ok (.str (cutS z lo hi)) st3 else .bad) Q := h3
      by_cases hl : z.length ≤ sizeLine
      · rw [if_pos hl] at h3'
        exact .inr (.inr ⟨z, rfl, hl, RES.ok h3' s3 rfl⟩)
      · rw [if_neg hl] at h3'; exact h3'.elim
    | _ => exact .inl (gen2 h3)
end
end FL

namespace FL
open PySem PySem.Spec PyProof.Rows L2
variable [TabCtx]

/-! ### plain data -/
def mapO {α β : Type} (f : α → Option β) : List α → Option (List β)
  | [] => some []
  | a :: r => match f a with
    | none => none
    | some b => match mapO f r with
      | none => none
      | some bs => some (b :: bs)
def toPy : Nat → Sto → D → Option PyData
  | _, _, .non => some .none
  | _, _, .bl b => some (.bool b)
  | _, _, .int i => some (.int i)
  | _, _, .str x => some (.str x)
  | n + 1, st, .tup ds => (mapO (toPy n st) ds).map .tuple
  | n + 1, st, .lst ds => (mapO (toPy n st) ds).map .list
  | _ + 1, _, .scr ns => some (.list (ns.map .int))
  | n + 1, st, .loc l => match st[l]? with
    | some (.lst ds) => (mapO (toPy n st) ds).map .list
    | _ => none
  | _, _, _ => none
def PyOk (K : PySem.W.Frag) (H : Hp) (n : Nat) (x : V) (p : PyData) : Prop := Dp K H x p ∧ p.plain = true ∧ p.depth ≤ n
def PyOks (K : PySem.W.Frag) (H : Hp) (n : Nat) (xs : List V) (ps : List PyData) : Prop := DpAll K H xs ps ∧ PyData.plainAll ps = true ∧ PyData.depthAll ps ≤ n
theorem ints_py {K H} (n : Nat) : ∀ ns : List Int, PyOks K H n (ns.map V.int) (ns.map PyData.int)
  | [] => ⟨.nil, rfl, by simp [PyData.depthAll]⟩
  | i :: ns => by
    obtain ⟨h1, h2, h3⟩ := ints_py (K := K) (H := H) n ns
    exact ⟨.cons (.int i) h1, by simpa [PyData.plainAll, PyData.plain] using h2, by simpa [PyData.depthAll, PyData.depth] using h3⟩
theorem mapO_py {K H r n} {st : Sto} (ih : ∀ d x p, toPy n st d = some p → VD K H r d x → PyOk K H n x p) : ∀ (ds : List D) (xs : List V) (ps : List PyData), mapO (toPy n st) ds = some ps → VDs K H r ds xs → PyOks K H n xs ps
  | [], xs, ps, h, v => by
    cases h; cases v
    exact ⟨.nil, rfl, by simp [PyData.depthAll]⟩
  | d :: ds, xs, ps, h, v => by
    obtain ⟨x, t, rfl, v1, v2⟩ := v
    unfold mapO at h
    cases q : toPy n st d with
    | none => rw [q] at h; cases h
    | some p =>
      rw [q] at h
      cases q2 : mapO (toPy n st) ds with
      | none => rw [q2] at h; cases h
      | some ps' =>
        rw [q2] at h; cases h
        obtain ⟨a1, a2, a3⟩ := ih d x p q v1
        obtain ⟨b1, b2, b3⟩ := mapO_py ih ds t ps' q2 v2
        exact ⟨.cons a1 b1, by simp only [PyData.plainAll, a2, b2, Bool.and_self], by simp only [PyData.depthAll]; omega⟩
theorem toPy_ok {K H r} {st : Sto} (s : SR K H r st) : ∀ (n : Nat) (d : D) (x : V) (p : PyData), toPy n st d = some p → VD K H r d x → PyOk K H n x p := by
  intro n
  induction n with
  | zero =>
    intro d x p h v
    cases d with
    | non => cases h; cases v; exact ⟨.non, rfl, by simp [PyData.depth]⟩
    | bl b => cases h; cases v; exact ⟨.bl b, rfl, by simp [PyData.depth]⟩
    | int b => cases h; cases v; exact ⟨.int b, rfl, by simp [PyData.depth]⟩
    | str b => cases h; cases v; exact ⟨.str b, rfl, by simp [PyData.depth]⟩
    | _ => cases h
  | succ n ih =>
    intro d x p h v
    cases d with
    | exc _ _ _ => cases h
    | non => cases h; cases v; exact ⟨.non, rfl, by simp [PyData.depth]⟩
    | bl b => cases h; cases v; exact ⟨.bl b, rfl, by simp [PyData.depth]⟩
    | int b => cases h; cases v; exact ⟨.int b, rfl, by simp [PyData.depth]⟩
    | str b => cases h; cases v; exact ⟨.str b, rfl, by simp [PyData.depth]⟩
    | tup ds =>
      obtain ⟨a, xs, rfl, h1, h2⟩ := v
      unfold toPy at h
      obtain ⟨ps, q, rfl⟩ := Option.map_eq_some_iff.mp h
      obtain ⟨a1, a2, a3⟩ := mapO_py ih ds xs ps q h2
      exact ⟨.tup h1.sq a1, by simpa [PyData.plain] using a2, by simp only [PyData.depth]; omega⟩
    | lst ds =>
      obtain ⟨a, xs, rfl, h1, h2⟩ := v
      unfold toPy at h
      obtain ⟨ps, q, rfl⟩ := Option.map_eq_some_iff.mp h
      obtain ⟨a1, a2, a3⟩ := mapO_py ih ds xs ps q h2
      exact ⟨.lst h1.sq a1, by simpa [PyData.plain] using a2, by simp only [PyData.depth]; omega⟩
    | scr ns =>
      obtain ⟨a, rfl, h1⟩ := v
      cases h
      obtain ⟨a1, a2, a3⟩ := ints_py (K := K) (H := H) n ns
      exact ⟨.lst h1.sq a1, by simpa [PyData.plain] using a2, by simp only [PyData.depth]; omega⟩
    | loc l =>
      obtain ⟨a, rfl, h1⟩ := v
      unfold toPy at h
      cases q0 : st[l]? with
      | none => rw [q0] at h; cases h
      | some o =>
        rw [q0] at h
        cases o with
        | dic kvs => cases h
        | lst ds =>
          obtain ⟨b, ho, e1, e2, xs, rfl, h2⟩ := s.obj l _ q0
          rw [h1] at e1; cases e1
          obtain ⟨ps, q, rfl⟩ := Option.map_eq_some_iff.mp h
          obtain ⟨a1, a2, a3⟩ := mapO_py ih ds xs ps q h2
          exact ⟨.lst (.inl (.inl e2)) a1, by simpa [PyData.plain] using a2, by simp only [PyData.depth]; omega⟩
/-- d == e -/
def eqB (st : Sto) (d e : D) : Option Bool := match d, e with
  | .int i, .int j => some (i == j)
  | _, _ => match toPy 40 st d, toPy 40 st e with
    | some p, some q => some (PyData.eqv p q)
    | _, _ => none
theorem eqB_py {st : Sto} {d e : D} {b : Bool} (h : eqB st d e = some b) : ∃ p q, toPy 40 st d = some p ∧ toPy 40 st e = some q ∧ b = PyData.eqv p q := by
  by_cases hi : ∃ i j, d = .int i ∧ e = .int j
  · obtain ⟨i, j, rfl, rfl⟩ := hi
    cases h
    exact ⟨_, _, rfl, rfl, by simp [PyData.eqv]⟩
  · have h' : (match toPy 40 st d, toPy 40 st e with
      | some p, some q => some (PyData.eqv p q)
      | _, _ => none) = some b := by
      revert h
      unfold eqB
      split
      · exact absurd ⟨_, _, rfl, rfl⟩ hi
      · exact fun h => h
    cases q1 : toPy 40 st d with
    | none => rw [q1] at h'; cases h'
    | some p =>
      cases q2 : toPy 40 st e with
      | none => rw [q1, q2] at h'; cases h'
      | some q =>
        rw [q1, q2] at h'
        cases h'
        exact ⟨p, q, rfl, rfl, rfl⟩
def eqD (d e : D) (st : Sto) : Res D := match eqB st d e with
  | some b => .ok (.bl b) st
  | none => .bad
def neD (d e : D) (st : Sto) : Res D := match eqB st d e with
  | some b => .ok (.bl (!b)) st
  | none => .bad
section
variable {X : Cx} {W : WX} {e a b c : Expr} {m ma mb : EM} {pos : Pos}
def rEqP (K : PySem.W.Frag) (neg : Bool) : R2 := fun x y H Q => ∃ d e n, PyOk K H n x d ∧ PyOk K H n y e ∧ n ≤ 60 ∧ Q (.bl (if neg then !PyData.eqv d e else PyData.eqv d e)) H
theorem op_eqP (hu : X.A.units + 64 < cLine) : OpR X (compareOp .Eq) (rEqP X.K false) := by
  intro pins s σ H x y v u Q I rx ry h
  obtain ⟨d, e, n, ⟨h1, h2, h3⟩, ⟨h4, h5, h6⟩, hn, q⟩ := h
  obtain ⟨as, r1⟩ := Dp.reads I d x v h1 rx
  obtain ⟨bs, r2⟩ := Dp.reads I e y u h4 ry
  exact SeqAt.eq_plain r1 r2 h2 h5 (by omega) ⟨.bl _, H, I, rfl, q⟩
theorem op_neP (hu : X.A.units + 64 < cLine) : OpR X (compareOp .NotEq) (rEqP X.K true) := by
  intro pins s σ H x y v u Q I rx ry h
  obtain ⟨d, e, n, ⟨h1, h2, h3⟩, ⟨h4, h5, h6⟩, hn, q⟩ := h
  obtain ⟨as, r1⟩ := Dp.reads I d x v h1 rx
  obtain ⟨bs, r2⟩ := Dp.reads I e y u h4 ry
  exact SeqAt.ne_plain r1 r2 h2 h5 (by omega) ⟨.bl _, H, I, rfl, q⟩
theorem opf_eq (hu : X.A.units + 64 < cLine) : OpF X (compareOp .Eq) eqD := ⟨_, op_eqP hu, fun E H r st d e x y Q s v1 v2 h => by
  unfold eqD at h
  cases q : eqB st d e with
  | none => simp only [q] at h; exact h.elim
  | some k =>
    simp only [q] at h
    obtain ⟨p1, p2, h1, h2, rfl⟩ := eqB_py q
    exact ⟨p1, p2, 40, toPy_ok s 40 d x p1 h1 v1, toPy_ok s 40 e y p2 h2 v2, by decide, RES.ok h s rfl⟩⟩
theorem opf_ne (hu : X.A.units + 64 < cLine) : OpF X (compareOp .NotEq) neD := ⟨_, op_neP hu, fun E H r st d e x y Q s v1 v2 h => by
  unfold neD at h
  cases q : eqB st d e with
  | none => simp only [q] at h; exact h.elim
  | some k =>
    simp only [q] at h
    obtain ⟨p1, p2, h1, h2, rfl⟩ := eqB_py q
    exact ⟨p1, p2, 40, toPy_ok s 40 d x p1 h1 v1, toPy_ok s 40 e y p2 h2 v2, by decide, RES.ok h s rfl⟩⟩

/-! ### in -/
def inB (d c : D) (st : Sto) : Option Bool := match dicD c st with
  | some kvs => match keyD d with
    | some k => some (dget kvs k).isSome
    | none => none
  | none => match seqD c st with
    | some cs => match toPy 40 st d, mapO (toPy 40 st) cs with
      | some p, some ps => some (ps.any fun z => PyData.eqv z p)
      | _, _ => none
    | none => match d, c with
      | .str x, .str y => some (!(Builtin.Str.occurrences y x 0 y.length 1).isEmpty)
      | _, _ => none
def inD (d c : D) (st : Sto) : Res D := match inB d c st with
  | some b => .ok (.bl b) st
  | none => .bad
def ninD (d c : D) (st : Sto) : Res D := match inB d c st with
  | some b => .ok (.bl (!b)) st
  | none => .bad
def rInP (K : PySem.W.Frag) (neg : Bool) : R2 := fun x y H Q => ∃ b : Bool,
  ((∃ a o, y = .ref a ∧ DGet H a x o ∧ b = o.isSome) ∨
   (∃ p ps n, PyOk K H n x p ∧ n ≤ 50 ∧ (Dp K H y (.list ps) ∨ Dp K H y (.tuple ps)) ∧ PyData.plainAll ps = true ∧ b = ps.any fun z => PyData.eqv z p) ∨
   (∃ i j, x = .str i ∧ y = .str j ∧ b = !(Builtin.Str.occurrences j i 0 j.length 1).isEmpty)) ∧ Q (.bl (if neg then !b else b)) H
theorem op_inP (hu : X.A.units + 64 < cLine) : OpR X (compareOp .In) (rInP X.K false) := by
  intro pins s σ H x y v u Q I rx ry h
  obtain ⟨b, h, q⟩ := h
  rcases h with ⟨a, o, rfl, g, rfl⟩ | ⟨p, ps, n, ⟨h1, h2, h3⟩, hn, h4, h5, rfl⟩ | ⟨i, j, rfl, rfl, rfl⟩
  · obtain rfl : u = Value.ref a := ry
    exact d_in (by omega) I g rx fun s3 I3 => ⟨.bl o.isSome, H, I3, rfl, q⟩
  · obtain ⟨as, r1⟩ := Dp.reads I p x v h1 rx
    rcases h4 with h4 | h4
    · obtain ⟨bs, r2⟩ := Dp.reads I (.list ps) y u h4 ry
      exact SeqAt.in_list_data r2 r1 h5 h2 (by omega) ⟨.bl _, H, I, rfl, q⟩
    · obtain ⟨bs, r2⟩ := Dp.reads I (.tuple ps) y u h4 ry
      exact SeqAt.in_tuple_data r2 r1 h5 h2 (by omega) ⟨.bl _, H, I, rfl, q⟩
  · exact op_in_str pins s σ H _ _ v u Q I rx ry ⟨i, j, rfl, rfl, q⟩
theorem op_ninP (hu : X.A.units + 64 < cLine) : OpR X (compareOp .NotIn) (rInP X.K true) := by
  intro pins s σ H x y v u Q I rx ry h
  obtain ⟨b, h, q⟩ := h
  rcases h with ⟨a, o, rfl, g, rfl⟩ | ⟨p, ps, n, ⟨h1, h2, h3⟩, hn, h4, h5, rfl⟩ | ⟨i, j, rfl, rfl, rfl⟩
  · obtain rfl : u = Value.ref a := ry
    exact d_notIn (by omega) I g rx fun s3 I3 => ⟨.bl (!o.isSome), H, I3, rfl, q⟩
  · obtain ⟨as, r1⟩ := Dp.reads I p x v h1 rx
    rcases h4 with h4 | h4
    · obtain ⟨bs, r2⟩ := Dp.reads I (.list ps) y u h4 ry
      exact SeqAt.notIn_list_data r2 r1 h5 h2 (by omega) ⟨.bl _, H, I, rfl, q⟩
    · obtain ⟨bs, r2⟩ := Dp.reads I (.tuple ps) y u h4 ry
      exact SeqAt.notIn_tuple_data r2 r1 h5 h2 (by omega) ⟨.bl _, H, I, rfl, q⟩
  · exact op_notin_str pins s σ H _ _ v u Q I rx ry ⟨i, j, rfl, rfl, q⟩
theorem seqD_py {K H r st} {c : D} {y : V} {cs : List D} {ps : List PyData} (s : SR K H r st) (h : seqD c st = some cs) (hp : mapO (toPy 40 st) cs = some ps) (v : VD K H r c y) :
    (Dp K H y (.list ps) ∨ Dp K H y (.tuple ps)) ∧ PyData.plainAll ps = true := by
  obtain ⟨a, xs, rfl, h1, h2⟩ := seqD_v s h v
  obtain ⟨b1, b2, _⟩ := mapO_py (toPy_ok s 40) cs xs ps hp h1
  rcases h2 with h2 | h2
  · exact ⟨.inl (.lst h2 b1), b2⟩
  · exact ⟨.inr (.tup h2 b1), b2⟩
theorem inB_sim {K : PySem.W.Frag} {H r st} {d c : D} {x y : V} {b neg : Bool} {Q : VK} (s : SR K H r st) (v1 : VD K H r d x) (v2 : VD K H r c y) (h : inB d c st = some b)
    (q : Q (.bl (if neg then !b else b)) H) : rInP K neg x y H Q := by
  refine ⟨b, ?_, q⟩
  unfold inB at h
  cases q1 : dicD c st with
  | some kvs =>
    simp only [q1] at h
    cases q2 : keyD d with
    | none => simp only [q2] at h; cases h
    | some k =>
      simp only [q2] at h
      cases h
      obtain ⟨a, kxs, rfl, h1, h2⟩ := dicD_v s q1 v2
      refine .inl ⟨a, valV kxs k, rfl, ?_, ?_⟩
      · rw [keyD_v q2 v1]; exact DGet.k h2
      · have h3 := val_of (k := k) h1
        cases q3 : dget kvs k with
        | none => rw [q3] at h3; rw [show valV kxs k = none from h3]; rfl
        | some z => rw [q3] at h3; obtain ⟨w, h4, _⟩ := h3; rw [h4]; rfl
  | none =>
    simp only [q1] at h
    cases q2 : seqD c st with
    | some cs =>
      simp only [q2] at h
      cases q3 : toPy 40 st d with
      | none => simp only [q3] at h; cases h
      | some p =>
        cases q4 : mapO (toPy 40 st) cs with
        | none => simp only [q3, q4] at h; cases h
        | some ps =>
          simp only [q3, q4] at h
          cases h
          obtain ⟨h1, h2⟩ := seqD_py s q2 q4 v2
          exact .inr (.inl ⟨p, ps, 40, toPy_ok s 40 d x p q3 v1, by decide, h1, h2, rfl⟩)
    | none =>
      simp only [q2] at h
      split at h
      · cases h; cases v1; cases v2
        exact .inr (.inr ⟨_, _, rfl, rfl, rfl⟩)
      · cases h
theorem opf_in (hu : X.A.units + 64 < cLine) : OpF X (compareOp .In) inD := ⟨_, op_inP hu, fun E H r st d e x y Q s v1 v2 h => by
  unfold inD at h
  cases q : inB d e st with
  | none => simp only [q] at h; exact h.elim
  | some k => simp only [q] at h; exact inB_sim s v1 v2 q (RES.ok h s rfl)⟩
theorem opf_nin (hu : X.A.units + 64 < cLine) : OpF X (compareOp .NotIn) ninD := ⟨_, op_ninP hu, fun E H r st d e x y Q s v1 v2 h => by
  unfold ninD at h
  cases q : inB d e st with
  | none => simp only [q] at h; exact h.elim
  | some k => simp only [q] at h; exact inB_sim s v1 v2 q (RES.ok h s rfl)⟩

/-! ### is None -/
def isNon : D → Bool
  | .non => true
  | _ => false
def isD (d e : D) (st : Sto) : Res D := match e with
  | .non => .ok (.bl (isNon d)) st
  | _ => .bad
def isntD (d e : D) (st : Sto) : Res D := match e with
  | .non => .ok (.bl (!isNon d)) st
  | _ => .bad
theorem isNon_v {K H r} {d : D} {x : V} (v : VD K H r d x) : decide (x = V.non) = isNon d := by
  cases d with
  | non => cases v; rfl
  | bl _ => cases v; rfl
  | int _ => cases v; rfl
  | str _ => cases v; rfl
  | tup _ => obtain ⟨a, xs, rfl, _⟩ := v; rfl
  | lst _ => obtain ⟨a, xs, rfl, _⟩ := v; rfl
  | loc _ => obtain ⟨a, rfl, _⟩ := v; rfl
  | scr _ => obtain ⟨a, rfl, _⟩ := v; rfl
  | exc _ _ _ => obtain ⟨a, vs, rfl, _⟩ := v; rfl
theorem opf_is : OpF X (compareOp .Is) isD := ⟨_, op_isN, fun E H r st d e x y Q s v1 v2 h => by
  cases e with
  | non => cases v2; exact ⟨rfl, by rw [isNon_v v1]; exact RES.ok h s rfl⟩
  | _ => exact h.elim⟩
theorem opf_isnt : OpF X (compareOp .IsNot) isntD := ⟨_, op_notN, fun E H r st d e x y Q s v1 v2 h => by
  cases e with
  | non => cases v2; exact ⟨rfl, by rw [isNon_v v1]; exact RES.ok h s rfl⟩
  | _ => exact h.elim⟩

/-! ### numbers -/
def ltD (d e : D) (st : Sto) : Res D := match d, e with
  | .int i, .int j => .ok (.bl (decide (i < j))) st
  | _, _ => .bad
def leD (d e : D) (st : Sto) : Res D := match d, e with
  | .int i, .int j => .ok (.bl (decide (i ≤ j))) st
  | _, _ => .bad
def gtD (d e : D) (st : Sto) : Res D := match d, e with
  | .int i, .int j => .ok (.bl (decide (j < i))) st
  | _, _ => .bad
def geD (d e : D) (st : Sto) : Res D := match d, e with
  | .int i, .int j => .ok (.bl (decide (j ≤ i))) st
  | _, _ => .bad
def subD (d e : D) (st : Sto) : Res D := match d, e with
  | .int i, .int j => .ok (.int (i - j)) st
  | _, _ => .bad
def modD (d e : D) (st : Sto) : Res D := match d, e with
  | .int i, .int j => if j = 0 then .bad else .ok (.int (i.fmod j)) st
  | _, _ => .bad
def fdivD (d e : D) (st : Sto) : Res D := match d, e with
  | .int i, .int j => if j = 0 then .bad else if j.natAbs.log2 < 9000 then .ok (.int (i.fdiv j)) st else .bad
  | _, _ => .bad
def powD (d e : D) (st : Sto) : Res D := match d, e with
  | .int i, .int j => if 0 ≤ j ∧ j ≤ 1000000 ∧ i.natAbs < 2 ^ 64 then .ok (.int (i ^ j.toNat)) st else .bad
  | _, _ => .bad
def xorD (d e : D) (st : Sto) : Res D := match d, e with
  | .int i, .int j => .ok (.int (Builtin.bitXor i j)) st
  | _, _ => .bad
theorem opf_lt : OpF X (compareOp .Lt) ltD := ⟨_, op_lt, fun E H r st d e x y Q s v1 v2 h => by
  cases d with
  | int i => cases e with
    | int j => cases v1; cases v2; exact ⟨i, j, rfl, rfl, RES.ok h s rfl⟩
    | _ => exact h.elim
  | _ => cases e <;> exact h.elim⟩
theorem opf_le : OpF X (compareOp .LtE) leD := ⟨_, op_le, fun E H r st d e x y Q s v1 v2 h => by
  cases d with
  | int i => cases e with
    | int j => cases v1; cases v2; exact ⟨i, j, rfl, rfl, RES.ok h s rfl⟩
    | _ => exact h.elim
  | _ => cases e <;> exact h.elim⟩
theorem opf_gt : OpF X (compareOp .Gt) gtD := ⟨_, op_gt, fun E H r st d e x y Q s v1 v2 h => by
  cases d with
  | int i => cases e with
    | int j => cases v1; cases v2; exact ⟨i, j, rfl, rfl, RES.ok h s rfl⟩
    | _ => exact h.elim
  | _ => cases e <;> exact h.elim⟩
theorem opf_ge : OpF X (compareOp .GtE) geD := ⟨_, op_ge, fun E H r st d e x y Q s v1 v2 h => by
  cases d with
  | int i => cases e with
    | int j => cases v1; cases v2; exact ⟨i, j, rfl, rfl, RES.ok h s rfl⟩
    | _ => exact h.elim
  | _ => cases e <;> exact h.elim⟩
theorem opf_sub : OpF X (binaryOp .Sub) subD := ⟨_, op_sub, fun E H r st d e x y Q s v1 v2 h => by
  cases d with
  | int i => cases e with
    | int j => cases v1; cases v2; exact ⟨i, j, rfl, rfl, RES.ok h s rfl⟩
    | _ => exact h.elim
  | _ => cases e <;> exact h.elim⟩
theorem opf_mod : OpF X (binaryOp .Mod) modD := ⟨_, op_modN, fun E H r st d e x y Q s v1 v2 h => by
  cases d with
  | int i => cases e with
    | int j =>
      cases v1; cases v2
      unfold modD at h
      by_cases hj : j = 0
      · simp only [if_pos hj] at h; exact h.elim
      · simp only [if_neg hj] at h; exact ⟨i, j, rfl, rfl, hj, RES.ok h s rfl⟩
    | _ => exact h.elim
  | _ => cases e <;> exact h.elim⟩
def CDivG (_ j : Int) : Prop := j ≠ 0 ∧ j.natAbs.log2 < 9000
theorem op_fdivG : OpR X (binaryOp .FloorDiv) (rI CDivG fun i j => .int (i.fdiv j)) := opI fun _ _ _ _ _ _ _ hc q => floordiv_int hc.1 q (.inl (PyProof.noPylong_of_log2 hc.2))
theorem opf_fdiv : OpF X (binaryOp .FloorDiv) fdivD := ⟨_, op_fdivG, fun E H r st d e x y Q s v1 v2 h => by
  cases d with
  | int i => cases e with
    | int j =>
      cases v1; cases v2
      unfold fdivD at h
      by_cases hj : j = 0
      · simp only [if_pos hj] at h; exact h.elim
      · by_cases hl : j.natAbs.log2 < 9000
        · simp only [if_neg hj, if_pos hl] at h; exact ⟨i, j, rfl, rfl, ⟨hj, hl⟩, RES.ok h s rfl⟩
        · simp only [if_neg hj, if_neg hl] at h; exact h.elim
    | _ => exact h.elim
  | _ => cases e <;> exact h.elim⟩
theorem opf_pow : OpF X (binaryOp .Pow) powD := ⟨_, op_pow, fun E H r st d e x y Q s v1 v2 h => by
  cases d with
  | int i => cases e with
    | int j =>
      cases v1; cases v2
      unfold powD at h
      by_cases hj : 0 ≤ j ∧ j ≤ 1000000 ∧ i.natAbs < 2 ^ 64
      · simp only [if_pos hj] at h; exact ⟨i, j, rfl, rfl, hj, RES.ok h s rfl⟩
      · simp only [if_neg hj] at h; exact h.elim
    | _ => exact h.elim
  | _ => cases e <;> exact h.elim⟩
theorem opf_xor : OpF X (binaryOp .BitXor) xorD := ⟨_, op_xor, fun E H r st d e x y Q s v1 v2 h => by
  cases d with
  | int i => cases e with
    | int j => cases v1; cases v2; exact ⟨i, j, rfl, rfl, RES.ok h s rfl⟩
    | _ => exact h.elim
  | _ => cases e <;> exact h.elim⟩

/-! ### +, * -/
def addD (d e : D) (st : Sto) : Res D := match d, e with
  | .int i, .int j => .ok (.int (i + j)) st
  | .str x, .str y => if x.length + y.length ≤ 1000000 then .ok (.str (x ++ y)) st else .bad
  | .tup xs, .tup ys => if xs.length + ys.length ≤ 1000000 then .ok (.tup (xs ++ ys)) st else .bad
  | _, _ => match madeD d st, madeD e st with
    | some xs, some ys => if xs.length + ys.length ≤ 1000000 then .ok (.lst (xs ++ ys)) st else .bad
    | _, _ => .bad
theorem big_ok {n : Nat} (h : n ≤ 1000000) : n ≤ sizeLine := by rw [sizeLine_eq]; omega
theorem opf_add : OpF X (binaryOp .Add) addD := ⟨_, op_add.or (op_add_str.or (op_catZ.or op_cat)), fun E H r st d e x y Q s v1 v2 h => by
  by_cases hi : ∃ i j, d = .int i ∧ e = .int j
  · obtain ⟨i, j, rfl, rfl⟩ := hi
    cases v1; cases v2
    exact .inl ⟨i, j, rfl, rfl, RES.ok h s rfl⟩
  by_cases hs : ∃ i j, d = .str i ∧ e = .str j
  · obtain ⟨i, j, rfl, rfl⟩ := hs
    cases v1; cases v2
    simp only [addD] at h
    by_cases hl : i.length + j.length ≤ 1000000
    · simp only [if_pos hl] at h; exact .inr (.inl ⟨i, j, rfl, rfl, big_ok hl, RES.ok h s rfl⟩)
    · simp only [if_neg hl] at h; exact h.elim
  by_cases ht : ∃ i j, d = .tup i ∧ e = .tup j
  · obtain ⟨i, j, rfl, rfl⟩ := ht
    obtain ⟨a, xs, rfl, h1, h2⟩ := v1
    obtain ⟨b, ys, rfl, h3, h4⟩ := v2
    simp only [addD] at h
    by_cases hl : i.length + j.length ≤ 1000000
    · simp only [if_pos hl] at h
      refine .inr (.inr (.inl ⟨a, b, xs, ys, rfl, rfl, h1.sq, h3.sq, by rw [← h2.len, ← h4.len]; exact big_ok hl, fun e => ?_, fun _ e => ?_, fun _ _ p o ho hp => ?_⟩))
      · subst e
        have : i = [] := by have := h2.len; exact List.eq_nil_of_length_eq_zero this
        subst this
        exact RES.ok h s ⟨b, ys, rfl, h3, h4⟩
      · subst e
        have : j = [] := by have := h4.len; exact List.eq_nil_of_length_eq_zero this
        subst this
        rw [List.append_nil] at h
        exact RES.ok h s ⟨a, xs, rfl, h1, h2⟩
      · exact RES.ok' h (Ext.fresh hp) (s.fresh hp) ⟨p, _, rfl, .inl ⟨s.notin hp, o, ho, upd_same⟩, (h2.app h4).ext (Ext.fresh hp)⟩
    · simp only [if_neg hl] at h; exact h.elim
  have h' : RES X.K X.mg (RV X.K) E H r (match madeD d st, madeD e st with
    | some xs, some ys => if xs.length + ys.length ≤ 1000000 then .ok (.lst (xs ++ ys)) st else .bad
    | _, _ => .bad) Q := by
    revert h
    unfold addD
    split
    · exact absurd ⟨_, _, rfl, rfl⟩ hi
    · exact absurd ⟨_, _, rfl, rfl⟩ hs
    · exact absurd ⟨_, _, rfl, rfl⟩ ht
    · exact fun h => h
  cases q1 : madeD d st with
  | none => simp only [q1] at h'; exact h'.elim
  | some xs =>
    cases q2 : madeD e st with
    | none => simp only [q1, q2] at h'; exact h'.elim
    | some ys =>
      simp only [q1, q2] at h'
      obtain ⟨a, vs, rfl, h1, h2⟩ := madeD_v s q1 v1
      obtain ⟨b, ws, rfl, h3, h4⟩ := madeD_v s q2 v2
      by_cases hl : xs.length + ys.length ≤ 1000000
      · simp only [if_pos hl] at h'
        refine .inr (.inr (.inr ⟨a, b, vs, ws, rfl, rfl, h2, h4, by rw [← h1.len, ← h3.len]; exact big_ok hl, fun p hp => ?_⟩))
        exact RES.ok' h' (Ext.fresh hp) (s.fresh hp) ⟨p, _, rfl, ⟨s.notin hp, upd_same⟩, (h1.app h3).ext (Ext.fresh hp)⟩
      · simp only [if_neg hl] at h'; exact h'.elim⟩
/-- two lists joined into a new one -/
def nCat (ma mb : EM) : Env → Sto → Res (List D) := fun env st => (ma env st).bind fun d st1 => (mb env st1).bind fun e st2 => match madeD d st2, madeD e st2 with
  | some xs, some ys => if xs.length + ys.length ≤ 1000000 then .ok (xs ++ ys) st2 else .bad
  | _, _ => .bad
theorem fn_cat (ha : FE X W a ma) (hb : FE X W b mb) : FN X W (.BinOp a .Add b pos) (nCat ma mb) := PE.imp (pe_op op_cat ha hb) fun σ H Q ⟨r, env, st, hE, hS, h⟩ => by
  refine ⟨r, env, st, hE, hS, RES.seq h fun d st1 x H1 r1 e1 s1 v1 h1 => ?_⟩
  refine ⟨r1, env, st1, hE.ext e1, s1, RES.seq h1 fun e st2 y H2 r2 e2 s2 v2 h2 => ?_⟩
  cases q1 : madeD d st2 with
  | none => simp only [q1] at h2; exact h2.elim
  | some xs =>
    cases q2 : madeD e st2 with
    | none => simp only [q1, q2] at h2; exact h2.elim
    | some ys =>
      simp only [q1, q2] at h2
      obtain ⟨a, vs, rfl, h3, h4⟩ := madeD_v s2 q1 (v1.ext e2)
      obtain ⟨b, ws, rfl, h5, h6⟩ := madeD_v s2 q2 v2
      by_cases hl : xs.length + ys.length ≤ 1000000
      · simp only [if_pos hl] at h2
        exact ⟨a, b, vs, ws, rfl, rfl, h4, h6, by rw [← h3.len, ← h5.len]; exact big_ok hl, fun p hp => RES.ok h2 s2 (h3.app h5) p hp⟩
      · simp only [if_neg hl] at h2; exact h2.elim
def repL {α : Type} (xs : List α) (k : Int) : List α := (List.replicate k.toNat xs).flatten
def mulD (d e : D) (st : Sto) : Res D := match d, e with
  | .int i, .int j => if i.natAbs.log2 + j.natAbs.log2 < 1000000 then .ok (.int (i * j)) st else .bad
  | d, .int k => match madeD d st with
    | some xs => if 0 ≤ k ∧ k ≤ 1000000 ∧ xs.length * k.toNat ≤ 1000000 then .ok (.lst (repL xs k)) st else .bad
    | none => .bad
  | _, _ => .bad
theorem VDs.repl {K H r ds xs} (h : VDs K H r ds xs) : ∀ k : Nat, VDs K H r (List.replicate k ds).flatten (List.replicate k xs).flatten
  | 0 => rfl
  | k + 1 => by rw [List.replicate_succ, List.flatten_cons, List.replicate_succ, List.flatten_cons]; exact h.app (h.repl k)
theorem opf_mul : OpF X (binaryOp .Mult) mulD := ⟨_, op_mulW.or op_rep, fun E H r st d e x y Q s v1 v2 h => by
  cases e with
  | int k =>
    cases v2
    by_cases hd : ∃ i, d = .int i
    · obtain ⟨i, rfl⟩ := hd
      cases v1
      unfold mulD at h
      by_cases hl : i.natAbs.log2 + k.natAbs.log2 < 1000000
      · simp only [if_pos hl] at h; exact .inl ⟨i, k, rfl, rfl, hl, RES.ok h s rfl⟩
      · simp only [if_neg hl] at h; exact h.elim
    · have h' : RES X.K X.mg (RV X.K) E H r (match madeD d st with
        | some xs => if 0 ≤ k ∧ k ≤ 1000000 ∧ xs.length * k.toNat ≤ 1000000 then .ok (.lst (repL xs k)) st else .bad
        | none => .bad) Q := by
        revert h
        cases d <;> first | exact fun h => h | exact absurd ⟨_, rfl⟩ hd
      cases q1 : madeD d st with
      | none => simp only [q1] at h'; exact h'.elim
      | some xs =>
        simp only [q1] at h'
        obtain ⟨a, vs, rfl, h1, h2⟩ := madeD_v s q1 v1
        by_cases hl : 0 ≤ k ∧ k ≤ 1000000 ∧ xs.length * k.toNat ≤ 1000000
        · simp only [if_pos hl] at h'
          refine .inr ⟨a, k, vs, rfl, rfl, h2, by omega, by omega, by rw [← h1.len]; exact big_ok hl.2.2, fun p hp => ?_⟩
          exact RES.ok' h' (Ext.fresh hp) (s.fresh hp) ⟨p, _, rfl, ⟨s.notin hp, upd_same⟩, (h1.repl k.toNat).ext (Ext.fresh hp)⟩
        · simp only [if_neg hl] at h'; exact h'.elim
  | _ => cases d <;> exact h.elim⟩
def nRep (ma mb : EM) : Env → Sto → Res (List D) := fun env st => (ma env st).bind fun d st1 => (mb env st1).bind fun e st2 => match madeD d st2, e with
  | some xs, .int k => if 0 ≤ k ∧ k ≤ 1000000 ∧ xs.length * k.toNat ≤ 1000000 then .ok (repL xs k) st2 else .bad
  | _, _ => .bad
theorem fn_rep (ha : FE X W a ma) (hb : FE X W b mb) : FN X W (.BinOp a .Mult b pos) (nRep ma mb) := PE.imp (pe_op op_rep ha hb) fun σ H Q ⟨r, env, st, hE, hS, h⟩ => by
  refine ⟨r, env, st, hE, hS, RES.seq h fun d st1 x H1 r1 e1 s1 v1 h1 => ?_⟩
  refine ⟨r1, env, st1, hE.ext e1, s1, RES.seq h1 fun e st2 y H2 r2 e2 s2 v2 h2 => ?_⟩
  cases q1 : madeD d st2 with
  | none => simp only [q1] at h2; exact h2.elim
  | some xs =>
    cases e with
    | int k =>
      simp only [q1] at h2
      cases v2
      obtain ⟨a, vs, rfl, h3, h4⟩ := madeD_v s2 q1 (v1.ext e2)
      by_cases hl : 0 ≤ k ∧ k ≤ 1000000 ∧ xs.length * k.toNat ≤ 1000000
      · simp only [if_pos hl] at h2
        exact ⟨a, k, vs, rfl, rfl, h4, by omega, by omega, by rw [← h3.len]; exact big_ok hl.2.2, fun p hp => RES.ok h2 s2 (h3.repl k.toNat) p hp⟩
      · simp only [if_neg hl] at h2; exact h2.elim
    | _ => simp only [q1] at h2; exact h2.elim
/-! ### -a -/
def negD (d : D) (st : Sto) : Res D := match d with
  | .int i => .ok (.int (-i)) st
  | _ => .bad
def eUn (g : D → Sto → Res D) (ma : EM) : EM := fun env st => (ma env st).bind g
theorem fe_neg (ha : FE X W a ma) : FE X W (.UnaryOp .USub a pos) (eUn negD ma) := PE.imp (pe_un un_neg ha) fun σ H Q ⟨r, env, st, hE, hS, h⟩ => ⟨r, env, st, hE, hS, RES.seq h fun d st1 x H1 r1 e1 s1 v1 h1 => by
  cases d with
  | int i => cases v1; exact ⟨i, rfl, RES.ok h1 s1 rfl⟩
  | _ => exact h1.elim⟩
end
end FL

namespace FL
open PySem PySem.Spec PyProof.Rows L2
variable [TabCtx]

/-! ### forgetting new objects of the store -/
mutual
def D.blw (n : Nat) : D → Bool
  | .loc l => decide (l < n)
  | .tup ds => D.blws n ds
  | .lst ds => D.blws n ds
  | .exc _ _ ds => D.blws n ds
  | _ => true
def D.blws (n : Nat) : List D → Bool
  | [] => true
  | d :: ds => D.blw n d && D.blws n ds
end
def SO.blw (n : Nat) : SO → Bool
  | .lst ds => D.blws n ds
  | .dic kvs => kvs.all fun p => p.2.blw n
theorem not_app {a : Addr} {r : Rho} {t q0 : List Addr} (h : (r.app t q0).out a) : r.out a := ⟨fun z => h.1 (List.mem_append_left t z), fun z => h.2 (List.mem_append_right q0 z)⟩
theorem ExcAt.shrink {K H} {r : Rho} {t q0 : List Addr} {cls ns a vs} (h : ExcAt K H (r.app t q0) cls ns a vs) : ExcAt K H r cls ns a vs := by
  obtain ⟨C, d, h1, h2, h3, h4⟩ := h
  refine ⟨C, d, not_app h1, h2, h3, ?_⟩
  rcases h4 with h4 | ⟨dd, h5, h6, h7, h8⟩
  · exact .inl h4
  · exact .inr ⟨dd, h5, not_app h6, h7, h8⟩
mutual
theorem VD.shrink {K H} {r : Rho} {t q0 : List Addr} : ∀ (d : D) (v : V), d.blw r.ad.length = true → VD K H (r.app t q0) d v → VD K H r d v
  | .non, _, _, h => h
  | .bl _, _, _, h => h
  | .int _, _, _, h => h
  | .str _, _, _, h => h
  | .tup ds, v, hb, h => by
    obtain ⟨a, xs, h1, h2, h3⟩ := h
    refine ⟨a, xs, h1, ?_, VDs.shrink ds xs (by simpa [D.blw] using hb) h3⟩
    rcases h2 with ⟨h4, h5⟩ | h2
    · exact .inl ⟨not_app h4, h5⟩
    · exact .inr h2
  | .lst ds, v, hb, h => by
    obtain ⟨a, xs, h1, h2, h3⟩ := h
    exact ⟨a, xs, h1, ⟨not_app h2.1, h2.2⟩, VDs.shrink ds xs (by simpa [D.blw] using hb) h3⟩
  | .loc l, v, hb, h => by
    obtain ⟨a, h1, h2⟩ := h
    have hl : l < r.ad.length := by simpa [D.blw] using hb
    rw [Rho.app_ad, List.getElem?_append_left hl] at h2
    exact ⟨a, h1, h2⟩
  | .scr ns, v, hb, h => by
    obtain ⟨a, h1, h2⟩ := h
    refine ⟨a, h1, ?_⟩
    rcases h2 with ⟨h4, h5⟩ | h2
    · exact .inl ⟨not_app h4, h5⟩
    · exact .inr h2
  | .exc cls ns ds, v, hb, h => by
    obtain ⟨a, xs, h1, h2, h3⟩ := h
    exact ⟨a, xs, h1, h2.shrink, VDs.shrink ds xs (by simpa [D.blw] using hb) h3⟩
theorem VDs.shrink {K H} {r : Rho} {t q0 : List Addr} : ∀ (ds : List D) (xs : List V), D.blws r.ad.length ds = true → VDs K H (r.app t q0) ds xs → VDs K H r ds xs
  | [], _, _, h => h
  | d :: ds, xs, hb, h => by
    obtain ⟨x, u, h1, h2, h3⟩ := h
    have hb' : d.blw r.ad.length = true ∧ D.blws r.ad.length ds = true := by simpa [D.blws] using hb
    exact ⟨x, u, h1, VD.shrink d x hb'.1 h2, VDs.shrink ds u hb'.2 h3⟩
end
mutual
theorem VD.closed {K H} {r : Rho} : ∀ (d : D) (v : V), VD K H r d v → d.blw r.ad.length = true
  | .non, _, _ => rfl
  | .bl _, _, _ => rfl
  | .int _, _, _ => rfl
  | .str _, _, _ => rfl
  | .tup ds, v, h => by
    obtain ⟨a, xs, _, _, h3⟩ := h
    simpa [D.blw] using VDs.closed ds xs h3
  | .lst ds, v, h => by
    obtain ⟨a, xs, _, _, h3⟩ := h
    simpa [D.blw] using VDs.closed ds xs h3
  | .loc l, v, h => by
    obtain ⟨a, _, h2⟩ := h
    simpa [D.blw] using (List.getElem?_eq_some_iff.mp h2).1
  | .scr _, _, _ => rfl
  | .exc cls ns ds, v, h => by
    obtain ⟨a, xs, _, _, h3⟩ := h
    simpa [D.blw] using VDs.closed ds xs h3
theorem VDs.closed {K H} {r : Rho} : ∀ (ds : List D) (xs : List V), VDs K H r ds xs → D.blws r.ad.length ds = true
  | [], _, _ => rfl
  | d :: ds, xs, h => by
    obtain ⟨x, u, _, h2, h3⟩ := h
    simp only [D.blws, VD.closed d x h2, VDs.closed ds u h3, Bool.and_self]
end
theorem kv_closed {K H} {r : Rho} : ∀ {kvs : List (Key × D)} {kxs : List (Key × V)}, Paired (fun (p : Key × D) (q : Key × V) => p.1 = q.1 ∧ VD K H r p.2 q.2) kvs kxs → (kvs.all fun p => p.2.blw r.ad.length) = true
  | _, _, .nil => rfl
  | _, _, .cons a b => by rw [List.all_cons, VD.closed _ _ a.2, kv_closed b]; rfl
theorem kv_shrink {K H} {r : Rho} {t q0 : List Addr} : ∀ {kvs : List (Key × D)} {kxs : List (Key × V)}, (kvs.all fun p => p.2.blw r.ad.length) = true → Paired (fun (p : Key × D) (q : Key × V) => p.1 = q.1 ∧ VD K H (r.app t q0) p.2 q.2) kvs kxs →
    Paired (fun (p : Key × D) (q : Key × V) => p.1 = q.1 ∧ VD K H r p.2 q.2) kvs kxs
  | _, _, _, .nil => .nil
  | _, _, hb, .cons a b => by
    rw [List.all_cons, Bool.and_eq_true] at hb
    exact .cons ⟨a.1, VD.shrink _ _ hb.1 a.2⟩ (kv_shrink hb.2 b)
theorem OD.closed {K H} {r : Rho} : ∀ (o : SO) (h : HO), OD K H r o h → o.blw r.ad.length = true
  | .lst ds, h, ⟨xs, _, h2⟩ => VDs.closed ds xs h2
  | .dic kvs, h, ⟨kxs, _, h2⟩ => kv_closed h2
theorem OD.shrink {K H} {r : Rho} {t q0 : List Addr} : ∀ (o : SO) (h : HO), o.blw r.ad.length = true → OD K H (r.app t q0) o h → OD K H r o h
  | .lst ds, h, hb, ⟨xs, h1, h2⟩ => ⟨xs, h1, VDs.shrink ds xs hb h2⟩
  | .dic kvs, h, hb, ⟨kxs, h1, h2⟩ => ⟨kxs, h1, kv_shrink hb h2⟩
/-- the first n places of st' hold nothing new, or what st held -/
def chkS (n : Nat) : Sto → Sto → Bool
  | [], _ => true
  | o :: st, o' :: st' => (o'.blw n || SO.beq o' o) && chkS n st st'
  | _ :: _, [] => false
theorem chkS_ok {n : Nat} : ∀ {st st' : Sto}, chkS n st st' = true → ∀ l, l < st.length → (st'[l]? = st[l]? ∨ ∃ o, st'[l]? = some o ∧ o.blw n = true)
  | [], _, _, l, hl => by simp at hl
  | o :: st, [], h, l, hl => by simp [chkS] at h
  | o :: st, o' :: st', h, l, hl => by
    simp only [chkS, Bool.and_eq_true, Bool.or_eq_true] at h
    cases l with
    | zero =>
      rcases h.1 with h | h
      · exact .inr ⟨o', rfl, h⟩
      · rw [SO.beq_eq h]; exact .inl rfl
    | succ l => simpa using chkS_ok h.2 l (by simpa using hl)
theorem chkS_app {n : Nat} : ∀ {st g : Sto}, chkS n st (st ++ g) = true
  | [], _ => rfl
  | o :: st, g => by simp [chkS, SO.beq_refl, chkS_app]
def shrink (st st' : Sto) (ok : Bool) : Sto := if (ok && chkS st.length st st') = true then st'.take st.length else st'
theorem SR.cut {K H r st H' r' st'} (s : SR K H r st) (e : Ext H r H' r') (s' : SR K H' r' st') (hc : chkS st.length st st' = true) : Ext H r H' r ∧ SR K H' r (st'.take st.length) := by
  have hc := chkS_ok hc
  obtain ⟨t, q, rfl, ht, hq⟩ := id e.pre
  refine ⟨⟨⟨[], [], by simp, by simp, by simp⟩, e.keep⟩, ⟨?_, s.nd, fun l o q => ?_, fun a ha => let ⟨h1, h2⟩ := s'.apart a (List.mem_append_right q ha); ⟨fun q => h1 (List.mem_append_left _ q), h2⟩, s'.tabs⟩⟩
  · have h1 := s'.len
    have h2 := s.len
    rw [Rho.app_ad, List.length_append] at h1
    rw [List.length_take]
    omega
  · have hl : l < st.length := by
      have := (List.getElem?_eq_some_iff.mp q).1
      rw [List.length_take] at this
      omega
    rw [List.getElem?_take_of_lt hl] at q
    obtain ⟨a, h, h1, h2, h3⟩ := s'.obj l o q
    have hr : l < r.ad.length := by rw [s.len]; exact hl
    rw [Rho.app_ad, List.getElem?_append_left hr] at h1
    refine ⟨a, h, h1, h2, OD.shrink o h ?_ h3⟩
    rcases hc l hl with z | ⟨o', z, hb⟩
    · rw [q] at z
      obtain ⟨_, h', _, _, h5⟩ := s.obj l o z.symm
      exact OD.closed o h' h5
    · rw [q] at z; cases z
      rw [s.len]
      exact hb
theorem SR.shrunk {K H r st H' r' st'} (s : SR K H r st) (e : Ext H r H' r') (s' : SR K H' r' st') (ok : Bool) :
    ∃ r'', Ext H r H' r'' ∧ SR K H' r'' (shrink st st' ok) ∧ (ok = true ∨ r'' = r') ∧ (r'' = r' ∨ r'' = r) := by
  unfold shrink
  split
  · rename_i hc
    rw [Bool.and_eq_true] at hc
    obtain ⟨h1, h2⟩ := s.cut e s' hc.2
    exact ⟨r, h1, h2, .inl hc.1, .inr rfl⟩
  · exact ⟨r', e, s', .inr rfl, .inl rfl⟩
theorem shrink_same {st g : Sto} : shrink st (st ++ g) true = st := by
  unfold shrink
  rw [chkS_app]
  simp
theorem shrink_self {st : Sto} {ok : Bool} : shrink st st ok = st := by
  unfold shrink
  split
  · simp
  · rfl

/-- lists behind the first n places are read for good -/
def mapQ (f : D → Option D) : List D → Option (List D)
  | [] => some []
  | d :: ds => match f d with
    | some e => match mapQ f ds with
      | some es => some (e :: es)
      | none => none
    | none => none
def D.frz (st : Sto) (n : Nat) : Nat → D → Option D
  | k + 1, .loc l => if l < n then some (.loc l) else match st[l]? with
    | some (.lst ds) => match mapQ (D.frz st n k) ds with
      | some es => some (.lst es)
      | none => none
    | _ => none
  | k + 1, .tup ds => match mapQ (D.frz st n k) ds with
    | some es => some (.tup es)
    | none => none
  | k + 1, .lst ds => match mapQ (D.frz st n k) ds with
    | some es => some (.lst es)
    | none => none
  | k + 1, .exc c ns ds => match mapQ (D.frz st n k) ds with
    | some es => some (.exc c ns es)
    | none => none
  | 0, .exc _ _ _ => none
  | 0, .loc _ => none
  | 0, .tup _ => none
  | 0, .lst _ => none
  | _, d => some d
theorem mapQ_v {K H r r'} {f : D → Option D} (ih : ∀ d v d', f d = some d' → VD K H r d v → VD K H r' d' v) : ∀ (ds : List D) (vs : List V) (es : List D), mapQ f ds = some es → VDs K H r ds vs → VDs K H r' es vs
  | [], vs, es, h, v => by cases h; exact v
  | d :: ds, vs, es, h, v => by
    obtain ⟨x, t, rfl, h1, h2⟩ := v
    unfold mapQ at h
    cases q : f d with
    | none => rw [q] at h; cases h
    | some e =>
      rw [q] at h
      cases q2 : mapQ f ds with
      | none => rw [q2] at h; cases h
      | some es' =>
        rw [q2] at h; cases h
        exact ⟨x, t, rfl, ih d x e q h1, mapQ_v ih ds t es' q2 h2⟩
theorem frz_v {K H} {r : Rho} {t q0 : List Addr} {st : Sto} (s : SR K H (r.app t q0) st) : ∀ (k : Nat) (d : D) (v : V) (d' : D), D.frz st r.ad.length k d = some d' → VD K H (r.app t q0) d v → VD K H r d' v := by
  intro k
  induction k with
  | zero =>
    intro d v d' h hv
    cases d with
    | non => cases h; exact hv
    | bl _ => cases h; exact hv
    | int _ => cases h; exact hv
    | str _ => cases h; exact hv
    | scr ns => cases h; exact VD.shrink (.scr ns) v rfl hv
    | _ => cases h
  | succ k ih =>
    intro d v d' h hv
    cases d with
    | non => cases h; exact hv
    | bl _ => cases h; exact hv
    | int _ => cases h; exact hv
    | str _ => cases h; exact hv
    | scr ns => cases h; exact VD.shrink (.scr ns) v rfl hv
    | tup ds =>
      obtain ⟨a, xs, h1, h2, h3⟩ := hv
      unfold D.frz at h
      cases q : mapQ (D.frz st r.ad.length k) ds with
      | none => simp only [q] at h; cases h
      | some es =>
        simp only [q] at h; cases h
        refine ⟨a, xs, h1, ?_, mapQ_v ih ds xs es q h3⟩
        rcases h2 with ⟨h4, h5⟩ | h2
        · exact .inl ⟨not_app h4, h5⟩
        · exact .inr h2
    | lst ds =>
      obtain ⟨a, xs, h1, h2, h3⟩ := hv
      unfold D.frz at h
      cases q : mapQ (D.frz st r.ad.length k) ds with
      | none => simp only [q] at h; cases h
      | some es =>
        simp only [q] at h; cases h
        exact ⟨a, xs, h1, ⟨not_app h2.1, h2.2⟩, mapQ_v ih ds xs es q h3⟩
    | exc c ns ds =>
      obtain ⟨a, xs, h1, h2, h3⟩ := hv
      unfold D.frz at h
      cases q : mapQ (D.frz st r.ad.length k) ds with
      | none => simp only [q] at h; cases h
      | some es =>
        simp only [q] at h; cases h
        exact ⟨a, xs, h1, h2.shrink, mapQ_v ih ds xs es q h3⟩
    | loc l =>
      unfold D.frz at h
      by_cases hl : l < r.ad.length
      · rw [if_pos hl] at h; cases h
        exact VD.shrink (.loc l) v (by simpa [D.blw] using hl) hv
      · rw [if_neg hl] at h
        obtain ⟨a, rfl, h1⟩ := hv
        cases qq : st[l]? with
        | none => simp only [qq] at h; cases h
        | some o =>
          cases o with
          | dic kvs => simp only [qq] at h; cases h
          | lst ds =>
            simp only [qq] at h
            cases q : mapQ (D.frz st r.ad.length k) ds with
            | none => simp only [q] at h; cases h
            | some es =>
              simp only [q] at h; cases h
              obtain ⟨b, ho, e1, e2, xs, rfl, e3⟩ := s.obj l _ qq
              rw [h1] at e1; cases e1
              have hm : a ∈ (r.app t q0).ad := List.mem_of_getElem? h1
              refine ⟨a, xs, rfl, ⟨⟨fun hr => ?_, fun hp => ?_⟩, e2⟩, mapQ_v ih ds xs es q e3⟩
              · obtain ⟨i, hi, ei⟩ := List.getElem_of_mem hr
                have hn := s.nd
                rw [Rho.app_ad] at hn h1
                have h2 : (r.ad ++ t)[i]? = some a := by rw [List.getElem?_append_left hi, List.getElem?_eq_getElem hi, ei]
                obtain ⟨k1, k2⟩ := List.getElem?_eq_some_iff.mp h1
                obtain ⟨k3, k4⟩ := List.getElem?_eq_some_iff.mp h2
                have := (List.getElem_inj hn).mp (k2.trans k4.symm)
                omega
              · exact (s.apart a (List.mem_append_right _ hp)).1 hm

/-! ### a call's end -/
def finD (fz : Bool) (st st' : Sto) (d : D) : Res D :=
  if chkS st.length st st' = true then (if d.blw st.length = true then .ok d (st'.take st.length) else if fz = true then (match D.frz st' st.length 30 d with
    | some e => .ok e (st'.take st.length)
    | none => .ok d st') else .ok d st') else .ok d st'
def fin (fz : Bool) (st : Sto) (r : SRes) : Res D :=
  match r with
  | .nx _ st' => .ok .non (shrink st st' true)
  | .rt d st' => finD fz st st' d
  | .ex x _ st' => .ex x (shrink st st' (x.fs.all fun p => p.2.blw st.length))
  | .bad => .bad
def mFn (fz : Bool) (nl : Nat) (m : SM4) : Fn := fun ds st => fin fz st (m (ds.map some ++ List.replicate (nl - ds.length) none) st)

/-- a def's promise -/
def spM (K : PySem.W.Frag) (mg : Str → Option Value) (n : Nat) (m : Fn) : Sp := fun vs H Q E => vs.length = n ∧ ∃ r st ds, SR K H r st ∧ VDs K H r ds vs ∧ RES K mg (RV K) E H r (m ds st) Q

theorem er_start {K H r} {ds : List D} {vs : List V} {N : List Str} (h : VDs K H r ds vs) : ER K H r (ds.map some ++ List.replicate (N.length - ds.length) none) (L2.start N vs) := by
  refine ⟨by unfold L2.start; simp [h.len], fun i d q => ?_⟩
  have hl := h.len
  by_cases hi : i < ds.length
  · rw [List.getElem?_append_left (by simpa using hi), List.getElem?_map] at q
    cases q2 : ds[i]? with
    | none => rw [q2] at q; cases q
    | some d' =>
      rw [q2] at q; cases q
      obtain ⟨x, h1, h2⟩ := h.get q2
      refine ⟨x, ?_, h2⟩
      unfold L2.start
      rw [List.getElem?_append_left (by simp; omega), List.getElem?_map, h1]; rfl
  · rw [List.getElem?_append_right (by simpa using hi), List.getElem?_replicate] at q
    split at q <;> cases q
/-- THE RULE for a def: its body keeps m -/
theorem fn_ok {P : Program} {w : World} {K : PySem.W.Frag} {mg : Str → Option Value} {base : Heap} {x qual : Str} {st : Stmt} {f : Addr} {fd : FuncData} {N ps : List Str} {k : Nat} {m : SM4} {fz : Bool} (F : Fun K x qual st f fd) (S : FnScope N ps (defScope st))
    (hb : ∀ (cdv : Value) (A : Around) (outer : List PySem.Env) (s : Shared) (H : Hp) (E : XK), Room k (A.deeper (envOfC qual (defScope st) s.heap.objs.size f cdv)) →
      FB (cxOf (L2.CX P w) P w K mg base N qual (defScope st) f cdv A outer s H E) (fun cls d _ H' => E cls d H') (defBody st) m) : FnOk P w K mg base (L2.CX P w) (k + 1) f fd ps (spM K mg ps.length (mFn fz N.length m)) := by
  refine F.okX S (fun vs H Q E h => h.1) fun cdv A outer s H vs Q E hr h => ?_
  obtain ⟨hl, r, st0, ds, hS, hV, h⟩ := h
  refine ⟨_, hb cdv A outer s H E hr, r, _, st0, er_start hV, hS, ?_⟩
  have h' : RES K mg (RV K) E H r (fin fz st0 (m (ds.map some ++ List.replicate (N.length - ds.length) none) st0)) Q := h
  revert h'
  cases m (ds.map some ++ List.replicate (N.length - ds.length) none) st0 with
  | bad => exact fun h => h
  | nx env st' =>
    intro h σ' H' r' e s' hE
    obtain ⟨r'', e2, s2, _, _⟩ := hS.shrunk e s' true
    exact h .non H' r'' e2 s2 rfl
  | rt d st' =>
    intro h v H' r' e s' hv
    have h' : RES K mg (RV K) E H r (finD fz st0 st' d) Q := h
    unfold finD at h'
    by_cases c1 : chkS st0.length st0 st' = true
    · rw [if_pos c1] at h'
      obtain ⟨e2, s2⟩ := hS.cut e s' c1
      obtain ⟨t, q0, rfl, _⟩ := id e.pre
      by_cases c2 : d.blw st0.length = true
      · rw [if_pos c2] at h'
        exact h' v H' r e2 s2 (VD.shrink d v (by rw [hS.len]; exact c2) hv)
      · rw [if_neg c2] at h'
        by_cases c3 : fz = true
        · rw [if_pos c3] at h'
          cases q : D.frz st' st0.length 30 d with
          | none => rw [q] at h'; exact h' v H' _ e s' hv
          | some d' =>
            rw [q] at h'
            exact h' v H' r e2 s2 (frz_v s' 30 d v d' (by rw [hS.len]; exact q) hv)
        · rw [if_neg c3] at h'; exact h' v H' _ e s' hv
    · rw [if_neg c1] at h'; exact h' v H' r' e s' hv
  | ex x env st' =>
    intro h cls d σ' H' r' e s' hE hx
    obtain ⟨r'', e2, s2, h3, h4⟩ := hS.shrunk e s' (x.fs.all fun p => p.2.blw st0.length)
    refine h cls d H' r'' e2 s2 ?_
    have same : r'' = r' → XR K mg H' r'' x cls d := fun z => by rw [z]; exact hx
    rcases h3 with h3 | h3
    · rw [List.all_eq_true] at h3
      rcases h4 with z | rfl
      · exact same z
      · obtain ⟨t, q0, rfl, _⟩ := e.pre
        obtain ⟨x1, x2⟩ := hx
        refine ⟨x1, ?_⟩
        cases q : x.fs with
        | nil => rw [q] at x2; exact x2
        | cons p0 ps0 =>
          rw [q] at x2 h3
          obtain ⟨dd, vs', y1, y2, y3, y4⟩ := x2
          refine ⟨dd, vs', y1, not_app y2, y3, ?_⟩
          have sub : ∀ (l : List (Str × D)) (l2 : List (Str × V)), (∀ p ∈ l, p.2.blw r''.ad.length = true) → Paired (fun (p : Str × D) (q : Str × V) => p.1 = q.1 ∧ VD K H' (r''.app t q0) p.2 q.2) l l2 → Paired (fun (p : Str × D) (q : Str × V) => p.1 = q.1 ∧ VD K H' r'' p.2 q.2) l l2 := by
            intro l l2 hl hp
            induction hp with
            | nil => exact .nil
            | cons a b ih => exact .cons ⟨a.1, VD.shrink _ _ (hl _ List.mem_cons_self) a.2⟩ (ih fun p hp => hl p (List.mem_cons_of_mem _ hp))
          exact sub _ _ (by rw [hS.len]; exact h3) y4
    · exact same h3

/-! ### calls -/
section
variable {X : Cx} {W : WX} {e : Expr} {es : List Expr} {ms : Env → Sto → Res (List D)} {x : Str} {p pos : Pos} {f : Addr} {fd : FuncData} {ps : List Str} {k n : Nat} {m : Fn} {CX : CXT}
/-- a def of the module, as its callers know it -/
structure DefOk (P : Program) (w : World) (K : PySem.W.Frag) (mg : Str → Option Value) (base : Heap) (CX : CXT) (k : Nat) (x : Str) (n : Nat) (m : Fn) : Prop where
  ex : ∃ f fd ps, FnOk P w K mg base CX k f fd ps (spM K mg n m) ∧ mg x = some (.ref f) ∧ PySem.W.keepIn K (.ref f) = true ∧ Binds K fd ps []
theorem DefOk.mono {P : Program} {w : World} {K : PySem.W.Frag} {mg : Str → Option Value} {base : Heap} {j : Nat} (h : DefOk P w K mg base CX j x n m) (hj : j ≤ k) : DefOk P w K mg base CX k x n m := by
  obtain ⟨f, fd, ps, h1, h2⟩ := h.ex
  exact ⟨f, fd, ps, h1.mono hj, h2⟩
def eCall (n : Nat) (m : Fn) (ms : Env → Sto → Res (List D)) : EM := fun env st => (ms env st).bind fun ds st1 => if ds.length = n then m ds st1 else .bad
theorem sim_call {σ : L2.St} {H : Hp} {Q : VK} (q : tM X.K X.mg W (eCall n m ms) σ H Q) : tCallS (spM X.K X.mg n m) (WE W) (tA X.K X.mg W ms) σ H Q := by
  obtain ⟨r, env, st, hE, hS, h⟩ := q
  refine ⟨r, env, st, hE, hS, RES.seq h fun ds st1 vs H1 r1 e1 s1 v1 h1 => ?_⟩
  by_cases hl : ds.length = n
  · rw [if_pos hl] at h1
    exact ⟨by rw [← v1.len]; exact hl, r1, st1, ds, s1, v1, h1⟩
  · rw [if_neg hl] at h1; exact h1.elim
theorem fe_call (G : DefOk X.prog X.w X.K X.mg X.base CX k x n m) (hr : Room k X.A) (hg : Gl X x) (hx : ∀ σ, PassesAt CX X σ (WE W σ)) (ha : FA X W (e :: es) ms)
    (hdb : (x == ("__debug__" : Str)) = false := by decide) (he : starEach (e :: es) X.env = (false, eval e X.env) :: starEach es X.env := by rfl) (hpl : (backTo pos (starEach es X.env)).any (·.1) = false := by rfl) :
    FE X W (.Call (.Name x p) (e :: es) [] pos) (eCall n m ms) := by
  obtain ⟨f, fd, ps, h1, h2, h3, h4⟩ := G.ex
  exact PE.imp (pe_callS h1 hr hg h2 h3 h4 hx ha hdb he hpl) fun σ H Q q => sim_call q
theorem fe_call0 (G : DefOk X.prog X.w X.K X.mg X.base CX k x n m) (hr : Room k X.A) (hg : Gl X x) (hx : ∀ σ, PassesAt CX X σ (WE W σ))
    (hdb : (x == ("__debug__" : Str)) = false := by decide) : FE X W (.Call (.Name x p) [] [] pos) (eCall n m aNil) := by
  obtain ⟨f, fd, ps, h1, h2, h3, h4⟩ := G.ex
  refine ⟨fun pins s σ H Q I h => ?_⟩
  refine wpAny_Call_Name_kw (ld_glob I hg h2 ?_ hdb)
  refine PySem.W.callWith_K0 I.kIn h3 ?_
  have q := sim_call (ms := aNil) h
  obtain ⟨r, env, st, hE, hS, q⟩ := q
  exact run_fnS (us := []) h1 hr h4 (hx σ) I .nil (RES.ok q hS rfl)
end
end FL

namespace FL
open PySem PySem.Spec PyProof.Rows L2
variable [TabCtx]
section
variable {X : Cx} {W : WX} {e o i c : Expr} {s : Stmt} {body : List Stmt} {m mo mi : EM} {u : SM4} {pos : Pos}

/-! ### stores -/
def sSet (i : Nat) (m : EM) : SM4 := fun env st => (m env st).on env fun d st1 => .nx (env.set i (some d)) st1
theorem fs_set {i : Nat} {x : Str} {pos' : Pos} (hN : X.N.Nodup) (hi : X.N[i]? = some x) (hx : Loc X.env.scope x) (he : FE X W e m) (hs : swapsWith e (some (.Name x pos')) pos.line X.env = pure false := by rfl) (hf : X.fn x = true ∨ X.env.scope.names.lookup x = some .local := by first | exact .inl rfl | exact .inr rfl | assumption) :
    FS X W (.Assign [.Name x pos'] e pos) (sSet i m) := PS.imp (ps_set hN hi hx he hs hf) fun D σ H ⟨r, env, st, hE, hS, h⟩ =>
  ⟨r, env, st, hE, hS, RS.on hE h fun d st1 x H1 r1 e1 s1 v1 h1 => h1 _ H1 r1 (Ext.refl _ _) s1 ((hE.ext e1).set i v1)⟩
def sAsg (m : EM) (g : GM) : SM4 := fun env st => (m env st).on env fun d st1 => match g d env st1 with
  | .ok env2 st2 => .nx env2 st2
  | _ => .bad
theorem fs_asg {tg : Expr} {sl : List Nat} {g : GM} (he : FE X W e m) (hg : FG X W tg sl g) (hs : swapsWithSole [tg] e pos.line X.env = pure false := by rfl) (hw : swappedStores [tg] e X.env = pure none := by rfl)
    (h1 : (assignEach [tg] X.env).map (·.2) = [assign tg X.env] := by rfl) : FS X W (.Assign [tg] e pos) (sAsg m g) := PS.imp (ps_asg he hg hs hw h1) fun D σ H ⟨r, env, st, hE, hS, h⟩ =>
  ⟨r, env, st, hE, hS, RS.on hE h fun d st1 x H1 r1 e1 s1 v1 h1 => by
    refine ⟨r1, env, st1, d, hE.ext e1, s1, .inl v1, ?_⟩
    revert h1
    cases g d env st1 with
    | ok env2 st2 => exact fun h σ' H' r' e' s' x' _ => h σ' H' r' e' s' x'
    | ex x st2 => exact fun h => h
    | bad => exact fun h => h⟩
/-- o[i] = v: a list, a dict -/
def putD (kvs : List (Key × D)) (k : Key) (d : D) : List (Key × D) := if kvs.any (fun p => decide (p.1 = k)) then kvs.map (fun p => if p.1 = k then (p.1, d) else p) else kvs ++ [(k, d)]
def setD (o i d : D) (st : Sto) : Option Sto := match o with
  | .loc l => match st[l]? with
    | some (.lst ds) => (match i with
      | .int j => (match ixN ds.length j with
        | some n => some (st.set l (.lst (ds.set n d)))
        | none => none)
      | _ => none)
    | some (.dic kvs) => (match keyD i with
      | some k => if kvs.length < 1000000 then some (st.set l (.dic (putD kvs k d))) else none
      | none => none)
    | none => none
  | _ => none
def rSetA (K : PySem.W.Frag) : TSet := fun o i v H Q => rSetL o i v H Q ∨ ∃ a H', o = .ref a ∧ DPut H a i v H' ∧ Q H'
theorem set_any (hu : X.A.units + 1 < cLine) : PSet X (rSetA X.K) := by
  intro pins s σ H o i v ov iv uv Q I ro ri rv h
  rcases h with h | ⟨a, H', rfl, g, q⟩
  · exact set_list pins s σ H o i v ov iv uv Q I ro ri rv h
  · obtain rfl : ov = Value.ref a := ro
    exact d_setItem hu I g ri rv fun s4 I4 => ⟨H', I4, q⟩
theorem any_key {K H r} {k : Key} : ∀ {kvs : List (Key × D)} {kxs : List (Key × V)}, Paired (fun (p : Key × D) (q : Key × V) => p.1 = q.1 ∧ VD K H r p.2 q.2) kvs kxs →
    (kvs.any fun p => decide (p.1 = k)) = (kxs.any fun p => decide (p.1 = k))
  | _, _, .nil => rfl
  | _, _, .cons a b => by rw [List.any_cons, List.any_cons, a.1, any_key b]
theorem map_key {K H r} {k : Key} {d : D} {v : V} (hd : VD K H r d v) : ∀ {kvs : List (Key × D)} {kxs : List (Key × V)}, Paired (fun (p : Key × D) (q : Key × V) => p.1 = q.1 ∧ VD K H r p.2 q.2) kvs kxs →
    Paired (fun (p : Key × D) (q : Key × V) => p.1 = q.1 ∧ VD K H r p.2 q.2) (kvs.map fun p => if p.1 = k then (p.1, d) else p) (kxs.map fun p => if p.1 = k then (p.1, v) else p)
  | _, _, .nil => .nil
  | _, _, .cons (a := p) (b := q) a b => by
    rw [List.map_cons, List.map_cons]
    refine .cons ?_ (map_key hd b)
    by_cases h : p.1 = k
    · rw [if_pos h, if_pos (by rw [← a.1]; exact h)]
      exact ⟨a.1, hd⟩
    · rw [if_neg h, if_neg (by rw [← a.1]; exact h)]
      exact a
theorem paired_app {α β : Type} {F : α → β → Prop} : ∀ {l₁ : List α} {l₂ : List β} {l₃ : List α} {l₄ : List β}, Paired F l₁ l₂ → Paired F l₃ l₄ → Paired F (l₁ ++ l₃) (l₂ ++ l₄)
  | _, _, _, _, .nil, h => h
  | _, _, _, _, .cons a b, h => .cons a (paired_app b h)
theorem put_key {K H r} {k : Key} {d : D} {v : V} (hd : VD K H r d v) {kvs : List (Key × D)} {kxs : List (Key × V)} (h : Paired (fun (p : Key × D) (q : Key × V) => p.1 = q.1 ∧ VD K H r p.2 q.2) kvs kxs) :
    Paired (fun (p : Key × D) (q : Key × V) => p.1 = q.1 ∧ VD K H r p.2 q.2) (putD kvs k d) (putK kxs k v) := by
  unfold putD putK
  rw [any_key h]
  split
  · exact map_key hd h
  · exact paired_app h (.cons ⟨rfl, hd⟩ .nil)
theorem setD_sim {K : PySem.W.Frag} {H r st st2} {o i d : D} {x y z : V} {Q : Hp → Prop} (s : SR K H r st) (v1 : VD K H r o x) (v2 : VD K H r i y) (v3 : VD K H r d z) (h : setD o i d st = some st2)
    (q : ∀ H', Ext H r H' r → SR K H' r st2 → Q H') : rSetA K x y z H Q := by
  unfold setD at h
  cases o with
  | loc l =>
    obtain ⟨a, rfl, h1⟩ := v1
    simp only at h
    cases q1 : st[l]? with
    | none => simp only [q1] at h; cases h
    | some so =>
      simp only [q1] at h
      obtain ⟨b, ho, e1, e2, e3⟩ := s.obj l so q1
      rw [h1] at e1; cases e1
      cases so with
      | lst ds =>
        obtain ⟨xs, rfl, e3⟩ := e3
        simp only at h
        cases i with
        | int j =>
          cases v2
          simp only at h
          cases q2 : ixN ds.length j with
          | none => simp only [q2] at h; cases h
          | some n =>
            simp only [q2] at h
            cases h
            refine .inl ⟨a, xs, j, n, rfl, rfl, e2, by rw [← e3.len]; exact q2, ?_⟩
            exact q _ (Ext.set h1) (s.set h1 ⟨_, rfl, e3.set v3 n⟩)
        | _ => cases h
      | dic kvs =>
        obtain ⟨xs, rfl, e3⟩ := e3
        simp only at h
        cases q2 : keyD i with
        | none => simp only [q2] at h; cases h
        | some k =>
          simp only [q2] at h
          by_cases hl : kvs.length < 1000000
          · rw [if_pos hl] at h
            cases h
            refine .inr ⟨a, _, rfl, ?_, q _ (Ext.set h1) (s.set h1 ⟨putK xs k z, rfl, put_key v3 e3⟩)⟩
            rw [keyD_v q2 v2]
            exact DPut.k e2 (by rw [← paired_len e3]; exact Nat.lt_of_lt_of_le hl (big_ok (Nat.le_refl _)))
          · rw [if_neg hl] at h; cases h
  | _ => cases h
def sPut (mv mo mi : EM) : SM4 := fun env st => (mv env st).on env fun d st1 => (mo env st1).on env fun o st2 => (mi env st2).on env fun i st3 => match setD o i d st3 with
  | some st4 => .nx env st4
  | none => .bad
theorem sub_asg (hu : X.A.units + 1 < cLine) {mv : EM} {tpos : Pos} (hv : FE X W e mv) (ho : FE X W o mo) (hi : FE X W i mi)
    (ha : ∀ v, assign (.Subscript o i tpos) X.env v = (do
      let ov ← holding [v] (eval o X.env)
      let iv ← holding [v, ov] (eval i X.env)
      standAt tpos
      holding [v, ov, iv] (setItem ov iv v)
      release [v, ov, iv] []) := by intro _; rfl)
    (hs : swapsWithSole [.Subscript o i tpos] e pos.line X.env = pure false := by rfl) (hw : swappedStores [.Subscript o i tpos] e X.env = pure none := by rfl)
    (h1 : (assignEach [.Subscript o i tpos] X.env).map (·.2) = [assign (.Subscript o i tpos) X.env] := by rfl) : FS X W (.Assign [.Subscript o i tpos] e pos) (sPut mv mo mi) :=
  PS.imp (ps_asg hv (pg_sub ho hi (set_any hu) ha) hs hw h1) fun D σ H ⟨r, env, st, hE, hS, h⟩ => by
    refine ⟨r, env, st, hE, hS, RS.on hE h fun d st1 z H1 r1 e1 s1 v1 h1 => ?_⟩
    refine ⟨r1, env, st1, hE.ext e1, s1, RS.on (hE.ext e1) h1 fun od st2 x H2 r2 e2 s2 v2 h2 => ?_⟩
    have hE2 := (hE.ext e1).ext e2
    refine ⟨r2, env, st2, hE2, s2, RS.on hE2 h2 fun id st3 y H3 r3 e3 s3 v3 h3 => ?_⟩
    cases q : setD od id d st3 with
    | none => simp only [q] at h3; exact h3.elim
    | some st4 =>
      simp only [q] at h3
      exact setD_sim s3 (v2.ext e3) v3 ((v1.ext e2).ext e3) q fun H4 e4 s4 => h3 σ H4 r3 e4 s4 ((hE2.ext e3).ext e4)

/-! ### loops -/
/-- the sources stand -/
def stillB (src : List (Nat × List D)) (st : Sto) : Bool := src.all fun p => match st[p.1]? with
  | some (.lst ds) => D.beqs ds p.2
  | _ => false
def Still (src : List (Nat × List D)) (st : Sto) : Prop := ∀ p ∈ src, st[p.1]? = some (.lst p.2)
theorem still_iff {src : List (Nat × List D)} {st : Sto} : stillB src st = true ↔ Still src st := by
  unfold stillB Still
  rw [List.all_eq_true]
  constructor
  · intro h p hp
    have := h p hp
    split at this
    · rename_i ds q; rw [q, D.beqs_eq this]
    · cases this
  · intro h p hp
    rw [h p hp]
    exact D.beqs_refl p.2
instance {src : List (Nat × List D)} {st : Sto} : Decidable (Still src st) := decidable_of_iff _ still_iff
/-- an iterator that walks the items -/
structure ItOk (w : Bool) (K : PySem.W.Frag) (J : It) (items : List D) (src : List (Nat × List D)) (H : Hp) (r : Rho) : Prop where
  run : ∀ H1 r1 st i, Ext H r H1 r1 → SR K H1 r1 st → Still src st → (i < items.length → J.go i H1) ∧ (items.length ≤ i → J.stop i H1) ∧
    ∀ d, items[i]? = some d → ∀ x H2, J.yld i H1 x H2 → Ext H1 r1 H2 r1 ∧ SR K H2 r1 st ∧ VDi w K H2 r1 d x
abbrev IM := Env → Sto → Res (List D × List (Nat × List D))
abbrev RI (w : Bool) (K : PySem.W.Frag) : Hp → Rho → (List D × List (Nat × List D)) → It → Prop := fun H r p J => ItOk w K J p.1 p.2 H r
def tI (w : Bool) (K : PySem.W.Frag) (mg : Str → Option Value) (W : WX) (m : IM) : TI := fun σ H R => ∃ r env st, ER K H r env σ ∧ SR K H r st ∧ RES K mg (RI w K) (WE W σ) H r (m env st) R
abbrev FI (X : Cx) (W : WX) (tg e : Expr) (m : IM) : Prop := PI X tg e (tI (wkT tg) X.K X.mg W m)
theorem PI.imp {tg : Expr} {t t' : TI} (h : PI X tg e t) (i : ∀ σ H Q, t' σ H Q → t σ H Q) : PI X tg e t' := ⟨fun pins s σ H Q I q => h.run pins s σ H Q I (i σ H Q q)⟩

/-- the rest of the loop -/
def okE (n : Nat) (env : Env) : Bool := env.all fun o => match o with
  | some d => d.blw n
  | none => true
theorem okE_mem {n : Nat} {env : Env} (h : okE n env = true) (d : D) (hd : some d ∈ env) : d.blw n = true := (List.all_eq_true.mp h) _ hd
def killE (gc : Option (List Nat)) (env : Env) : Env := match gc with
  | none => env
  | some ks => ks.foldl (fun e k => e.set k none) env
def loopF (gc : Option (List Nat)) (src : List (Nat × List D)) (g : GM) (body : SM4) : List D → Env → Sto → SRes
  | [], env, st => if stillB src st = true then .nx env st else .bad
  | d :: ds, env, st => if stillB src st = true then (match g d env st with
    | .ok env1 st1 => (body env1 st1).bind fun env2 st2 => match gc with
      | none => loopF gc src g body ds env2 st2
      | some ks => let env3 := ks.foldl (fun e k => e.set k none) env2
        loopF gc src g body ds env3 (shrink st st2 (okE st.length env3))
    | _ => .bad) else .bad
def sFor (gc : Option (List Nat)) (mi : IM) (g : GM) (body : SM4) : SM4 := fun env st => (mi env st).on env fun p st1 => loopF gc p.2 g body p.1 (killE gc env) st1
theorem ER.kill {K H r env σ} (x : ER K H r env σ) (k : Nat) : ER K H r (env.set k none) σ := ⟨by simpa using x.len, fun i d q => by
  by_cases hk : k = i
  · subst hk
    by_cases hl : k < env.length
    · rw [List.getElem?_set_self hl] at q; cases q
    · rw [List.getElem?_eq_none (by simpa using hl)] at q; cases q
  · rw [List.getElem?_set_ne hk] at q
    exact x.get i d q⟩
theorem ER.kills {K H r σ} : ∀ (ks : List Nat) {env : Env}, ER K H r env σ → ER K H r (ks.foldl (fun e k => e.set k none) env) σ
  | [], _, x => x
  | k :: ks, _, x => ER.kills ks (x.kill k)
theorem ER.killE {K H r σ} (gc : Option (List Nat)) {env : Env} (x : ER K H r env σ) : ER K H r (FL.killE gc env) σ := by
  cases gc with
  | none => exact x
  | some ks => exact ER.kills ks x
theorem iter_end {K H1 r1 st1 H4 r4 st4 env4 σ4} (ks : List Nat) (s1 : SR K H1 r1 st1) (e14 : Ext H1 r1 H4 r4) (s4 : SR K H4 r4 st4) (hE4 : ER K H4 r4 env4 σ4) :
    ∃ r5, Ext H1 r1 H4 r5 ∧ SR K H4 r5 (shrink st1 st4 (okE st1.length (ks.foldl (fun e k => e.set k none) env4))) ∧ ER K H4 r5 (ks.foldl (fun e k => e.set k none) env4) σ4 := by
  have hK := ER.kills ks hE4
  obtain ⟨r5, e5, s5, o1, o2⟩ := s1.shrunk e14 s4 (okE st1.length (ks.foldl (fun e k => e.set k none) env4))
  refine ⟨r5, e5, s5, ?_⟩
  rcases o2 with rfl | rfl
  · exact hK
  · rcases o1 with o1 | rfl
    · refine ⟨hK.len, fun j d' qj => ?_⟩
      obtain ⟨v, w1, w2⟩ := hK.get j d' qj
      obtain ⟨t, q, rfl, _⟩ := e14.pre
      exact ⟨v, w1, VD.shrink d' v (by rw [s1.len]; exact okE_mem o1 d' (List.mem_of_getElem? qj)) w2⟩
    · exact hK
theorem loop_sim {w : Bool} {sl : List Nat} {gc : Option (List Nat)} {src : List (Nat × List D)} {g : GM} {items : List D} {J : It} {D' : Ends} {σ : L2.St} {H : Hp} {r : Rho} {env : Env} {st : Sto} (hE : ER X.K H r env σ) (hS : SR X.K H r st) (it : ItOk w X.K J items src H r)
    (h : RS X.K X.mg W D' H r (loopF gc src g u items env st)) :
    ∃ Wv : Nat → Nat → L2.St → Hp → Prop, (∃ m, Wv 0 m σ H) ∧ ∀ i m σ H, Wv i m σ H → (J.stop i H ∧ D'.nx σ H) ∨ (J.go i H ∧ ∃ N : L2.St → Hp → Prop, (∀ σ' H', N σ' H' → ∃ m', m' < m ∧ Wv (i + 1) m' σ' H') ∧
      ∀ x H', J.yld i H x H' → tG w X.K X.mg W sl g x σ H' fun σ2 H2 => tS X.K X.mg W u { D' with nx := N, ct := N, bk := D'.nx } σ2 H2) := by
  refine ⟨fun i m σ1 H1 => m = items.length - i ∧ ∃ r1 env1 st1, Ext H r H1 r1 ∧ ER X.K H1 r1 env1 σ1 ∧ SR X.K H1 r1 st1 ∧ RS X.K X.mg W D' H1 r1 (loopF gc src g u (items.drop i) env1 st1),
    ⟨items.length, rfl, r, env, st, Ext.refl _ _, hE, hS, h⟩, ?_⟩
  rintro i m σ1 H1 ⟨rfl, r1, env1, st1, e1, hE1, s1, h1⟩
  cases q : items.drop i with
  | nil =>
    have hi : items.length ≤ i := by
      have := congrArg List.length q
      rw [List.length_drop] at this
      simp at this; omega
    rw [q] at h1
    unfold loopF at h1
    by_cases hst : stillB src st1 = true
    · rw [if_pos hst] at h1
      exact .inl ⟨(it.run H1 r1 st1 i e1 s1 (still_iff.mp hst)).2.1 hi, h1 σ1 H1 r1 (Ext.refl _ _) s1 hE1⟩
    · rw [if_neg hst] at h1; exact h1.elim
  | cons d ds =>
    have hi : i < items.length := by
      have := congrArg List.length q
      rw [List.length_drop] at this
      simp at this; omega
    have hd : items[i]? = some d := by
      have := congrArg (·[0]?) q
      simpa using this
    have hds : items.drop (i + 1) = ds := by
      have := congrArg (List.drop 1) q
      rw [List.drop_drop] at this
      simpa using this
    rw [q] at h1
    unfold loopF at h1
    by_cases hst : stillB src st1 = true
    · rw [if_pos hst] at h1
      obtain ⟨k1, k2, k3⟩ := it.run H1 r1 st1 i e1 s1 (still_iff.mp hst)
      refine .inr ⟨k1 hi, _, fun σ' H' hN => ⟨items.length - (i + 1), by omega, rfl, hN⟩, fun x H2 hy => ?_⟩
      obtain ⟨e2, s2, v2⟩ := k3 d hd x H2 hy
      refine ⟨r1, env1, st1, d, hE1.ext e2, s2, v2, ?_⟩
      cases qg : g d env1 st1 with
      | bad => rw [qg] at h1; exact h1.elim
      | ex x st' => rw [qg] at h1; exact h1.elim
      | ok env2 st2 =>
        simp only [qg] at h1
        intro σ2 H3 r3 e3 s3 hE3 _
        refine ⟨r3, env2, st2, hE3, s3, ?_⟩
        have e13 := e2.trans s2 e3
        rw [hds]
        revert h1
        cases u env2 st2 with
        | bad => exact fun h => h
        | rt d' st' => exact fun h v H' r' e s q => h v H' r' (e13.trans s3 e) s q
        | ex x' env' st' => exact fun h cls dd σ' H' r' e s q => h cls dd σ' H' r' (e13.trans s3 e) s q
        | nx env4 st4 =>
          intro h2 σ4 H4 r4 e4 s4 hE4
          have e14 := e13.trans s3 e4
          simp only [SRes.bind_nx] at h2
          cases gc with
          | none => exact ⟨r4, env4, st4, e1.trans s1 e14, hE4, s4, RS.mono (m := loopF none src g u ds env4 st4) h2 e14 s4⟩
          | some ks =>
            have hK := ER.kills ks hE4
            simp only at h2
            obtain ⟨r5, e5, s5, o1, o2⟩ := s1.shrunk e14 s4 (okE st1.length (ks.foldl (fun e k => e.set k none) env4))
            have hE5 : ER X.K H4 r5 (ks.foldl (fun e k => e.set k none) env4) σ4 := by
              rcases o2 with rfl | rfl
              · exact hK
              · rcases o1 with o1 | rfl
                · refine ⟨hK.len, fun j d' qj => ?_⟩
                  obtain ⟨v, w1, w2⟩ := hK.get j d' qj
                  obtain ⟨t, q, rfl, _⟩ := e14.pre
                  exact ⟨v, w1, VD.shrink d' v (by rw [s1.len]; exact okE_mem o1 d' (List.mem_of_getElem? qj)) w2⟩
                · exact hK
            exact ⟨r5, _, _, e1.trans s1 e5, hE5, s5, RS.mono h2 e5 s5⟩
    · rw [if_neg hst] at h1; exact h1.elim
theorem fs_for {tg : Expr} {sl : List Nat} {gc : Option (List Nat)} {mi : IM} {g : GM} (hp : PassesOwn (model X.prog X.w) X.A X.env X.xe) (hc : X.calm = true) (hi : FI X W tg e mi) (hg : FG X W tg sl g) (hb : FB X W body u)
    (hs : ∀ x, foldedSetIterable e X.env x = pure x := by intro _; rfl) : FS X W (.For tg e body [] pos) (sFor gc mi g u) := PS.imp (ps_for hp hc hi hg hb hs) fun D σ H ⟨r, env, st, hE, hS, h⟩ =>
  ⟨r, env, st, hE, hS, RS.on hE h fun p st1 J H1 r1 e1 s1 v1 h1 => loop_sim (ER.killE gc (hE.ext e1)) s1 v1 h1⟩

/-- while, by a greatest number of turns -/
def whileF (gc : Option (List Nat)) (c : Env → Sto → Res Bool) (body : SM4) : Nat → Env → Sto → SRes
  | 0, _, _ => .bad
  | n + 1, env, st => (c env st).on env fun k st1 => if k = true then (body env st1).bind (fun env2 st2 => match gc with
    | none => whileF gc c body n env2 st2
    | some ks => whileF gc c body n (ks.foldl (fun e k => e.set k none) env2) (shrink st1 st2 (okE st1.length (ks.foldl (fun e k => e.set k none) env2)))) else .nx env st1
def sWhile (n : Nat) (gc : Option (List Nat)) (c : Env → Sto → Res Bool) (body : SM4) : SM4 := fun env st => whileF gc c body n (killE gc env) st
theorem fs_while {n : Nat} {gc : Option (List Nat)} {tc : Env → Sto → Res Bool} (hp : PassesOwn (model X.prog X.w) X.A X.env X.xe) (hc : FT X W c tc) (hb : FB X W body u) : FS X W (.While c body [] pos) (sWhile n gc tc u) := PS.imp (ps_while hp hc hb) fun D σ H ⟨r, env, st, hE, hS, h⟩ => by
  refine ⟨fun m σ1 H1 => ∃ r1 env1 st1, ER X.K H1 r1 env1 σ1 ∧ SR X.K H1 r1 st1 ∧ RS X.K X.mg W D H1 r1 (whileF gc tc u m env1 st1), ⟨n, r, killE gc env, st, ER.killE gc hE, hS, h⟩, ?_⟩
  rintro m σ1 H1 ⟨r1, env1, st1, hE1, s1, h1⟩
  cases m with
  | zero => exact h1.elim
  | succ m =>
    refine ⟨r1, env1, st1, hE1, s1, RS.on hE1 h1 fun k st2 k' H2 r2 e2 s2 v2 h2 => ?_⟩
    cases v2
    cases k with
    | false => exact h2 σ1 H2 r2 (Ext.refl _ _) s2 (hE1.ext e2)
    | true =>
      rw [if_pos rfl] at h2 ⊢
      refine ⟨_, fun σ' H' hN => ⟨m, Nat.lt_succ_self m, hN⟩, r2, env1, st2, hE1.ext e2, s2, ?_⟩
      revert h2
      cases u env1 st2 with
      | bad => exact fun h => h
      | rt d' st' => exact fun h => h
      | ex x' env' st' => exact fun h => h
      | nx env4 st4 =>
        intro h2 σ4 H4 r4 e4 s4 hE4
        simp only [SRes.bind_nx] at h2
        cases gc with
        | none => exact ⟨r4, env4, st4, hE4, s4, RS.mono (m := whileF none tc u m env4 st4) h2 e4 s4⟩
        | some ks =>
          obtain ⟨r5, e5, s5, hE5⟩ := iter_end ks s2 e4 s4 hE4
          exact ⟨r5, _, _, hE5, s5, RS.mono h2 e5 s5⟩
end
end FL

namespace PySem
open Sem (wp)
set_option maxHeartbeats 1000000 in
theorem fl_enumerate_newB {v : Value} {o : Obj} {H : Heap → Prop} (B : Begins v o H) :
    Meets (Builtin.«enumerate.__new__» ⟨[.type "enumerate", v], []⟩) (fun _ R s => H s.heap ∧
      R (.ok (.ret (.ref (s.heap.push o).objs.size))) { s with heap := (s.heap.push o).push { cls := .type "enumerate", data := .fields #[.none, .bool false, .ref s.heap.objs.size, rawInt 0, .none, .none] } }) :=
  .of_wp fun prog w A R s h => by
    obtain ⟨hp, g, d, tk, os⟩ := s; obtain ⟨h1, h⟩ := h
    have hsub := sub_enumerate
    have q1 : ∀ {A' : Around} {E : Value → Shared → Prop} {Q : Value → Shared → Prop}, Q (.ref hp.objs.size) ⟨hp.push o, g, d, tk, os⟩ → wpAny (model prog w) A' (pyIter v) Q E ⟨hp, g, d, tk, os⟩ :=
      fun q => B.iter prog w _ _ ⟨hp, g, d, tk, os⟩ _ h1 q
    wp_walk using q1
    refine wpAny_stack_any fun st => wpAny_pure ?_
    split
    · rename_i c _ _ _ _ _
      cases (c == Value.type "enumerate")
      · wp_walk using q1
        exact ⟨_, rfl, h⟩
      · wp_walk using q1
        exact ⟨_, rfl, h⟩
    · wp_walk using q1
      exact ⟨_, rfl, h⟩
theorem fl_enum_begins {prog : Program} {w : World} {A : Around} {E : Value → Shared → Prop} {s : Shared} {v : Value} {o : Obj} {H : Heap → Prop} {Q : Value → Shared → Prop} (B : Begins v o H) (h1 : H s.heap)
    (h : ∀ h', IsEnum h' (s.heap.objs.size + 1) s.heap.objs.size 0 .none → h'.get? s.heap.objs.size = some o → h'.objs.size = s.heap.objs.size + 2 →
      (∀ b o, s.heap.get? b = some o → h'.get? b = some o) → Q (.ref (s.heap.objs.size + 1)) { s with heap := h' }) :
    wpAny (model prog w) A (call (.type "enumerate") [v]) Q E s := by
  refine callType_new F.called_enumerate (by decide) (F.typeCall_enumerate_1 _) (F.newCall_enumerate_1 _) (fun obj => F.args_object_init_2 obj _) F.entry_enumerate_new
    (fl_enumerate_newB B) ⟨h1, ?_⟩
  have hz : (s.heap.push o).objs.size = s.heap.objs.size + 1 := Heap.size_push ..
  show _ ∧ _
  rw [hz]
  have he : IsEnum ((s.heap.push o).push { cls := .type "enumerate", data := .fields #[.none, .bool false, .ref s.heap.objs.size, rawInt 0, .none, .none] }) (s.heap.objs.size + 1) s.heap.objs.size 0 .none := by
    have := Heap.get?_push_size (s.heap.push o) (o := { cls := .type "enumerate", data := .fields #[.none, .bool false, .ref s.heap.objs.size, rawInt 0, .none, .none] }) rfl
    rw [hz] at this; exact this
  refine ⟨⟨_, he, rfl⟩, h _ he (Heap.get?_push_of_some _ (Heap.get?_push_size _ B.free)) (by rw [Heap.size_push, hz]) fun b o x => Heap.get?_push_of_some _ (Heap.get?_push_of_some _ x)⟩
end PySem
namespace FL
open PySem PySem.Spec PyProof.Rows L2
variable [TabCtx]
/-! ### enumerate(tuple) -/
def IteT (K : PySem.W.Frag) (a : Addr) : It :=
  ⟨fun i H => ∃ (xs : List V) (x : V), SqT K H a xs ∧ xs[i]? = some x, fun i H v H' => ∃ T x, v = .ref T ∧ H T = none ∧ H' = upd H T (.tup [.int (i : Nat), x]) ∧ ∀ xs, SqT K H a xs → xs[i]? = some x, fun i H => ∃ xs : List V, SqT K H a xs ∧ xs.length ≤ i⟩
theorem turn_enumT {P : Program} {w : World} {K : PySem.W.Frag} {elts : List Expr} {kk : Nat} {tpos : Pos} (a e it : Addr) :
    Turn P w K (.Tuple elts kk tpos) (IteT K a) [e, it] e (fun i h => (∃ old, IsEnum h e it ((i : Nat) : Int) old) ∧ h.IsTupleIter it a i ∧ e ≠ it ∧ e ≠ a ∧ a ≠ it) where
  mem := by simp
  obj := fun i h st b hb => by
    obtain ⟨⟨old, he⟩, ⟨o, ho, hc, hd⟩, _⟩ := st
    have e' : b = e ∨ b = it := by simpa using hb
    rcases e' with z | z
    · rw [z]; exact ⟨_, he, fun v q => nomatch q⟩
    · rw [z]; exact ⟨o, ho, fun v q => by rw [hd] at q; cases q⟩
  keep := fun i h h' st k => let ⟨⟨old, he⟩, hi, hne⟩ := st; ⟨⟨old, k e (by simp) _ he⟩, hi.at fun o q => k it (by simp) o q, hne⟩
  item := by
    intro X hP hw hK hc i pins s σ H E I hf st hg
    subst hP hw hK
    obtain ⟨⟨old, he⟩, hit, hne, hea, hai⟩ := st
    obtain ⟨xs, x, hq, hx⟩ := hg
    obtain ⟨its, rv, p, hz⟩ := I.tuple hq
    obtain ⟨u, hu, ru⟩ := rv.get hx
    have hel : e < s.heap.objs.size := Heap.lt_size he
    have hil : it < s.heap.objs.size := by obtain ⟨_, q, _⟩ := hit; exact Heap.lt_size q
    have hil2 : i < its.toArray.size := by
      have := (List.getElem?_eq_some_iff.mp hu).1
      simpa using this
    refine wpAny_pyNext_enum_itemC (Draws.tuple (prog := X.prog) (w := X.w) (A := X.A.in1) (show X.A.in1.handled = none from I.ok.hd hc) it a hai its.toArray) he ⟨hit, show s.heap.IsTuple a its.toArray from p⟩ hil2 hne (by simp [hne, hea]) fun x' h' tk hP ho hst' hT hsz hk => ?_
    have hux : x' = u := by
      have h1 : its.toArray[i]? = some u := by simpa using hu
      rw [h1] at hP
      exact (Option.some.inj hP).symm
    subst hux
    refine ⟨_, rfl, wpAny_letOwnedTupleGo_enum (s := { s with heap := h', toks := tk + 1 }) ho fun h'' he' sb => ?_⟩
    have hT2 : h''.get? s.heap.objs.size = some { cls := .type "tuple", data := .seq #[.int i tk, x'] } := (sb.2 _ (Nat.ne_of_gt hel)).trans hT
    have new : ObjOk X.prog X.w (upd H s.heap.objs.size (.tup [.int (i : Nat), x])) h'' s.heap.objs.size (.tup [.int (i : Nat), x]) :=
      ⟨by show 2 ≤ sizeLine; decide, [.int i tk, x'], .cons ⟨_, rfl⟩ (.cons ru .nil), ⟨_, hT2, rfl, _, rfl⟩⟩
    have I1 : Inv X pins σ (upd H s.heap.objs.size (.tup [.int (i : Nat), x])) { s with heap := h'', toks := tk + 1 } :=
      I.turnedNew (ch := [e, it]) (fun b ob hb q => (sb.2 b (fun z => hb (by simp [z]))).trans (hk b ob (fun z => hb (by simp [z])) (fun z => hb (by simp [z])) q)) hf (Nat.le_refl _) new
    refine ⟨.ref s.heap.objs.size, _, I1, rfl, ⟨_, x, rfl, I.hok.fresh (Nat.le_refl _), rfl, fun ys hy => by rw [I.tuple_inj hy hq]; exact hx⟩, ⟨⟨x', ?_⟩, hst'.1.at fun o q => (sb.2 it (Ne.symm hne)).trans q, hne, hea, hai⟩, fun b hb => ?_⟩
    · have e1 : ((i + 1 : Nat) : Int) = (i : Int) + 1 := by omega
      rw [e1]; exact he'
    · have hb' : b < s.heap.objs.size := by
        have e' : b = e ∨ b = it := by simpa using hb
        rcases e' with z | z
        · rw [z]; exact hel
        · rw [z]; exact hil
      rw [upd_ne (Nat.ne_of_lt hb')]
      exact (hf b hb).1
  done := by
    intro X hP hw hK hc i pins s σ H E I hf st hg
    subst hP hw hK
    obtain ⟨⟨old, he⟩, hit, hne, hea, hai⟩ := st
    obtain ⟨xs, hq, hx⟩ := hg
    obtain ⟨its, rv, p, hz⟩ := I.tuple hq
    obtain ⟨f0, f1, f2, f3, f4, f5⟩ := hf it (by simp)
    have hl := rv.length
    have hT : s.TypeIs (.ref e) "enumerate" := ⟨_, he, rfl⟩
    unfold pyNext
    refine wpAny_bind (wpAny_attempt (wpAny_callSpecial?_slot (name := Str.ofString "__next__") hT F.slot_enumerate_next
      (wpAny_call_entry F.slot_enumerate_next hT F.entry_enumerate_next ?_ (F.args_enumerate_next_1 _))))
    show wpAny _ _ (field (.ref e) 2 >>= _) _ _ _
    refine wpAny_bind (wpAny_field he rfl (x := .ref it) rfl ?_)
    refine wpAny_bind (wpAny_nextOf_tuple_end (I.ok.hd hc) hit (show s.heap.IsTuple a its.toArray from p) (by simp; omega) fun h' x he' hx' => ?_)
    obtain ⟨o, ho, hc'⟩ := hx'
    refine wpAny_bind (wpAny_isInstance (T := "StopIteration") (b := true) ⟨o, ho, hc'⟩ isSubtype_stop ?_)
    exact wpAny_pure ⟨rfl, I.turned (t' := s.toks) (fun b o hb q => he' b o hb q) f0 f1 f3 f4 f5⟩
  self := fun A i s Q E st h => let ⟨⟨_, he⟩, _⟩ := st; wpAny_pyIter_enum he h
def iEnumA (K : PySem.W.Frag) (ta : TA) : TI := fun σ H R => ta σ H fun vs H1 => ∃ a xs, vs = [.ref a] ∧ ((SqL K H1 a xs ∧ R (Ite K a) H1) ∨ (SqT K H1 a xs ∧ R (IteT K a) H1))
theorem pi_enumA {X : Cx} {e : Expr} {ta : TA} {p pos tpos : Pos} {elts : List Expr} {kk : Nat} (hg : Gl X "enumerate") (hm : X.mg "enumerate" = none) (ha : PA X [e] ta) (hs : starEach [e] X.env = [(false, eval e X.env)] := by rfl) :
    PI X (.Tuple elts kk tpos) (.Call (.Name "enumerate" p) [e] [] pos) (iEnumA X.K ta) := by
  refine ⟨fun pins s σ H R I h => ?_⟩
  refine Call_ (ld_blt I hg hm boot_enumerate (PyProof.Rows.callWith_type1 (thn (ha.run pos pins s σ H _ I h) fun us s1 ⟨vs, H1, I1, r1, q1⟩ => ?_) hs rfl))
  obtain ⟨a, xs, ex, q1⟩ := q1
  subst ex
  cases r1 with
  | cons r rr =>
    cases rr
    cases r
    have fpk : ∀ b ∈ [s1.heap.objs.size + 1, s1.heap.objs.size], FpOk X pins H1 b := fun b hb => by
      have e' : b = s1.heap.objs.size + 1 ∨ b = s1.heap.objs.size := by simpa using hb
      have hle : s1.heap.objs.size ≤ b := by
        rcases e' with z | z
        · rw [z]; exact Nat.le_add_right _ _
        · rw [z]; exact Nat.le_refl _
      exact I1.fpOk hle (I1.hok.fresh hle)
    rcases q1 with ⟨hq, q⟩ | ⟨hq, q⟩
    · obtain ⟨its, rv, p', hz⟩ := I1.list hq
      refine call_enumerate_list p'.isList fun h' he hit hsz hk => wpAny_pyIter_enum he ?_
      have I2 : Inv X pins σ H1 { s1 with heap := h' } := I1.kept (t' := s1.toks) hk
      exact ⟨s1.heap.objs.size + 1, [s1.heap.objs.size + 1, s1.heap.objs.size], _, _, H1, rfl, I2, turn_enum a (s1.heap.objs.size + 1) s1.heap.objs.size, ⟨⟨.none, he⟩, hit, Nat.succ_ne_self _⟩, fpk, q⟩
    · obtain ⟨its, rv, p', hz⟩ := I1.tuple hq
      have hlt : a < s1.heap.objs.size := p'.lt
      refine fl_enum_begins (begins_tuple a its.toArray) (show s1.heap.IsTuple a its.toArray from p') fun h' he hit hsz hk => wpAny_pyIter_enum he ?_
      have I2 : Inv X pins σ H1 { s1 with heap := h' } := I1.kept (t' := s1.toks) hk
      exact ⟨s1.heap.objs.size + 1, [s1.heap.objs.size + 1, s1.heap.objs.size], _, _, H1, rfl, I2, turn_enumT a (s1.heap.objs.size + 1) s1.heap.objs.size,
        ⟨⟨.none, he⟩, ⟨_, hit, rfl, rfl⟩, Nat.succ_ne_self _, Nat.ne_of_gt (Nat.lt_succ_of_lt hlt), Nat.ne_of_lt hlt⟩, fpk, q⟩
end FL

namespace FL
open PySem PySem.Spec PyProof.Rows L2
variable [TabCtx]
/-- where a walked value stands in the store -/
def srcD : D → List D → List (Nat × List D)
  | .loc l, ds => [(l, ds)]
  | _, _ => []
def isTup : D → Bool
  | .tup _ => true
  | _ => false
theorem still_here {st : Sto} {d : D} {ds : List D} (h : seqD d st = some ds) : Still (srcD d ds) st := by
  cases d with
  | loc l =>
    intro p hp
    rw [List.mem_singleton.mp hp]
    unfold seqD at h
    cases q : st[l]? with
    | none => simp only [q] at h; cases h
    | some o =>
      cases o with
      | lst es => simp only [q] at h; cases h; rfl
      | dic kvs => simp only [q] at h; cases h
  | _ => intro p hp; cases hp
abbrev StillL (K : PySem.W.Frag) (H : Hp) (r : Rho) (a : Addr) (ds : List D) (src : List (Nat × List D)) : Prop :=
  ∀ H1 r1 st1, Ext H r H1 r1 → SR K H1 r1 st1 → Still src st1 → ∃ xs, SqL K H1 a xs ∧ VDs K H1 r1 ds xs
abbrev StillT (K : PySem.W.Frag) (H : Hp) (r : Rho) (a : Addr) (ds : List D) (src : List (Nat × List D)) : Prop :=
  ∀ H1 r1 st1, Ext H r H1 r1 → SR K H1 r1 st1 → Still src st1 → ∃ xs, SqT K H1 a xs ∧ VDs K H1 r1 ds xs
/-- a sequence stands while its source does -/
theorem lst_still {K H r st} {d : D} {x : V} {ds : List D} (ht : isTup d = false) (h : seqD d st = some ds) (v : VD K H r d x) : ∃ a, x = .ref a ∧ StillL K H r a ds (srcD d ds) := by
  cases d with
  | lst es => cases h; obtain ⟨a, xs, rfl, h1, h2⟩ := v; exact ⟨a, rfl, fun H1 r1 st1 e s1 _ => ⟨xs, (h1.ext e).sq, h2.ext e⟩⟩
  | scr ns => cases h; obtain ⟨a, rfl, h1⟩ := v; exact ⟨a, rfl, fun H1 r1 st1 e s1 _ => ⟨_, (h1.ext e).sq, VDs.ints ns⟩⟩
  | loc l =>
    obtain ⟨a, rfl, h1⟩ := v
    refine ⟨a, rfl, fun H1 r1 st1 e s1 hs => ?_⟩
    have q := hs (l, ds) (List.mem_singleton.mpr rfl)
    obtain ⟨b, ho, e1, e2, xs, rfl, e3⟩ := s1.obj l _ q
    rw [e.get h1] at e1; cases e1
    exact ⟨xs, .inl (.inl e2), e3⟩
  | tup es => cases ht
  | _ => cases h
theorem tup_still {K H r st} {d : D} {x : V} {ds : List D} (ht : isTup d = true) (h : seqD d st = some ds) (v : VD K H r d x) : ∃ a, x = .ref a ∧ StillT K H r a ds (srcD d ds) := by
  cases d with
  | tup es => cases h; obtain ⟨a, xs, rfl, h1, h2⟩ := v; exact ⟨a, rfl, fun H1 r1 st1 e s1 _ => ⟨xs, (h1.ext e).sq, h2.ext e⟩⟩
  | _ => cases ht
section
variable {X : Cx} {W : WX} {e a b c : Expr} {tg : Expr} {m ma mb : EM} {ms : Env → Sto → Res (List D)} {pos p : Pos}
theorem PI.byRes {α β : Type} {R : Hp → Rho → α → β → Prop} {t t1 t2 : TI} (h1 : PI X tg e t1) (h2 : PI X tg e t2) (i : ∀ σ H Q, t σ H Q → t1 σ H Q ∨ t2 σ H Q) : PI X tg e t := ⟨fun pins s σ H Q I q => by
  rcases i σ H Q q with q | q
  · exact h1.run pins s σ H Q I q
  · exact h2.run pins s σ H Q I q⟩
def iSeq (m : EM) : IM := fun env st => (m env st).bind fun d st1 => match seqD d st1 with
  | some ds => .ok (ds, srcD d ds) st1
  | none => .bad
theorem itl_ok {w : Bool} {K : PySem.W.Frag} {H r} {a : Addr} {ds : List D} {src : List (Nat × List D)} (h : ∀ H1 r1 st1, Ext H r H1 r1 → SR K H1 r1 st1 → Still src st1 → ∃ xs, SqL K H1 a xs ∧ VDs K H1 r1 ds xs) : ItOk w K (Itl K a) ds src H r :=
  ⟨fun H1 r1 st i e s hs => by
    obtain ⟨xs, h1, h2⟩ := h H1 r1 st e s hs
    refine ⟨fun hi => ?_, fun hi => ⟨xs, h1, by rw [← h2.len]; exact hi⟩, fun d hd x H2 hy => ?_⟩
    · obtain ⟨x, q, _⟩ := h2.get (List.getElem?_eq_getElem hi)
      exact ⟨xs, x, h1, q⟩
    · obtain ⟨rfl, hy⟩ := hy
      obtain ⟨y, q, v⟩ := h2.get hd
      rw [hy xs h1] at q; cases q
      exact ⟨Ext.refl _ _, s, .inl v⟩⟩
theorem itt_ok {w : Bool} {K : PySem.W.Frag} {H r} {a : Addr} {ds : List D} {src : List (Nat × List D)} (h : ∀ H1 r1 st1, Ext H r H1 r1 → SR K H1 r1 st1 → Still src st1 → ∃ xs, SqT K H1 a xs ∧ VDs K H1 r1 ds xs) : ItOk w K (Itt K a) ds src H r :=
  ⟨fun H1 r1 st i e s hs => by
    obtain ⟨xs, h1, h2⟩ := h H1 r1 st e s hs
    refine ⟨fun hi => ?_, fun hi => ⟨xs, h1, by rw [← h2.len]; exact hi⟩, fun d hd x H2 hy => ?_⟩
    · obtain ⟨x, q, _⟩ := h2.get (List.getElem?_eq_getElem hi)
      exact ⟨xs, x, h1, q⟩
    · obtain ⟨rfl, hy⟩ := hy
      obtain ⟨y, q, v⟩ := h2.get hd
      rw [hy xs h1] at q; cases q
      exact ⟨Ext.refl _ _, s, .inl v⟩⟩
theorem fi_seq (he : FE X W e m) : FI X W tg e (iSeq m) := by
  refine PI.byRes (R := RV X.K) (pi_list he) (pi_tup he) fun σ H Q ⟨r, env, st, hE, hS, h⟩ => ?_
  unfold iSeq at h
  cases q : m env st with
  | bad => rw [q] at h; exact h.elim
  | ex x st1 =>
    left
    refine ⟨r, env, st, hE, hS, ?_⟩
    rw [q] at h ⊢
    exact h
  | ok d st1 =>
    rw [q] at h
    cases q2 : seqD d st1 with
    | none => simp only [Res.bind_ok, q2] at h; exact h.elim
    | some ds =>
      simp only [Res.bind_ok, q2] at h
      cases ht : isTup d with
      | true =>
        right
        refine ⟨r, env, st, hE, hS, ?_⟩
        rw [q]
        intro v H1 r1 e1 s1 v1
        obtain ⟨a, rfl, h3⟩ := tup_still ht q2 v1
        obtain ⟨xs, k1, _⟩ := h3 H1 r1 st1 (Ext.refl _ _) s1 (still_here q2)
        exact ⟨a, rfl, ⟨xs, k1⟩, RES.ok' h e1 s1 (itt_ok h3)⟩
      | false =>
        left
        refine ⟨r, env, st, hE, hS, ?_⟩
        rw [q]
        intro v H1 r1 e1 s1 v1
        obtain ⟨a, rfl, h3⟩ := lst_still ht q2 v1
        obtain ⟨xs, k1, _⟩ := h3 H1 r1 st1 (Ext.refl _ _) s1 (still_here q2)
        exact ⟨a, rfl, ⟨xs, k1⟩, RES.ok' h e1 s1 (itl_ok h3)⟩

/-! ### ranges -/
def rngL (lo hi : Int) : List Int := (List.range (hi - lo).toNat).map fun k => lo + (k : Nat)
def smallI (i : Int) : Prop := -(1000000000 : Int) ≤ i ∧ i ≤ 1000000000
instance (i : Int) : Decidable (smallI i) := inferInstanceAs (Decidable (_ ∧ _))
theorem itr_ok {w : Bool} {K : PySem.W.Frag} {H r} {lo : Int} {n : Nat} {f : Nat → Int} (hf : ∀ i, i < n → f i = lo + i) : ItOk w K (Itr lo n) ((List.range n).map fun k => .int (f k)) [] H r :=
  ⟨fun H1 r1 st i e s hs => by
    refine ⟨fun hi => by show i < n; simpa using hi, fun hi => by show n ≤ i; simpa using hi, fun d hd x H2 hy => ?_⟩
    obtain ⟨rfl, rfl⟩ := hy
    have hi : i < n := by
      have := (List.getElem?_eq_some_iff.mp hd).1
      simpa using this
    rw [List.getElem?_map, List.getElem?_range hi] at hd
    cases hd
    exact ⟨Ext.refl _ _, s, .inl (by show V.int _ = V.int _; rw [hf i hi])⟩⟩
def iRange1 (ms : Env → Sto → Res (List D)) : IM := fun env st => (ms env st).bind fun ds st1 => match ds with
  | [.int j] => if smallI j then .ok ((List.range j.toNat).map fun k => .int (k : Nat), []) st1 else .bad
  | _ => .bad
def iRange2 (ms : Env → Sto → Res (List D)) : IM := fun env st => (ms env st).bind fun ds st1 => match ds with
  | [.int i, .int j] => if smallI i ∧ smallI j then .ok ((List.range (j - i).toNat).map fun k => .int (i + (k : Nat)), []) st1 else .bad
  | _ => .bad
theorem vds_int1 {K H r} {ds : List D} {xs : List V} (h : VDs K H r ds xs) {j : Int} (e : ds = [.int j]) : xs = [.int j] := by
  subst e
  obtain ⟨x, t, rfl, h1, h2⟩ := h
  cases h1; cases h2; rfl
theorem vds_int2 {K H r} {ds : List D} {xs : List V} (h : VDs K H r ds xs) {i j : Int} (e : ds = [.int i, .int j]) : xs = [.int i, .int j] := by
  subst e
  obtain ⟨x, t, rfl, h1, y, u, rfl, h2, h3⟩ := h
  cases h1; cases h2; cases h3; rfl
theorem fi_range1 (hg : Gl X "range") (hm : X.mg "range" = none) (ha : FA X W [a] ms) (hs : starEach [a] X.env = [(false, eval a X.env)] := by rfl) : FI X W tg (.Call (.Name "range" p) [a] [] pos) (iRange1 ms) :=
  PI.imp (pi_range1 hg hm ha hs) fun σ H Q ⟨r, env, st, hE, hS, h⟩ => ⟨r, env, st, hE, hS, RES.seq h fun ds st1 xs H1 r1 e1 s1 v1 h1 => by
    by_cases hd : ∃ j, ds = [.int j]
    · obtain ⟨j, rfl⟩ := hd
      simp only at h1
      by_cases hj : smallI j
      · rw [if_pos hj] at h1
        obtain ⟨j1, j2⟩ := hj
        exact ⟨j, vds_int1 v1 rfl, by omega, by omega, RES.ok h1 s1 (itr_ok fun i _ => by omega)⟩
      · rw [if_neg hj] at h1; exact h1.elim
    · exfalso
      revert h1
      split
      · exact absurd ⟨_, rfl⟩ hd
      · exact fun h => h⟩
theorem fi_range2 (hg : Gl X "range") (hm : X.mg "range" = none) (ha : FA X W [a, b] ms) (hs : starEach [a, b] X.env = [(false, eval a X.env), (false, eval b X.env)] := by rfl) (hs2 : starEach [b] X.env = [(false, eval b X.env)] := by rfl) : FI X W tg (.Call (.Name "range" p) [a, b] [] pos) (iRange2 ms) :=
  PI.imp (pi_range2 hg hm ha hs hs2) fun σ H Q ⟨r, env, st, hE, hS, h⟩ => ⟨r, env, st, hE, hS, RES.seq h fun ds st1 xs H1 r1 e1 s1 v1 h1 => by
    by_cases hd : ∃ i j, ds = [.int i, .int j]
    · obtain ⟨i, j, rfl⟩ := hd
      simp only at h1
      by_cases hj : smallI i ∧ smallI j
      · rw [if_pos hj] at h1
        obtain ⟨⟨i1, i2⟩, j1, j2⟩ := hj
        exact ⟨i, j, vds_int2 v1 rfl, ⟨by omega, by omega, by omega, by omega⟩, RES.ok h1 s1 (itr_ok fun i _ => rfl)⟩
      · rw [if_neg hj] at h1; exact h1.elim
    · exfalso
      revert h1
      split
      · exact absurd ⟨_, _, rfl⟩ hd
      · exact fun h => h⟩

/-! ### enumerate, zip, reversed -/
def numL (ds : List D) : List D := ds.zipIdx.map fun p => .tup [.int (p.2 : Nat), p.1]
def iEnum (ms : Env → Sto → Res (List D)) : IM := fun env st => (ms env st).bind fun ds st1 => match ds with
  | [d] => match seqD d st1 with
    | some es => .ok (numL es, srcD d es) st1
    | none => .bad
  | _ => .bad
theorem new_pair {K H r st} {T : Addr} {x y : V} {d e : D} (s : SR K H r st) (hT : H T = none) (v1 : VD K H r d x) (v2 : VD K H r e y) :
    Ext H r (upd H T (.tup [x, y])) r ∧ SR K (upd H T (.tup [x, y])) r st ∧ VDi true K (upd H T (.tup [x, y])) r (.tup [d, e]) (.ref T) :=
  ⟨Ext.fresh hT, s.fresh hT, .inr ⟨rfl, _, T, _, rfl, rfl, s.notin hT, .inl upd_same, _, _, rfl, v1.ext (Ext.fresh hT), _, _, rfl, v2.ext (Ext.fresh hT), rfl⟩⟩
theorem num_get {ds : List D} {i : Nat} {d : D} (h : (numL ds)[i]? = some d) : ∃ e, ds[i]? = some e ∧ d = .tup [.int (i : Nat), e] := by
  unfold numL at h
  rw [List.getElem?_map, List.getElem?_zipIdx] at h
  cases q : ds[i]? with
  | none => rw [q] at h; cases h
  | some e => rw [q] at h; simp at h; exact ⟨e, rfl, h.symm⟩
theorem num_len (ds : List D) : (numL ds).length = ds.length := by unfold numL; simp
theorem ite_ok {K : PySem.W.Frag} {H r} {a : Addr} {ds : List D} {src : List (Nat × List D)} (h : StillL K H r a ds src) : ItOk true K (Ite K a) (numL ds) src H r :=
  ⟨fun H1 r1 st i e s hs => by
    obtain ⟨xs, h1, h2⟩ := h H1 r1 st e s hs
    rw [num_len]
    refine ⟨fun hi => ?_, fun hi => ⟨xs, h1, by rw [← h2.len]; exact hi⟩, fun d hd x H2 hy => ?_⟩
    · obtain ⟨x, q, _⟩ := h2.get (List.getElem?_eq_getElem hi)
      exact ⟨xs, x, h1, q⟩
    · obtain ⟨T, y, rfl, hT, rfl, hy⟩ := hy
      obtain ⟨e', q, rfl⟩ := num_get hd
      obtain ⟨z, q2, v⟩ := h2.get q
      rw [hy xs h1] at q2; cases q2
      exact new_pair s hT rfl v⟩
theorem iteT_ok {K : PySem.W.Frag} {H r} {a : Addr} {ds : List D} {src : List (Nat × List D)} (h : StillT K H r a ds src) : ItOk true K (IteT K a) (numL ds) src H r :=
  ⟨fun H1 r1 st i e s hs => by
    obtain ⟨xs, h1, h2⟩ := h H1 r1 st e s hs
    rw [num_len]
    refine ⟨fun hi => ?_, fun hi => ⟨xs, h1, by rw [← h2.len]; exact hi⟩, fun d hd x H2 hy => ?_⟩
    · obtain ⟨x, q, _⟩ := h2.get (List.getElem?_eq_getElem hi)
      exact ⟨xs, x, h1, q⟩
    · obtain ⟨T, y, rfl, hT, rfl, hy⟩ := hy
      obtain ⟨e', q, rfl⟩ := num_get hd
      obtain ⟨z, q2, v⟩ := h2.get q
      rw [hy xs h1] at q2; cases q2
      exact new_pair s hT rfl v⟩
theorem fi_enum {elts : List Expr} {kk : Nat} {tpos : Pos} (hg : Gl X "enumerate") (hm : X.mg "enumerate" = none) (ha : FA X W [a] ms) (hs : starEach [a] X.env = [(false, eval a X.env)] := by rfl) :
    FI X W (.Tuple elts kk tpos) (.Call (.Name "enumerate" p) [a] [] pos) (iEnum ms) :=
  PI.imp (pi_enumA hg hm ha hs) fun σ H Q ⟨r, env, st, hE, hS, h⟩ => ⟨r, env, st, hE, hS, RES.seq h fun ds st1 xs H1 r1 e1 s1 v1 h1 => by
    match ds, v1, h1 with
    | [d], v1, h1 =>
      obtain ⟨x, t, rfl, w1, w2⟩ := v1
      cases w2
      cases q : seqD d st1 with
      | none => simp only [q] at h1; exact h1.elim
      | some es =>
        simp only [q] at h1
        cases ht : isTup d with
        | true =>
          obtain ⟨a, rfl, h3⟩ := tup_still ht q w1
          obtain ⟨xs, k1, _⟩ := h3 H1 r1 st1 (Ext.refl _ _) s1 (still_here q)
          exact ⟨a, xs, rfl, .inr ⟨k1, RES.ok h1 s1 (iteT_ok h3)⟩⟩
        | false =>
          obtain ⟨a, rfl, h3⟩ := lst_still ht q w1
          obtain ⟨xs, k1, _⟩ := h3 H1 r1 st1 (Ext.refl _ _) s1 (still_here q)
          exact ⟨a, xs, rfl, .inl ⟨k1, RES.ok h1 s1 (ite_ok h3)⟩⟩
    | [], _, h1 => exact h1.elim
    | _ :: _ :: _, _, h1 => exact h1.elim⟩
def pairL (ds es : List D) : List D := (ds.zip es).map fun p => .tup [p.1, p.2]
def iZip (ms : Env → Sto → Res (List D)) : IM := fun env st => (ms env st).bind fun ds st1 => match ds with
  | [d, e] => if isTup d = isTup e then (match seqD d st1, seqD e st1 with
    | some xs, some ys => .ok (pairL xs ys, srcD d xs ++ srcD e ys) st1
    | _, _ => .bad) else .bad
  | _ => .bad
theorem pair_get {ds es : List D} {i : Nat} {d : D} (h : (pairL ds es)[i]? = some d) : ∃ x y, ds[i]? = some x ∧ es[i]? = some y ∧ d = .tup [x, y] := by
  unfold pairL at h
  rw [List.getElem?_map] at h
  cases q : (ds.zip es)[i]? with
  | none => rw [q] at h; cases h
  | some p =>
    rw [q] at h
    obtain ⟨h1, h2⟩ := List.getElem?_zip_eq_some.mp q
    cases h
    exact ⟨p.1, p.2, h1, h2, rfl⟩
theorem pair_len (ds es : List D) : (pairL ds es).length = min ds.length es.length := by unfold pairL; simp
theorem itz_ok {K : PySem.W.Frag} {H r} {a b : Addr} {ds es : List D} {s1 s2 : List (Nat × List D)} (h : StillL K H r a ds s1) (h' : StillL K H r b es s2) : ItOk true K (Itz K a b) (pairL ds es) (s1 ++ s2) H r :=
  ⟨fun H1 r1 st i e s hs => by
    obtain ⟨xs, h1, h2⟩ := h H1 r1 st e s fun p hp => hs p (List.mem_append_left _ hp)
    obtain ⟨ys, h3, h4⟩ := h' H1 r1 st e s fun p hp => hs p (List.mem_append_right _ hp)
    rw [pair_len]
    refine ⟨fun hi => ?_, fun hi => ⟨xs, ys, h1, h3, by rw [← h2.len, ← h4.len]; omega⟩, fun d hd x H2 hy => ?_⟩
    · obtain ⟨x, q, _⟩ := h2.get (List.getElem?_eq_getElem (show i < ds.length by omega))
      obtain ⟨y, q', _⟩ := h4.get (List.getElem?_eq_getElem (show i < es.length by omega))
      exact ⟨xs, ys, x, y, h1, h3, q, q'⟩
    · obtain ⟨T, x, y, rfl, hT, rfl, hx, hy⟩ := hy
      obtain ⟨d1, d2, q1, q2, rfl⟩ := pair_get hd
      obtain ⟨z, q3, v⟩ := h2.get q1
      obtain ⟨z', q4, v'⟩ := h4.get q2
      rw [hx xs h1] at q3; cases q3
      rw [hy ys h3] at q4; cases q4
      exact new_pair s hT v v'⟩
theorem itzT_ok {K : PySem.W.Frag} {H r} {a b : Addr} {ds es : List D} {s1 s2 : List (Nat × List D)} (h : StillT K H r a ds s1) (h' : StillT K H r b es s2) : ItOk true K (RZ.ItzT K a b) (pairL ds es) (s1 ++ s2) H r :=
  ⟨fun H1 r1 st i e s hs => by
    obtain ⟨xs, h1, h2⟩ := h H1 r1 st e s fun p hp => hs p (List.mem_append_left _ hp)
    obtain ⟨ys, h3, h4⟩ := h' H1 r1 st e s fun p hp => hs p (List.mem_append_right _ hp)
    rw [pair_len]
    refine ⟨fun hi => ?_, fun hi => ⟨xs, ys, h1, h3, by rw [← h2.len, ← h4.len]; omega⟩, fun d hd x H2 hy => ?_⟩
    · obtain ⟨x, q, _⟩ := h2.get (List.getElem?_eq_getElem (show i < ds.length by omega))
      obtain ⟨y, q', _⟩ := h4.get (List.getElem?_eq_getElem (show i < es.length by omega))
      exact ⟨xs, ys, x, y, h1, h3, q, q'⟩
    · obtain ⟨T, x, y, rfl, hT, rfl, hx, hy⟩ := hy
      obtain ⟨d1, d2, q1, q2, rfl⟩ := pair_get hd
      obtain ⟨z, q3, v⟩ := h2.get q1
      obtain ⟨z', q4, v'⟩ := h4.get q2
      rw [hx xs h1] at q3; cases q3
      rw [hy ys h3] at q4; cases q4
      exact new_pair s hT v v'⟩
theorem fi_zip {elts : List Expr} {kk : Nat} {tpos : Pos} (hg : Gl X "zip") (hm : X.mg "zip" = none) (ha : FA X W [a, b] ms)
    (hs : starEach [a, b] X.env = (false, eval a X.env) :: starEach [b] X.env := by rfl) (hpl : (backTo pos (starEach [b] X.env)).any (·.1) = false := by rfl) :
    FI X W (.Tuple elts kk tpos) (.Call (.Name "zip" p) [a, b] [] pos) (iZip ms) :=
  PI.imp (RZ.pi_zipA hg hm ha hs hpl) fun σ H Q ⟨r, env, st, hE, hS, h⟩ => ⟨r, env, st, hE, hS, RES.seq h fun ds st1 xs H1 r1 e1 s1 v1 h1 => by
    match ds, v1, h1 with
    | [d, e], v1, h1 =>
      obtain ⟨x, t, rfl, w1, y, u, rfl, w2, w3⟩ := v1
      cases w3
      simp only at h1
      by_cases hk : isTup d = isTup e
      · rw [if_pos hk] at h1
        cases q : seqD d st1 with
        | none => simp only [q] at h1; exact h1.elim
        | some es =>
          cases q' : seqD e st1 with
          | none => simp only [q, q'] at h1; exact h1.elim
          | some es' =>
            simp only [q, q'] at h1
            cases ht : isTup d with
            | true =>
              obtain ⟨a, rfl, h3⟩ := tup_still ht q w1
              obtain ⟨b, rfl, h4⟩ := tup_still (hk ▸ ht) q' w2
              obtain ⟨xs, k1, _⟩ := h3 H1 r1 st1 (Ext.refl _ _) s1 (still_here q)
              obtain ⟨ys, k2, _⟩ := h4 H1 r1 st1 (Ext.refl _ _) s1 (still_here q')
              exact ⟨a, b, xs, ys, rfl, .inr ⟨k1, k2, RES.ok h1 s1 (itzT_ok h3 h4)⟩⟩
            | false =>
              obtain ⟨a, rfl, h3⟩ := lst_still ht q w1
              obtain ⟨b, rfl, h4⟩ := lst_still (hk ▸ ht) q' w2
              obtain ⟨xs, k1, _⟩ := h3 H1 r1 st1 (Ext.refl _ _) s1 (still_here q)
              obtain ⟨ys, k2, _⟩ := h4 H1 r1 st1 (Ext.refl _ _) s1 (still_here q')
              exact ⟨a, b, xs, ys, rfl, .inl ⟨k1, k2, RES.ok h1 s1 (itz_ok h3 h4)⟩⟩
      · rw [if_neg hk] at h1; exact h1.elim
    | [], _, h1 => exact h1.elim
    | [_], _, h1 => exact h1.elim
    | _ :: _ :: _ :: _, _, h1 => exact h1.elim⟩
def iRev (m : EM) : IM := fun env st => (m env st).bind fun d st1 => match seqD d st1 with
  | some ds => .ok (ds.reverse, srcR d ds) st1
  | none => .bad
where srcR : D → List D → List (Nat × List D)
  | .loc l, ds => [(l, ds)]
  | _, _ => []
theorem srcR_eq (d : D) (ds : List D) : iRev.srcR d ds = srcD d ds := by cases d <;> rfl
theorem itv_ok {w : Bool} {K : PySem.W.Frag} {H r} {a : Addr} {ds : List D} {src : List (Nat × List D)} {n : Nat} (hn : n = ds.length) (h : StillL K H r a ds src) : ItOk w K (Itv K a n) ds.reverse src H r :=
  ⟨fun H1 r1 st i e s hs => by
    subst hn
    obtain ⟨xs, h1, h2⟩ := h H1 r1 st e s hs
    rw [List.length_reverse]
    refine ⟨fun hi => ?_, fun hi => hi, fun d hd x H2 hy => ?_⟩
    · obtain ⟨x, q, _⟩ := h2.get (List.getElem?_eq_getElem (show ds.length - 1 - i < ds.length by omega))
      exact ⟨hi, xs, x, h1, q⟩
    · obtain ⟨rfl, hy⟩ := hy
      have hi : i < ds.length := by
        have := (List.getElem?_eq_some_iff.mp hd).1
        simpa using this
      rw [List.getElem?_reverse hi] at hd
      obtain ⟨y, q, v⟩ := h2.get hd
      rw [hy xs h1] at q; cases q
      exact ⟨Ext.refl _ _, s, .inl v⟩⟩
theorem itvT_ok {w : Bool} {K : PySem.W.Frag} {H r} {a : Addr} {ds : List D} {src : List (Nat × List D)} {n : Nat} (hn : n = ds.length) (h : StillT K H r a ds src) : ItOk w K (RT.ItvT K a n) ds.reverse src H r :=
  ⟨fun H1 r1 st i e s hs => by
    subst hn
    obtain ⟨xs, h1, h2⟩ := h H1 r1 st e s hs
    rw [List.length_reverse]
    refine ⟨fun hi => ?_, fun hi => hi, fun d hd x H2 hy => ?_⟩
    · obtain ⟨x, q, _⟩ := h2.get (List.getElem?_eq_getElem (show ds.length - 1 - i < ds.length by omega))
      exact ⟨hi, xs, x, h1, q⟩
    · obtain ⟨rfl, hy⟩ := hy
      have hi : i < ds.length := by
        have := (List.getElem?_eq_some_iff.mp hd).1
        simpa using this
      rw [List.getElem?_reverse hi] at hd
      obtain ⟨y, q, v⟩ := h2.get hd
      rw [hy xs h1] at q; cases q
      exact ⟨Ext.refl _ _, s, .inl v⟩⟩
theorem fi_rev (hg : Gl X "reversed") (hm : X.mg "reversed" = none) (he : FE X W a m) (hs : starEach [a] X.env = (false, eval a X.env) :: starEach [] X.env := by rfl) : FI X W tg (.Call (.Name "reversed" p) [a] [] pos) (iRev m) :=
  PI.imp (RT.pi_revA hg hm he hs) fun σ H Q ⟨r, env, st, hE, hS, h⟩ => ⟨r, env, st, hE, hS, RES.seq h fun d st1 x H1 r1 e1 s1 v1 h1 => by
    cases q : seqD d st1 with
    | none => simp only [q] at h1; exact h1.elim
    | some es =>
      simp only [q, srcR_eq] at h1
      cases ht : isTup d with
      | true =>
        obtain ⟨a, rfl, h3⟩ := tup_still ht q v1
        obtain ⟨xs, k1, k2⟩ := h3 H1 r1 st1 (Ext.refl _ _) s1 (still_here q)
        exact ⟨a, xs, rfl, .inr ⟨k1, RES.ok h1 s1 (itvT_ok k2.len.symm h3)⟩⟩
      | false =>
        obtain ⟨a, rfl, h3⟩ := lst_still ht q v1
        obtain ⟨xs, k1, k2⟩ := h3 H1 r1 st1 (Ext.refl _ _) s1 (still_here q)
        exact ⟨a, xs, rfl, .inl ⟨k1, RES.ok h1 s1 (itv_ok k2.len.symm h3)⟩⟩⟩
/-- a text, sign by sign -/
def iStrM (m : EM) : IM := fun env st => (m env st).bind fun d st1 => match d with
  | .str z => .ok (z.cps.toList.map fun c => .str ⟨#[c]⟩, []) st1
  | _ => .bad
theorem its_ok {w : Bool} {K : PySem.W.Frag} {H r} {z : Str} : ItOk w K (Its z) (z.cps.toList.map fun c => .str ⟨#[c]⟩) [] H r :=
  ⟨fun H1 r1 st i e s hs => by
    refine ⟨fun hi => by show i < z.cps.size; simpa using hi, fun hi => by show z.cps.size ≤ i; simpa using hi, fun d hd x H2 hy => ?_⟩
    obtain ⟨rfl, c, hc, rfl⟩ := hy
    rw [List.getElem?_map, Array.getElem?_toList, hc] at hd
    cases hd
    exact ⟨Ext.refl _ _, s, .inl rfl⟩⟩
theorem fi_str (he : FE X W e m) : FI X W tg e (iStrM m) := PI.imp (pi_str he) fun σ H Q ⟨r, env, st, hE, hS, h⟩ => ⟨r, env, st, hE, hS, RES.seq h fun d st1 x H1 r1 e1 s1 v1 h1 => by
  cases d with
  | str z => cases v1; exact ⟨z, rfl, RES.ok h1 s1 its_ok⟩
  | _ => exact h1.elim⟩
end
end FL

namespace FL
open PySem PySem.Spec PyProof.Rows L2
variable [TabCtx]

/-! ### an object kept apart -/
def Rho.add (r : Rho) (a : Addr) : Rho := ⟨r.ad, a :: r.pv⟩
def Rho.rem (r : Rho) (a : Addr) : Rho := ⟨r.ad, r.pv.filter fun b => decide (b ≠ a)⟩
def rmH (H : Hp) (a : Addr) : Hp := fun b => if b = a then none else H b
theorem rmH_same {H : Hp} {a : Addr} : rmH H a a = none := if_pos rfl
theorem rmH_ne {H : Hp} {a b : Addr} (h : b ≠ a) : rmH H a b = H b := if_neg h
theorem upd_rmH {H : Hp} {a : Addr} {o : HO} (h : H a = some o) : upd (rmH H a) a o = H := by
  funext b
  unfold upd rmH
  by_cases hb : b = a
  · rw [if_pos hb, hb, h]
  · rw [if_neg hb, if_neg hb]
theorem Ext.apart {H r} {p : Addr} {o : HO} (h : H p = none) : Ext H r (upd H p o) (r.add p) :=
  ⟨⟨[], [p], by simp [Rho.add, Rho.app], by simp, fun a ha => by rw [List.mem_singleton.mp ha]; exact .none h⟩, fun a o' _ _ e => by rw [upd_ne (ne_of_none e h)]; exact e⟩
theorem SR.add {K H r st} (s : SR K H r st) {p : Addr} {o : HO} (h : H p = none) (n : Nx o := by exact nx_lst) : SR K (upd H p o) (r.add p) st := by
  have e := Ext.apart (r := r) (o := o) h
  refine ⟨s.len, s.nd, fun l so q => ?_, fun a ha => ?_, s.tabs_fresh h⟩
  · obtain ⟨a, x, h1, h2, h3⟩ := s.obj l so q
    exact ⟨a, x, h1, by rw [upd_ne (ne_of_none h2 h)]; exact h2, h3.ext e⟩
  · rcases List.mem_cons.mp ha with rfl | ha
    · exact ⟨s.notad h, o, n, upd_same⟩
    · obtain ⟨h1, o', n', h2⟩ := s.apart a ha
      exact ⟨h1, o', n', by rw [upd_ne (ne_of_none h2 h)]; exact h2⟩
theorem out_ne {r : Rho} {p a : Addr} (hp : p ∈ r.pv) (h : r.out a) : a ≠ p := fun e => h.2 (e ▸ hp)
theorem out_rem {r : Rho} {p a : Addr} (h : r.out a) : (r.rem p).out a := ⟨h.1, fun q => h.2 (List.mem_filter.mp q).1⟩
theorem Rd.to {H H' : Hp} {a : Addr} {u : HO} (e : H' a = H a) (h : Rd H a u) : Rd H' a u := by
  rcases h with h | ⟨o, h⟩
  · exact .inl (e.trans h)
  · exact .inr ⟨o, e.trans h⟩
theorem ExcAt.free {K H H' r r'} {p : Addr} {cls ns a vs} (hp : p ∈ r.pv) (hH : ∀ a, a ≠ p → H' a = H a) (ho : ∀ a, r.out a → r'.out a) (h : ExcAt K H r cls ns a vs) : ExcAt K H' r' cls ns a vs := by
  obtain ⟨C, d, h1, h2, h3, h4⟩ := h
  refine ⟨C, d, ho a h1, h2, (hH a (out_ne hp h1)).trans h3, ?_⟩
  rcases h4 with h4 | ⟨dd, h5, h6, h7, h8⟩
  · exact .inl h4
  · exact .inr ⟨dd, h5, ho dd h6, (hH dd (out_ne hp h6)).trans h7, h8⟩
mutual
/-- H may change at what is kept apart; it may be let go -/
theorem VD.free {K H H' r r'} {p : Addr} (hp : p ∈ r.pv) (hH : ∀ a, a ≠ p → H' a = H a) (hr : r'.ad = r.ad) (ho : ∀ a, r.out a → r'.out a) : ∀ (d : D) (v : V), VD K H r d v → VD K H' r' d v
  | .non, _, h => h
  | .bl _, _, h => h
  | .int _, _, h => h
  | .str _, _, h => h
  | .tup ds, v, h => by
    obtain ⟨a, xs, h1, h2, h3⟩ := h
    refine ⟨a, xs, h1, ?_, VDs.free hp hH hr ho ds xs h3⟩
    rcases h2 with ⟨h4, o, h5, h6⟩ | h2
    · exact .inl ⟨ho a h4, o, h5, (hH a (out_ne hp h4)).trans h6⟩
    · exact .inr h2
  | .lst ds, v, h => by
    obtain ⟨a, xs, h1, h2, h3⟩ := h
    exact ⟨a, xs, h1, ⟨ho a h2.1, (hH a (out_ne hp h2.1)).trans h2.2⟩, VDs.free hp hH hr ho ds xs h3⟩
  | .loc l, v, h => by
    obtain ⟨a, h1, h2⟩ := h
    exact ⟨a, h1, by rw [hr]; exact h2⟩
  | .scr ns, v, h => by
    obtain ⟨a, h1, h2⟩ := h
    refine ⟨a, h1, ?_⟩
    rcases h2 with ⟨h4, h5⟩ | h2
    · exact .inl ⟨ho a h4, Rd.to (hH a (out_ne hp h4)) h5⟩
    · exact .inr h2
  | .exc cls ns ds, v, h => by
    obtain ⟨a, xs, h1, h2, h3⟩ := h
    exact ⟨a, xs, h1, h2.free hp hH ho, VDs.free hp hH hr ho ds xs h3⟩
theorem VDs.free {K H H' r r'} {p : Addr} (hp : p ∈ r.pv) (hH : ∀ a, a ≠ p → H' a = H a) (hr : r'.ad = r.ad) (ho : ∀ a, r.out a → r'.out a) : ∀ (ds : List D) (xs : List V), VDs K H r ds xs → VDs K H' r' ds xs
  | [], _, h => h
  | d :: ds, xs, h => by
    obtain ⟨x, t, h1, h2, h3⟩ := h
    exact ⟨x, t, h1, VD.free hp hH hr ho d x h2, VDs.free hp hH hr ho ds t h3⟩
end
theorem OD.free {K H H' r r'} {p : Addr} (hp : p ∈ r.pv) (hH : ∀ a, a ≠ p → H' a = H a) (hr : r'.ad = r.ad) (ho : ∀ a, r.out a → r'.out a) : ∀ (o : SO) (h : HO), OD K H r o h → OD K H' r' o h
  | .lst ds, h, ⟨xs, h1, h2⟩ => ⟨xs, h1, h2.free hp hH hr ho⟩
  | .dic kvs, h, ⟨xs, h1, h2⟩ => ⟨xs, h1, paired_imp (fun _ _ q => ⟨q.1, q.2.free hp hH hr ho⟩) h2⟩
theorem SR.free {K H H' r r' st} {p : Addr} (s : SR K H r st) (hp : p ∈ r.pv) (hH : ∀ a, a ≠ p → H' a = H a) (hr : r'.ad = r.ad) (ho : ∀ a, r.out a → r'.out a) (hq : ∀ a ∈ r'.pv, a ∈ r.pv ∧ (a = p → ∃ o, Nx o ∧ H' p = some o)) : SR K H' r' st := by
  refine ⟨by rw [hr]; exact s.len, by rw [hr]; exact s.nd, fun l so q => ?_, fun a ha => ?_, fun q hq2 => tabS_at (p := p) hH (fun o ho => by
    obtain ⟨_, o2, n, h2⟩ := s.apart p hp
    rw [h2] at ho; cases ho; exact n) (s.tabs q hq2)⟩
  · obtain ⟨a, x, h1, h2, h3⟩ := s.obj l so q
    have hne : a ≠ p := by
      rintro rfl
      exact (s.apart a hp).1 (List.mem_of_getElem? h1)
    exact ⟨a, x, by rw [hr]; exact h1, (hH a hne).trans h2, h3.free hp hH hr ho⟩
  · obtain ⟨h1, h2⟩ := hq a ha
    obtain ⟨h3, o, n, h4⟩ := s.apart a h1
    refine ⟨by rw [hr]; exact h3, ?_⟩
    by_cases e : a = p
    · subst e; exact h2 rfl
    · exact ⟨o, n, (hH a e).trans h4⟩
theorem ER.free {K H H' r r' env σ} {p : Addr} (x : ER K H r env σ) (hp : p ∈ r.pv) (hH : ∀ a, a ≠ p → H' a = H a) (hr : r'.ad = r.ad) (ho : ∀ a, r.out a → r'.out a) : ER K H' r' env σ := ⟨x.len, fun i d h => by
  obtain ⟨v, h1, h2⟩ := x.get i d h
  exact ⟨v, h1, h2.free hp hH hr ho⟩⟩

/-! ### [e for x in xs if t] -/
def wipeE (env : Env) (vs : List Nat) : Env := vs.foldl (fun e k => e.set k none) env
theorem wipe_same {σ σ' : L2.St} {vs : List Nat} (h : FL.Only vs (wipe σ vs) σ') : wipe σ' vs = wipe σ vs := by
  apply List.ext_getElem?
  intro j
  have hw : ∀ (τ : L2.St) (ws : List Nat) (j : Nat), (wipe τ ws)[j]? = if j ∈ ws ∧ j < τ.length then some none else τ[j]? := by
    intro τ ws
    induction ws with
    | nil => intro j; simp [wipe]
    | cons w ws ih =>
      intro j
      show ((wipe τ ws).set w none)[j]? = _
      by_cases hj : w = j
      · subst hj
        by_cases hl : w < τ.length
        · rw [List.getElem?_set_self (by rw [wipe_length]; exact hl), if_pos ⟨List.mem_cons_self, hl⟩]
        · rw [List.getElem?_eq_none (by rw [List.length_set, wipe_length]; omega), if_neg (fun q => hl q.2), List.getElem?_eq_none (by omega)]
      · rw [List.getElem?_set_ne hj, ih j]
        have : (j ∈ w :: ws ∧ j < τ.length) ↔ (j ∈ ws ∧ j < τ.length) := by
          simp only [List.mem_cons]
          constructor
          · rintro ⟨h | h, h'⟩
            · exact absurd h.symm hj
            · exact ⟨h, h'⟩
          · rintro ⟨h, h'⟩; exact ⟨.inr h, h'⟩
        simp only [this]
  have hl : σ'.length = σ.length := h.1.trans (wipe_length σ vs)
  rw [hw σ' vs j, hw σ vs j, hl]
  by_cases hj : j ∈ vs ∧ j < σ.length
  · rw [if_pos hj, if_pos hj]
  · rw [if_neg hj, if_neg hj]
    by_cases hv : j ∈ vs
    · have : ¬ j < σ.length := fun q => hj ⟨hv, q⟩
      rw [List.getElem?_eq_none (by omega), List.getElem?_eq_none (by omega)]
    · rw [h.2 j hv, hw σ vs j, if_neg (fun q => hv q.1)]
theorem ER.wiped {K H r env σ} (x : ER K H r env σ) : ∀ vs : List Nat, ER K H r (wipeE env vs) (wipe σ vs) := by
  intro vs
  have h0 : ∀ (ws : List Nat) (e : Env) (τ : L2.St), ER K H r e τ → (∀ i d, e[i]? = some (some d) → i ∉ ws) → ER K H r e (wipe τ ws) := by
    intro ws e τ hx hn
    refine ⟨by rw [wipe_length]; exact hx.len, fun i d q => ?_⟩
    obtain ⟨v, h1, h2⟩ := hx.get i d q
    refine ⟨v, ?_, h2⟩
    have hi := hn i d q
    clear hn q
    induction ws with
    | nil => exact h1
    | cons w ws ih =>
      show ((wipe τ ws).set w none)[i]? = _
      rw [List.getElem?_set_ne (fun e => hi (by rw [e]; exact List.mem_cons_self))]
      exact ih fun q => hi (List.mem_cons_of_mem _ q)
  refine h0 vs _ _ (ER.kills vs x) fun i d q hi => ?_
  have hk : ∀ (ws : List Nat) (e : Env), (∀ d, e[i]? ≠ some (some d)) → ∀ d, (ws.foldl (fun e k => e.set k none) e)[i]? ≠ some (some d) := by
    intro ws
    induction ws with
    | nil => intro e h; exact h
    | cons w ws ih =>
      intro e h
      refine ih _ fun d q => ?_
      by_cases hw : w = i
      · subst hw
        by_cases hl : w < e.length
        · rw [List.getElem?_set_self hl] at q; cases q
        · rw [List.getElem?_eq_none (by simpa using hl)] at q; cases q
      · rw [List.getElem?_set_ne hw] at q
        exact h d q
  have hm : ∀ (ws : List Nat) (e : Env), i ∈ ws → ∀ d, (ws.foldl (fun e k => e.set k none) e)[i]? ≠ some (some d) := by
    intro ws
    induction ws with
    | nil => intro e h; cases h
    | cons w ws ih =>
      intro e h
      by_cases hw : w = i
      · subst hw
        refine hk ws _ fun d q => ?_
        by_cases hl : w < e.length
        · rw [List.getElem?_set_self hl] at q; cases q
        · rw [List.getElem?_eq_none (by simpa using hl)] at q; cases q
      · rcases List.mem_cons.mp h with h | h
        · exact absurd h.symm hw
        · exact ih _ h
  exact hm vs env hi d q
def compL (src : List (Nat × List D)) (g : GM) (tt : Env → Sto → Res Bool) (te : EM) (env : Env) : List D → Sto → List D → Res (List D)
  | [], st, acc => if stillB src st = true then .ok acc st else .bad
  | d :: ds, st, acc => if stillB src st = true then (match g d env st with
    | .ok env1 st1 => (match tt env1 st1 with
      | .ok k st2 => if k = true then (match te env1 st2 with
        | .ok v st3 => if acc.length < 1000000 then compL src g tt te env ds st3 (acc ++ [v]) else .bad
        | _ => .bad) else compL src g tt te env ds st2 acc
      | _ => .bad)
    | _ => .bad) else .bad
def nComp (vs : List Nat) (mi : IM) (g : GM) (tt : Env → Sto → Res Bool) (te : EM) : Env → Sto → Res (List D) := fun env st => (mi env st).bind fun p st1 => compL p.2 g tt te (wipeE env vs) p.1 st1 []
def noTest : Env → Sto → Res Bool := fun _ st => .ok true st
def E0W : WX := fun _ _ _ _ => False
abbrev FTs (X : Cx) (W : WX) (es : List Expr) (m : Env → Sto → Res Bool) : Prop := PTs X es (tT X.K X.mg W m)
theorem fts_nil {X : Cx} {W : WX} : FTs X W [] noTest := ⟨fun pins s σ H Q I ⟨r, env, st, hE, hS, h⟩ => pts_nil.run pins s σ H Q I (RES.ok h hS rfl)⟩
theorem fts_one {X : Cx} {W : WX} {c : Expr} {m : Env → Sto → Res Bool} (h : FT X W c m) : FTs X W [c] m := pts_one h
section
variable {X : Cx} {W : WX} {elt tg iter : Expr} {ifs : List Expr} {scope : Scope} {own : List (Str × Nat)} {pos : Pos} {mi : IM} {g : GM} {tt : Env → Sto → Res Bool} {te : EM} {sl : List Nat}
theorem ext_rem {K H1 r1 st1 H2 r2} (s1 : SR K H1 r1 st1) (e : Ext H1 r1 H2 r2) {p : Addr} (hp : H1 p = none) : Ext H1 r1 (rmH H2 p) (r2.rem p) := by
  obtain ⟨t, q, rfl, ht, hq⟩ := id e.pre
  refine ⟨⟨t, q.filter fun b => decide (b ≠ p), ?_, ht, fun a ha => hq a (List.mem_filter.mp ha).1⟩, fun a o h1 n h2 => by rw [rmH_ne (ne_of_none h2 hp)]; exact e.keep a o h1 n h2⟩
  have h1 : r1.pv.filter (fun b => decide (b ≠ p)) = r1.pv := List.filter_eq_self.mpr fun a ha => by
    obtain ⟨_, o, _, h⟩ := s1.apart a ha
    exact decide_eq_true (ne_of_none h hp)
  unfold Rho.rem Rho.app
  simp only [List.filter_append, h1]
theorem sim_comp {w : Bool} {vs : List Nat} (hsl : ∀ j ∈ sl, j ∈ vs) {σ : L2.St} {H : Hp} {Q : VK} (q : tN X.K X.mg W (nComp vs mi g tt te) σ H Q) :
    tLc (tI w X.K X.mg W mi) (tG w X.K X.mg E0W sl g) (tT X.K X.mg E0W tt) (tM X.K X.mg E0W te) vs σ H Q := by
  obtain ⟨r, env, st, hE, hS, h⟩ := q
  refine ⟨r, env, st, hE, hS, RES.seq h fun p st1 J H1 r1 e1 s1 it h1 => ?_⟩
  intro D hD
  refine ⟨fun i m H2 => m = p.1.length - i ∧ ∃ r2 st2 acc xs, D ∈ r2.pv ∧ H2 D = some (.lst xs) ∧ Ext H1 r1 H2 r2 ∧ SR X.K H2 r2 st2 ∧ VDs X.K H2 r2 acc xs ∧
      RES X.K X.mg (RVs X.K) (WE W σ) H1 r1 (compL p.2 g tt te (wipeE env vs) (p.1.drop i) st2 acc) (fun xs H1 => ∀ p, H1 p = none → Q (.ref p) (upd H1 p (.lst xs))),
    ⟨p.1.length, rfl, r1.add D, st1, [], [], List.mem_cons_self, upd_same, Ext.apart hD, s1.add hD, rfl, h1⟩, ?_⟩
  rintro i m H2 ⟨rfl, r2, st2, acc, xs, hp, hd, e2, s2, v2, h2⟩
  cases qd : p.1.drop i with
  | nil =>
    have hi : p.1.length ≤ i := by
      have := congrArg List.length qd
      rw [List.length_drop] at this
      simp at this; omega
    rw [qd] at h2
    unfold compL at h2
    by_cases hst : stillB p.2 st2 = true
    · rw [if_pos hst] at h2
      refine .inl ⟨(it.run H2 r2 st2 i e2 s2 (still_iff.mp hst)).2.1 hi, ?_⟩
      have hH : ∀ a, a ≠ D → rmH H2 D a = H2 a := fun a ha => rmH_ne ha
      have k := RES.ok' h2 (ext_rem s1 e2 hD) (s2.free (r' := r2.rem D) hp hH rfl (fun a ha => out_rem ha) fun a ha => ⟨(List.mem_filter.mp ha).1, fun e => by
        have := (List.mem_filter.mp ha).2
        rw [e] at this; simp at this⟩) (VDs.free (r' := r2.rem D) hp hH rfl (fun a ha => out_rem ha) acc xs v2) D rmH_same
      rw [upd_rmH hd] at k
      exact k
    · rw [if_neg hst] at h2; exact h2.elim
  | cons d ds =>
    have hi : i < p.1.length := by
      have := congrArg List.length qd
      rw [List.length_drop] at this
      simp at this; omega
    have hdi : p.1[i]? = some d := by
      have := congrArg (·[0]?) qd
      simpa using this
    have hds : p.1.drop (i + 1) = ds := by
      have := congrArg (List.drop 1) qd
      rw [List.drop_drop] at this
      simpa using this
    rw [qd] at h2
    unfold compL at h2
    by_cases hst : stillB p.2 st2 = true
    · rw [if_pos hst] at h2
      obtain ⟨k1, k2, k3⟩ := it.run H2 r2 st2 i e2 s2 (still_iff.mp hst)
      refine .inr ⟨k1 hi, _, fun H' hN => ⟨p.1.length - (i + 1), by omega, rfl, hN⟩, fun x H3 hy => ?_⟩
      obtain ⟨e3, s3, v3⟩ := k3 d hdi x H3 hy
      have eE : Ext H1 r1 H3 r2 := e2.trans s2 e3
      have hE3 : ER X.K H3 r2 (wipeE env vs) (wipe σ vs) := ER.wiped ((hE.ext e1).ext eE) vs
      refine ⟨r2, wipeE env vs, st2, d, hE3, s3, v3, ?_⟩
      cases qg : g d (wipeE env vs) st2 with
      | bad => rw [qg] at h2; exact h2.elim
      | ex x st' => rw [qg] at h2; exact h2.elim
      | ok env1 st3 =>
        simp only [qg] at h2
        intro σ4 H4 r4 e4 s4 hE4 o4
        refine ⟨wipe_same (o4.mono hsl), r4, env1, st3, hE4, s4, ?_⟩
        have eE4 : Ext H1 r1 H4 r4 := eE.trans s3 e4
        cases qt : tt env1 st3 with
        | bad => rw [qt] at h2; exact h2.elim
        | ex x st' => rw [qt] at h2; exact h2.elim
        | ok k st4 =>
          simp only [qt] at h2
          intro k' H5 r5 e5 s5 hk
          cases hk
          have pv5 : D ∈ r5.pv := by
            obtain ⟨t, q, rfl, _⟩ := e4.pre
            obtain ⟨t', q', rfl, _⟩ := e5.pre
            exact List.mem_append_right _ (List.mem_append_right _ hp)
          have keepD : ∀ {Ha Hb : Hp} {ra rb : Rho} {sa : Sto}, Ext Ha ra Hb rb → SR X.K Ha ra sa → D ∈ ra.pv → ∀ {o}, Ha D = some o → Hb D = some o := fun {Ha Hb ra rb sa} e s hp {o} h => e.keep D o (s.apart D hp).1 (by
            obtain ⟨_, o2, n, h2⟩ := s.apart D hp
            rw [h2] at h; cases h; exact n.1) h
          have pv4 : D ∈ r4.pv := by
            obtain ⟨t, q, rfl, _⟩ := e4.pre
            exact List.mem_append_right _ hp
          have hd5 : H5 D = some (.lst xs) := keepD e5 s4 pv4 (keepD e4 s3 hp (keepD e3 s2 hp hd))
          have v5 := VDs.ext e5 _ _ (VDs.ext e4 _ _ (VDs.ext e3 _ _ v2))
          have eE5 := eE4.trans s4 e5
          cases k with
          | false =>
            rw [if_neg Bool.false_ne_true] at h2 ⊢
            exact ⟨r5, st4, acc, xs, pv5, hd5, eE5, s5, v5, by rw [hds]; exact h2⟩
          | true =>
            rw [if_pos rfl] at h2 ⊢
            refine ⟨r5, env1, st4, hE4.ext e5, s5, ?_⟩
            cases qe : te env1 st4 with
            | bad => rw [qe] at h2; exact h2.elim
            | ex x st' => rw [qe] at h2; exact h2.elim
            | ok v st5 =>
              simp only [qe] at h2
              intro y H6 r6 e6 s6 v6
              by_cases hl : acc.length < 1000000
              · rw [if_pos hl] at h2
                have pv6 : D ∈ r6.pv := by
                  obtain ⟨t, q, rfl, _⟩ := e6.pre
                  exact List.mem_append_right _ pv5
                have hd6 := keepD e6 s5 pv5 hd5
                have vv6 := VDs.ext e6 _ _ v5
                have eE6 := eE5.trans s5 e6
                have hH : ∀ a, a ≠ D → upd H6 D (.lst (xs ++ [y])) a = H6 a := fun a ha => upd_ne ha
                refine ⟨xs, hd6, by rw [← v2.len]; exact Nat.lt_of_lt_of_le hl (big_ok (Nat.le_refl _)), r6, st5, acc ++ [v], xs ++ [y], pv6, upd_same, ⟨eE6.pre, fun a o h3 n h4 => by rw [upd_ne (ne_of_none h4 hD)]; exact eE6.keep a o h3 n h4⟩,
                  s6.free (r' := r6) pv6 hH rfl (fun _ h => h) (fun a ha => ⟨ha, fun _ => ⟨_, nx_lst, upd_same⟩⟩), VDs.free pv6 hH rfl (fun _ h => h) _ _ (vv6.app (VDs.one v6)), by rw [hds]; exact h2⟩
              · rw [if_neg hl] at h2; exact h2.elim
    · rw [if_neg hst] at h2; exact h2.elim
theorem fn_comp (hc : X.calm = true) (hN : X.N.Nodup) (hi : FI X W tg iter mi) (ok : BlkOk X.N X.env.scope scope own)
    (hg : ∀ (s : Shared) (H : Hp) (C : Addr) (cl : List (Str × Addr)) (fp : List Addr), FG (X.blk s H scope (compEnvC scope cl C X.env) fp) E0W tg sl g) (hsl : ∀ j ∈ sl, j ∈ own.map (·.2))
    (ht : ∀ (s : Shared) (H : Hp) (C : Addr) (cl : List (Str × Addr)) (fp : List Addr), FTs (X.blk s H scope (compEnvC scope cl C X.env) fp) E0W ifs tt)
    (he : ∀ (s : Shared) (H : Hp) (C : Addr) (cl : List (Str × Addr)) (fp : List Addr), FE (X.blk s H scope (compEnvC scope cl C X.env) fp) E0W elt te) (hs : ∀ x, foldedSetIterable iter X.env x = pure x := by intro _; rfl) :
    FN X W (.ListComp elt [⟨tg, iter, ifs, 0⟩] scope pos) (nComp (own.map (·.2)) mi g tt te) :=
  PE.imp (pe_lc hc hN hi ok hg ht he hs) fun σ H Q q => sim_comp hsl q
/-- y = [..], y a local: as a list that nobody changes, as one of the store -/
theorem fs_setComp {i : Nat} {y : Str} {py spos : Pos} (hc : X.calm = true) (hN : X.N.Nodup) (hy : X.N[i]? = some y) (hyl : X.env.scope.names.lookup y = some .local)
    (hsw : swapsWith (.ListComp elt [⟨tg, iter, ifs, 0⟩] scope pos) (some (.Name y py)) spos.line X.env = pure true) (hi : FI X W tg iter mi) (ok : BlkOk X.N X.env.scope scope own)
    (hg : ∀ (s : Shared) (H : Hp) (C : Addr) (cl : List (Str × Addr)) (fp : List Addr), FG (X.blk s H scope (compEnvC scope cl C X.env) fp) E0W tg sl g) (hsl : ∀ j ∈ sl, j ∈ own.map (·.2))
    (ht : ∀ (s : Shared) (H : Hp) (C : Addr) (cl : List (Str × Addr)) (fp : List Addr), FTs (X.blk s H scope (compEnvC scope cl C X.env) fp) E0W ifs tt)
    (he : ∀ (s : Shared) (H : Hp) (C : Addr) (cl : List (Str × Addr)) (fp : List Addr), FE (X.blk s H scope (compEnvC scope cl C X.env) fp) E0W elt te) (hs : ∀ x, foldedSetIterable iter X.env x = pure x := by intro _; rfl) :
    FS X W (.Assign [.Name y py] (.ListComp elt [⟨tg, iter, ifs, 0⟩] scope pos) spos) (sSet i (eFrz (nComp (own.map (·.2)) mi g tt te))) :=
  PS.imp (ps_setLc (g := tG (wkT tg) X.K X.mg E0W sl g) (tt := tT X.K X.mg E0W tt) (te := tM X.K X.mg E0W te) hc hN hy hyl hsw hi ok hg ht he hs) fun D σ H ⟨r, env, st, hE, hS, h⟩ => by
    refine sim_comp (W := W) (g := g) (tt := tt) (te := te) hsl ⟨r, env, st, hE, hS, RS.on (D := D) hE (k := fun ds st1 => .nx (env.set i (some (.lst ds))) st1) ?_ fun ds st1 xs H1 r1 e1 s1 v1 h1 p hp => ?_⟩
    · revert h
      show RS X.K X.mg W D H r (((nComp (own.map (·.2)) mi g tt te env st).bind fun ds st1 => .ok (.lst ds) st1).on env fun d st1 => .nx (env.set i (some d)) st1) → _
      cases nComp (own.map (·.2)) mi g tt te env st with
      | ok ds st1 => exact fun h => h
      | ex x st1 => exact fun h => h
      | bad => exact fun h => h
    · exact h1 _ _ r1 (Ext.fresh hp) (s1.fresh hp) (((hE.ext e1).ext (Ext.fresh hp)).set i ⟨p, xs, rfl, ⟨s1.notin hp, upd_same⟩, v1.ext (Ext.fresh hp)⟩)
theorem fs_setCompN {i : Nat} {y : Str} {py spos : Pos} (hc : X.calm = true) (hN : X.N.Nodup) (hy : X.N[i]? = some y) (hyl : X.env.scope.names.lookup y = some .local)
    (hsw : swapsWith (.ListComp elt [⟨tg, iter, ifs, 0⟩] scope pos) (some (.Name y py)) spos.line X.env = pure true) (hi : FI X W tg iter mi) (ok : BlkOk X.N X.env.scope scope own)
    (hg : ∀ (s : Shared) (H : Hp) (C : Addr) (cl : List (Str × Addr)) (fp : List Addr), FG (X.blk s H scope (compEnvC scope cl C X.env) fp) E0W tg sl g) (hsl : ∀ j ∈ sl, j ∈ own.map (·.2))
    (ht : ∀ (s : Shared) (H : Hp) (C : Addr) (cl : List (Str × Addr)) (fp : List Addr), FTs (X.blk s H scope (compEnvC scope cl C X.env) fp) E0W ifs tt)
    (he : ∀ (s : Shared) (H : Hp) (C : Addr) (cl : List (Str × Addr)) (fp : List Addr), FE (X.blk s H scope (compEnvC scope cl C X.env) fp) E0W elt te) (hs : ∀ x, foldedSetIterable iter X.env x = pure x := by intro _; rfl) :
    FS X W (.Assign [.Name y py] (.ListComp elt [⟨tg, iter, ifs, 0⟩] scope pos) spos) (sSet i (eNew (nComp (own.map (·.2)) mi g tt te))) :=
  PS.imp (ps_setLc (g := tG (wkT tg) X.K X.mg E0W sl g) (tt := tT X.K X.mg E0W tt) (te := tM X.K X.mg E0W te) hc hN hy hyl hsw hi ok hg ht he hs) fun D σ H ⟨r, env, st, hE, hS, h⟩ => by
    refine sim_comp (W := W) (g := g) (tt := tt) (te := te) hsl ⟨r, env, st, hE, hS, RS.on (D := D) hE (k := fun ds st1 => .nx (env.set i (some (.loc st1.length))) (st1 ++ [.lst ds])) ?_ fun ds st1 xs H1 r1 e1 s1 v1 h1 p hp => ?_⟩
    · revert h
      show RS X.K X.mg W D H r (((nComp (own.map (·.2)) mi g tt te env st).bind fun ds st1 => .ok (.loc st1.length) (st1 ++ [.lst ds])).on env fun d st1 => .nx (env.set i (some d)) st1) → _
      cases nComp (own.map (·.2)) mi g tt te env st with
      | ok ds st1 => exact fun h => h
      | ex x st1 => exact fun h => h
      | bad => exact fun h => h
    · have eg := Ext.grown s1 (o := .lst xs) hp
      exact h1 _ _ _ eg (s1.grown hp ⟨xs, rfl, v1⟩) (((hE.ext e1).ext eg).set i ⟨p, rfl, by rw [← s1.len]; simp⟩)
end
end FL

namespace FL
open PySem PySem.Spec PyProof.Rows L2
variable [TabCtx]

/-! ### calls of built-ins -/
/-- a call of the known value f keeps g -/
def BiF (X : Cx) (f : Value) (g : List D → Sto → Res D) : Prop :=
  ∃ rr : List V → Hp → VK → Prop, CallR X f rr ∧ ∀ (E : XK) H r st ds xs Q, SR X.K H r st → VDs X.K H r ds xs → RES X.K X.mg (RV X.K) E H r (g ds st) Q → rr xs H Q
/-- .. that yields a new list -/
def BiN (X : Cx) (f : Value) (g : List D → Sto → Res (List D)) : Prop :=
  ∃ rr : List V → Hp → VK → Prop, CallR X f rr ∧ ∀ (E : XK) H r st ds xs Q, SR X.K H r st → VDs X.K H r ds xs → RES X.K X.mg (RVs X.K) E H r (g ds st) (fun ys H1 => ∀ p, H1 p = none → Q (.ref p) (upd H1 p (.lst ys))) → rr xs H Q
def eB (g : List D → Sto → Res D) (ms : Env → Sto → Res (List D)) : EM := fun env st => (ms env st).bind g
def nB (g : List D → Sto → Res (List D)) (ms : Env → Sto → Res (List D)) : Env → Sto → Res (List D) := fun env st => (ms env st).bind g
section
variable {X : Cx} {W : WX} {e a b : Expr} {es : List Expr} {m ma mb : EM} {ms : Env → Sto → Res (List D)} {x : Str} {p pos : Pos} {id T : String} {g : List D → Sto → Res D}
theorem sim_eB {rr : List V → Hp → VK → Prop} (hr : ∀ (E : XK) H r st ds xs Q, SR X.K H r st → VDs X.K H r ds xs → RES X.K X.mg (RV X.K) E H r (g ds st) Q → rr xs H Q)
    {σ : L2.St} {H : Hp} {Q : VK} (q : tM X.K X.mg W (eB g ms) σ H Q) : tCB rr (tA X.K X.mg W ms) σ H Q := by
  obtain ⟨r, env, st, hE, hS, h⟩ := q
  exact ⟨r, env, st, hE, hS, RES.seq h fun ds st1 xs H1 r1 e1 s1 v1 h1 => hr _ H1 r1 st1 ds xs Q s1 v1 h1⟩
theorem sim_nB {g : List D → Sto → Res (List D)} {rr : List V → Hp → VK → Prop} (hr : ∀ (E : XK) H r st ds xs Q, SR X.K H r st → VDs X.K H r ds xs → RES X.K X.mg (RVs X.K) E H r (g ds st) (fun ys H1 => ∀ p, H1 p = none → Q (.ref p) (upd H1 p (.lst ys))) → rr xs H Q)
    {σ : L2.St} {H : Hp} {Q : VK} (q : tN X.K X.mg W (nB g ms) σ H Q) : tCB rr (tA X.K X.mg W ms) σ H Q := by
  obtain ⟨r, env, st, hE, hS, h⟩ := q
  exact ⟨r, env, st, hE, hS, RES.seq h fun ds st1 xs H1 r1 e1 s1 v1 h1 => hr _ H1 r1 st1 ds xs Q s1 v1 h1⟩
theorem fe_callB (ho : BiF X (.builtin id) g) (hg : Gl X x) (hm : X.mg x = none) (hv : bootBuiltins x = some (.builtin id)) (ha : FA X W (e :: es) ms) (hn : x ≠ "__name__" := by decide) (hdb : (x == ("__debug__" : Str)) = false := by decide)
    (he : starEach (e :: es) X.env = (false, eval e X.env) :: starEach es X.env := by rfl) (hpl : (backTo pos (starEach es X.env)).any (·.1) = false := by rfl) : FE X W (.Call (.Name x p) (e :: es) [] pos) (eB g ms) := by
  obtain ⟨rr, h1, h2⟩ := ho
  exact PE.imp (pe_callB h1 hg hm hv ha hn hdb he hpl) fun σ H Q q => sim_eB h2 q
theorem fe_callT (ho : BiF X (.type T) g) (hg : Gl X x) (hm : X.mg x = none) (hv : bootBuiltins x = some (.type T)) (ha : FA X W (e :: es) ms) (hn : x ≠ "__name__" := by decide) (hdb : (x == ("__debug__" : Str)) = false := by decide)
    (he : starEach (e :: es) X.env = (false, eval e X.env) :: starEach es X.env := by rfl) (hpl : (backTo pos (starEach es X.env)).any (·.1) = false := by rfl) : FE X W (.Call (.Name x p) (e :: es) [] pos) (eB g ms) := by
  obtain ⟨rr, h1, h2⟩ := ho
  exact PE.imp (pe_callTy h1 hg hm hv ha hn hdb he hpl) fun σ H Q q => sim_eB h2 q
theorem fn_callB {g : List D → Sto → Res (List D)} (ho : BiN X (.builtin id) g) (hg : Gl X x) (hm : X.mg x = none) (hv : bootBuiltins x = some (.builtin id)) (ha : FA X W (e :: es) ms) (hn : x ≠ "__name__" := by decide) (hdb : (x == ("__debug__" : Str)) = false := by decide)
    (he : starEach (e :: es) X.env = (false, eval e X.env) :: starEach es X.env := by rfl) (hpl : (backTo pos (starEach es X.env)).any (·.1) = false := by rfl) : FN X W (.Call (.Name x p) (e :: es) [] pos) (nB g ms) := by
  obtain ⟨rr, h1, h2⟩ := ho
  exact PE.imp (pe_callB h1 hg hm hv ha hn hdb he hpl) fun σ H Q q => sim_nB h2 q
theorem fn_callT {g : List D → Sto → Res (List D)} (ho : BiN X (.type T) g) (hg : Gl X x) (hm : X.mg x = none) (hv : bootBuiltins x = some (.type T)) (ha : FA X W (e :: es) ms) (hn : x ≠ "__name__" := by decide) (hdb : (x == ("__debug__" : Str)) = false := by decide)
    (he : starEach (e :: es) X.env = (false, eval e X.env) :: starEach es X.env := by rfl) (hpl : (backTo pos (starEach es X.env)).any (·.1) = false := by rfl) : FN X W (.Call (.Name x p) (e :: es) [] pos) (nB g ms) := by
  obtain ⟨rr, h1, h2⟩ := ho
  exact PE.imp (pe_callTy h1 hg hm hv ha hn hdb he hpl) fun σ H Q q => sim_nB h2 q
theorem CallR.or {f : Value} {r r' : List V → Hp → VK → Prop} (h : CallR X f r) (h' : CallR X f r') : CallR X f (fun xs H Q => r xs H Q ∨ r' xs H Q) := by
  intro pins s σ H xs us Q I rs q
  rcases q with q | q
  · exact h pins s σ H xs us Q I rs q
  · exact h' pins s σ H xs us Q I rs q

/-! ### len, tuple, list, abs, min, max, int, str, all, any -/
theorem vds1 {K H r} {d : D} {xs : List V} (h : VDs K H r [d] xs) : ∃ x, xs = [x] ∧ VD K H r d x := by
  obtain ⟨x, t, rfl, h1, h2⟩ := h
  cases h2
  exact ⟨x, rfl, h1⟩
theorem vds2 {K H r} {d e : D} {xs : List V} (h : VDs K H r [d, e] xs) : ∃ x y, xs = [x, y] ∧ VD K H r d x ∧ VD K H r e y := by
  obtain ⟨x, t, rfl, h1, y, u, rfl, h2, h3⟩ := h
  cases h3
  exact ⟨x, y, rfl, h1, h2⟩
def lenB : List D → Sto → Res D
  | [d], st => match seqD d st with
    | some ds => .ok (.int (ds.length : Nat)) st
    | none => match dicD d st with
      | some kvs => .ok (.int (kvs.length : Nat)) st
      | none => match d with
        | .str z => if z.length ≤ sizeLine then .ok (.int (z.length : Nat)) st else .bad
        | _ => .bad
  | _, _ => .bad
theorem bi_len : BiF X (.builtin "len") lenB := ⟨_, CallR.or call_len_seq (CallR.or call_len_str call_lenD), fun E H r st ds xs Q s v h => by
  match ds, v, h with
  | [], _, h => exact h.elim
  | _ :: _ :: _, _, h => exact h.elim
  | [d], v, h =>
    obtain ⟨x, rfl, w⟩ := vds1 v
    unfold lenB at h
    cases q : seqD d st with
    | some es =>
      simp only [q] at h
      obtain ⟨a, ys, rfl, h1, h2⟩ := seqD_v s q w
      exact .inl ⟨a, ys, rfl, h2, by rw [← h1.len]; exact RES.ok h s rfl⟩
    | none =>
      simp only [q] at h
      cases q2 : dicD d st with
      | some kvs =>
        simp only [q2] at h
        obtain ⟨a, kxs, rfl, h1, h2⟩ := dicD_v s q2 w
        exact .inr (.inr ⟨a, kxs, rfl, h2, by rw [← paired_len h1]; exact RES.ok h s rfl⟩)
      | none =>
        simp only [q2] at h
        cases d with
        | str z =>
          cases w
          by_cases hl : z.length ≤ sizeLine
          · simp only [if_pos hl] at h
            exact .inr (.inl ⟨z, rfl, hl, RES.ok h s rfl⟩)
          · simp only [if_neg hl] at h; exact h.elim
        | _ => exact h.elim⟩
def tupB : List D → Sto → Res D
  | [d], st => match d with
    | .tup ds => .ok (.tup ds) st
    | _ => match lstD d st with
      | some ds => .ok (.tup ds) st
      | none => .bad
  | _, _ => .bad
theorem bi_tuple : BiF X (.type "tuple") tupB := ⟨_, call_tupZ, fun E H r st ds xs Q s v h => by
  match ds, v, h with
  | [], _, h => exact h.elim
  | _ :: _ :: _, _, h => exact h.elim
  | [d], v, h =>
    obtain ⟨x, rfl, w⟩ := vds1 v
    by_cases ht : ∃ es, d = .tup es
    · obtain ⟨es, rfl⟩ := ht
      obtain ⟨a, ys, rfl, h1, h2⟩ := id w
      exact ⟨a, ys, rfl, .inr ⟨h1.sq, RES.ok h s w⟩⟩
    · have h' : RES X.K X.mg (RV X.K) E H r (match lstD d st with
        | some ds => .ok (.tup ds) st
        | none => .bad) Q := by
        revert h
        cases d <;> first | exact fun h => h | exact absurd ⟨_, rfl⟩ ht
      cases q : lstD d st with
      | none => simp only [q] at h'; exact h'.elim
      | some es =>
        simp only [q] at h'
        obtain ⟨a, ys, rfl, h1, h2⟩ := lstD_v s q w
        refine ⟨a, ys, rfl, .inl ⟨h2, fun p o ho hp => ?_⟩⟩
        exact RES.ok' h' (Ext.fresh hp) (s.fresh hp) ⟨p, ys, rfl, .inl ⟨s.notin hp, o, ho, upd_same⟩, h1.ext (Ext.fresh hp)⟩⟩
def lstB : List D → Sto → Res (List D)
  | [d], st => match seqD d st with
    | some ds => .ok ds st
    | none => .bad
  | _, _ => .bad
theorem bi_list : BiN X (.type "list") lstB := ⟨_, call_list_of, fun E H r st ds xs Q s v h => by
  match ds, v, h with
  | [], _, h => exact h.elim
  | _ :: _ :: _, _, h => exact h.elim
  | [d], v, h =>
    obtain ⟨x, rfl, w⟩ := vds1 v
    unfold lstB at h
    cases q : seqD d st with
    | none => simp only [q] at h; exact h.elim
    | some es =>
      simp only [q] at h
      obtain ⟨a, ys, rfl, h1, h2⟩ := seqD_v s q w
      exact ⟨a, ys, rfl, h2, fun l hl => RES.ok h s h1 l hl⟩⟩
def absB : List D → Sto → Res D
  | [.int i], st => .ok (.int (if i < 0 then -i else i)) st
  | _, _ => .bad
theorem bi_abs : BiF X (.builtin "abs") absB := ⟨_, call_abs, fun E H r st ds xs Q s v h => by
  unfold absB at h
  split at h
  · obtain ⟨x, rfl, w⟩ := vds1 v
    cases w
    exact ⟨_, rfl, RES.ok h s rfl⟩
  · exact h.elim⟩
/-- the ints of a list -/
def intsD : List D → Option (List Int)
  | [] => some []
  | .int i :: r => match intsD r with
    | some ns => some (i :: ns)
    | none => none
  | _ :: _ => none
theorem intsD_eq : ∀ {ds : List D} {ns : List Int}, intsD ds = some ns → ds = ns.map .int
  | [], ns, h => by cases h; rfl
  | d :: ds, ns, h => by
    cases d with
    | int i =>
      unfold intsD at h
      cases q : intsD ds with
      | none => rw [q] at h; cases h
      | some ms => rw [q] at h; cases h; rw [intsD_eq q]; rfl
    | _ => cases h
theorem vds_ints {K H r} : ∀ {ns : List Int} {xs : List V}, VDs K H r (ns.map .int) xs → xs = ns.map V.int
  | [], _, h => h
  | n :: ns, _, h => by
    obtain ⟨x, t, rfl, h1, h2⟩ := h
    cases h1
    rw [vds_ints h2]; rfl
def maxI : List Int → Int
  | [] => 0
  | [i] => i
  | i :: r => let m := maxI r; if m ≤ i then i else m
def minI : List Int → Int
  | [] => 0
  | [i] => i
  | i :: r => let m := minI r; if i ≤ m then i else m
theorem maxI_eq : ∀ {ns : List Int} {m : Int}, ns ≠ [] → m ∈ ns → (∀ y ∈ ns, y ≤ m) → maxI ns = m
  | [], _, h, _, _ => absurd rfl h
  | [i], m, _, h1, _ => by simp at h1; exact h1.symm
  | i :: j :: r, m, _, h1, h2 => by
    have key : maxI (i :: j :: r) = if maxI (j :: r) ≤ i then i else maxI (j :: r) := rfl
    have mem : ∀ (l : List Int), l ≠ [] → maxI l ∈ l ∧ ∀ y ∈ l, y ≤ maxI l := by
      intro l
      induction l with
      | nil => exact fun h => absurd rfl h
      | cons a l ih =>
        intro _
        cases l with
        | nil => exact ⟨by simp [maxI], by simp [maxI]⟩
        | cons b l =>
          obtain ⟨k1, k2⟩ := ih (by simp)
          have key : maxI (a :: b :: l) = if maxI (b :: l) ≤ a then a else maxI (b :: l) := rfl
          rw [key]
          split
          · rename_i hc
            refine ⟨List.mem_cons_self, fun y hy => ?_⟩
            rcases List.mem_cons.mp hy with rfl | hy
            · exact Int.le_refl _
            · exact Int.le_trans (k2 y hy) hc
          · rename_i hc
            refine ⟨List.mem_cons_of_mem _ k1, fun y hy => ?_⟩
            rcases List.mem_cons.mp hy with rfl | hy
            · omega
            · exact k2 y hy
    obtain ⟨k1, k2⟩ := mem (i :: j :: r) (by simp)
    exact Int.le_antisymm (h2 _ k1) (k2 _ h1)
theorem minI_eq {ns : List Int} {m : Int} (h0 : ns ≠ []) (h1 : m ∈ ns) (h2 : ∀ y ∈ ns, m ≤ y) : minI ns = m := by
  have mem : ∀ (l : List Int), l ≠ [] → minI l ∈ l ∧ ∀ y ∈ l, minI l ≤ y := by
    intro l
    induction l with
    | nil => exact fun h => absurd rfl h
    | cons a l ih =>
      intro _
      cases l with
      | nil => exact ⟨by simp [minI], by simp [minI]⟩
      | cons b l =>
        obtain ⟨k1, k2⟩ := ih (by simp)
        have key : minI (a :: b :: l) = if a ≤ minI (b :: l) then a else minI (b :: l) := rfl
        rw [key]
        split
        · rename_i hc
          refine ⟨List.mem_cons_self, fun y hy => ?_⟩
          rcases List.mem_cons.mp hy with rfl | hy
          · exact Int.le_refl _
          · exact Int.le_trans hc (k2 y hy)
        · rename_i hc
          refine ⟨List.mem_cons_of_mem _ k1, fun y hy => ?_⟩
          rcases List.mem_cons.mp hy with rfl | hy
          · omega
          · exact k2 y hy
  obtain ⟨k1, k2⟩ := mem ns h0
  exact Int.le_antisymm (k2 _ h1) (h2 _ k1)
def maxB : List D → Sto → Res D
  | [.int i, .int j], st => .ok (.int (if j > i then j else i)) st
  | [d], st => match lstD d st with
    | some ds => match intsD ds with
      | some (i :: r) => .ok (.int (maxI (i :: r))) st
      | _ => .bad
    | none => .bad
  | _, _ => .bad
theorem bi_max (hc : X.calm = true) : BiF X (.builtin "max") maxB := ⟨_, CallR.or (call_max2 hc) (cr_max hc), fun E H r st ds xs Q s v h => by
  unfold maxB at h
  split at h
  · obtain ⟨x, y, rfl, w, w'⟩ := vds2 v
    cases w; cases w'
    exact .inl ⟨_, _, rfl, RES.ok h s rfl⟩
  · rename_i d
    obtain ⟨x, rfl, w⟩ := vds1 v
    cases q : lstD d st with
    | none => simp only [q] at h; exact h.elim
    | some es =>
      simp only [q] at h
      split at h
      · rename_i i rr q2
        obtain ⟨a, ys, rfl, h1, h2⟩ := lstD_v s q w
        rw [intsD_eq q2] at h1
        rw [vds_ints h1] at h2
        refine .inr ⟨a, _, rfl, h2, by simp, fun m m1 m2 => ?_⟩
        rw [← maxI_eq (by simp) m1 m2]
        exact RES.ok h s rfl
      · exact h.elim
  · exact h.elim⟩
def minB : List D → Sto → Res D
  | [.int i, .int j], st => .ok (.int (if j < i then j else i)) st
  | [d], st => match lstD d st with
    | some ds => match intsD ds with
      | some (i :: r) => .ok (.int (minI (i :: r))) st
      | _ => .bad
    | none => .bad
  | _, _ => .bad
theorem bi_min (hc : X.calm = true) : BiF X (.builtin "min") minB := ⟨_, CallR.or (call_min2 hc) (cr_min hc), fun E H r st ds xs Q s v h => by
  unfold minB at h
  split at h
  · obtain ⟨x, y, rfl, w, w'⟩ := vds2 v
    cases w; cases w'
    exact .inl ⟨_, _, rfl, RES.ok h s rfl⟩
  · rename_i d
    obtain ⟨x, rfl, w⟩ := vds1 v
    cases q : lstD d st with
    | none => simp only [q] at h; exact h.elim
    | some es =>
      simp only [q] at h
      split at h
      · rename_i i rr q2
        obtain ⟨a, ys, rfl, h1, h2⟩ := lstD_v s q w
        rw [intsD_eq q2] at h1
        rw [vds_ints h1] at h2
        refine .inr ⟨a, _, rfl, h2, by simp, fun m m1 m2 => ?_⟩
        rw [← minI_eq (by simp) m1 m2]
        exact RES.ok h s rfl
      · exact h.elim
  · exact h.elim⟩
def intB : List D → Sto → Res D
  | [.int i], st => .ok (.int i) st
  | [.bl k], st => .ok (.int (if k then 1 else 0)) st
  | [.str a], st => match PySem.intText? a with
    | some n => if a.length ≤ 640 then .ok (.int n) st else .bad
    | none => .bad
  | _, _ => .bad
theorem bi_int : BiF X (.type "int") intB := ⟨_, CallR.or call_int1 call_int_str, fun E H r st ds xs Q s v h => by
  unfold intB at h
  split at h
  · obtain ⟨x, rfl, w⟩ := vds1 v
    cases w
    exact .inl (.inl ⟨_, rfl, RES.ok h s rfl⟩)
  · obtain ⟨x, rfl, w⟩ := vds1 v
    cases w
    exact .inl (.inr ⟨_, rfl, RES.ok h s rfl⟩)
  · rename_i a
    obtain ⟨x, rfl, w⟩ := vds1 v
    cases w
    cases q : PySem.intText? a with
    | none => simp only [q] at h; exact h.elim
    | some n =>
      simp only [q] at h
      by_cases hl : a.length ≤ 640
      · rw [if_pos hl] at h
        exact .inr ⟨a, n, rfl, q, hl, RES.ok h s rfl⟩
      · rw [if_neg hl] at h; exact h.elim
  · exact h.elim⟩
def strB : List D → Sto → Res D
  | [.int i], st => if i.natAbs.log2 < 1920 then .ok (.str (toString i)) st else .bad
  | _, _ => .bad
theorem bi_str : BiF X (.type "str") strB := ⟨_, call_str_int, fun E H r st ds xs Q s v h => by
  unfold strB at h
  split at h
  · rename_i i
    obtain ⟨x, rfl, w⟩ := vds1 v
    cases w
    by_cases hl : i.natAbs.log2 < 1920
    · rw [if_pos hl] at h
      exact ⟨i, rfl, hl, RES.ok h s rfl⟩
    · rw [if_neg hl] at h; exact h.elim
  · exact h.elim⟩
def blsD : List D → Option (List Bool)
  | [] => some []
  | .bl i :: r => match blsD r with
    | some ns => some (i :: ns)
    | none => none
  | _ :: _ => none
theorem blsD_eq : ∀ {ds : List D} {ns : List Bool}, blsD ds = some ns → ds = ns.map .bl
  | [], ns, h => by cases h; rfl
  | d :: ds, ns, h => by
    cases d with
    | bl i =>
      unfold blsD at h
      cases q : blsD ds with
      | none => rw [q] at h; cases h
      | some ms => rw [q] at h; cases h; rw [blsD_eq q]; rfl
    | _ => cases h
theorem vds_bls {K H r} : ∀ {ns : List Bool} {xs : List V}, VDs K H r (ns.map .bl) xs → xs = ns.map V.bl
  | [], _, h => h
  | n :: ns, _, h => by
    obtain ⟨x, t, rfl, h1, h2⟩ := h
    cases h1
    rw [vds_bls h2]; rfl
def allB : List D → Sto → Res D
  | [d], st => match lstD d st with
    | some ds => match blsD ds with
      | some bs => .ok (.bl (bs.all _root_.id)) st
      | none => .bad
    | none => .bad
  | _, _ => .bad
def anyB : List D → Sto → Res D
  | [d], st => match lstD d st with
    | some ds => match blsD ds with
      | some bs => .ok (.bl (bs.any _root_.id)) st
      | none => .bad
    | none => .bad
  | _, _ => .bad
theorem bi_all (hc : X.calm = true) : BiF X (.builtin "all") allB := ⟨_, cr_all hc, fun E H r st ds xs Q s v h => by
  unfold allB at h
  split at h
  · rename_i d
    obtain ⟨x, rfl, w⟩ := vds1 v
    cases q : lstD d st with
    | none => simp only [q] at h; exact h.elim
    | some es =>
      simp only [q] at h
      cases q2 : blsD es with
      | none => simp only [q2] at h; exact h.elim
      | some bs =>
        simp only [q2] at h
        obtain ⟨a, ys, rfl, h1, h2⟩ := lstD_v s q w
        rw [blsD_eq q2] at h1
        rw [vds_bls h1] at h2
        exact ⟨a, bs, rfl, h2, RES.ok h s rfl⟩
  · exact h.elim⟩
theorem bi_any (hc : X.calm = true) : BiF X (.builtin "any") anyB := ⟨_, cr_any hc, fun E H r st ds xs Q s v h => by
  unfold anyB at h
  split at h
  · rename_i d
    obtain ⟨x, rfl, w⟩ := vds1 v
    cases q : lstD d st with
    | none => simp only [q] at h; exact h.elim
    | some es =>
      simp only [q] at h
      cases q2 : blsD es with
      | none => simp only [q2] at h; exact h.elim
      | some bs =>
        simp only [q2] at h
        obtain ⟨a, ys, rfl, h1, h2⟩ := lstD_v s q w
        rw [blsD_eq q2] at h1
        rw [vds_bls h1] at h2
        exact ⟨a, bs, rfl, h2, RES.ok h s rfl⟩
  · exact h.elim⟩
end
end FL

namespace FL
open PySem PySem.Spec PyProof.Rows L2
variable [TabCtx]

/-! ### isinstance(x, T), T a built-in type -/
inductive Ty where
  | non | bl | int | str | tup | lst | dic
  deriving DecidableEq
def Ty.nm : Ty → String
  | .non => "NoneType"
  | .bl => "bool"
  | .int => "int"
  | .str => "str"
  | .tup => "tuple"
  | .lst => "list"
  | .dic => "dict"
def Ty.le : Ty → Ty → Bool
  | .non, .non => true
  | .bl, .bl => true
  | .bl, .int => true
  | .int, .int => true
  | .str, .str => true
  | .tup, .tup => true
  | .lst, .lst => true
  | .dic, .dic => true
  | _, _ => false
theorem ty_kit (a b : Ty) (hb : b ≠ .non) : kitB a.nm b.nm = some (a.le b) := by
  cases b <;> first | exact absurd rfl hb | skip
  all_goals cases a <;> decide +kernel
def tyD : D → Sto → Option Ty
  | .non, _ => some .non
  | .bl _, _ => some .bl
  | .int _, _ => some .int
  | .str _, _ => some .str
  | .tup _, _ => some .tup
  | .lst _, _ => some .lst
  | .scr _, _ => some .lst
  | .loc l, st => match st[l]? with
    | some (.lst _) => some .lst
    | some (.dic _) => some .dic
    | none => none
  | .exc _ _ _, _ => none
theorem tyD_v {K H r st} {d : D} {x : V} {t : Ty} (s : SR K H r st) (h : tyD d st = some t) (v : VD K H r d x) : TyX K H x (.type t.nm) := by
  cases d with
  | non => cases h; cases v; exact .base .non
  | bl b => cases h; cases v; exact .base (.bl _)
  | int b => cases h; cases v; exact .base (.int _)
  | str b => cases h; cases v; exact .base (.str _)
  | tup ds =>
    cases h
    obtain ⟨a, xs, rfl, h1, h2⟩ := v
    rcases h1 with ⟨_, o, _, h1⟩ | ⟨o, its, n, h1, h3, _⟩
    · exact .fTuple h1
    · exact .kTuple h1 h3
  | lst ds =>
    cases h
    obtain ⟨a, xs, rfl, h1, h2⟩ := v
    exact .base (.lst h1.2)
  | exc _ _ _ => cases h
  | scr ns =>
    cases h
    obtain ⟨a, rfl, h1⟩ := v
    rcases h1 with ⟨_, h1 | ⟨o, h1⟩⟩ | ⟨o, its, n, h1, h3, _⟩
    · exact .base (.lst h1)
    · exact .base (.frz h1)
    · exact .kList h1 h3
  | loc l =>
    obtain ⟨a, rfl, h1⟩ := v
    unfold tyD at h
    cases q : st[l]? with
    | none => simp only [q] at h; cases h
    | some o =>
      obtain ⟨b, ho, e1, e2, e3⟩ := s.obj l o q
      rw [h1] at e1; cases e1
      cases o with
      | lst ds =>
        simp only [q] at h; cases h
        obtain ⟨xs, rfl, e3⟩ := e3
        exact .base (.lst e2)
      | dic kvs =>
        simp only [q] at h; cases h
        obtain ⟨xs, rfl, e3⟩ := e3
        exact .base (.dK e2)
def eIsi (T : Ty) (m : EM) : EM := fun env st => (m env st).bind fun d st1 => match tyD d st1 with
  | some t => .ok (.bl (t.le T)) st1
  | none => .bad
section
variable {X : Cx} {W : WX} {e a b c o : Expr} {es : List Expr} {m ma mb mc mo : EM} {ms : Env → Sto → Res (List D)} {x tx : Str} {p p2 pos apos cpos : Pos} {id T : String} {g : List D → Sto → Res D}
theorem fe_isi {T : Ty} (hT : T ≠ .non) (hg : Gl X "isinstance") (hm : X.mg "isinstance" = none) (hgT : Gl X tx) (hmT : X.mg tx = none) (hv : bootBuiltins tx = some (.type T.nm)) (ha : FE X W a ma)
    (hn : tx ≠ "__name__" := by decide) (hd : (tx == ("__debug__" : Str)) = false := by decide)
    (he : starEach [a, .Name tx p2] X.env = (false, eval a X.env) :: starEach [.Name tx p2] X.env := by rfl) (he2 : starEach [.Name tx p2] X.env = (false, eval (.Name tx p2) X.env) :: starEach [] X.env := by rfl) (hpl : (backTo pos (starEach [.Name tx p2] X.env)).any (·.1) = false := by rfl) :
    FE X W (.Call (.Name "isinstance" p) [a, .Name tx p2] [] pos) (eIsi T ma) :=
  PE.imp (pe_callB call_isi hg hm boot_isinstance (pa_cons ha (pa_cons (pe_bltn hgT hmT hv (v := .ty T.nm) rfl hn hd) pa_nil he2) he) (by decide) (by decide) he hpl) fun σ H Q ⟨r, env, st, hE, hS, h⟩ =>
    ⟨r, env, st, hE, hS, RES.seq h fun d st1 y H1 r1 e1 s1 v1 h1 => by
      cases q : tyD d st1 with
      | none => simp only [q] at h1; exact h1.elim
      | some t =>
        simp only [q] at h1
        exact ⟨y, .ty T.nm, .type t.nm, .type T.nm, _, rfl, .ty _, tyD_v s1 q v1, kit_ty (ty_kit t T hT), RES.ok h1 s1 rfl⟩⟩

/-! ### methods of built-ins -/
/-- a method's call of the receiver, the arguments -/
def MeF (X : Cx) (id : String) (T : String) (g : D → List D → Sto → Res D) (ok : D → Sto → Bool) : Prop :=
  (∀ {H r st d x}, SR X.K H r st → VD X.K H r d x → ok d st = true → tyV X.K T x H) ∧
  ∃ rr : V → List V → Hp → VK → Prop, MtR X id rr ∧ ∀ (E : XK) H r st d ds x xs Q, SR X.K H r st → VD X.K H r d x → VDs X.K H r ds xs → RES X.K X.mg (RV X.K) E H r (g d ds st) Q → rr x xs H Q
def eMt (ok : D → Sto → Bool) (g : D → List D → Sto → Res D) (mo : EM) (ms : Env → Sto → Res (List D)) : EM := fun env st => (mo env st).bind fun d st1 => if ok d st1 = true then (ms env st1).bind fun ds st2 => g d ds st2 else .bad
variable {name : Str} {ok : D → Sto → Bool} {gm : D → List D → Sto → Res D}
theorem fe_meth (ho : MeF X id T gm ok) (pa : PlainAttrs T) (slot : Slot T name id) (hty : typeOf (.builtin id) = pure (.type "method_descriptor")) (hr : FE X W o mo) (ha : FA X W (e :: es) ms)
    (hbase : attributeBase o name X.env (eval o X.env) = eval o X.env := by rfl)
    (hfew : ((backTo cpos (starEach (e :: es) X.env)).all (fun x => !x.1) && (backToKw cpos (keywordEach [] X.env)).all (fun x => x.1.isSome)
      && decide ((e :: es).length + ([] : List Keyword).length + (if ([] : List Keyword).isEmpty then 0 else 1) < 30)) = true := by rfl)
    (hline : (apos.endLine == cpos.line) = true := by rfl) (hs : starEach (e :: es) X.env = (false, eval e X.env) :: starEach es X.env := by rfl) (hplain : (backTo cpos (starEach es X.env)).any (·.1) = false := by rfl) :
    FE X W (.Call (.Attribute o name apos) (e :: es) [] cpos) (eMt ok gm mo ms) := by
  obtain ⟨h0, rr, h1, h2⟩ := ho
  exact PE.imp (pe_bm pa slot hty h1 hr ha hbase hfew hline hs hplain) fun σ H Q ⟨r, env, st, hE, hS, h⟩ => ⟨r, env, st, hE, hS, RES.seq h fun d st1 x H1 r1 e1 s1 v1 q1 => by
    by_cases hok : ok d st1 = true
    · rw [if_pos hok] at q1
      exact ⟨h0 s1 v1 hok, r1, env, st1, hE.ext e1, s1, RES.seq q1 fun ds st2 xs H2 r2 e2 s2 v2 q2 => h2 _ H2 r2 st2 d ds x xs Q s2 (v1.ext e2) v2 q2⟩
    · rw [if_neg hok] at q1; exact q1.elim⟩
theorem fe_meth0 (ho : MeF X id T gm ok) (pa : PlainAttrs T) (slot : Slot T name id) (hty : typeOf (.builtin id) = pure (.type "method_descriptor")) (hr : FE X W o mo)
    (hbase : attributeBase o name X.env (eval o X.env) = eval o X.env := by rfl) (hline : (apos.endLine == cpos.line) = true := by rfl) :
    FE X W (.Call (.Attribute o name apos) [] [] cpos) (eMt ok gm mo aNil) := by
  obtain ⟨h0, rr, h1, h2⟩ := ho
  exact PE.imp (pe_bm0 pa slot hty h1 hr hbase hline) fun σ H Q ⟨r, env, st, hE, hS, h⟩ => ⟨r, env, st, hE, hS, RES.seq h fun d st1 x H1 r1 e1 s1 v1 q1 => by
    by_cases hok : ok d st1 = true
    · rw [if_pos hok] at q1
      exact ⟨h0 s1 v1 hok, h2 (WE W σ) H1 r1 st1 d [] x [] Q s1 v1 rfl q1⟩
    · rw [if_neg hok] at q1; exact q1.elim⟩
/-- a list, of the store -/
def isLoc : D → Sto → Bool
  | .loc l, st => match st[l]? with
    | some (.lst _) => true
    | _ => false
  | _, _ => false
def isLst (d : D) (st : Sto) : Bool := (lstD d st).isSome
theorem isLst_ty {K H r st} {d : D} {x : V} (s : SR K H r st) (v : VD K H r d x) (h : isLst d st = true) : tyV K "list" x H := by
  obtain ⟨ds, q⟩ := Option.isSome_iff_exists.mp h
  obtain ⟨a, xs, rfl, h1, h2⟩ := lstD_v s q v
  exact .inl ⟨rfl, xs, h2⟩
theorem isLoc_v {K H r st} {d : D} {x : V} (s : SR K H r st) (v : VD K H r d x) {l : Nat} {ds : List D} (e : d = .loc l) (q : st[l]? = some (.lst ds)) : ∃ a xs, x = .ref a ∧ r.ad[l]? = some a ∧ H a = some (.lst xs) ∧ VDs K H r ds xs := by
  subst e
  obtain ⟨a, rfl, h1⟩ := v
  obtain ⟨b, ho, e1, e2, xs, rfl, e3⟩ := s.obj l _ q
  rw [h1] at e1; cases e1
  exact ⟨a, xs, rfl, h1, e2, e3⟩
def apD : D → List D → Sto → Res D
  | .loc l, [d], st => match st[l]? with
    | some (.lst ds) => if ds.length < 1000000 then .ok .non (st.set l (.lst (ds ++ [d]))) else .bad
    | _ => .bad
  | _, _, _ => .bad
theorem me_append : MeF X "list.append" "list" apD isLst := ⟨fun s v h => isLst_ty s v h, rAppend, mt_append, fun E H r st d ds x xs Q s v vs h => by
  unfold apD at h
  split at h
  · rename_i l d
    obtain ⟨y, rfl, w⟩ := vds1 vs
    cases q : st[l]? with
    | none => simp only [q] at h; exact h.elim
    | some o =>
      cases o with
      | dic _ => simp only [q] at h; exact h.elim
      | lst es =>
        simp only [q] at h
        by_cases hl : es.length < 1000000
        · rw [if_pos hl] at h
          obtain ⟨a, ys, rfl, h1, h2, h3⟩ := isLoc_v s v rfl q
          refine ⟨a, ys, y, rfl, rfl, h2, by rw [← h3.len]; exact Nat.lt_of_lt_of_le hl (big_ok (Nat.le_refl _)), ?_⟩
          exact RES.ok' h (Ext.set h1) (s.set h1 ⟨_, rfl, h3.app (VDs.one w)⟩) rfl
        · rw [if_neg hl] at h; exact h.elim
  · exact h.elim⟩
def popD : D → List D → Sto → Res D
  | .loc l, [], st => match st[l]? with
    | some (.lst ds) => match ds[ds.length - 1]? with
      | some d => .ok d (st.set l (.lst ds.dropLast))
      | none => .bad
    | _ => .bad
  | _, _, _ => .bad
theorem VDs.dropLast {K H r} {ds : List D} {xs : List V} (h : VDs K H r ds xs) : VDs K H r ds.dropLast xs.dropLast := by
  rw [List.dropLast_eq_take, List.dropLast_eq_take, h.len]
  exact h.take _
theorem me_pop : MeF X "list.pop" "list" popD isLst := ⟨fun s v h => isLst_ty s v h, rPop, mt_pop, fun E H r st d ds x xs Q s v vs h => by
  unfold popD at h
  split at h
  · rename_i l
    cases vs
    cases q : st[l]? with
    | none => simp only [q] at h; exact h.elim
    | some o =>
      cases o with
      | dic _ => simp only [q] at h; exact h.elim
      | lst es =>
        simp only [q] at h
        obtain ⟨a, ys, rfl, h1, h2, h3⟩ := isLoc_v s v rfl q
        cases q2 : es[es.length - 1]? with
        | none => simp only [q2] at h; exact h.elim
        | some z =>
          simp only [q2] at h
          obtain ⟨y, h4, h5⟩ := h3.get q2
          refine ⟨a, ys, y, rfl, rfl, h2, by rw [← h3.len]; exact h4, ?_⟩
          have e := Ext.set (H := H) (r := r) (o := .lst ys.dropLast) h1
          exact RES.ok' h e (s.set h1 ⟨_, rfl, h3.dropLast⟩) (h5.ext e)
  · exact h.elim⟩
theorem VDs.erase {K H r} : ∀ {ds : List D} {xs : List V} (i : Nat), VDs K H r ds xs → VDs K H r (ds.eraseIdx i) (xs.eraseIdx i)
  | [], _, i, h => by cases h; simp [VDs]
  | d' :: ds, _, 0, h => by
    obtain ⟨y, t, rfl, h2, h3⟩ := h
    exact h3
  | d' :: ds, _, i + 1, h => by
    obtain ⟨y, t, rfl, h2, h3⟩ := h
    exact ⟨y, t.eraseIdx i, rfl, h2, VDs.erase i h3⟩
def popAtD : D → List D → Sto → Res D
  | .loc l, [.int i], st => match st[l]? with
    | some (.lst ds) => if 0 ≤ i ∧ i < 2 ^ 62 then (match ds[i.toNat]? with
      | some d => .ok d (st.set l (.lst (ds.eraseIdx i.toNat)))
      | none => .bad) else .bad
    | _ => .bad
  | _, _, _ => .bad
theorem me_popAt : MeF X "list.pop" "list" popAtD isLst := ⟨fun s v h => isLst_ty s v h, rPopAt, mt_popAt, fun E H r st d ds x xs Q s v vs h => by
  unfold popAtD at h
  split at h
  · rename_i l i
    obtain ⟨y, rfl, w⟩ := vds1 vs
    cases w
    cases q : st[l]? with
    | none => simp only [q] at h; exact h.elim
    | some o =>
      cases o with
      | dic _ => simp only [q] at h; exact h.elim
      | lst es =>
        simp only [q] at h
        obtain ⟨a, ys, rfl, h1, h2, h3⟩ := isLoc_v s v rfl q
        by_cases hi : 0 ≤ i ∧ i < 2 ^ 62
        · rw [if_pos hi] at h
          obtain ⟨i0, i1⟩ := hi
          cases q2 : es[i.toNat]? with
          | none => simp only [q2] at h; exact h.elim
          | some z =>
            simp only [q2] at h
            obtain ⟨y, h4, h5⟩ := h3.get q2
            have hlt := (List.getElem?_eq_some_iff.mp h4).1
            refine ⟨a, ys, i, i.toNat, y, rfl, rfl, h2, by omega, by omega, seqIndex_of i0 (by omega), h4, ?_⟩
            have e := Ext.set (H := H) (r := r) (o := .lst (ys.eraseIdx i.toNat)) h1
            exact RES.ok' h e (s.set h1 ⟨_, rfl, h3.erase _⟩) (h5.ext e)
        · rw [if_neg hi] at h; exact h.elim
  · exact h.elim⟩
def extD : D → List D → Sto → Res D
  | .loc l, [d], st => match st[l]?, madeD d st with
    | some (.lst ds), some es => if ds.length + es.length < 1000000 then .ok .non (st.set l (.lst (ds ++ es))) else .bad
    | _, _ => .bad
  | _, _, _ => .bad
theorem me_extend : MeF X "list.extend" "list" extD isLst := ⟨fun s v h => isLst_ty s v h, rExtend, mt_extend, fun E H r st d ds x xs Q s v vs h => by
  unfold extD at h
  split at h
  · rename_i l d
    obtain ⟨y, rfl, w⟩ := vds1 vs
    split at h
    · rename_i es zs q q2
      by_cases hl : es.length + zs.length < 1000000
      · rw [if_pos hl] at h
        obtain ⟨a, ys, rfl, h1, h2, h3⟩ := isLoc_v s v rfl q
        obtain ⟨b, ws, rfl, h4, h5⟩ := madeD_v s q2 w
        refine ⟨a, b, ys, ws, rfl, rfl, h2, h5, by rw [← h3.len, ← h4.len]; exact big_ok (Nat.le_of_lt hl), ?_⟩
        exact RES.ok' h (Ext.set h1) (s.set h1 ⟨_, rfl, h3.app h4⟩) rfl
      · rw [if_neg hl] at h; exact h.elim
    · exact h.elim
  · exact h.elim⟩
def insD : D → List D → Sto → Res D
  | .loc l, [.int i, d], st => match st[l]? with
    | some (.lst ds) => if ds.length < 1000000 ∧ 0 ≤ i ∧ i < 2 ^ 62 then .ok .non (st.set l (.lst (ds.take i.toNat ++ [d] ++ ds.drop i.toNat))) else .bad
    | _ => .bad
  | _, _, _ => .bad
theorem me_insert : MeF X "list.insert" "list" insD isLst := ⟨fun s v h => isLst_ty s v h, _, mt_insert, fun E H r st d ds x xs Q s v vs h => by
  unfold insD at h
  split at h
  · rename_i l i d
    obtain ⟨y, z, rfl, w, w2⟩ := vds2 vs
    cases w
    cases q : st[l]? with
    | none => simp only [q] at h; exact h.elim
    | some o =>
      cases o with
      | dic _ => simp only [q] at h; exact h.elim
      | lst es =>
        simp only [q] at h
        by_cases hl : es.length < 1000000 ∧ 0 ≤ i ∧ i < 2 ^ 62
        · rw [if_pos hl] at h
          obtain ⟨l1, l2, l3⟩ := hl
          obtain ⟨a, ys, rfl, h1, h2, h3⟩ := isLoc_v s v rfl q
          refine ⟨a, ys, i, z, rfl, rfl, h2, by rw [← h3.len]; exact Nat.lt_of_lt_of_le l1 (big_ok (Nat.le_refl _)), l2, by omega, ?_⟩
          exact RES.ok' h (Ext.set h1) (s.set h1 ⟨_, rfl, ((h3.take _).app (VDs.one w2)).app (h3.drop _)⟩) rfl
        · rw [if_neg hl] at h; exact h.elim
  · exact h.elim⟩

/-! ### dicts -/
/-- {} -/
def eDNew : EM := fun _ st => .ok (.loc st.length) (st ++ [.dic []])
theorem fe_dnew : FE X W (.Dict [] [] pos) eDNew := PE.imp pe_dnewK fun σ H Q ⟨r, env, st, hE, hS, h⟩ p hp =>
  RES.ok' h (Ext.grown hS hp) (hS.grown hp ⟨[], rfl, .nil⟩) ⟨p, rfl, by rw [← hS.len]; simp⟩
/-- d.get(k, x) -/
def eGet2 (mo ma mb : EM) : EM := fun env st => (mo env st).bind fun d st1 => if (dicD d st1).isSome = true then (ma env st1).bind fun k st2 => (mb env st2).bind fun z st3 => match dicD d st3, keyD k with
  | some kvs, some key => .ok ((dget kvs key).getD z) st3
  | _, _ => .bad else .bad
theorem fe_get2 (hu : X.A.units + 1 < cLine) (ho : FE X W o mo) (ha : FE X W a ma) (hb : FE X W b mb) (M : M2 X o "get" apos a b cpos) : FE X W (.Call (.Attribute o "get" apos) [a, b] [] cpos) (eGet2 mo ma mb) :=
  PE.imp (pe_dget2 hu ho ha hb M) fun σ H Q ⟨r, env, st, hE, hS, h⟩ => ⟨r, env, st, hE, hS, RES.seq h fun d st1 x H1 r1 e1 s1 v1 q1 => by
    cases q : dicD d st1 with
    | none => simp [q] at q1; exact q1.elim
    | some kvs0 =>
      simp only [q, Option.isSome_some, if_true] at q1
      obtain ⟨a, kxs, rfl, p1, p2⟩ := dicD_v s1 q v1
      refine ⟨a, rfl, .inl ⟨_, .inl p2⟩, r1, env, st1, hE.ext e1, s1, RES.seq q1 fun k st2 y H2 r2 e2 s2 v2 q2 => ?_⟩
      refine ⟨r2, env, st2, (hE.ext e1).ext e2, s2, RES.seq q2 fun z st3 w H3 r3 e3 s3 v3 q3 => ?_⟩
      cases c1 : dicD d st3 with
      | none => simp only [c1] at q3; exact q3.elim
      | some kvs =>
        cases c2 : keyD k with
        | none => simp only [c1, c2] at q3; exact q3.elim
        | some key =>
          simp only [c1, c2] at q3
          obtain ⟨a', kys, ea, p3, p4⟩ := dicD_v s3 c1 ((v1.ext e2).ext e3)
          cases ea
          refine ⟨valV kys key, ?_, ?_⟩
          · rw [keyD_v c2 v2]; exact DGet.k p4
          · have h3 := val_of (k := key) p3
            cases c3 : dget kvs key with
            | none => rw [c3] at h3 q3; rw [show valV kys key = none from h3]; exact RES.ok q3 s3 v3
            | some u => rw [c3] at h3 q3; obtain ⟨w', h4, h5⟩ := h3; rw [h4]; exact RES.ok q3 s3 h5⟩

/-! ### sorted -/
/-- ascending -/
def insI (i : Int) : List Int → List Int
  | [] => [i]
  | j :: r => if i ≤ j then i :: j :: r else j :: insI i r
def srtI : List Int → List Int
  | [] => []
  | i :: r => insI i (srtI r)
theorem insI_perm (i : Int) : ∀ l : List Int, (insI i l).Perm (i :: l)
  | [] => .refl _
  | j :: r => by
    unfold insI
    split
    · exact .refl _
    · exact ((insI_perm i r).cons j).trans (.swap i j r)
theorem srtI_perm : ∀ l : List Int, (srtI l).Perm l
  | [] => .refl _
  | i :: r => (insI_perm i _).trans ((srtI_perm r).cons i)
theorem insI_mono {i : Int} : ∀ {l : List Int}, l.Pairwise (· ≤ ·) → (insI i l).Pairwise (· ≤ ·)
  | [], _ => by simp [insI]
  | j :: r, h => by
    unfold insI
    split
    · rename_i hc
      refine List.pairwise_cons.mpr ⟨fun b hb => ?_, h⟩
      rcases List.mem_cons.mp hb with rfl | hb
      · exact hc
      · exact Int.le_trans hc ((List.pairwise_cons.mp h).1 b hb)
    · rename_i hc
      refine List.pairwise_cons.mpr ⟨fun b hb => ?_, insI_mono (List.pairwise_cons.mp h).2⟩
      rcases List.mem_cons.mp ((insI_perm i r).mem_iff.mp hb) with rfl | hb
      · omega
      · exact (List.pairwise_cons.mp h).1 b hb
theorem srtI_mono : ∀ l : List Int, (srtI l).Pairwise (· ≤ ·)
  | [] => .nil
  | i :: r => insI_mono (srtI_mono r)
theorem srtI_eq {l m : List Int} (h : m.Perm l) (hm : m.Pairwise (· ≤ ·)) : m = srtI l :=
  List.Perm.eq_of_pairwise (fun a b _ _ h1 h2 => Int.le_antisymm h1 h2) hm (srtI_mono l) (h.trans (srtI_perm l).symm)
def keysI : List (Key × D) → Option (List Int)
  | [] => some []
  | (.inl i, _) :: r => match keysI r with
    | some ns => some (i :: ns)
    | none => none
  | _ :: _ => none
theorem keysI_eq : ∀ {kvs : List (Key × D)} {ns : List Int}, keysI kvs = some ns → kvs.map (·.1) = ns.map Sum.inl
  | [], ns, h => by cases h; rfl
  | (.inl i, d) :: r, ns, h => by
    unfold keysI at h
    cases q : keysI r with
    | none => rw [q] at h; cases h
    | some ms => rw [q] at h; cases h; rw [List.map_cons, keysI_eq q]; rfl
  | (.inr _, _) :: _, _, h => by cases h
def sortB : List D → Sto → Res (List D)
  | [d], st => match dicD d st with
    | some kvs => match keysI kvs with
      | some ns => if ns.length < 64 then .ok ((srtI ns).map .int) st else .bad
      | none => .bad
    | none => match lstD d st with
      | some ds => match intsD ds with
        | some ns => .ok ((srtI ns).map .int) st
        | none => .bad
      | none => .bad
  | _, _ => .bad
theorem paired_keys {K H r} : ∀ {kvs : List (Key × D)} {kxs : List (Key × V)}, Paired (fun (p : Key × D) (q : Key × V) => p.1 = q.1 ∧ VD K H r p.2 q.2) kvs kxs → kvs.map (·.1) = kxs.map (·.1)
  | _, _, .nil => rfl
  | _, _, .cons h t => by rw [List.map_cons, List.map_cons, h.1, paired_keys t]
theorem bn_sorted (hc : X.calm = true) : BiN X (.builtin "sorted") sortB := ⟨_, CallR.or cr_sortedI (call_sortedDI hc), fun E H r st ds xs Q s v h => by
  unfold sortB at h
  split at h
  · rename_i d
    obtain ⟨x, rfl, w⟩ := vds1 v
    cases q : dicD d st with
    | some kvs =>
      simp only [q] at h
      cases q2 : keysI kvs with
      | none => simp only [q2] at h; exact h.elim
      | some ns =>
        simp only [q2] at h
        by_cases hl : ns.length < 64
        · rw [if_pos hl] at h
          obtain ⟨a, kxs, rfl, h1, h2⟩ := dicD_v s q w
          refine .inr ⟨a, kxs, ns, rfl, .inl h2, by rw [← paired_keys h1]; exact keysI_eq q2, hl, fun ys p hy hs hp => ?_⟩
          rw [srtI_eq hy hs]
          exact RES.ok h s (VDs.ints _) p hp
        · rw [if_neg hl] at h; exact h.elim
    | none =>
      simp only [q] at h
      cases q2 : lstD d st with
      | none => simp only [q2] at h; exact h.elim
      | some es =>
        simp only [q2] at h
        cases q3 : intsD es with
        | none => simp only [q3] at h; exact h.elim
        | some ns =>
          simp only [q3] at h
          obtain ⟨a, ys, rfl, h1, h2⟩ := lstD_v s q2 w
          rw [intsD_eq q3] at h1
          rw [vds_ints h1] at h2
          refine .inl ⟨a, ns, rfl, h2, fun ns' p hy hs hp => ?_⟩
          rw [srtI_eq hy hs]
          exact RES.ok h s (VDs.ints _) p hp
  · exact h.elim⟩
end
end FL

namespace FL
open PySem PySem.Spec PyProof.Rows L2
variable [TabCtx]

/-! ### the module's defs -/
structure DefAt (K : PySem.W.Frag) (mg : Str → Option Value) (x : Str) (st : Stmt) (ps : List Str) : Prop where
  ex : ∃ f fd, L2.Fun K x x st f fd ∧ mg x = some (.ref f) ∧ Binds K fd ps []
theorem def_ok {P : Program} {w : World} {K : PySem.W.Frag} {mg : Str → Option Value} {base : Heap} {x : Str} {st : Stmt} {N ps : List Str} {k n nl : Nat} {m : SM4} {fz : Bool} (F : DefAt K mg x st ps) (S : FnScope N ps (defScope st)) (hn : ps.length = n) (hl : N.length = nl)
    (hb : ∀ (f : Addr) (cdv : Value) (A : Around) (outer : List PySem.Env) (s : Shared) (H : Hp) (E : XK), Room k (A.deeper (envOfC x (defScope st) s.heap.objs.size f cdv)) →
      FB (cxOf (L2.CX P w) P w K mg base N x (defScope st) f cdv A outer s H E) (fun cls d _ H' => E cls d H') (defBody st) m) : DefOk P w K mg base (L2.CX P w) (k + 1) x n (mFn fz nl m) := by
  subst hn hl
  obtain ⟨f, fd, h1, h2, h3⟩ := F.ex
  exact ⟨f, fd, ps, fn_ok h1 S fun cdv A outer s H E hr => hb f cdv A outer s H E hr, h2, h1.kp, h3⟩
theorem fb_never {X : Cx} {W : WX} {ss : List Stmt} : FB X W ss sNever := PSs.imp pss_never fun D σ H ⟨r, env, st, hE, hS, h⟩ => h
/-- no fuel left -/
theorem def_bad {P : Program} {w : World} {K : PySem.W.Frag} {mg : Str → Option Value} {base : Heap} {x : Str} {st : Stmt} {N ps : List Str} {k n : Nat} (F : DefAt K mg x st ps) (S : FnScope N ps (defScope st)) (hn : ps.length = n) :
    DefOk P w K mg base (L2.CX P w) (k + 1) x n (fun _ _ => .bad) := by
  have h : DefOk P w K mg base (L2.CX P w) (k + 1) x n (mFn false N.length sNever) := def_ok F S hn rfl fun f cdv A outer s H E hr => fb_never
  exact h
theorem tkD {P : Program} {w : World} {K : PySem.W.Frag} {mg : Str → Option Value} {base : Heap} {x : Str} {sc : Scope} {N : List Str} {f : Addr} {cdv : Value} {A : Around} {outer : List PySem.Env} {s : Shared} {H : Hp} {E : XK} :
    Takes (cxOf (L2.CX P w) P w K mg base N x sc f cdv A outer s H E) (fun cls d _ H' => E cls d H') := takes_of rfl rfl rfl rfl
theorem hxD {P : Program} {w : World} {K : PySem.W.Frag} {mg : Str → Option Value} {base : Heap} {x : Str} {sc : Scope} {N : List Str} {f : Addr} {cdv : Value} {A : Around} {outer : List PySem.Env} {s : Shared} {H : Hp} {E : XK} :
    ∀ σ, PassesAt (L2.CX P w) (cxOf (L2.CX P w) P w K mg base N x sc f cdv A outer s H E) σ (WE (fun cls d _ H' => E cls d H') σ) := fun σ => passAt tkD σ
theorem hpD {P : Program} {w : World} {K : PySem.W.Frag} {mg : Str → Option Value} {base : Heap} {x : Str} {sc : Scope} {N : List Str} {f : Addr} {cdv : Value} {A : Around} {outer : List PySem.Env} {s : Shared} {H : Hp} {E : XK} :
    PassesOwn (model P w) (A.deeper (envOfC x sc s.heap.objs.size f cdv)) (envOfC x sc s.heap.objs.size f cdv) (cxOf (L2.CX P w) P w K mg base N x sc f cdv A outer s H E).xe :=
  passes_of (X := cxOf (L2.CX P w) P w K mg base N x sc f cdv A outer s H E) rfl
theorem blk_in {N N' : List Str} {sc sc' scope : Scope} {own : List (Str × Nat)} (hN : N' = N) (hs : sc' = sc) (h : blkC N sc scope own = true) : BlkOk N' sc' scope own := by
  subst hN hs
  exact blkOk_by h
/-- in a comprehension's block nothing is let out -/
theorem hx0 {X : Cx} : ∀ σ, PassesAt (L2.CX X.prog X.w) X σ (WE E0W σ) := fun σ pins H s e s' I h => by
  obtain ⟨a, B, H', cls, d, _, _, _, _, _, _, _, hf⟩ := h
  exact hf.elim
theorem defAt_mk {K : PySem.W.Frag} {mg : Str → Option Value} {h : Heap} {x : Str} {st : Stmt} {ps : List Str} {f : Addr} {oc : Value} {od an : Option Addr} {osl : Array (Option Value)} {kV doc pm cdv ct : Value} (X : K.In h) (G : h.Ns mainGlobals mg)
    (a : PySem.W.nsIn K mainGlobals x = some (some (.ref f)))
    (l : K.lookup f = some ⟨oc, od, .func (PySem.W.fnOf x x (defArgs st) (defBody st) (defScope st) .none kV doc pm an cdv ct), osl⟩)
    (c : PySem.W.codeIn K cdv x = true) (k : PySem.W.keepIn K (.ref f) = true)
    (b : ∀ F : L2.Fun K x x st f (PySem.W.fnOf x x (defArgs st) (defBody st) (defScope st) .none kV doc pm an cdv ct), Binds K (PySem.W.fnOf x x (defArgs st) (defBody st) (defScope st) .none kV doc pm an cdv ct) ps []) : DefAt K mg x st ps :=
  ⟨f, _, fun_mk l c k, PySem.W.mg_of X G a, b (fun_mk l c k)⟩
/-! ### the module's constants -/
theorem const_int {K : PySem.W.Frag} {mg : Str → Option Value} {h : Heap} {x : Str} {i : Int} {t : Tok} (X : K.In h) (G : h.Ns mainGlobals mg) (a : PySem.W.nsIn K mainGlobals x = some (some (.int i t))) : ConstD K mg x (.int i) :=
  ⟨.int i t, .int i, PySem.W.mg_of X G a, ⟨t, rfl⟩, fun _ _ => rfl⟩
theorem const_tup {K : PySem.W.Frag} {mg : Str → Option Value} {h : Heap} {x : Str} {r : Addr} {its : Array Value} {n : Nat} {sl : Array (Option Value)} {xs : List V} {ds : List D} (X : K.In h) (G : h.Ns mainGlobals mg)
    (a : PySem.W.nsIn K mainGlobals x = some (some (.ref r))) (l : K.lookup r = some ⟨.type "tuple", none, .seq its n, sl⟩) (hz : its.size ≤ 1000) (v : Vals xs its.toList) (hd : ∀ H r, VDs K H r ds xs) : ConstD K mg x (.tup ds) :=
  ⟨.ref r, .ref r, PySem.W.mg_of X G a, rfl, fun H ρ => ⟨r, xs, rfl, .inr ⟨_, its, n, l, rfl, rfl, rfl, Nat.le_of_lt (L2.small1000 hz), v⟩, hd H ρ⟩⟩
theorem cx_false {P : Program} {w : World} {H : Hp} {s : Shared} {e : Value} {s' : Shared} (h : L2.CX P w [] H s (fun _ _ _ => False) e s') : False := by
  obtain ⟨a, B, H', cls, d, _, _, _, _, _, _, _, hf⟩ := h
  exact hf
/-- the whole law, of its own function -/
theorem law_sp {K : PySem.W.Frag} {mg : Str → Option Value} {m : Fn} (h : ∀ ns : List Int, ns.length ≤ 63 → ∃ st, m [.scr ns] [] = .ok (.bl true) st) :
    ∀ vs H Q E, (∃ (a : Addr) (ns : List Int), vs = [V.ref a] ∧ SqL K H a (ns.map V.int) ∧ ns.length ≤ 63 ∧ LamX.Tabs TabCtx.tabs H ∧ ∀ H', Q (.bl true) H') → spM K mg 1 m vs H Q E := by
  rintro vs H Q E ⟨a, ns, rfl, hS, hl, hT, q⟩
  obtain ⟨st, e⟩ := h ns hl
  refine ⟨rfl, ⟨[], []⟩, [], [.scr ns], ⟨rfl, List.nodup_nil, (fun l o q => by simp at q), (fun a ha => absurd ha (by simp)), hT⟩, ⟨.ref a, [], rfl, ⟨a, rfl, ?_⟩, rfl⟩, ?_⟩
  · rcases hS with h | h
    · exact .inl ⟨⟨by simp, by simp⟩, h⟩
    · exact .inr h
  · rw [e]
    intro b H' r' _ _ hb
    rw [show b = V.bl true from hb]
    exact q H'
end FL

namespace FL
open PySem PySem.Spec PyProof.Rows L2
variable [TabCtx]

/-! ### sorted(xs), xs a list of tuples of ints and texts -/
abbrev TKey := List (Int ⊕ List Nat)
def itemsV (sh : Nat → Bool) : Nat → List V → Option TKey
  | _, [] => some []
  | i, .int n :: r => if sh i = true then none else (itemsV sh (i + 1) r).map (Sum.inl n :: ·)
  | i, .str x :: r => if sh i = true then (itemsV sh (i + 1) r).map (Sum.inr x.cps.toList :: ·) else none
  | _, _ :: _ => none
theorem itemsV_raw {sh : Nat → Bool} : ∀ {xs : List V} {us : List Value} (i : Nat) {k : TKey}, Vals xs us → itemsV sh i xs = some k → tupItems sh i us = some k
  | _, _, _, _, .nil, h => h
  | x :: xs, _ :: _, i, k, .cons r t, h => by
    cases x with
    | int n =>
      obtain ⟨tk, rfl⟩ := (show ∃ t, _ = Value.int n t from r)
      unfold itemsV at h
      show (if sh i = true then none else (tupItems sh (i + 1) _).map (Sum.inl n :: ·)) = some k
      by_cases hs : sh i = true
      · rw [if_pos hs] at h; cases h
      · rw [if_neg hs] at h ⊢
        obtain ⟨k', e, rfl⟩ := Option.map_eq_some_iff.mp h
        rw [itemsV_raw (i + 1) t e]; rfl
    | str z =>
      obtain ⟨tk, rfl⟩ := (show ∃ t, _ = Value.str z t from r)
      unfold itemsV at h
      show (if sh i = true then (tupItems sh (i + 1) _).map (Sum.inr z.cps.toList :: ·) else none) = some k
      by_cases hs : sh i = true
      · rw [if_pos hs] at h ⊢
        obtain ⟨k', e, rfl⟩ := Option.map_eq_some_iff.mp h
        rw [itemsV_raw (i + 1) t e]; rfl
      · rw [if_neg hs] at h; cases h
    | _ => cases h
def ltK (a b : TKey) : Bool := (listOrd itemOrd).blt a b
def KeyAt (K : PySem.W.Frag) (H : Hp) (sh : Nat → Bool) (x : V) (k : TKey) : Prop := ∃ t its, x = .ref t ∧ SqT K H t its ∧ its ≠ [] ∧ itemsV sh 0 its = some k
def rSortTG (K : PySem.W.Frag) : List V → Hp → VK → Prop := fun vs H Q => ∃ (a : Addr) (xs : List V) (sh : Nat → Bool), vs = [V.ref a] ∧ SqL K H a xs ∧ (∀ x ∈ xs, ∃ k, KeyAt K H sh x k) ∧
  ∀ (ys : List V) (p : Addr), ys.Perm xs → ys.Pairwise (fun x y => ∀ k k', KeyAt K H sh x k → KeyAt K H sh y k' → ltK k' k = false) → H p = none → Q (.ref p) (upd H p (.lst ys))
section
variable {X : Cx} {pins : List (Addr × Obj)} {σ : L2.St} {H : Hp} {s : Shared}
theorem keyAt_raw (I : Inv X pins σ H s) {sh : Nat → Bool} {t : Addr} {k : TKey} (h : KeyAt X.K H sh (.ref t) k) : G.tupKeyC s.heap sh (.ref t) = some k ∧ ∃ f, TupOf s.heap sh (.ref t) f := by
  obtain ⟨t', its, e, h1, h2, h3⟩ := h
  cases e
  obtain ⟨us, rv, ⟨o, ho, hc, n, hd⟩, _⟩ := I.tuple h1
  have e := itemsV_raw 0 rv h3
  refine ⟨?_, ?_⟩
  · unfold G.tupKeyC
    have e1 : G.isTupObj s.heap (.ref t) = true := by simp [G.isTupObj, ho, hc]
    rw [if_pos e1]
    simp only [tupKey, ho, hd]
    exact e
  · cases rv with
    | nil => exact absurd rfl h2
    | @cons x u xs us r rt =>
      refine ⟨u, t, o, _, n, rfl, ho, hc, hd, by simp, fun hs => ?_, fun hs => ?_⟩
      · cases x with
        | int i => obtain ⟨tk, rfl⟩ := (show ∃ t, _ = Value.int i t from r); exact ⟨_, _, rfl⟩
        | str i => unfold itemsV at h3; rw [if_neg (by rw [hs]; decide)] at h3; cases h3
        | _ => cases h3
      · cases x with
        | str i => obtain ⟨tk, rfl⟩ := (show ∃ t, _ = Value.str i t from r); exact ⟨_, _, rfl⟩
        | int i => unfold itemsV at h3; rw [if_pos hs] at h3; cases h3
        | _ => cases h3
theorem cr_sortTG : CallR X (.builtin "sorted") (rSortTG X.K) := by
  intro pins s σ H vs us Q I r h
  obtain ⟨a, xs, sh, rfl, hs, hx, q⟩ := h
  obtain ⟨its, rv, hl, hz⟩ := I.list hs
  rw [Vals.ref1 r]
  obtain ⟨e1, e2⟩ := bkV_refs rv fun x m => by
    obtain ⟨k, t, _, e, _⟩ := hx x m
    exact ⟨t, e⟩
  have raw : ∀ v ∈ its, ∃ t k, v = Value.ref t ∧ KeyAt X.K H sh (.ref t) k := fun v hv => by
    obtain ⟨t, rfl⟩ := e2 v hv
    have hm : V.ref t ∈ xs := by rw [e1]; exact List.mem_map.mpr ⟨_, hv, rfl⟩
    obtain ⟨k, hk⟩ := hx _ hm
    exact ⟨t, k, rfl, hk⟩
  have hts : ∀ l : List Value, (∀ v ∈ l, v ∈ its) → ∃ fs, TupsOf s.heap sh l fs := by
    intro l
    induction l with
    | nil => exact fun _ => ⟨[], .nil⟩
    | cons v l ih =>
      intro hl
      obtain ⟨fs, h1⟩ := ih fun u hu => hl u (List.mem_cons_of_mem _ hu)
      obtain ⟨t, k, rfl, hk⟩ := raw v (hl v List.mem_cons_self)
      obtain ⟨f, hf⟩ := (keyAt_raw I hk).2
      exact ⟨f :: fs, .cons hf h1⟩
  obtain ⟨fs, hfs⟩ := hts its fun _ h => h
  refine G.sorted_tups (shape := sh) (vs := its) (fs := fs) hl.isList hfs (fun v hv => ?_) (by rw [← rv.length]; exact hz) fun st' hp hso _ => ?_
  · obtain ⟨t, k, rfl, hk⟩ := raw v hv
    exact ⟨k, (keyAt_raw I hk).1⟩
  · -- the sorted list
    have hp' : (arrOf st').toList.Perm (its.zip its) := by
      have := hp
      rw [Array.perm_iff_toList_perm, pairsOf_toList] at this
      exact this
    have hdiag : ∀ p ∈ (arrOf st').toList, p.2 = p.1 ∧ p.1 ∈ its := fun p hpm => by
      have hm := hp'.mem_iff.mp hpm
      have : ∀ l : List Value, p ∈ l.zip l → p.2 = p.1 ∧ p.1 ∈ l := by
        intro l
        induction l with
        | nil => intro h; simp at h
        | cons v l ih =>
          intro h
          rw [List.zip_cons_cons] at h
          rcases List.mem_cons.mp h with rfl | h
          · exact ⟨rfl, List.mem_cons_self⟩
          · exact ⟨(ih h).1, List.mem_cons_of_mem _ (ih h).2⟩
      exact this its hm
    have hout : ((arrOf st').map (·.2)).toList.Perm its := by
      rw [Array.toList_map]
      have := hp'.map (·.2)
      rwa [List.map_snd_zip (Nat.le_refl _)] at this
    obtain ⟨ep, he'⟩ := PyProof.Rows.sortedAll_at s.heap its ((arrOf st').map (·.2))
    have h3 : ∀ u ∈ ((arrOf st').map (·.2)).toList, ∃ a, u = Value.ref a := fun u hu => e2 u (hout.mem_iff.mp hu)
    have hp2 : (((arrOf st').map (·.2)).toList.map bkV).Perm xs := by
      rw [e1]
      exact hout.map bkV
    have hlen : (((arrOf st').map (·.2)).toList.map bkV).length ≤ sizeLine := by
      rw [hp2.length_eq]
      exact hz
    refine ⟨.ref _, upd H (s.heap.objs.size + 1) (.lst (((arrOf st').map (·.2)).toList.map bkV)), I.laid (t' := s.toks) (fun _ _ => PyProof.Rows.sortedAll_old) (Nat.le_succ _) ⟨hlen, ((arrOf st').map (·.2)).toList, ep, bkV_vals h3, he'⟩, rfl, q _ _ hp2 ?_ (I.hok.fresh (Nat.le_succ _))⟩
    rw [List.pairwise_map, List.pairwise_iff_getElem]
    intro i j hi hj hij k k' hk hk'
    have hsz : (pairsOf its).size = ((arrOf st').map (·.2)).toList.length := by
      rw [hout.length_eq, pairsOf_size]
    have hle := hso i j (Nat.le_of_lt hij) (by rw [hsz]; exact hj)
    rw [Array.length_toList, Array.size_map] at hi hj
    have at_ : ∀ (m : Nat) (hm : m < (arrOf st').size) (hm2 : m < ((arrOf st').map (·.2)).toList.length) (z : TKey), KeyAt X.K H sh (bkV ((arrOf st').map (·.2)).toList[m]) z → KK (G.tupKindC s.heap sh) (arrOf st') m = z := by
      intro m hm hm2 z hz2
      have e3 : ((arrOf st').map (·.2)).toList[m] = (arrOf st')[m].2 := by simp
      have hd := hdiag (arrOf st')[m] (by simp)
      unfold KK
      rw [Array.getElem?_eq_getElem hm]
      show (G.tupKeyC s.heap sh (arrOf st')[m].1).getD [] = z
      rw [e3] at hz2
      obtain ⟨t, e4⟩ := e2 _ hd.2
      rw [hd.1, e4] at hz2
      rw [e4, (keyAt_raw I hz2).1]
      rfl
    have k1 := at_ i hi (by rw [Array.length_toList, Array.size_map]; exact hi) k hk
    have k2 := at_ j hj (by rw [Array.length_toList, Array.size_map]; exact hj) k' hk'
    rw [k1, k2] at hle
    exact hle
end
/-! .. as data -/
def itemsK (sh : Nat → Bool) : Nat → List D → Option TKey
  | _, [] => some []
  | i, .int n :: r => if sh i = true then none else match itemsK sh (i + 1) r with
    | some k => some (Sum.inl n :: k)
    | none => none
  | i, .str x :: r => if sh i = true then (match itemsK sh (i + 1) r with
    | some k => some (Sum.inr x.cps.toList :: k)
    | none => none) else none
  | _, _ :: _ => none
theorem itemsK_v {K H r} {sh : Nat → Bool} : ∀ {ds : List D} {xs : List V} (i : Nat) {k : TKey}, VDs K H r ds xs → itemsK sh i ds = some k → itemsV sh i xs = some k
  | [], _, _, _, h, e => by cases h; exact e
  | d :: ds, _, i, k, h, e => by
    obtain ⟨x, t, rfl, h1, h2⟩ := h
    cases d with
    | int n =>
      cases h1
      unfold itemsK at e
      unfold itemsV
      by_cases hs : sh i = true
      · rw [if_pos hs] at e; cases e
      · rw [if_neg hs] at e ⊢
        cases q : itemsK sh (i + 1) ds with
        | none => rw [q] at e; cases e
        | some k' => rw [q] at e; cases e; rw [itemsK_v (i + 1) h2 q]; rfl
    | str n =>
      cases h1
      unfold itemsK at e
      unfold itemsV
      by_cases hs : sh i = true
      · rw [if_pos hs] at e ⊢
        cases q : itemsK sh (i + 1) ds with
        | none => rw [q] at e; cases e
        | some k' => rw [q] at e; cases e; rw [itemsK_v (i + 1) h2 q]; rfl
      · rw [if_neg hs] at e; cases e
    | _ => cases e
theorem str_ext {x y : Str} (h : x.cps.toList = y.cps.toList) : x = y := by
  cases x; cases y
  congr
  exact Array.toList_inj.mp h
theorem itemsK_inj {sh : Nat → Bool} : ∀ {ds es : List D} (i : Nat) {k : TKey}, itemsK sh i ds = some k → itemsK sh i es = some k → ds = es
  | [], [], _, _, _, _ => rfl
  | [], e :: es, i, k, h1, h2 => by
    cases h1
    cases e with
    | int n => unfold itemsK at h2; split at h2; · cases h2
               split at h2 <;> cases h2
    | str n => unfold itemsK at h2; split at h2; · split at h2 <;> cases h2
               cases h2
    | _ => cases h2
  | d :: ds, [], i, k, h1, h2 => by
    cases h2
    cases d with
    | int n => unfold itemsK at h1; split at h1; · cases h1
               split at h1 <;> cases h1
    | str n => unfold itemsK at h1; split at h1; · split at h1 <;> cases h1
               cases h1
    | _ => cases h1
  | d :: ds, e :: es, i, k, h1, h2 => by
    have step : ∀ (d : D) (ds : List D) (k : TKey), itemsK sh i (d :: ds) = some k → ∃ k', itemsK sh (i + 1) ds = some k' ∧ ((∃ n, d = .int n ∧ k = Sum.inl n :: k') ∨ ∃ x : Str, d = .str x ∧ k = Sum.inr x.cps.toList :: k') := by
      intro d ds k h
      cases d with
      | int n =>
        unfold itemsK at h
        split at h
        · cases h
        · split at h
          · rename_i k' q; cases h; exact ⟨k', q, .inl ⟨n, rfl, rfl⟩⟩
          · cases h
      | str n =>
        unfold itemsK at h
        split at h
        · split at h
          · rename_i k' q; cases h; exact ⟨k', q, .inr ⟨n, rfl, rfl⟩⟩
          · cases h
        · cases h
      | _ => cases h
    obtain ⟨k1, a1, b1⟩ := step d ds k h1
    obtain ⟨k2, a2, b2⟩ := step e es k h2
    rcases b1 with ⟨n, rfl, rfl⟩ | ⟨x, rfl, rfl⟩
    · rcases b2 with ⟨m, rfl, q⟩ | ⟨m, rfl, q⟩
      · injection q with q1 q2
        cases q1; subst q2
        rw [itemsK_inj (i + 1) a1 a2]
      · injection q with q1 q2; cases q1
    · rcases b2 with ⟨m, rfl, q⟩ | ⟨m, rfl, q⟩
      · injection q with q1 q2; cases q1
      · injection q with q1 q2
        injection q1 with q1
        subst q2
        rw [itemsK_inj (i + 1) a1 a2, str_ext q1]
/-- pairs key, value -/
def insT (p : TKey × D) : List (TKey × D) → List (TKey × D)
  | [] => [p]
  | q :: r => if ltK q.1 p.1 = true then q :: insT p r else p :: q :: r
def srtT : List (TKey × D) → List (TKey × D)
  | [] => []
  | p :: r => insT p (srtT r)
theorem insT_perm (p : TKey × D) : ∀ l, (insT p l).Perm (p :: l)
  | [] => .refl _
  | q :: r => by
    unfold insT
    split
    · exact ((insT_perm p r).cons q).trans (.swap p q r)
    · exact .refl _
theorem srtT_perm : ∀ l, (srtT l).Perm l
  | [] => .refl _
  | p :: r => (insT_perm p _).trans ((srtT_perm r).cons p)
theorem ltK_trans {a b c : TKey} (h1 : ltK b a = false) (h2 : ltK c b = false) : ltK c a = false := by
  cases h : ltK c a with
  | false => rfl
  | true =>
    rcases (listOrd itemOrd).negTrans c b a h with h' | h'
    · rw [show ltK c b = true from h'] at h2; cases h2
    · rw [show ltK b a = true from h'] at h1; cases h1
theorem ltK_asymm {a b : TKey} (h : ltK a b = true) : ltK b a = false := by
  cases h2 : ltK b a with
  | false => rfl
  | true =>
    have := (listOrd itemOrd).trans a b a h h2
    rw [(listOrd itemOrd).irrefl] at this
    cases this
theorem insT_mono {p : TKey × D} : ∀ {l : List (TKey × D)}, l.Pairwise (fun a b => ltK b.1 a.1 = false) → (insT p l).Pairwise (fun a b => ltK b.1 a.1 = false)
  | [], _ => by simp [insT]
  | q :: r, h => by
    obtain ⟨h1, h2⟩ := List.pairwise_cons.mp h
    unfold insT
    split
    · rename_i hc
      refine List.pairwise_cons.mpr ⟨fun b hb => ?_, insT_mono h2⟩
      rcases List.mem_cons.mp ((insT_perm p r).mem_iff.mp hb) with rfl | hb
      · exact ltK_asymm hc
      · exact h1 b hb
    · rename_i hc
      have hc : ltK q.1 p.1 = false := by simpa using hc
      refine List.pairwise_cons.mpr ⟨fun b hb => ?_, h⟩
      rcases List.mem_cons.mp hb with rfl | hb
      · exact hc
      · exact ltK_trans hc (h1 b hb)
theorem srtT_mono : ∀ l : List (TKey × D), (srtT l).Pairwise (fun a b => ltK b.1 a.1 = false)
  | [] => .nil
  | _ :: r => insT_mono (srtT_mono r)
/-- keys of tuples -/
def tupK (sh : Nat → Bool) : List D → Option (List (TKey × D))
  | [] => some []
  | .tup (e :: es) :: r => match itemsK sh 0 (e :: es) with
    | some k => match tupK sh r with
      | some l => some ((k, .tup (e :: es)) :: l)
      | none => none
    | none => none
  | _ :: _ => none
def shapeOf : List D → Nat → Bool
  | .tup es :: _, i => match es[i]? with
    | some (.str _) => true
    | _ => false
  | _, _ => false
def GoodK (sh : Nat → Bool) (p : TKey × D) : Prop := ∃ es, p.2 = .tup es ∧ es ≠ [] ∧ itemsK sh 0 es = some p.1
theorem tupK_eq {sh : Nat → Bool} : ∀ {ds : List D} {l : List (TKey × D)}, tupK sh ds = some l → ds = l.map (·.2) ∧ ∀ p ∈ l, GoodK sh p
  | [], l, h => by cases h; exact ⟨rfl, by simp⟩
  | d :: ds, l, h => by
    cases d with
    | tup es =>
      cases es with
      | nil => cases h
      | cons e es =>
        unfold tupK at h
        cases q : itemsK sh 0 (e :: es) with
        | none => rw [q] at h; cases h
        | some k =>
          rw [q] at h
          cases q2 : tupK sh ds with
          | none => rw [q2] at h; cases h
          | some l' =>
            rw [q2] at h; cases h
            obtain ⟨h1, h2⟩ := tupK_eq q2
            refine ⟨by rw [List.map_cons, ← h1], fun p hp => ?_⟩
            rcases List.mem_cons.mp hp with rfl | hp
            · exact ⟨_, rfl, by simp, q⟩
            · exact h2 p hp
    | _ => cases h
theorem vds_perm {K H r} : ∀ {xs ys : List V}, xs.Perm ys → ∀ {l : List (TKey × D)}, VDs K H r (l.map (·.2)) xs → ∃ l' : List (TKey × D), l'.Perm l ∧ VDs K H r (l'.map (·.2)) ys := by
  intro xs ys h
  induction h with
  | nil => exact fun {l} hv => ⟨l, .refl _, hv⟩
  | cons x _ ih =>
    intro l hv
    cases l with
    | nil => cases hv
    | cons p l =>
      obtain ⟨y, t, e, h1, h2⟩ := hv
      cases e
      obtain ⟨l', hp, hv'⟩ := ih h2
      exact ⟨p :: l', hp.cons p, _, _, rfl, h1, hv'⟩
  | swap x y l0 =>
    intro l hv
    cases l with
    | nil => cases hv
    | cons p l =>
      obtain ⟨_, t, e, h1, h2⟩ := hv
      cases e
      cases l with
      | nil => cases h2
      | cons p' l =>
        obtain ⟨_, t, e, h3, h4⟩ := h2
        cases e
        exact ⟨p' :: p :: l, .swap p p' l, _, _, rfl, h3, _, _, rfl, h1, h4⟩
  | trans _ _ ih1 ih2 =>
    intro l hv
    obtain ⟨l1, p1, v1⟩ := ih1 hv
    obtain ⟨l2, p2, v2⟩ := ih2 v1
    exact ⟨l2, p2.trans p1, v2⟩
def sortT (ds : List D) : Option (List D) := match tupK (shapeOf ds) ds with
  | some l => some ((srtT l).map (·.2))
  | none => none
def sortB2 : List D → Sto → Res (List D)
  | [d], st => match dicD d st with
    | some _ => sortB [d] st
    | none => match lstD d st with
      | some ds => match intsD ds with
        | some _ => sortB [d] st
        | none => match sortT ds with
          | some es => .ok es st
          | none => .bad
      | none => .bad
  | _, _ => .bad
theorem bn_sorted2 {X : Cx} (hc : X.calm = true) : BiN X (.builtin "sorted") sortB2 := by
  obtain ⟨rr, c1, c2⟩ := bn_sorted (X := X) hc
  refine ⟨_, CallR.or c1 cr_sortTG, fun E H r st ds xs Q s v h => ?_⟩
  unfold sortB2 at h
  split at h
  · rename_i d
    split at h
    · exact .inl (c2 E H r st _ xs Q s v h)
    · split at h
      · rename_i es q2
        split at h
        · exact .inl (c2 E H r st _ xs Q s v h)
        · unfold sortT at h
          cases q3 : tupK (shapeOf es) es with
          | none => simp only [q3] at h; exact h.elim
          | some l =>
            simp only [q3] at h
            obtain ⟨x, rfl, w⟩ := vds1 v
            obtain ⟨a, ys, rfl, h1, h2⟩ := lstD_v s q2 w
            obtain ⟨k1, k2⟩ := tupK_eq q3
            rw [k1] at h1
            have key : ∀ (l : List (TKey × D)) (ys : List V), (∀ p ∈ l, GoodK (shapeOf es) p) → VDs X.K H r (l.map (·.2)) ys → ∀ (i : Nat) (p : TKey × D), l[i]? = some p → ∃ y, ys[i]? = some y ∧ KeyAt X.K H (shapeOf es) y p.1 := by
              intro l ys hg hv i p hp
              obtain ⟨y, e1, e2⟩ := hv.get (i := i) (d := p.2) (by rw [List.getElem?_map, hp]; rfl)
              obtain ⟨zs, e3, e4, e5⟩ := hg p (List.mem_of_getElem? hp)
              rw [e3] at e2
              obtain ⟨t, its, rfl, f1, f2⟩ := e2
              refine ⟨_, e1, t, its, rfl, f1.sq, fun z => ?_, itemsK_v 0 f2 e5⟩
              have := f2.len
              rw [z] at this
              cases zs with
              | nil => exact e4 rfl
              | cons _ _ => cases this
            refine .inr ⟨a, ys, shapeOf es, rfl, h2, fun x hx => ?_, fun zs p hp hs hn => ?_⟩
            · obtain ⟨i, hi, e⟩ := List.getElem_of_mem hx
              have hi2 : i < l.length := by
                have := h1.len
                rw [List.length_map] at this
                omega
              obtain ⟨y, e1, e2⟩ := key l ys k2 h1 i l[i] (List.getElem?_eq_getElem hi2)
              rw [List.getElem?_eq_getElem hi, e] at e1
              cases e1
              exact ⟨_, e2⟩
            · obtain ⟨l', p1, v1⟩ := vds_perm hp.symm h1
              have g' : ∀ p ∈ l', GoodK (shapeOf es) p := fun p hp => k2 p (p1.mem_iff.mp hp)
              have m' : l'.Pairwise (fun a b => ltK b.1 a.1 = false) := by
                rw [List.pairwise_iff_getElem] at hs ⊢
                intro i j hi hj hij
                obtain ⟨y1, e1, e2⟩ := key l' zs g' v1 i l'[i] (List.getElem?_eq_getElem hi)
                obtain ⟨y2, e3, e4⟩ := key l' zs g' v1 j l'[j] (List.getElem?_eq_getElem hj)
                obtain ⟨i1, i2⟩ := List.getElem?_eq_some_iff.mp e1
                obtain ⟨j1, j2⟩ := List.getElem?_eq_some_iff.mp e3
                exact hs i j i1 j1 hij _ _ (by rw [i2]; exact e2) (by rw [j2]; exact e4)
              have e : l' = srtT l := by
                refine List.Perm.eq_of_pairwise (fun a b ha hb h1 h2 => ?_) m' (srtT_mono l) (p1.trans (srtT_perm l).symm)
                have ek : a.1 = b.1 := ((listOrd itemOrd).total b.1 a.1 h1 h2).symm
                obtain ⟨d1, f1, _, f2⟩ := g' a ha
                obtain ⟨d2, f3, _, f4⟩ := k2 b ((srtT_perm l).mem_iff.mp hb)
                rw [ek] at f2
                exact Prod.ext ek (by rw [f1, f3, itemsK_inj 0 f2 f4])
              rw [← e] at h
              exact RES.ok h s v1 p hn
      · exact h.elim
  · exact h.elim
end FL

namespace FL
open PySem PySem.Spec PyProof.Rows L2
variable [TabCtx]

/-! ### a op b op' c op'' d -/
section
variable {X : Cx} {W : WX} {a b c d e : Expr} {ta tb tc td : TE} {ma mb mc md m : EM} {ms : Env → Sto → Res (List D)} {x : Str} {p pos p2 pos2 : Pos} {tg : Expr}
def tChain3 (r r' r'' : R2) (ta tb tc td : TE) : TE := fun σ H Q => ta σ H fun x H1 => tb σ H1 fun y H2 => r x y H2 fun z H3 => ∃ k, z = .bl k ∧
  (if k = true then tc σ H3 fun w' H4 => r' y w' H4 fun z2 H5 => ∃ k2, z2 = .bl k2 ∧ (if k2 = true then td σ H5 fun u H6 => r'' w' u H6 Q else Q (.bl false) H5) else Q (.bl false) H3)
theorem pe_chain3 {op op' op'' : CmpOp} {r r' r'' : R2} (ho : OpR X (compareOp op) r) (ho' : OpR X (compareOp op') r') (ho'' : OpR X (compareOp op'') r'') (ha : PE X a ta) (hb : PE X b tb) (hc : PE X c tc) (hd : PE X d td)
    (hm : lastMarks [op, op', op''] [b, c, d] = false := by with_unfolding_all rfl) : PE X (.Compare a [op, op', op''] [b, c, d] pos) (tChain3 r r' r'' ta tb tc td) := by
  refine ⟨fun pins s σ H Q I h => ?_⟩
  refine Compare_chain (thn (ha.run pins s σ H _ I h) fun v s1 ⟨x, H1, I1, r1, q1⟩ => chain_link (thn (hb.run pins s1 σ H1 _ I1 q1) fun u s2 ⟨y, H2, I2, r2, q2⟩ =>
    thn (ho pins s2 σ H2 x y v u _ I2 r1 r2 q2) fun d s3 ⟨z, H3, I3, r3, k, e, q3⟩ => ?_)) hm
  subst e
  cases r3
  refine wpAny_truthy_bool ?_
  cases k with
  | false => exact ite_ff ⟨.bl false, H3, I3, rfl, q3⟩
  | true =>
    refine ite_tt (chain_link (thn (hc.run pins s3 σ H3 _ I3 q3) fun w' s4 ⟨z', H4, I4, r4, q4⟩ => thn (ho' pins s4 σ H4 y z' u w' _ I4 r2 r4 q4) fun d2 s5 ⟨z2, H5, I5, r5, k2, e2, q5⟩ => ?_))
    subst e2
    cases r5
    refine wpAny_truthy_bool ?_
    cases k2 with
    | false => exact ite_ff ⟨.bl false, H5, I5, rfl, q5⟩
    | true => exact ite_tt (chain_last (thn (hd.run pins s5 σ H5 _ I5 q5) fun w2 s6 ⟨z3, H6, I6, r6, q6⟩ => ho'' pins s6 σ H6 z' z3 w' w2 Q I6 r4 r6 q6))
theorem pt_chain3 {op op' op'' : CmpOp} {r r' r'' : R2} (ho : OpR X (compareOp op) r) (ho' : OpR X (compareOp op') r') (ho'' : OpR X (compareOp op'') r'') (ha : PE X a ta) (hb : PE X b tb) (hc : PE X c tc) (hd : PE X d td)
    (hm : lastMarks [op, op', op''] [b, c, d] = false := by with_unfolding_all rfl) : PT X (.Compare a [op, op', op''] [b, c, d] pos) (tTest (tChain3 r r' r'' ta tb tc td)) := by
  refine ⟨fun pins s σ H Q I h => ?_⟩
  refine isTrue_chain (thn (ha.run pins s σ H _ I h) fun v s1 ⟨x, H1, I1, r1, q1⟩ => test_link (thn (hb.run pins s1 σ H1 _ I1 q1) fun u s2 ⟨y, H2, I2, r2, q2⟩ =>
    thn (ho pins s2 σ H2 x y v u _ I2 r1 r2 q2) fun d s3 ⟨z, H3, I3, r3, k, e, q3⟩ => ?_)) hm
  subst e
  cases r3
  refine wpAny_truthy_bool ?_
  cases k with
  | false =>
    obtain ⟨k', e', q'⟩ := q3
    cases e'
    exact ite_ff ⟨H3, I3, q'⟩
  | true =>
    refine ite_tt (test_link (thn (hc.run pins s3 σ H3 _ I3 q3) fun w' s4 ⟨z', H4, I4, r4, q4⟩ => thn (ho' pins s4 σ H4 y z' u w' _ I4 r2 r4 q4) fun d2 s5 ⟨z2, H5, I5, r5, k2, e2, q5⟩ => ?_))
    subst e2
    cases r5
    refine wpAny_truthy_bool ?_
    cases k2 with
    | false =>
      obtain ⟨k', e', q'⟩ := q5
      cases e'
      exact ite_ff ⟨H5, I5, q'⟩
    | true =>
      refine ite_tt (test_last (thn (hd.run pins s5 σ H5 _ I5 q5) fun w2 s6 ⟨z3, H6, I6, r6, q6⟩ => thn (ho'' pins s6 σ H6 z' z3 w' w2 _ I6 r4 r6 q6) fun d' s7 ⟨z4, H7, I7, r7, k3, e3, q7⟩ => ?_))
      subst e3
      cases r7
      exact wpAny_truthy_bool ⟨H7, I7, q7⟩
def eChain3 (g g' g'' : D → D → Sto → Res D) (ma mb mc md : EM) : EM := fun env st => (ma env st).bind fun d st1 => (mb env st1).bind fun e st2 => (g d e st2).bind fun z st3 => match z with
  | .bl true => (mc env st3).bind fun f st4 => (g' e f st4).bind fun z2 st5 => match z2 with
    | .bl true => (md env st5).bind fun u st6 => g'' f u st6
    | .bl false => .ok (.bl false) st5
    | _ => .bad
  | .bl false => .ok (.bl false) st3
  | _ => .bad
theorem sim_chain3 {g g' g'' : D → D → Sto → Res D} {rr rr' rr'' : R2}
    (hr : ∀ (E : XK) H r st d e x y Q, SR X.K H r st → VD X.K H r d x → VD X.K H r e y → RES X.K X.mg (RV X.K) E H r (g d e st) Q → rr x y H Q)
    (hr' : ∀ (E : XK) H r st d e x y Q, SR X.K H r st → VD X.K H r d x → VD X.K H r e y → RES X.K X.mg (RV X.K) E H r (g' d e st) Q → rr' x y H Q)
    (hr'' : ∀ (E : XK) H r st d e x y Q, SR X.K H r st → VD X.K H r d x → VD X.K H r e y → RES X.K X.mg (RV X.K) E H r (g'' d e st) Q → rr'' x y H Q)
    {σ : L2.St} {H : Hp} {Q : VK} (q : tM X.K X.mg W (eChain3 g g' g'' ma mb mc md) σ H Q) : tChain3 rr rr' rr'' (tM X.K X.mg W ma) (tM X.K X.mg W mb) (tM X.K X.mg W mc) (tM X.K X.mg W md) σ H Q := by
  obtain ⟨r, env, st, hE, hS, h⟩ := q
  refine ⟨r, env, st, hE, hS, RES.seq h fun d st1 x H1 r1 e1 s1 v1 h1 => ?_⟩
  refine ⟨r1, env, st1, hE.ext e1, s1, RES.seq h1 fun e st2 y H2 r2 e2 s2 v2 h2 => ?_⟩
  have x12 := e1.trans s1 e2
  refine hr (WE W σ) H2 r2 st2 d e x y _ s2 (v1.ext e2) v2 (RES.seq h2 fun z st3 z' H3 r3 e3 s3 v3 h3 => ?_)
  cases z with
  | bl k =>
    cases v3
    refine ⟨k, rfl, ?_⟩
    cases k with
    | true =>
      rw [if_pos rfl]
      have hE3 := (hE.ext x12).ext e3
      refine ⟨r3, env, st3, hE3, s3, RES.seq h3 fun f st4 w H4 r4 e4 s4 v4 h4 => ?_⟩
      refine hr' (WE W σ) H4 r4 st4 e f y w _ s4 ((v2.ext e3).ext e4) v4 (RES.seq h4 fun z2 st5 z2' H5 r5 e5 s5 v5 h5 => ?_)
      cases z2 with
      | bl k2 =>
        cases v5
        refine ⟨k2, rfl, ?_⟩
        cases k2 with
        | true =>
          rw [if_pos rfl]
          refine ⟨r5, env, st5, (hE3.ext e4).ext e5, s5, RES.seq h5 fun u st6 w2 H6 r6 e6 s6 v6 h6 => ?_⟩
          exact hr'' (WE W σ) H6 r6 st6 f u w w2 Q s6 ((v4.ext e5).ext e6) v6 h6
        | false =>
          rw [if_neg Bool.false_ne_true]
          exact RES.ok h5 s5 rfl
      | _ => exact h5.elim
    | false =>
      rw [if_neg Bool.false_ne_true]
      exact RES.ok h3 s3 rfl
  | _ => exact h3.elim
theorem fe_chain3 {op op' op'' : CmpOp} {g g' g'' : D → D → Sto → Res D} (ho : OpF X (compareOp op) g) (ho' : OpF X (compareOp op') g') (ho'' : OpF X (compareOp op'') g'') (ha : FE X W a ma) (hb : FE X W b mb) (hc : FE X W c mc) (hd : FE X W d md)
    (hm : lastMarks [op, op', op''] [b, c, d] = false := by with_unfolding_all rfl) : FE X W (.Compare a [op, op', op''] [b, c, d] pos) (eChain3 g g' g'' ma mb mc md) := by
  obtain ⟨rr, h1, h2⟩ := ho
  obtain ⟨rr', h1', h2'⟩ := ho'
  obtain ⟨rr'', h1'', h2''⟩ := ho''
  exact PE.imp (pe_chain3 h1 h1' h1'' ha hb hc hd hm) fun σ H Q q => sim_chain3 h2 h2' h2'' q
theorem ft_chain3 {op op' op'' : CmpOp} {g g' g'' : D → D → Sto → Res D} (ho : OpF X (compareOp op) g) (ho' : OpF X (compareOp op') g') (ho'' : OpF X (compareOp op'') g'') (ha : FE X W a ma) (hb : FE X W b mb) (hc : FE X W c mc) (hd : FE X W d md)
    (hm : lastMarks [op, op', op''] [b, c, d] = false := by with_unfolding_all rfl) : FT X W (.Compare a [op, op', op''] [b, c, d] pos) (asB (eChain3 g g' g'' ma mb mc md)) := by
  obtain ⟨rr, h1, h2⟩ := ho
  obtain ⟨rr', h1', h2'⟩ := ho'
  obtain ⟨rr'', h1'', h2''⟩ := ho''
  refine PT.imp (pt_chain3 h1 h1' h1'' ha hb hc hd hm) fun σ H Q ⟨r, env, st, hE, hS, h⟩ => ?_
  refine sim_chain3 (W := W) h2 h2' h2'' ⟨r, env, st, hE, hS, RES.seq h fun d st1 x H1 r1 e1 s1 v1 q1 => ?_⟩
  cases d with
  | bl k => cases v1; exact ⟨k, rfl, RES.ok q1 s1 rfl⟩
  | _ => exact q1.elim

/-! ### range as a value -/
abbrev RM := Env → Sto → Res (Int × Int)
def tRM (K : PySem.W.Frag) (mg : Str → Option Value) (W : WX) (m : RM) : L2.St → Hp → (Int → Int → Hp → Prop) → Prop := fun σ H Q => ∃ r env st, ER K H r env σ ∧ SR K H r st ∧ RES K mg (fun _ _ a b => a = b) (WE W σ) H r (m env st) (fun p H => Q p.1 p.2 H)
abbrev FR (X : Cx) (W : WX) (e : Expr) (m : RM) : Prop := PRg X e (tRM X.K X.mg W m)
theorem PRg.imp {e : Expr} {t t' : L2.St → Hp → (Int → Int → Hp → Prop) → Prop} (h : PRg X e t) (i : ∀ σ H Q, t' σ H Q → t σ H Q) : PRg X e t' := fun pins s σ H Q I q => h pins s σ H Q I (i σ H Q q)
def rOne (m : EM) : RM := fun env st => (m env st).bind fun d st1 => match d with
  | .int n => .ok (0, n) st1
  | _ => .bad
def rTwo (ma mb : EM) : RM := fun env st => (ma env st).bind fun d st1 => (mb env st1).bind fun e st2 => match d, e with
  | .int i, .int j => .ok (i, j) st2
  | _, _ => .bad
theorem fr_1 (hg : Gl X "range") (hm : X.mg "range" = none) (ha : FE X W a ma) (na : starEach [a] X.env = (false, eval a X.env) :: starEach [] X.env := by rfl) : FR X W (.Call (.Name "range" p) [a] [] pos) (rOne ma) :=
  PRg.imp (prg_1 hg hm ha na) fun σ H Q ⟨r, env, st, hE, hS, h⟩ => ⟨r, env, st, hE, hS, RES.seq h fun d st1 x H1 r1 e1 s1 v1 q1 => by
    cases d with
    | int n => cases v1; exact ⟨n, rfl, RES.ok q1 (b := ((0 : Int), n)) s1 rfl⟩
    | _ => exact q1.elim⟩
theorem fr_2 (hg : Gl X "range") (hm : X.mg "range" = none) (ha : FE X W a ma) (hb : FE X W b mb) (na : starEach [a, b] X.env = (false, eval a X.env) :: starEach [b] X.env := by rfl)
    (nb : starEach [b] X.env = (false, eval b X.env) :: starEach [] X.env := by rfl) (hp : (backTo pos (starEach [b] X.env)).any (·.1) = false := by rfl) : FR X W (.Call (.Name "range" p) [a, b] [] pos) (rTwo ma mb) :=
  PRg.imp (prg_2 hg hm ha hb na nb hp) fun σ H Q ⟨r, env, st, hE, hS, h⟩ => ⟨r, env, st, hE, hS, RES.seq h fun d st1 x H1 r1 e1 s1 v1 q1 =>
    ⟨r1, env, st1, hE.ext e1, s1, RES.seq q1 fun e st2 y H2 r2 e2 s2 v2 q2 => by
      cases d with
      | int i =>
        cases e with
        | int j => cases v1; cases v2; exact ⟨i, j, rfl, rfl, RES.ok q2 (b := (i, j)) s2 rfl⟩
        | _ => exact q2.elim
      | _ => exact q2.elim⟩⟩
def rngD (i j : Int) : List D := (List.range (j - i).toNat).map fun k => .int (i + (k : Nat))
def iRevR (m : RM) : IM := fun env st => (m env st).bind fun p st1 => if smallI p.1 ∧ smallI p.2 then .ok ((rngD p.1 p.2).reverse, []) st1 else .bad
theorem fi_revR {m : RM} (hg : Gl X "reversed") (hm : X.mg "reversed" = none) (he : FR X W e m) (hs : starEach [e] X.env = (false, eval e X.env) :: starEach [] X.env := by rfl) : FI X W tg (.Call (.Name "reversed" p) [e] [] pos) (iRevR m) :=
  PI.imp (pi_revR hg hm he hs) fun σ H Q ⟨r, env, st, hE, hS, h⟩ => ⟨r, env, st, hE, hS, RES.seq h fun q0 st1 x H1 r1 e1 s1 v1 h1 => by
    cases v1
    by_cases hj : smallI q0.1 ∧ smallI q0.2
    · rw [if_pos hj] at h1
      obtain ⟨⟨i1, i2⟩, j1, j2⟩ := hj
      refine ⟨by omega, by omega, by omega, by omega, RES.ok h1 s1 ⟨fun H2 r2 st2 i e s2 hst => ?_⟩⟩
      have hlen : (rngD q0.1 q0.2).length = (q0.2 - q0.1).toNat := by unfold rngD; simp
      rw [List.length_reverse, hlen]
      refine ⟨fun hi => hi, fun hi => hi, fun d hd x H3 hy => ?_⟩
      obtain ⟨rfl, rfl⟩ := hy
      have hi : i < (rngD q0.1 q0.2).length := by
        have := (List.getElem?_eq_some_iff.mp hd).1
        simpa using this
      rw [List.getElem?_reverse hi] at hd
      rw [hlen] at hi
      unfold rngD at hd
      rw [List.getElem?_map, List.length_map, List.length_range, List.getElem?_range (by omega)] at hd
      cases hd
      refine ⟨Ext.refl _ _, s2, ?_⟩
      refine Or.inl ?_
      show V.int _ = V.int _
      congr 1
      omega
    · rw [if_neg hj] at h1; exact h1.elim⟩
def nRng (m : RM) : Env → Sto → Res (List D) := fun env st => (m env st).bind fun p st1 => if smallI p.1 ∧ smallI p.2 ∧ (p.2 - p.1).toNat ≤ 1000000 then .ok (rngD p.1 p.2) st1 else .bad
theorem vds_rng {K H r} {i j : Int} : VDs K H r (rngD i j) (rgV i j) := by
  unfold rngD rgV
  have : ∀ l : List Nat, VDs K H r (l.map fun k => D.int (i + (k : Nat))) (l.map fun k => V.int (i + (k : Nat))) := by
    intro l
    induction l with
    | nil => rfl
    | cons k l ih => exact ⟨_, _, rfl, rfl, ih⟩
  exact this _
theorem fn_listR {m : RM} (hc : X.calm = true) (hg : Gl X "list") (hm : X.mg "list" = none) (he : FR X W e m) (na : starEach [e] X.env = (false, eval e X.env) :: starEach [] X.env := by rfl) : FN X W (.Call (.Name "list" p) [e] [] pos) (nRng m) :=
  PE.imp (pe_listRg hc hg hm he na) fun σ H Q ⟨r, env, st, hE, hS, h⟩ => ⟨r, env, st, hE, hS, RES.seq h fun q0 st1 x H1 r1 e1 s1 v1 h1 => by
    cases v1
    by_cases hj : smallI q0.1 ∧ smallI q0.2 ∧ (q0.2 - q0.1).toNat ≤ 1000000
    · rw [if_pos hj] at h1
      obtain ⟨⟨i1, i2⟩, ⟨j1, j2⟩, hl⟩ := hj
      exact ⟨⟨by omega, by omega, by omega, by omega, by omega⟩, fun p hp => RES.ok h1 s1 vds_rng p hp⟩
    · rw [if_neg hj] at h1; exact h1.elim⟩
def eTupRg (m : RM) : EM := fun env st => (nRng m env st).bind fun ds st1 => .ok (.tup ds) st1
theorem fe_tupR {m : RM} (hc : X.calm = true) (hg : Gl X "tuple") (hm : X.mg "tuple" = none) (he : FR X W e m) (na : starEach [e] X.env = (false, eval e X.env) :: starEach [] X.env := by rfl) : FE X W (.Call (.Name "tuple" p) [e] [] pos) (eTupRg m) :=
  PE.imp (pe_tupRgZ hc hg hm he na) fun σ H Q ⟨r, env, st, hE, hS, h⟩ => by
    have h' : RES X.K X.mg (RV X.K) (WE W σ) H r ((m env st).bind fun p st1 => if smallI p.1 ∧ smallI p.2 ∧ (p.2 - p.1).toNat ≤ 1000000 then .ok (.tup (rngD p.1 p.2)) st1 else .bad) Q := by
      revert h
      unfold eTupRg nRng
      cases m env st with
      | ok p st1 =>
        simp only [Res.bind_ok]
        by_cases hj : smallI p.1 ∧ smallI p.2 ∧ (p.2 - p.1).toNat ≤ 1000000
        · rw [if_pos hj, if_pos hj]; exact fun h => h
        · rw [if_neg hj, if_neg hj]; exact fun h => h
      | ex x st1 => exact fun h => h
      | bad => exact fun h => h
    exact ⟨r, env, st, hE, hS, RES.seq h' fun q0 st1 x H1 r1 e1 s1 v1 h1 => by
      cases v1
      by_cases hj : smallI q0.1 ∧ smallI q0.2 ∧ (q0.2 - q0.1).toNat ≤ 1000000
      · rw [if_pos hj] at h1
        obtain ⟨⟨i1, i2⟩, ⟨j1, j2⟩, hl⟩ := hj
        exact ⟨⟨by omega, by omega, by omega, by omega, by omega⟩, fun p o ho hp => RES.ok' h1 (Ext.fresh hp) (s1.fresh hp) ⟨p, _, rfl, .inl ⟨s1.notin hp, o, ho, upd_same⟩, vds_rng⟩⟩
      · rw [if_neg hj] at h1; exact h1.elim⟩

/-! ### xs.index(x), flat items -/
def flatD : D → Bool
  | .non => true
  | .int _ => true
  | .str _ => true
  | _ => false
def eqFD : D → D → Bool
  | .non, .non => true
  | .int i, .int j => i == j
  | .str i, .str j => i == j
  | _, _ => false
theorem flat_v {K H r} {d : D} {x : V} (h : flatD d = true) (v : VD K H r d x) : flatV x = true := by
  cases d with
  | non => cases v; rfl
  | int _ => cases v; rfl
  | str _ => cases v; rfl
  | _ => cases h
theorem eqF_v {K H r} {d e : D} {x y : V} (h : flatD d = true) (h' : flatD e = true) (v : VD K H r d x) (w : VD K H r e y) : eqV x y = eqFD d e := by
  cases d with
  | non => cases v; cases e with
    | non => cases w; rfl
    | int _ => cases w; rfl
    | str _ => cases w; rfl
    | _ => cases h'
  | int _ => cases v; cases e with
    | non => cases w; rfl
    | int _ => cases w; rfl
    | str _ => cases w; rfl
    | _ => cases h'
  | str _ => cases v; cases e with
    | non => cases w; rfl
    | int _ => cases w; rfl
    | str _ => cases w; rfl
    | _ => cases h'
  | _ => cases h
def fstIx (d : D) : List D → Nat → Option Nat
  | [], _ => none
  | e :: es, i => if eqFD e d = true then some i else fstIx d es (i + 1)
theorem fstIx_ok {d : D} : ∀ {es : List D} {i j : Nat}, fstIx d es i = some j → ∃ n, j = i + n ∧ (∃ e, es[n]? = some e ∧ eqFD e d = true) ∧ ∀ m, m < n → ∀ e, es[m]? = some e → eqFD e d = false
  | [], i, j, h => by cases h
  | e :: es, i, j, h => by
    unfold fstIx at h
    by_cases hc : eqFD e d = true
    · rw [if_pos hc] at h; cases h
      exact ⟨0, rfl, ⟨e, rfl, hc⟩, fun m hm => absurd hm (by omega)⟩
    · rw [if_neg hc] at h
      obtain ⟨n, h1, ⟨e', h2, h3⟩, h4⟩ := fstIx_ok h
      refine ⟨n + 1, by omega, ⟨e', by simpa using h2, h3⟩, fun m hm e2 he2 => ?_⟩
      cases m with
      | zero => simp at he2; subst he2; simpa using hc
      | succ m => exact h4 m (by omega) e2 (by simpa using he2)
def idxD : D → List D → Sto → Res D
  | d, [e], st => match lstD d st with
    | some es => if flatD e = true ∧ es.all flatD = true then (match fstIx e es 0 with
      | some j => .ok (.int (j : Nat)) st
      | none => .bad) else .bad
    | none => .bad
  | _, _, _ => .bad
theorem me_index : MeF X "list.index" "list" idxD isLst := ⟨fun s v h => isLst_ty s v h, _, mt_index, fun E H r st d ds x xs Q s v vs h => by
  unfold idxD at h
  split at h
  · rename_i e
    obtain ⟨y, rfl, w⟩ := vds1 vs
    cases q : lstD d st with
    | none => simp only [q] at h; exact h.elim
    | some es =>
      simp only [q] at h
      by_cases hf : flatD e = true ∧ es.all flatD = true
      · rw [if_pos hf] at h
        obtain ⟨f1, f2⟩ := hf
        cases q2 : fstIx e es 0 with
        | none => simp only [q2] at h; exact h.elim
        | some j =>
          simp only [q2] at h
          obtain ⟨n, h1, ⟨e', h2, h3⟩, h4⟩ := fstIx_ok q2
          have e0 : j = n := by omega
          subst e0
          obtain ⟨a, ys, rfl, k1, k2⟩ := lstD_v s q v
          obtain ⟨z, k3, k4⟩ := k1.get h2
          have fe : ∀ {m : Nat} {e : D}, es[m]? = some e → flatD e = true := fun hm => List.all_eq_true.mp f2 _ (List.mem_of_getElem? hm)
          refine ⟨a, ys, y, j, z, rfl, rfl, k2, flat_v f1 w, List.all_eq_true.mpr fun u hu => ?_, k3, by rw [eqF_v (fe h2) f1 k4 w]; exact h3, fun m u hm hu => ?_, RES.ok h s rfl⟩
          · obtain ⟨i, hi, ei⟩ := List.getElem_of_mem hu
            obtain ⟨d', g1, g2⟩ := k1.getD (List.getElem?_eq_getElem hi)
            rw [ei] at g2
            exact flat_v (fe g1) g2
          · obtain ⟨d', g1, g2⟩ := k1.getD hu
            rw [eqF_v (fe g1) f1 g2 w]
            exact h4 m hm d' g1
      · rw [if_neg hf] at h; exact h.elim
  · exact h.elim⟩
end
end FL

namespace FL
open PySem PySem.Spec PyProof.Rows L2
variable [TabCtx]

/-! ### the combinators' equations, applied: what is reckoned next stands alone, nothing under a binder -/
def aCons_k2  (env : Env) (d : D) (r : Res (List D)) : Res (List D) := r.bind fun ds st2 => .ok (d :: ds) st2
theorem aCons_o2  (env : Env) (d : D) (ds : List D) (st2 : Sto) : aCons_k2  env d (.ok ds st2) = .ok (d :: ds) st2 := rfl
def aCons_k1 (mr : Env → Sto → Res (List D)) (env : Env) (r : Res (D)) : Res (List D) := r.bind fun d st1 => aCons_k2  env d (mr env st1)
theorem aCons_o1 (mr : Env → Sto → Res (List D)) (env : Env) (d : D) (st1 : Sto) : aCons_k1 mr env (.ok d st1) = aCons_k2  env d (mr env st1) := rfl
theorem aCons_ap (ma : EM) (mr : Env → Sto → Res (List D)) (env : Env) (st : Sto) : aCons ma mr env st = aCons_k1 mr env (ma env st) := rfl
def eTup_k1  (env : Env) (r : Res (List D)) : Res D := r.bind fun ds st1 => if ds.length ≤ 1000 then .ok (.tup ds) st1 else .bad
theorem eTup_o1  (env : Env) (ds : List D) (st1 : Sto) : eTup_k1  env (.ok ds st1) = if ds.length ≤ 1000 then .ok (.tup ds) st1 else .bad := rfl
theorem eTup_ap (ms : Env → Sto → Res (List D)) (env : Env) (st : Sto) : eTup ms env st = eTup_k1  env (ms env st) := rfl
def nLst_k1  (env : Env) (r : Res (List D)) : Res (List D) := r.bind fun ds st1 => if ds.length ≤ 1000 then .ok ds st1 else .bad
theorem nLst_o1  (env : Env) (ds : List D) (st1 : Sto) : nLst_k1  env (.ok ds st1) = if ds.length ≤ 1000 then .ok ds st1 else .bad := rfl
theorem nLst_ap (ms : Env → Sto → Res (List D)) (env : Env) (st : Sto) : nLst ms env st = nLst_k1  env (ms env st) := rfl
def eFrz_k1  (env : Env) (r : Res (List D)) : Res D := r.bind fun ds st1 => .ok (.lst ds) st1
theorem eFrz_o1  (env : Env) (ds : List D) (st1 : Sto) : eFrz_k1  env (.ok ds st1) = .ok (.lst ds) st1 := rfl
theorem eFrz_ap (ms : Env → Sto → Res (List D)) (env : Env) (st : Sto) : eFrz ms env st = eFrz_k1  env (ms env st) := rfl
def eNew_k1  (env : Env) (r : Res (List D)) : Res D := r.bind fun ds st1 => .ok (.loc st1.length) (st1 ++ [.lst ds])
theorem eNew_o1  (env : Env) (ds : List D) (st1 : Sto) : eNew_k1  env (.ok ds st1) = .ok (.loc st1.length) (st1 ++ [.lst ds]) := rfl
theorem eNew_ap (ms : Env → Sto → Res (List D)) (env : Env) (st : Sto) : eNew ms env st = eNew_k1  env (ms env st) := rfl
def eOp_k2 (g : D → D → Sto → Res D) (env : Env) (d : D) (r : Res (D)) : Res D := r.bind fun e st2 => g d e st2
theorem eOp_o2 (g : D → D → Sto → Res D) (env : Env) (d : D) (e : D) (st2 : Sto) : eOp_k2 g env d (.ok e st2) = g d e st2 := rfl
def eOp_k1 (g : D → D → Sto → Res D) (mb : EM) (env : Env) (r : Res (D)) : Res D := r.bind fun d st1 => eOp_k2 g env d (mb env st1)
theorem eOp_o1 (g : D → D → Sto → Res D) (mb : EM) (env : Env) (d : D) (st1 : Sto) : eOp_k1 g mb env (.ok d st1) = eOp_k2 g env d (mb env st1) := rfl
theorem eOp_ap (g : D → D → Sto → Res D) (ma mb : EM) (env : Env) (st : Sto) : eOp g ma mb env st = eOp_k1 g mb env (ma env st) := rfl
def tNotM_k1  (env : Env) (r : Res (Bool)) : Res Bool := r.bind fun k st1 => .ok (!k) st1
theorem tNotM_o1  (env : Env) (k : Bool) (st1 : Sto) : tNotM_k1  env (.ok k st1) = .ok (!k) st1 := rfl
theorem tNotM_ap (ta : Env → Sto → Res Bool) (env : Env) (st : Sto) : tNotM ta env st = tNotM_k1  env (ta env st) := rfl
def sDrop_k1  (env : Env) (r : Res (D)) : SRes := r.on env fun d st1 => .nx env st1
theorem sDrop_o1  (env : Env) (d : D) (st1 : Sto) : sDrop_k1  env (.ok d st1) = .nx env st1 := rfl
theorem sDrop_ap (m : EM) (env : Env) (st : Sto) : sDrop m env st = sDrop_k1  env (m env st) := rfl
def sRet_k1  (env : Env) (r : Res (D)) : SRes := r.on env fun d st1 => .rt d st1
theorem sRet_o1  (env : Env) (d : D) (st1 : Sto) : sRet_k1  env (.ok d st1) = .rt d st1 := rfl
theorem sRet_ap (m : EM) (env : Env) (st : Sto) : sRet m env st = sRet_k1  env (m env st) := rfl
def sSet_k1 (i : Nat) (env : Env) (r : Res (D)) : SRes := r.on env fun d st1 => .nx (env.set i (some d)) st1
theorem sSet_o1 (i : Nat) (env : Env) (d : D) (st1 : Sto) : sSet_k1 i env (.ok d st1) = .nx (env.set i (some d)) st1 := rfl
theorem sSet_ap (i : Nat) (m : EM) (env : Env) (st : Sto) : sSet i m env st = sSet_k1 i env (m env st) := rfl
def sPut_k3  (env : Env) (d : D) (o : D) (r : Res (D)) : SRes := r.on env fun i st3 => match setD o i d st3 with
  | some st4 => .nx env st4
  | none => .bad
theorem sPut_o3  (env : Env) (d : D) (o : D) (i : D) (st3 : Sto) : sPut_k3  env d o (.ok i st3) = match setD o i d st3 with
  | some st4 => .nx env st4
  | none => .bad := rfl
def sPut_k2 (mi : EM) (env : Env) (d : D) (r : Res (D)) : SRes := r.on env fun o st2 => sPut_k3  env d o (mi env st2)
theorem sPut_o2 (mi : EM) (env : Env) (d : D) (o : D) (st2 : Sto) : sPut_k2 mi env d (.ok o st2) = sPut_k3  env d o (mi env st2) := rfl
def sPut_k1 (mo : EM) (mi : EM) (env : Env) (r : Res (D)) : SRes := r.on env fun d st1 => sPut_k2 mi env d (mo env st1)
theorem sPut_o1 (mo : EM) (mi : EM) (env : Env) (d : D) (st1 : Sto) : sPut_k1 mo mi env (.ok d st1) = sPut_k2 mi env d (mo env st1) := rfl
theorem sPut_ap (mv mo mi : EM) (env : Env) (st : Sto) : sPut mv mo mi env st = sPut_k1 mo mi env (mv env st) := rfl
def nSl_k3  (env : Env) (d : D) (lo : Option Int) (r : Res (Option Int)) : Res (List D) := r.bind fun hi st3 => match lstD d st3 with
  | some ds => .ok (cutL ds lo hi) st3
  | none => .bad
theorem nSl_o3  (env : Env) (d : D) (lo : Option Int) (hi : Option Int) (st3 : Sto) : nSl_k3  env d lo (.ok hi st3) = match lstD d st3 with
  | some ds => .ok (cutL ds lo hi) st3
  | none => .bad := rfl
def nSl_k2 (mh : OM) (env : Env) (d : D) (r : Res (Option Int)) : Res (List D) := r.bind fun lo st2 => nSl_k3  env d lo (mh env st2)
theorem nSl_o2 (mh : OM) (env : Env) (d : D) (lo : Option Int) (st2 : Sto) : nSl_k2 mh env d (.ok lo st2) = nSl_k3  env d lo (mh env st2) := rfl
def nSl_k1 (ml : OM) (mh : OM) (env : Env) (r : Res (D)) : Res (List D) := r.bind fun d st1 => nSl_k2 mh env d (ml env st1)
theorem nSl_o1 (ml : OM) (mh : OM) (env : Env) (d : D) (st1 : Sto) : nSl_k1 ml mh env (.ok d st1) = nSl_k2 mh env d (ml env st1) := rfl
theorem nSl_ap (ma : EM) (ml mh : OM) (env : Env) (st : Sto) : nSl ma ml mh env st = nSl_k1 ml mh env (ma env st) := rfl
def eSl_k3  (env : Env) (d : D) (lo : Option Int) (r : Res (Option Int)) : Res D := r.bind fun hi st3 => slD d lo hi st3
theorem eSl_o3  (env : Env) (d : D) (lo : Option Int) (hi : Option Int) (st3 : Sto) : eSl_k3  env d lo (.ok hi st3) = slD d lo hi st3 := rfl
def eSl_k2 (mh : OM) (env : Env) (d : D) (r : Res (Option Int)) : Res D := r.bind fun lo st2 => eSl_k3  env d lo (mh env st2)
theorem eSl_o2 (mh : OM) (env : Env) (d : D) (lo : Option Int) (st2 : Sto) : eSl_k2 mh env d (.ok lo st2) = eSl_k3  env d lo (mh env st2) := rfl
def eSl_k1 (ml : OM) (mh : OM) (env : Env) (r : Res (D)) : Res D := r.bind fun d st1 => eSl_k2 mh env d (ml env st1)
theorem eSl_o1 (ml : OM) (mh : OM) (env : Env) (d : D) (st1 : Sto) : eSl_k1 ml mh env (.ok d st1) = eSl_k2 mh env d (ml env st1) := rfl
theorem eSl_ap (ma : EM) (ml mh : OM) (env : Env) (st : Sto) : eSl ma ml mh env st = eSl_k1 ml mh env (ma env st) := rfl
def nCat_k2  (env : Env) (d : D) (r : Res (D)) : Res (List D) := r.bind fun e st2 => match madeD d st2, madeD e st2 with
  | some xs, some ys => if xs.length + ys.length ≤ 1000000 then .ok (xs ++ ys) st2 else .bad
  | _, _ => .bad
theorem nCat_o2  (env : Env) (d : D) (e : D) (st2 : Sto) : nCat_k2  env d (.ok e st2) = match madeD d st2, madeD e st2 with
  | some xs, some ys => if xs.length + ys.length ≤ 1000000 then .ok (xs ++ ys) st2 else .bad
  | _, _ => .bad := rfl
def nCat_k1 (mb : EM) (env : Env) (r : Res (D)) : Res (List D) := r.bind fun d st1 => nCat_k2  env d (mb env st1)
theorem nCat_o1 (mb : EM) (env : Env) (d : D) (st1 : Sto) : nCat_k1 mb env (.ok d st1) = nCat_k2  env d (mb env st1) := rfl
theorem nCat_ap (ma mb : EM) (env : Env) (st : Sto) : nCat ma mb env st = nCat_k1 mb env (ma env st) := rfl
def nRep_k2  (env : Env) (d : D) (r : Res (D)) : Res (List D) := r.bind fun e st2 => match madeD d st2, e with
  | some xs, .int k => if 0 ≤ k ∧ k ≤ 1000000 ∧ xs.length * k.toNat ≤ 1000000 then .ok (repL xs k) st2 else .bad
  | _, _ => .bad
theorem nRep_o2  (env : Env) (d : D) (e : D) (st2 : Sto) : nRep_k2  env d (.ok e st2) = match madeD d st2, e with
  | some xs, .int k => if 0 ≤ k ∧ k ≤ 1000000 ∧ xs.length * k.toNat ≤ 1000000 then .ok (repL xs k) st2 else .bad
  | _, _ => .bad := rfl
def nRep_k1 (mb : EM) (env : Env) (r : Res (D)) : Res (List D) := r.bind fun d st1 => nRep_k2  env d (mb env st1)
theorem nRep_o1 (mb : EM) (env : Env) (d : D) (st1 : Sto) : nRep_k1 mb env (.ok d st1) = nRep_k2  env d (mb env st1) := rfl
theorem nRep_ap (ma mb : EM) (env : Env) (st : Sto) : nRep ma mb env st = nRep_k1 mb env (ma env st) := rfl
def sFor_k1 (gc : Option (List Nat)) (g : GM) (body : SM4) (env : Env) (r : Res (List D × List (Nat × List D))) : SRes := r.on env fun p st1 => loopF gc p.2 g body p.1 (killE gc env) st1
theorem sFor_o1 (gc : Option (List Nat)) (g : GM) (body : SM4) (env : Env) (p : List D × List (Nat × List D)) (st1 : Sto) : sFor_k1 gc g body env (.ok p st1) = loopF gc p.2 g body p.1 (killE gc env) st1 := rfl
theorem sFor_ap (gc : Option (List Nat)) (mi : IM) (g : GM) (body : SM4) (env : Env) (st : Sto) : sFor gc mi g body env st = sFor_k1 gc g body env (mi env st) := rfl
def nComp_k1 (vs : List Nat) (g : GM) (tt : Env → Sto → Res Bool) (te : EM) (env : Env) (r : Res (List D × List (Nat × List D))) : Res (List D) := r.bind fun p st1 => compL p.2 g tt te (wipeE env vs) p.1 st1 []
theorem nComp_o1 (vs : List Nat) (g : GM) (tt : Env → Sto → Res Bool) (te : EM) (env : Env) (p : List D × List (Nat × List D)) (st1 : Sto) : nComp_k1 vs g tt te env (.ok p st1) = compL p.2 g tt te (wipeE env vs) p.1 st1 [] := rfl
theorem nComp_ap (vs : List Nat) (mi : IM) (g : GM) (tt : Env → Sto → Res Bool) (te : EM) (env : Env) (st : Sto) : nComp vs mi g tt te env st = nComp_k1 vs g tt te env (mi env st) := rfl
def eCall_k1 (n : Nat) (m : Fn) (env : Env) (r : Res (List D)) : Res D := r.bind fun ds st1 => if ds.length = n then m ds st1 else .bad
theorem eCall_o1 (n : Nat) (m : Fn) (env : Env) (ds : List D) (st1 : Sto) : eCall_k1 n m env (.ok ds st1) = if ds.length = n then m ds st1 else .bad := rfl
theorem eCall_ap (n : Nat) (m : Fn) (ms : Env → Sto → Res (List D)) (env : Env) (st : Sto) : eCall n m ms env st = eCall_k1 n m env (ms env st) := rfl
def rOne_k1  (env : Env) (r : Res (D)) : Res (Int × Int) := r.bind fun d st1 => match d with
  | .int n => .ok ((0 : Int), n) st1
  | _ => .bad
theorem rOne_o1  (env : Env) (d : D) (st1 : Sto) : rOne_k1  env (.ok d st1) = match d with
  | .int n => .ok ((0 : Int), n) st1
  | _ => .bad := rfl
theorem rOne_ap (m : EM) (env : Env) (st : Sto) : rOne m env st = rOne_k1  env (m env st) := rfl
def rTwo_k2  (env : Env) (d : D) (r : Res (D)) : Res (Int × Int) := r.bind fun e st2 => match d, e with
  | .int i, .int j => .ok (i, j) st2
  | _, _ => .bad
theorem rTwo_o2  (env : Env) (d : D) (e : D) (st2 : Sto) : rTwo_k2  env d (.ok e st2) = match d, e with
  | .int i, .int j => .ok (i, j) st2
  | _, _ => .bad := rfl
def rTwo_k1 (mb : EM) (env : Env) (r : Res (D)) : Res (Int × Int) := r.bind fun d st1 => rTwo_k2  env d (mb env st1)
theorem rTwo_o1 (mb : EM) (env : Env) (d : D) (st1 : Sto) : rTwo_k1 mb env (.ok d st1) = rTwo_k2  env d (mb env st1) := rfl
theorem rTwo_ap (ma mb : EM) (env : Env) (st : Sto) : rTwo ma mb env st = rTwo_k1 mb env (ma env st) := rfl
def iRevR_k1  (env : Env) (r : Res (Int × Int)) : Res (List D × List (Nat × List D)) := r.bind fun p st1 => if smallI p.1 ∧ smallI p.2 then .ok ((rngD p.1 p.2).reverse, []) st1 else .bad
theorem iRevR_o1  (env : Env) (p : Int × Int) (st1 : Sto) : iRevR_k1  env (.ok p st1) = if smallI p.1 ∧ smallI p.2 then .ok ((rngD p.1 p.2).reverse, []) st1 else .bad := rfl
theorem iRevR_ap (m : RM) (env : Env) (st : Sto) : iRevR m env st = iRevR_k1  env (m env st) := rfl
def nRng_k1  (env : Env) (r : Res (Int × Int)) : Res (List D) := r.bind fun p st1 => if smallI p.1 ∧ smallI p.2 ∧ (p.2 - p.1).toNat ≤ 1000000 then .ok (rngD p.1 p.2) st1 else .bad
theorem nRng_o1  (env : Env) (p : Int × Int) (st1 : Sto) : nRng_k1  env (.ok p st1) = if smallI p.1 ∧ smallI p.2 ∧ (p.2 - p.1).toNat ≤ 1000000 then .ok (rngD p.1 p.2) st1 else .bad := rfl
theorem nRng_ap (m : RM) (env : Env) (st : Sto) : nRng m env st = nRng_k1  env (m env st) := rfl
def iSeq_k1  (env : Env) (r : Res (D)) : Res (List D × List (Nat × List D)) := r.bind fun d st1 => match seqD d st1 with
  | some ds => .ok (ds, srcD d ds) st1
  | none => .bad
theorem iSeq_o1  (env : Env) (d : D) (st1 : Sto) : iSeq_k1  env (.ok d st1) = match seqD d st1 with
  | some ds => .ok (ds, srcD d ds) st1
  | none => .bad := rfl
theorem iSeq_ap (m : EM) (env : Env) (st : Sto) : iSeq m env st = iSeq_k1  env (m env st) := rfl
def iRev_k1  (env : Env) (r : Res (D)) : Res (List D × List (Nat × List D)) := r.bind fun d st1 => match seqD d st1 with
  | some ds => .ok (ds.reverse, iRev.srcR d ds) st1
  | none => .bad
theorem iRev_o1  (env : Env) (d : D) (st1 : Sto) : iRev_k1  env (.ok d st1) = match seqD d st1 with
  | some ds => .ok (ds.reverse, iRev.srcR d ds) st1
  | none => .bad := rfl
theorem iRev_ap (m : EM) (env : Env) (st : Sto) : iRev m env st = iRev_k1  env (m env st) := rfl
def eIsi_k1 (T : Ty) (env : Env) (r : Res (D)) : Res D := r.bind fun d st1 => match tyD d st1 with
  | some t => .ok (.bl (t.le T)) st1
  | none => .bad
theorem eIsi_o1 (T : Ty) (env : Env) (d : D) (st1 : Sto) : eIsi_k1 T env (.ok d st1) = match tyD d st1 with
  | some t => .ok (.bl (t.le T)) st1
  | none => .bad := rfl
theorem eIsi_ap (T : Ty) (m : EM) (env : Env) (st : Sto) : eIsi T m env st = eIsi_k1 T env (m env st) := rfl

theorem eC_ap (d : D) (env : Env) (st : Sto) : eC d env st = .ok d st := rfl
theorem aNil_ap (env : Env) (st : Sto) : aNil env st = .ok [] st := rfl
theorem sNext_ap (env : Env) (st : Sto) : sNext env st = .nx env st := rfl
theorem sSeq_ap (u v : SM4) (env : Env) (st : Sto) : sSeq u v env st = (u env st).bind v := rfl
theorem sRetN_ap (env : Env) (st : Sto) : sRetN env st = .rt .non st := rfl
theorem tTru_ap (m : EM) (env : Env) (st : Sto) : tTru m env st = (m env st).bind truD := rfl
theorem eUn_ap (g : D → Sto → Res D) (ma : EM) (env : Env) (st : Sto) : eUn g ma env st = (ma env st).bind g := rfl
theorem eB_ap (g : List D → Sto → Res D) (ms : Env → Sto → Res (List D)) (env : Env) (st : Sto) : eB g ms env st = (ms env st).bind g := rfl
theorem nB_ap (g : List D → Sto → Res (List D)) (ms : Env → Sto → Res (List D)) (env : Env) (st : Sto) : nB g ms env st = (ms env st).bind g := rfl
theorem noTest_ap (env : Env) (st : Sto) : noTest env st = .ok true st := rfl
theorem eDNew_ap (env : Env) (st : Sto) : eDNew env st = .ok (.loc st.length) (st ++ [.dic []]) := rfl
theorem oNo_ap (env : Env) (st : Sto) : oNo env st = .ok none st := rfl
theorem gSet_ap (i : Nat) (d : D) (env : Env) (st : Sto) : gSet i d env st = .ok (env.set i (some d)) st := rfl
theorem gsNil_ap (env : Env) (st : Sto) : gsNil [] env st = .ok env st := rfl
def gsCons_k (gs : GMs) (r : List D) (q : Res Env) : Res Env := match q with
  | .ok env' st' => gs r env' st'
  | _ => .bad
theorem gsCons_ap (g : GM) (gs : GMs) (d : D) (r : List D) (env : Env) (st : Sto) : gsCons g gs (d :: r) env st = gsCons_k gs r (g d env st) := rfl
theorem gsCons_o (gs : GMs) (r : List D) (env : Env) (st : Sto) : gsCons_k gs r (.ok env st) = gs r env st := rfl
theorem gTupM_ap (n : Nat) (gs : GMs) (ds : List D) (env : Env) (st : Sto) : gTupM n gs (.tup ds) env st = if ds.length = n then gs ds env st else .bad := rfl
def sAsg_k2 (q : Res Env) : SRes := match q with
  | .ok env2 st2 => .nx env2 st2
  | _ => .bad
def sAsg_k1 (g : GM) (env : Env) (r : Res D) : SRes := r.on env fun d st1 => sAsg_k2 (g d env st1)
theorem sAsg_ap (m : EM) (g : GM) (env : Env) (st : Sto) : sAsg m g env st = sAsg_k1 g env (m env st) := rfl
theorem sAsg_o1 (g : GM) (env : Env) (d : D) (st : Sto) : sAsg_k1 g env (.ok d st) = sAsg_k2 (g d env st) := rfl
theorem sAsg_o2 (env : Env) (st : Sto) : sAsg_k2 (.ok env st) = .nx env st := rfl
theorem sWhile_ap (n : Nat) (gc : Option (List Nat)) (c : Env → Sto → Res Bool) (body : SM4) (env : Env) (st : Sto) : sWhile n gc c body env st = whileF gc c body n (killE gc env) st := rfl
def asB_k (r : Res D) : Res Bool := r.bind fun d st1 => match d with
  | .bl k => .ok k st1
  | _ => .bad
theorem asB_ap (m : EM) (env : Env) (st : Sto) : asB m env st = asB_k (m env st) := rfl
theorem asB_o (k : Bool) (st : Sto) : asB_k (.ok (.bl k) st) = .ok k st := rfl
def tAndM_k (tb : Env → Sto → Res Bool) (env : Env) (r : Res Bool) : Res Bool := r.bind fun k st1 => if k = true then tb env st1 else .ok false st1
theorem tAndM_ap (ta tb : Env → Sto → Res Bool) (env : Env) (st : Sto) : tAndM ta tb env st = tAndM_k tb env (ta env st) := rfl
theorem tAndM_t (tb : Env → Sto → Res Bool) (env : Env) (st : Sto) : tAndM_k tb env (.ok true st) = tb env st := rfl
theorem tAndM_f (tb : Env → Sto → Res Bool) (env : Env) (st : Sto) : tAndM_k tb env (.ok false st) = .ok false st := rfl
def tOrM_k (tb : Env → Sto → Res Bool) (env : Env) (r : Res Bool) : Res Bool := r.bind fun k st1 => if k = true then .ok true st1 else tb env st1
theorem tOrM_ap (ta tb : Env → Sto → Res Bool) (env : Env) (st : Sto) : tOrM ta tb env st = tOrM_k tb env (ta env st) := rfl
theorem tOrM_t (tb : Env → Sto → Res Bool) (env : Env) (st : Sto) : tOrM_k tb env (.ok true st) = .ok true st := rfl
theorem tOrM_f (tb : Env → Sto → Res Bool) (env : Env) (st : Sto) : tOrM_k tb env (.ok false st) = tb env st := rfl
def sIf_k (u v : SM4) (env : Env) (r : Res Bool) : SRes := r.on env fun k st1 => if k = true then u env st1 else v env st1
theorem sIf_ap (t : Env → Sto → Res Bool) (u v : SM4) (env : Env) (st : Sto) : sIf t u v env st = sIf_k u v env (t env st) := rfl
theorem sIf_t (u v : SM4) (env : Env) (st : Sto) : sIf_k u v env (.ok true st) = u env st := rfl
theorem sIf_f (u v : SM4) (env : Env) (st : Sto) : sIf_k u v env (.ok false st) = v env st := rfl
def eIf_k (u v : EM) (env : Env) (r : Res Bool) : Res D := r.bind fun k st1 => if k = true then u env st1 else v env st1
theorem eIf_ap (t : Env → Sto → Res Bool) (u v : EM) (env : Env) (st : Sto) : eIf t u v env st = eIf_k u v env (t env st) := rfl
theorem eIf_t (u v : EM) (env : Env) (st : Sto) : eIf_k u v env (.ok true st) = u env st := rfl
theorem eIf_f (u v : EM) (env : Env) (st : Sto) : eIf_k u v env (.ok false st) = v env st := rfl
def eAnd_k2 (mb : EM) (env : Env) (d : D) (r : Res Bool) : Res D := r.bind fun k st2 => if k = true then mb env st2 else .ok d st2
def eAnd_k1 (mb : EM) (env : Env) (r : Res D) : Res D := r.bind fun d st1 => eAnd_k2 mb env d (truD d st1)
theorem eAnd_ap (ma mb : EM) (env : Env) (st : Sto) : eAnd ma mb env st = eAnd_k1 mb env (ma env st) := rfl
theorem eAnd_o (mb : EM) (env : Env) (d : D) (st : Sto) : eAnd_k1 mb env (.ok d st) = eAnd_k2 mb env d (truD d st) := rfl
theorem eAnd_t (mb : EM) (env : Env) (d : D) (st : Sto) : eAnd_k2 mb env d (.ok true st) = mb env st := rfl
theorem eAnd_f (mb : EM) (env : Env) (d : D) (st : Sto) : eAnd_k2 mb env d (.ok false st) = .ok d st := rfl
def eOr_k2 (mb : EM) (env : Env) (d : D) (r : Res Bool) : Res D := r.bind fun k st2 => if k = true then .ok d st2 else mb env st2
def eOr_k1 (mb : EM) (env : Env) (r : Res D) : Res D := r.bind fun d st1 => eOr_k2 mb env d (truD d st1)
theorem eOr_ap (ma mb : EM) (env : Env) (st : Sto) : eOr ma mb env st = eOr_k1 mb env (ma env st) := rfl
theorem eOr_o (mb : EM) (env : Env) (d : D) (st : Sto) : eOr_k1 mb env (.ok d st) = eOr_k2 mb env d (truD d st) := rfl
theorem eOr_t (mb : EM) (env : Env) (d : D) (st : Sto) : eOr_k2 mb env d (.ok true st) = .ok d st := rfl
theorem eOr_f (mb : EM) (env : Env) (d : D) (st : Sto) : eOr_k2 mb env d (.ok false st) = mb env st := rfl
def eNot_k2 (r : Res Bool) : Res D := r.bind fun k st2 => .ok (.bl (!k)) st2
def eNot_k1 (r : Res D) : Res D := r.bind fun d st1 => eNot_k2 (truD d st1)
theorem eNot_ap (ma : EM) (env : Env) (st : Sto) : eNot ma env st = eNot_k1 (ma env st) := rfl
theorem eNot_o1 (d : D) (st : Sto) : eNot_k1 (.ok d st) = eNot_k2 (truD d st) := rfl
theorem eNot_o2 (k : Bool) (st : Sto) : eNot_k2 (.ok k st) = .ok (.bl (!k)) st := rfl
def oSome_k (r : Res D) : Res (Option Int) := r.bind fun d st1 => match d with
  | .int i => .ok (some i) st1
  | _ => .bad
theorem oSome_ap (m : EM) (env : Env) (st : Sto) : oSome m env st = oSome_k (m env st) := rfl
theorem oSome_o (i : Int) (st : Sto) : oSome_k (.ok (.int i) st) = .ok (some i) st := rfl
def eChain_k4 (g' : D → D → Sto → Res D) (e : D) (r : Res D) : Res D := r.bind fun f st4 => g' e f st4
def eChain_k3 (g' : D → D → Sto → Res D) (mc : EM) (env : Env) (e : D) (r : Res D) : Res D := r.bind fun z st3 => match z with
  | .bl true => eChain_k4 g' e (mc env st3)
  | .bl false => .ok (.bl false) st3
  | _ => .bad
def eChain_k2 (g g' : D → D → Sto → Res D) (mc : EM) (env : Env) (d : D) (r : Res D) : Res D := r.bind fun e st2 => eChain_k3 g' mc env e (g d e st2)
def eChain_k1 (g g' : D → D → Sto → Res D) (mb mc : EM) (env : Env) (r : Res D) : Res D := r.bind fun d st1 => eChain_k2 g g' mc env d (mb env st1)
theorem eChain_ap (g g' : D → D → Sto → Res D) (ma mb mc : EM) (env : Env) (st : Sto) : eChain g g' ma mb mc env st = eChain_k1 g g' mb mc env (ma env st) := rfl
theorem eChain_o1 (g g' : D → D → Sto → Res D) (mb mc : EM) (env : Env) (d : D) (st : Sto) : eChain_k1 g g' mb mc env (.ok d st) = eChain_k2 g g' mc env d (mb env st) := rfl
theorem eChain_o2 (g g' : D → D → Sto → Res D) (mc : EM) (env : Env) (d e : D) (st : Sto) : eChain_k2 g g' mc env d (.ok e st) = eChain_k3 g' mc env e (g d e st) := rfl
theorem eChain_t (g' : D → D → Sto → Res D) (mc : EM) (env : Env) (e : D) (st : Sto) : eChain_k3 g' mc env e (.ok (.bl true) st) = eChain_k4 g' e (mc env st) := rfl
theorem eChain_f (g' : D → D → Sto → Res D) (mc : EM) (env : Env) (e : D) (st : Sto) : eChain_k3 g' mc env e (.ok (.bl false) st) = .ok (.bl false) st := rfl
theorem eChain_o4 (g' : D → D → Sto → Res D) (e f : D) (st : Sto) : eChain_k4 g' e (.ok f st) = g' e f st := rfl
def eChain3_k1 (g g' g'' : D → D → Sto → Res D) (mb mc md : EM) (env : Env) (r : Res D) : Res D := r.bind fun d st1 => (mb env st1).bind fun e st2 => (g d e st2).bind fun z st3 => match z with
  | .bl true => (mc env st3).bind fun f st4 => (g' e f st4).bind fun z2 st5 => match z2 with
    | .bl true => (md env st5).bind fun u st6 => g'' f u st6
    | .bl false => .ok (.bl false) st5
    | _ => .bad
  | .bl false => .ok (.bl false) st3
  | _ => .bad
def eChain3_k3 (g' g'' : D → D → Sto → Res D) (mc md : EM) (env : Env) (e : D) (r : Res D) : Res D := r.bind fun z st3 => match z with
  | .bl true => (mc env st3).bind fun f st4 => (g' e f st4).bind fun z2 st5 => match z2 with
    | .bl true => (md env st5).bind fun u st6 => g'' f u st6
    | .bl false => .ok (.bl false) st5
    | _ => .bad
  | .bl false => .ok (.bl false) st3
  | _ => .bad
def eChain3_k2 (g g' g'' : D → D → Sto → Res D) (mc md : EM) (env : Env) (d : D) (r : Res D) : Res D := r.bind fun e st2 => eChain3_k3 g' g'' mc md env e (g d e st2)
theorem eChain3_ap (g g' g'' : D → D → Sto → Res D) (ma mb mc md : EM) (env : Env) (st : Sto) : eChain3 g g' g'' ma mb mc md env st = eChain3_k1 g g' g'' mb mc md env (ma env st) := rfl
theorem eChain3_o1 (g g' g'' : D → D → Sto → Res D) (mb mc md : EM) (env : Env) (d : D) (st : Sto) : eChain3_k1 g g' g'' mb mc md env (.ok d st) = eChain3_k2 g g' g'' mc md env d (mb env st) := rfl
theorem eChain3_o2 (g g' g'' : D → D → Sto → Res D) (mc md : EM) (env : Env) (d e : D) (st : Sto) : eChain3_k2 g g' g'' mc md env d (.ok e st) = eChain3_k3 g' g'' mc md env e (g d e st) := rfl
def eChain3_k4 (g' g'' : D → D → Sto → Res D) (md : EM) (env : Env) (e : D) (r : Res D) : Res D := r.bind fun f st4 => (g' e f st4).bind fun z2 st5 => match z2 with
    | .bl true => (md env st5).bind fun u st6 => g'' f u st6
    | .bl false => .ok (.bl false) st5
    | _ => .bad
theorem eChain3_t (g' g'' : D → D → Sto → Res D) (mc md : EM) (env : Env) (e : D) (st : Sto) : eChain3_k3 g' g'' mc md env e (.ok (.bl true) st) = eChain3_k4 g' g'' md env e (mc env st) := rfl
theorem eChain3_f (g' g'' : D → D → Sto → Res D) (mc md : EM) (env : Env) (e : D) (st : Sto) : eChain3_k3 g' g'' mc md env e (.ok (.bl false) st) = .ok (.bl false) st := rfl
theorem eChain3_o4 (g' g'' : D → D → Sto → Res D) (md : EM) (env : Env) (e f : D) (st : Sto) : eChain3_k4 g' g'' md env e (.ok f st) = eChain_k3 g'' md env f (g' e f st) := rfl
theorem iRange1_ap (ms : Env → Sto → Res (List D)) (env : Env) (st : Sto) : iRange1 ms env st = (ms env st).bind fun ds st1 => match ds with
  | [.int j] => if smallI j then .ok ((List.range j.toNat).map fun k => .int (k : Nat), []) st1 else .bad
  | _ => .bad := rfl
theorem iRange2_ap (ms : Env → Sto → Res (List D)) (env : Env) (st : Sto) : iRange2 ms env st = (ms env st).bind fun ds st1 => match ds with
  | [.int i, .int j] => if smallI i ∧ smallI j then .ok ((List.range (j - i).toNat).map fun k => .int (i + (k : Nat)), []) st1 else .bad
  | _ => .bad := rfl
def iEnum_k (r : Res (List D)) : Res (List D × List (Nat × List D)) := r.bind fun ds st1 => match ds with
  | [d] => match seqD d st1 with
    | some es => .ok (numL es, srcD d es) st1
    | none => .bad
  | _ => .bad
theorem iEnum_ap (ms : Env → Sto → Res (List D)) (env : Env) (st : Sto) : iEnum ms env st = iEnum_k (ms env st) := rfl
theorem iEnum_o (d : D) (st : Sto) {es : List D} (h : seqD d st = some es) : iEnum_k (.ok [d] st) = .ok (numL es, srcD d es) st := by
  show (match seqD d st with
    | some es => Res.ok (numL es, srcD d es) st
    | none => .bad) = _
  rw [h]
def iZip_k (r : Res (List D)) : Res (List D × List (Nat × List D)) := r.bind fun ds st1 => match ds with
  | [d, e] => if isTup d = isTup e then (match seqD d st1, seqD e st1 with
    | some xs, some ys => .ok (pairL xs ys, srcD d xs ++ srcD e ys) st1
    | _, _ => .bad) else .bad
  | _ => .bad
theorem iZip_ap (ms : Env → Sto → Res (List D)) (env : Env) (st : Sto) : iZip ms env st = iZip_k (ms env st) := rfl
theorem iZip_o (d e : D) (st : Sto) {xs ys : List D} (h : isTup d = isTup e) (h1 : seqD d st = some xs) (h2 : seqD e st = some ys) : iZip_k (.ok [d, e] st) = .ok (pairL xs ys, srcD d xs ++ srcD e ys) st := by
  show (if isTup d = isTup e then (match seqD d st, seqD e st with
    | some xs, some ys => Res.ok (pairL xs ys, srcD d xs ++ srcD e ys) st
    | _, _ => .bad) else .bad) = _
  rw [if_pos h, h1, h2]
def eMt_k2 (g : D → List D → Sto → Res D) (d : D) (r : Res (List D)) : Res D := r.bind fun ds st2 => g d ds st2
def eMt_k1 (ok : D → Sto → Bool) (g : D → List D → Sto → Res D) (ms : Env → Sto → Res (List D)) (env : Env) (r : Res D) : Res D := r.bind fun d st1 => if ok d st1 = true then eMt_k2 g d (ms env st1) else .bad
theorem eMt_ap (ok : D → Sto → Bool) (g : D → List D → Sto → Res D) (mo : EM) (ms : Env → Sto → Res (List D)) (env : Env) (st : Sto) : eMt ok g mo ms env st = eMt_k1 ok g ms env (mo env st) := rfl
theorem eMt_o1 (ok : D → Sto → Bool) (g : D → List D → Sto → Res D) (ms : Env → Sto → Res (List D)) (env : Env) (d : D) (st : Sto) (h : ok d st = true) : eMt_k1 ok g ms env (.ok d st) = eMt_k2 g d (ms env st) := if_pos h
theorem eMt_o2 (g : D → List D → Sto → Res D) (d : D) (ds : List D) (st : Sto) : eMt_k2 g d (.ok ds st) = g d ds st := rfl
theorem isLst_lst {ds : List D} {st : Sto} : isLst (.lst ds) st = true := rfl
def eTupRg_k (r : Res (List D)) : Res D := r.bind fun ds st1 => .ok (.tup ds) st1
theorem eTupRg_ap (m : RM) (env : Env) (st : Sto) : eTupRg m env st = eTupRg_k (nRng m env st) := rfl
theorem eTupRg_o (ds : List D) (st : Sto) : eTupRg_k (.ok ds st) = .ok (.tup ds) st := rfl

theorem eV_0 {d : D} {env : Env} {st : Sto} : eV 0 (some d :: env) st = .ok d st := rfl
theorem eV_s {i : Nat} {x : Option D} {env : Env} {st : Sto} : eV (i + 1) (x :: env) st = eV i env st := by
  unfold eV
  simp
/-! operations -/
theorem addD_i {i j : Int} {st : Sto} : addD (.int i) (.int j) st = .ok (.int (i + j)) st := rfl
theorem subD_i {i j : Int} {st : Sto} : subD (.int i) (.int j) st = .ok (.int (i - j)) st := rfl
theorem mulD_i {i j : Int} {st : Sto} (h : i.natAbs.log2 + j.natAbs.log2 < 1000000) : mulD (.int i) (.int j) st = .ok (.int (i * j)) st := if_pos h
theorem modD_i {i j : Int} {st : Sto} (h : 0 < j) : modD (.int i) (.int j) st = .ok (.int (i % j)) st := by
  show (if j = 0 then Res.bad else Res.ok (D.int (i.fmod j)) st) = _
  rw [if_neg (by omega), Int.fmod_eq_emod_of_nonneg _ (by omega)]
theorem fdivD_i {i j : Int} {st : Sto} (h : 0 < j) (h2 : j.natAbs.log2 < 9000) : fdivD (.int i) (.int j) st = .ok (.int (i / j)) st := by
  show (if j = 0 then Res.bad else if j.natAbs.log2 < 9000 then Res.ok (D.int (i.fdiv j)) st else .bad) = _
  rw [if_neg (by omega), if_pos h2, Int.fdiv_eq_ediv_of_nonneg _ (by omega)]
theorem ltD_i {i j : Int} {st : Sto} : ltD (.int i) (.int j) st = .ok (.bl (decide (i < j))) st := rfl
theorem leD_i {i j : Int} {st : Sto} : leD (.int i) (.int j) st = .ok (.bl (decide (i ≤ j))) st := rfl
theorem gtD_i {i j : Int} {st : Sto} : gtD (.int i) (.int j) st = .ok (.bl (decide (j < i))) st := rfl
theorem geD_i {i j : Int} {st : Sto} : geD (.int i) (.int j) st = .ok (.bl (decide (j ≤ i))) st := rfl
theorem eqD_i {i j : Int} {st : Sto} : eqD (.int i) (.int j) st = .ok (.bl (i == j)) st := rfl
theorem neD_i {i j : Int} {st : Sto} : neD (.int i) (.int j) st = .ok (.bl (!(i == j))) st := rfl
theorem lenB_scr {ns : List Int} {st : Sto} : lenB [.scr ns] st = .ok (.int (ns.length : Nat)) st := by
  show Res.ok (D.int ((ns.map D.int).length : Nat)) st = _
  rw [List.length_map]
theorem lenB_lst {ds : List D} {st : Sto} : lenB [.lst ds] st = .ok (.int (ds.length : Nat)) st := rfl
theorem lenB_tup {ds : List D} {st : Sto} : lenB [.tup ds] st = .ok (.int (ds.length : Nat)) st := rfl
theorem atI_nat {α : Type} {xs : List α} {i : Int} (h0 : 0 ≤ i) : atI xs i = xs[i.toNat]? := by
  unfold atI ixN
  rw [if_pos h0]
  by_cases h : i < xs.length
  · rw [if_pos h]; rfl
  · rw [if_neg h]
    rw [List.getElem?_eq_none (by omega)]; rfl
theorem ixD_scr {ns : List Int} {i : Int} {st : Sto} {j : Int} (h0 : 0 ≤ i) (h : ns[i.toNat]? = some j) : ixD (.scr ns) (.int i) st = .ok (.int j) st := by
  show (match atI (ns.map D.int) i with | some x => Res.ok x st | none => .bad) = _
  rw [atI_nat h0, List.getElem?_map, h]; rfl
theorem ixD_tup {ds : List D} {i : Int} {st : Sto} {d : D} (h0 : 0 ≤ i) (h : ds[i.toNat]? = some d) : ixD (.tup ds) (.int i) st = .ok d st := by
  show (match atI ds i with | some x => Res.ok x st | none => .bad) = _
  rw [atI_nat h0, h]
theorem ixD_lst {ds : List D} {i : Int} {st : Sto} {d : D} (h0 : 0 ≤ i) (h : ds[i.toNat]? = some d) : ixD (.lst ds) (.int i) st = .ok d st := by
  show (match atI ds i with | some x => Res.ok x st | none => .bad) = _
  rw [atI_nat h0, h]
theorem powD_i {i j : Int} {st : Sto} (h : 0 ≤ j ∧ j ≤ 1000000 ∧ i.natAbs < 2 ^ 64) : powD (.int i) (.int j) st = .ok (.int (i ^ j.toNat)) st := if_pos h
theorem fin_rt {st : Sto} {d : D} {fz : Bool} (h : d.blw st.length = true) : fin fz st (.rt d st) = .ok d st := by
  show finD fz st st d = _
  unfold finD
  have e : chkS st.length st st = true := by
    have := chkS_app (n := st.length) (st := st) (g := [])
    simpa using this
  rw [if_pos e, if_pos h, List.take_length]
theorem fin_nx {st : Sto} {env : Env} {fz : Bool} : fin fz st (.nx env st) = .ok .non st := by
  show Res.ok D.non (shrink st st true) = _
  rw [shrink_self]
theorem log_small {i : Int} (h1 : -(2 ^ 64) < i) (h2 : i < 2 ^ 64) : i.natAbs.log2 < 64 := by
  by_cases h : i.natAbs = 0
  · rw [h]; decide
  · rw [Nat.log2_lt h]; omega
theorem mulD_s {i j : Int} {st : Sto} (h : -(2 ^ 64) < i ∧ i < 2 ^ 64) (h' : -(2 ^ 64) < j ∧ j < 2 ^ 64) : mulD (.int i) (.int j) st = .ok (.int (i * j)) st :=
  mulD_i (by have := log_small h.1 h.2; have := log_small h'.1 h'.2; omega)
/-! loops -/
theorem loopF_nil {gc src g body env st} (h : stillB src st = true) : loopF gc src g body [] env st = .nx env st := if_pos h
theorem loopF_cons {ks : List Nat} {src g body d ds env st env1 st1 env2 st2} (h : stillB src st = true) (h1 : g d env st = .ok env1 st1) (h2 : body env1 st1 = .nx env2 st2) :
    loopF (some ks) src g body (d :: ds) env st = loopF (some ks) src g body ds (ks.foldl (fun e k => e.set k none) env2) (shrink st st2 (okE st.length (ks.foldl (fun e k => e.set k none) env2))) := by
  show (if stillB src st = true then (match g d env st with
    | .ok env1 st1 => (body env1 st1).bind _
    | _ => .bad) else .bad) = _
  rw [if_pos h, h1]
  simp only [h2, SRes.bind_nx]
/-- a loop that keeps the store: the slots go from E i to E (i + 1) -/
theorem loop_run {ks : List Nat} {g : GM} {body : SM4} {st : Sto} (E : Nat → Env) {items : List D} (h : ∀ i d, items[i]? = some d → ∃ env1 env2, g d (E i) st = .ok env1 st ∧ body env1 st = .nx env2 st ∧ ks.foldl (fun e k => e.set k none) env2 = E (i + 1)) :
    ∀ (n i : Nat), items.length - i = n → i ≤ items.length → loopF (some ks) [] g body (items.drop i) (E i) st = .nx (E items.length) st := by
  intro n
  induction n with
  | zero =>
    intro i h1 h2
    have e : i = items.length := by omega
    subst e
    rw [List.drop_length]
    exact loopF_nil rfl
  | succ n ih =>
    intro i h1 h2
    have hi : i < items.length := by omega
    obtain ⟨env1, env2, a1, a2, a3⟩ := h i items[i] (List.getElem?_eq_getElem hi)
    rw [List.drop_eq_getElem_cons hi, loopF_cons rfl a1 a2, shrink_self, a3]
    exact ih (i + 1) (by omega) (by omega)
theorem loop_all {ks : List Nat} {g : GM} {body : SM4} {st : Sto} (E : Nat → Env) {items : List D} {env : Env} (h0 : env = E 0) (h : ∀ i d, items[i]? = some d → ∃ env1 env2, g d (E i) st = .ok env1 st ∧ body env1 st = .nx env2 st ∧ ks.foldl (fun e k => e.set k none) env2 = E (i + 1)) :
    loopF (some ks) [] g body items env st = .nx (E items.length) st := by
  have := loop_run E h items.length 0 (by simp) (by simp)
  rw [List.drop_zero] at this
  rw [h0]
  exact this
theorem compL_nil {src g tt te env st acc} (h : stillB src st = true) : compL src g tt te env [] st acc = .ok acc st := if_pos h
/-- [e for x in xs] -/
theorem comp_run {g : GM} {te : EM} {st : Sto} {env : Env} {f : D → D} : ∀ {items : List D} {acc : List D}, (∀ d ∈ items, ∃ env1, g d env st = .ok env1 st ∧ te env1 st = .ok (f d) st) → acc.length + items.length ≤ 1000000 →
    compL [] g noTest te env items st acc = .ok (acc ++ items.map f) st
  | [], acc, _, _ => by rw [compL_nil rfl, List.map_nil, List.append_nil]
  | d :: ds, acc, h, hl => by
    obtain ⟨env1, h1, h2⟩ := h d List.mem_cons_self
    have hl' : acc.length < 1000000 := by rw [List.length_cons] at hl; omega
    unfold compL
    rw [if_pos (show stillB [] st = true from rfl), h1]
    simp only [noTest_ap, if_true, h2, if_pos hl']
    rw [comp_run (fun d hd => h d (List.mem_cons_of_mem _ hd)) (by rw [List.length_append, List.length_singleton]; rw [List.length_cons] at hl; omega)]
    simp
end FL

namespace FL
open PySem PySem.Spec PyProof.Rows L2
variable [TabCtx]

/-! ### loops by an invariant -/
abbrev kill (ks : List Nat) (env : Env) : Env := ks.foldl (fun e k => e.set k none) env
abbrev afterSt (ks : List Nat) (st st2 : Sto) (env2 : Env) : Sto := shrink st st2 (okE st.length (kill ks env2))
theorem while_inv {ks : List Nat} {c : Env → Sto → Res Bool} {body : SM4} (P : Nat → Env → Sto → Prop) (Q : SRes → Prop)
    (h : ∀ m env st, P m env st → (c env st = .ok false st ∧ Q (.nx env st)) ∨ (c env st = .ok true st ∧
      ((∃ env2 st2 m', body env st = .nx env2 st2 ∧ m' < m ∧ P m' (kill ks env2) (afterSt ks st st2 env2)) ∨ ∃ d st2, body env st = .rt d st2 ∧ Q (.rt d st2)))) :
    ∀ (fuel m : Nat) (env : Env) (st : Sto), m < fuel → P m env st → Q (whileF (some ks) c body fuel env st) := by
  intro fuel
  induction fuel with
  | zero => exact fun m env st hm => absurd hm (by omega)
  | succ n ih =>
    intro m env st hm hp
    rcases h m env st hp with ⟨h1, h2⟩ | ⟨h1, h2⟩
    · show Q ((c env st).on env _)
      rw [h1]
      exact h2
    · show Q ((c env st).on env _)
      rw [h1]
      rcases h2 with ⟨env2, st2, m', h2, h3, h4⟩ | ⟨d, st2, h2, h3⟩
      · show Q ((body env st).bind _)
        rw [h2]
        exact ih m' _ _ (by omega) h4
      · show Q ((body env st).bind _)
        rw [h2]
        exact h3
theorem loop_inv {ks : List Nat} {src : List (Nat × List D)} {g : GM} {body : SM4} (P : Nat → Env → Sto → Prop) (Q : SRes → Prop) {items : List D}
    (hsrc : ∀ i env st, P i env st → stillB src st = true)
    (h : ∀ i d env st, items[i]? = some d → P i env st → ∃ env1 st1, g d env st = .ok env1 st1 ∧
      ((∃ env2 st2, body env1 st1 = .nx env2 st2 ∧ P (i + 1) (kill ks env2) (afterSt ks st st2 env2)) ∨ ∃ d st2, body env1 st1 = .rt d st2 ∧ Q (.rt d st2)))
    (hend : ∀ env st, P items.length env st → Q (.nx env st)) :
    ∀ (n i : Nat) (env : Env) (st : Sto), items.length - i = n → i ≤ items.length → P i env st → Q (loopF (some ks) src g body (items.drop i) env st) := by
  intro n
  induction n with
  | zero =>
    intro i env st h1 h2 hp
    have e : i = items.length := by omega
    subst e
    rw [List.drop_length, loopF_nil (hsrc _ _ _ hp)]
    exact hend env st hp
  | succ n ih =>
    intro i env st h1 h2 hp
    have hi : i < items.length := by omega
    obtain ⟨env1, st1, a1, a2⟩ := h i items[i] env st (List.getElem?_eq_getElem hi) hp
    rw [List.drop_eq_getElem_cons hi]
    rcases a2 with ⟨env2, st2, a2, a3⟩ | ⟨d, st2, a2, a3⟩
    · rw [loopF_cons (hsrc _ _ _ hp) a1 a2]
      exact ih (i + 1) _ _ (by omega) (by omega) a3
    · show Q (if stillB src st = true then (match g items[i] env st with
        | .ok env1 st1 => (body env1 st1).bind _
        | _ => .bad) else .bad)
      rw [if_pos (hsrc _ _ _ hp), a1]
      simp only [a2, SRes.bind_rt]
      exact a3
theorem loop_inv0 {ks : List Nat} {src : List (Nat × List D)} {g : GM} {body : SM4} (P : Nat → Env → Sto → Prop) (Q : SRes → Prop) {items : List D} {env : Env} {st : Sto}
    (hsrc : ∀ i env st, P i env st → stillB src st = true)
    (h : ∀ i d env st, items[i]? = some d → P i env st → ∃ env1 st1, g d env st = .ok env1 st1 ∧
      ((∃ env2 st2, body env1 st1 = .nx env2 st2 ∧ P (i + 1) (kill ks env2) (afterSt ks st st2 env2)) ∨ ∃ d st2, body env1 st1 = .rt d st2 ∧ Q (.rt d st2)))
    (hend : ∀ env st, P items.length env st → Q (.nx env st)) (h0 : P 0 env st) : Q (loopF (some ks) src g body items env st) := by
  have := loop_inv P Q hsrc h hend items.length 0 env st (by simp) (by simp) h0
  rwa [List.drop_zero] at this
theorem after_same {ks : List Nat} {st : Sto} {env : Env} : afterSt ks st st env = st := shrink_self
/-- a def that only changes the store at places it was given -/
theorem shrink_len {st st2 : Sto} {ok : Bool} (h : st2.length = st.length) : shrink st st2 ok = st2 := by
  unfold shrink
  split
  · rw [← h, List.take_length]
  · rfl
theorem fin_rt2 {st st2 : Sto} {d : D} {fz : Bool} (h : st2.length = st.length) (hd : d.blw st.length = true) : fin fz st (.rt d st2) = .ok d st2 := by
  show finD fz st st2 d = _
  unfold finD
  by_cases c : chkS st.length st st2 = true
  · rw [if_pos c, if_pos hd, ← h, List.take_length]
  · rw [if_neg c]
mutual
/-- nothing of the store in it -/
def D.cl : D → Bool
  | .loc _ => false
  | .tup ds => D.cls ds
  | .lst ds => D.cls ds
  | .exc _ _ ds => D.cls ds
  | _ => true
def D.cls : List D → Bool
  | [] => true
  | d :: ds => D.cl d && D.cls ds
end
mutual
theorem D.cl_blw (n : Nat) : ∀ d : D, d.cl = true → d.blw n = true
  | .non, _ => rfl
  | .bl _, _ => rfl
  | .int _, _ => rfl
  | .str _, _ => rfl
  | .scr _, _ => rfl
  | .loc _, h => by simp [D.cl] at h
  | .tup ds, h => by
    unfold D.blw
    exact D.cls_blw n ds (by simpa [D.cl] using h)
  | .lst ds, h => by
    unfold D.blw
    exact D.cls_blw n ds (by simpa [D.cl] using h)
  | .exc _ _ ds, h => by
    unfold D.blw
    exact D.cls_blw n ds (by simpa [D.cl] using h)
theorem D.cls_blw (n : Nat) : ∀ ds : List D, D.cls ds = true → D.blws n ds = true
  | [], _ => rfl
  | d :: ds, h => by
    simp only [D.cls, Bool.and_eq_true] at h
    simp only [D.blws, D.cl_blw n d h.1, D.cls_blw n ds h.2, Bool.and_self]
end
theorem cls_ints : ∀ ns : List Int, D.cls (ns.map .int) = true
  | [] => rfl
  | _ :: r => by simp [D.cls, D.cl, cls_ints r]
theorem cls_map {α : Type} {f : α → D} (h : ∀ a, (f a).cl = true) : ∀ l : List α, D.cls (l.map f) = true
  | [] => rfl
  | a :: r => by simp [D.cls, h a, cls_map h r]
theorem intsD_map : ∀ ns : List Int, intsD (ns.map .int) = some ns
  | [] => rfl
  | n :: r => by
    show (match intsD (r.map .int) with | some ns => some (n :: ns) | none => none) = _
    rw [intsD_map r]
/-- what a call laid and left behind is forgotten; what it gives back is frozen -/
theorem chk_app {n : Nat} {st g : Sto} : chkS n st (st ++ g) = true := chkS_app
theorem fin_grown {st g : Sto} {d e : D} (h : d.cl = true ∨ d.blw st.length = true) (he : e = d) {fz : Bool} : fin fz st (.rt d (st ++ g)) = .ok e st := by
  subst he
  show finD fz st (st ++ g) e = _
  unfold finD
  have hb : e.blw st.length = true := by
    rcases h with h | h
    · exact D.cl_blw _ _ h
    · exact h
  rw [if_pos chk_app, if_pos hb, List.take_left]
theorem fin_frozen {st g : Sto} {d e : D} (hd : d.blw st.length = false) (he : D.frz (st ++ g) st.length 30 d = some e) : fin true st (.rt d (st ++ g)) = .ok e st := by
  show finD true st (st ++ g) d = _
  unfold finD
  rw [if_pos chk_app, if_neg (by rw [hd]; decide), if_pos rfl, he, List.take_left]
theorem fin_nx2 {st g : Sto} {env : Env} {fz : Bool} : fin fz st (.nx env (st ++ g)) = .ok .non st := by
  show Res.ok D.non (shrink st (st ++ g) true) = _
  rw [shrink_same]
end FL

namespace FL
open PySem PySem.Spec PyProof.Rows L2
variable [TabCtx]

/-! ### operations on lists -/
theorem lstD_loc {st : Sto} {l : Nat} {ds : List D} (h : st[l]? = some (.lst ds)) : lstD (.loc l) st = some ds := by
  show (match st[l]? with | some (.lst ds) => some ds | _ => none) = _
  rw [h]
theorem seqD_loc {st : Sto} {l : Nat} {ds : List D} (h : st[l]? = some (.lst ds)) : seqD (.loc l) st = some ds := by
  show (match st[l]? with | some (.lst ds) => some ds | _ => none) = _
  rw [h]
theorem dicD_loc {st : Sto} {l : Nat} {ds : List D} (h : st[l]? = some (.lst ds)) : dicD (.loc l) st = none := by
  show (match st[l]? with | some (.dic ds) => some ds | _ => none) = _
  rw [h]
theorem maxB_one {st : Sto} {d : D} : maxB [d] st = match lstD d st with
    | some ds => match intsD ds with
      | some (i :: r) => Res.ok (D.int (maxI (i :: r))) st
      | _ => .bad
    | none => .bad := by cases d <;> rfl
theorem minB_one {st : Sto} {d : D} : minB [d] st = match lstD d st with
    | some ds => match intsD ds with
      | some (i :: r) => Res.ok (D.int (minI (i :: r))) st
      | _ => .bad
    | none => .bad := by cases d <;> rfl
theorem minB_l {st : Sto} {d : D} {T : List Int} (h : lstD d st = some (T.map .int)) (hT : T ≠ []) : minB [d] st = .ok (.int (minI T)) st := by
  rw [minB_one, h]
  simp only [intsD_map]
  cases T with
  | nil => exact absurd rfl hT
  | cons i r => rfl
theorem maxB_l {st : Sto} {d : D} {T : List Int} (h : lstD d st = some (T.map .int)) (hT : T ≠ []) : maxB [d] st = .ok (.int (maxI T)) st := by
  rw [maxB_one, h]
  simp only [intsD_map]
  cases T with
  | nil => exact absurd rfl hT
  | cons i r => rfl
theorem minB_i {st : Sto} {i j : Int} : minB [.int i, .int j] st = .ok (.int (if j < i then j else i)) st := rfl
theorem maxB_i {st : Sto} {i j : Int} : maxB [.int i, .int j] st = .ok (.int (if j > i then j else i)) st := rfl
theorem lenB_loc {st : Sto} {l : Nat} {ds : List D} (h : st[l]? = some (.lst ds)) : lenB [.loc l] st = .ok (.int (ds.length : Nat)) st := by
  show (match seqD (.loc l) st with
    | some ds => Res.ok (D.int (ds.length : Nat)) st
    | none => _) = _
  rw [seqD_loc h]
theorem ixD_loc {st : Sto} {l : Nat} {ds : List D} {i : Int} {d : D} (h : st[l]? = some (.lst ds)) (h0 : 0 ≤ i) (hd : ds[i.toNat]? = some d) : ixD (.loc l) (.int i) st = .ok d st := by
  show (match seqD (.loc l) st with
      | some ds => (match atI ds i with | some x => Res.ok x st | none => .bad)
      | none => _) = _
  rw [seqD_loc h]
  simp only [atI_nat h0, hd]
theorem isLst_loc {st : Sto} {l : Nat} {ds : List D} (h : st[l]? = some (.lst ds)) : isLst (.loc l) st = true := by
  unfold isLst
  rw [lstD_loc h]; rfl
theorem apD_loc {st : Sto} {l : Nat} {ds : List D} {d : D} (h : st[l]? = some (.lst ds)) (hl : ds.length < 1000000) : apD (.loc l) [d] st = .ok .non (st.set l (.lst (ds ++ [d]))) := by
  show (match st[l]? with
    | some (.lst ds) => if ds.length < 1000000 then Res.ok D.non (st.set l (.lst (ds ++ [d]))) else .bad
    | _ => .bad) = _
  rw [h]
  simp only [if_pos hl]
theorem setD_loc {st : Sto} {l : Nat} {ds : List D} {i : Int} {d : D} (h : st[l]? = some (.lst ds)) (h0 : 0 ≤ i) (hl : i < ds.length) : setD (.loc l) (.int i) d st = some (st.set l (.lst (ds.set i.toNat d))) := by
  show (match st[l]? with
    | some (.lst ds) => (match ixN ds.length i with
        | some n => some (st.set l (.lst (ds.set n d)))
        | none => none)
    | some (.dic kvs) => _
    | none => none) = _
  rw [h]
  have e : ixN ds.length i = some i.toNat := by unfold ixN; rw [if_pos h0, if_pos hl]
  simp only [e]
theorem flat_ints (T : List Int) : (T.map D.int).all flatD = true := by
  rw [List.all_map, List.all_eq_true]
  intro x _
  rfl
theorem fstIx_ints {x : Int} : ∀ {T : List Int} {i : Nat}, x ∈ T → fstIx (.int x) (T.map .int) i = some (i + T.findIdx (· == x))
  | [], i, h => absurd h (by simp)
  | t :: T, i, h => by
    show (if eqFD (.int t) (.int x) = true then some i else fstIx (.int x) (T.map .int) (i + 1)) = _
    rw [List.findIdx_cons]
    by_cases e : t = x
    · subst e
      have h1 : eqFD (.int t) (.int t) = true := by simp [eqFD]
      rw [if_pos h1]
      simp
    · have h1 : ¬ eqFD (.int t) (.int x) = true := by simpa [eqFD] using e
      have h2 : (t == x) = false := by simpa using e
      rw [if_neg h1, h2]
      have hm : x ∈ T := by
        rcases List.mem_cons.mp h with h | h
        · exact absurd h.symm e
        · exact h
      rw [fstIx_ints hm]
      simp only [cond_false]
      congr 1
      omega
theorem idxD_ints {st : Sto} {d : D} {T : List Int} {x : Int} (h : lstD d st = some (T.map .int)) (hx : x ∈ T) : idxD d [.int x] st = .ok (.int ((T.findIdx (· == x) : Nat) : Int)) st := by
  show (match lstD d st with
    | some es => if flatD (.int x) = true ∧ es.all flatD = true then (match fstIx (.int x) es 0 with
      | some j => Res.ok (D.int (j : Nat)) st
      | none => .bad) else .bad
    | none => .bad) = _
  rw [h]
  simp only [if_pos (show flatD (.int x) = true ∧ (T.map D.int).all flatD = true from ⟨rfl, flat_ints T⟩), fstIx_ints hx, Nat.zero_add]
theorem maxI_mem : ∀ {l : List Int}, l ≠ [] → maxI l ∈ l ∧ ∀ y ∈ l, y ≤ maxI l
  | [], h => absurd rfl h
  | [a], _ => ⟨by simp [maxI], by simp [maxI]⟩
  | a :: b :: l, _ => by
    obtain ⟨k1, k2⟩ := maxI_mem (l := b :: l) (by simp)
    have key : maxI (a :: b :: l) = if maxI (b :: l) ≤ a then a else maxI (b :: l) := rfl
    rw [key]
    split
    · rename_i hc
      refine ⟨List.mem_cons_self, fun y hy => ?_⟩
      rcases List.mem_cons.mp hy with rfl | hy
      · exact Int.le_refl _
      · exact Int.le_trans (k2 y hy) hc
    · rename_i hc
      refine ⟨List.mem_cons_of_mem _ k1, fun y hy => ?_⟩
      rcases List.mem_cons.mp hy with rfl | hy
      · omega
      · exact k2 y hy
theorem iRange2_i {ms : Env → Sto → Res (List D)} {env : Env} {st st1 : Sto} {i j : Int} (h : ms env st = .ok [.int i, .int j] st1) (h1 : smallI i) (h2 : smallI j) :
    iRange2 ms env st = .ok ((List.range (j - i).toNat).map fun k => .int (i + (k : Nat)), []) st1 := by
  rw [iRange2_ap, h, Res.bind_ok]
  exact if_pos ⟨h1, h2⟩
theorem iRange1_i {ms : Env → Sto → Res (List D)} {env : Env} {st st1 : Sto} {j : Int} (h : ms env st = .ok [.int j] st1) (h2 : smallI j) :
    iRange1 ms env st = .ok ((List.range j.toNat).map fun k => .int (k : Nat), []) st1 := by
  rw [iRange1_ap, h, Res.bind_ok]
  exact if_pos h2
end FL

namespace FL
open PySem PySem.Spec PyProof.Rows L2
variable [TabCtx]

/-! ### a caught exception is laid into the abstract heap -/
theorem inv_ext {X : Cx} {pins : List (Addr × Obj)} {σ : L2.St} {H : Hp} {sI s : Shared} {a : Addr} {o : HO} (J : Inv X pins σ H sI) (I : Inv X pins σ H s) (hI : sI.heap.get? a = none) (na : H a = none) (nL : a ≠ X.env.locals) (nF : a ∉ X.fs)
    (new : ObjOk X.prog X.w (upd H a o) s.heap a o) : Inv X pins σ (upd H a o) s := by
  have ne : ∀ {b : Addr} {u : HO}, H b = some u → b ≠ a := fun e z => by subst z; rw [na] at e; cases e
  refine ⟨I.ok, I.os, I.bare, ⟨I.base.keep, I.base.slot, fun b u e n hx => ?_, I.base.there, fun b xs e => ?_, fun b u v e => ?_, fun b ps e => ?_⟩, I.loc, I.cell, ?_, fun x c hc => ?_, fun p hp => ?_, I.hok.laidN (fun _ _ q => q) na new, I.len⟩
  · have hb : b ≠ a := by
      rintro rfl
      have := J.base.keep b u e n nF hx
      rw [hI] at this; cases this
    rw [upd_ne hb]
    exact I.base.free b u e n hx
  · have q := I.base.tups b xs e
    rw [upd_ne (ne q)]; exact q
  · have q := I.base.frzs b u v e
    rw [upd_ne (ne q)]; exact q
  · obtain ⟨more, q⟩ := I.base.tbls b ps e
    exact ⟨more, by rw [upd_ne (ne q)]; exact q⟩
  · rw [upd_ne (Ne.symm nL)]; exact I.free
  · have hc' : c ≠ a := by
      rintro rfl
      obtain ⟨v, o', e, _⟩ := J.cell x c hc
      rw [hI] at e; cases e
    rw [upd_ne hc']; exact I.freeC x c hc
  · obtain ⟨h1, h2, h3⟩ := I.pin p hp
    have hp' : p.1 ≠ a := by
      intro z
      have := (J.pin p hp).1
      rw [z, hI] at this; cases this
    exact ⟨h1, by rw [upd_ne hp']; exact h2, h3⟩
theorem inv_suite {X : Cx} {pins : List (Addr × Obj)} {σ : L2.St} {H : Hp} {s : Shared} (I : Inv X pins σ H s) (a : Addr) : Inv (X.suite a (X.pn ++ pins)) [] σ H s :=
  ⟨I.ok.suite _ _, I.os, I.bare, I.base, I.loc, I.cell, I.free, I.freeC, fun p hp => I.pin p (by simpa using hp), I.hok, I.len⟩
theorem inv_unsuite {X : Cx} {pins pn' : List (Addr × Obj)} {σ : L2.St} {H : Hp} {s : Shared} {a : Addr} (I : Inv (X.suite a (X.pn ++ pins)) pn' σ H s) (ok : X.Ok) : Inv X pins σ H s :=
  ⟨ok, I.os, I.bare, I.base, I.loc, I.cell, I.free, I.freeC, fun p hp => I.pin p (List.mem_append_left _ hp), I.hok, I.len⟩
/-- what the clause 'except x as n' wishes of an exception of the body: slot i is n's -/
def wExt (K : PySem.W.Frag) (c : Value) (i : Nat) (ts : TS) (Wout : WX) (D : Ends) : WX := fun cls d σ H =>
  ∃ b, PySem.W.exmOne K cls c = some b ∧ (b = true → ∀ a, H a = none → ts { nx := fun σ' H' => D.nx (σ'.set i none) H', rt := D.rt, bk := fun σ' H' => D.bk (σ'.set i none) H', ct := fun σ' H' => D.ct (σ'.set i none) H' } (σ.set i (some (.ref a))) (upd H a (ExE cls d a))) ∧
    (b = false → Wout cls d σ H)
section
variable {X : Cx} {x n : Str} {c : Value} {i : Nat} {body suite : List Stmt} {b₀ : Stmt} {np pos pos' : Pos} {tb : WX → TS} {ts : TS} {Wout : WX}
theorem ps_try_ext (hs : X.stack = X.env :: X.outer) (hf : X.env.frame = some X.env.locals) (hN : X.N.Nodup) (hi : X.N[i]? = some n) (hln : X.env.kindOf n = some .local) (hc : Names X x c) (tk : Takes X Wout)
    (hb : ∀ (W : WX) (pn : List (Addr × Obj)) (xe : Value → Shared → Prop), Takes (X.tr pn xe) W → PassesOwn (model X.prog X.w) X.A X.env xe → PSs (X.tr pn xe) body (tb W))
    (hsu : ∀ (a : Addr) (pn : List (Addr × Obj)), PSs (X.suite a pn) (b₀ :: suite) ts) :
    PS X (.Try body [.ExceptHandler (some (.Name x np)) (some n) (b₀ :: suite) pos'] [] [] pos) (fun D σ H => tb (wExt X.K c i ts Wout D) D σ H) := by
  refine ⟨fun pins s σ H D I h => ?_⟩
  have ok := I.ok
  have hfr : X.A.frames = some (X.env :: X.outer) := by rw [ok.frames, hs]
  have hloc : Loc X.env.scope n := .inl hln
  refine wpAny_Try_except ?_
  refine wpAny_mono ((hb (wExt X.K c i ts Wout D) (X.pn ++ pins) (fun e s₁ => wpAny (model X.prog X.w) X.A (noteFrame e X.env) (fun _ s₂ => wpAny (model X.prog X.w) X.A (setFlight e none) (fun _ s₃ =>
    wpAny (model X.prog X.w) X.A (handleBy e X.env [.ExceptHandler (some (.Name x np)) (some n) (b₀ :: suite) pos']) (SP X pins D) X.xe s₃) X.xe s₂) X.xe s₁) (fun u s' xx => ?_) PassesOwn.looking).run [] s σ H D (I.toTry _) h) (fun f s1 hsp => ?_) (fun e s1 he => he)
  · -- the catch
    obtain ⟨a, B, sI, pins', σ', H', cls, d, rfl, J', nb, up, sky, na, os, ag, b, hb1, hyes, hno⟩ := xx
    have J : Inv X pins σ' H' sI := J'.ofTry ok
    have sky' : Sky B (X.env :: X.outer) a (Zc cls d) X.env.locals s'.heap := by rw [← hs]; exact sky
    show wpAny (model X.prog X.w) X.A (noteFrame (.ref a) X.env) _ _ _
    refine Sky.land Zc.steady hfr hf sky' fun h3 fl3 up3 => ?_
    have J3 : Inv X pins σ' H' { s' with heap := h3 } := J.landed nb fl3.1 (up.trans up3) os ag
    obtain ⟨oe3, vs3, he3, hz3, hd3⟩ := fl3.there
    have notFr : ∀ {h : Heap} {o : Obj} {vs : Array Value}, h.FunFrames B (X.env :: X.outer) → h.get? a = some o → o.data = .fields vs → a ∉ frs (X.env :: X.outer) := fun {h o vs} ff e dd hm => by
      obtain ⟨_, o', e', hnf⟩ := ff.mem hm
      rw [e] at e'; cases e'
      exact hnf _ dd
    have nfr := notFr fl3.2.2.1 he3 hd3
    have nL : a ≠ X.env.locals := fun z => nfr (List.mem_filterMap.mpr ⟨X.env, List.mem_cons_self, by rw [hf, z]⟩)
    have nF : a ∉ X.fs := fun hm => by
      obtain ⟨e, he, q⟩ := List.mem_filterMap.mp hm
      exact nfr (List.mem_filterMap.mpr ⟨e, List.mem_cons_of_mem _ he, q⟩)
    have hI : sI.heap.get? a = none := by
      cases q : sI.heap.get? a with
      | none => rfl
      | some o =>
        have := nb a o q (by rw [hs]; exact nfr)
        rw [fl3.2.1] at this; cases this
    have S3 := J3.suite he3 hd3 na nL nF
    refine wpAny_handleBy_cons (codeAny_handlers_test ?_) (by intro q; cases q)
    have LT : PySem.W.Looks (model X.prog X.w) h3 (typeOf (.ref a)) cls := fun A Q E s k q => wpAny_typeOf_ref (k _ _ he3) (by rw [hz3.1]; exact q)
    have LM := PySem.W.exm_one (M := model X.prog X.w) (J3.kIn) LT hb1
    have test : ∀ {Q : Value → Shared → Prop} {E : Value → Shared → Prop}, Q c { s' with heap := h3 } → wpAny (model X.prog X.w) (X.A.mark (some (.ref a))) (eval (.Name x np) X.env) Q E { s' with heap := h3 } := fun {Q E} q => by
      obtain ⟨hg, hdbg, hm | ⟨hm, hv, hnn⟩⟩ := hc
      · exact ld_glob (X := X.suite a ((a, oe3) :: (X.pn ++ pins))) S3 hg hm q hdbg
      · exact ld_blt (X := X.suite a ((a, oe3) :: (X.pn ++ pins))) S3 hg hm hv q hnn hdbg
    refine test (LM.here ?_)
    cases b with
    | true =>
      refine codeAny_handlers_suite_as ?_
      refine HandSPX.lands_againZ fl3 fun h4 fl4 up4 => ?_
      have J4 : Inv X pins σ' H' { s' with heap := h4 } := J.landed nb fl4.1 ((up.trans up3).trans up4) os ag
      obtain ⟨oe4, vs4, he4, hz4, hd4⟩ := fl4.there
      have J5 : Inv X pins σ' (upd H' a (ExE cls d a)) { s' with heap := h4 } := inv_ext J J4 hI na nL nF (exE_ok he4 hz4 hd4)
      have S4 := inv_suite J5 a
      refine store_ok (X := X.suite a (X.pn ++ pins)) (v := .ref a) S4 hN hi hloc rfl (fun s5 S5 => ?_) (.inr hln)
      refine wpAny_mono ((hsu a (X.pn ++ pins)).run [] s5 _ _ _ S5 (hyes rfl a na)) (fun f s6 hsp => ?_) (fun _ _ z => False.elim z)
      have end_ : ∀ {σ6 : L2.St} {H6 : Hp} {Q : Shared → Prop}, Inv (X.suite a (X.pn ++ pins)) [] σ6 H6 s6 → (∀ s7, Inv X pins (σ6.set i none) H6 s7 → Q s7) →
          wpAny (model X.prog X.w) X.A (do bindName X.env n .none; unbindBehindTheSuite X.env n pos') (fun _ s7 => Q s7) X.xe s6 := fun {σ6 H6 Q} S6 hq => gone_ok (inv_unsuite S6 ok) hN hi hln hq
      cases f with
      | next =>
        obtain ⟨σ6, H6, S6, q6⟩ := hsp
        exact end_ S6 fun s7 J7 => ⟨_, _, J7, q6⟩
      | brk =>
        obtain ⟨σ6, H6, S6, q6⟩ := hsp
        exact end_ S6 fun s7 J7 => ⟨_, _, J7, q6⟩
      | cont =>
        obtain ⟨σ6, H6, S6, q6⟩ := hsp
        exact end_ S6 fun s7 J7 => ⟨_, _, J7, q6⟩
      | ret u =>
        obtain ⟨v6, σ6, H6, S6, r6, q6⟩ := hsp
        exact end_ S6 fun s7 J7 => ⟨_, _, _, J7, r6, q6⟩
    | false =>
      show wpAny _ X.A (handleBy (.ref a) X.env []) _ _ _
      refine wpAny_handleBy_nil ?_
      obtain ⟨k1, k2, k3, oe, vs, T, oT, ts', he, hz, hd, h1, hr⟩ := id fl3
      unfold PySem.passOn
      refine wpAny_bind (wpAny_field he hd h1 ?_)
      rw [if_neg (show ¬ ((Value.ref T == Value.none) = true) from by simp)]
      have fin : wpAny (model X.prog X.w) X.A (setFlight (.ref a) X.env.frame) (fun _ s4 => wpAny (model X.prog X.w) X.A (throw (.ref a) : Sem Flow) (SP X pins D) X.xe s4) X.xe { s' with heap := h3 } := by
        rw [hf]
        refine HandSPX.setFlight_upZ fl3 fun h4 hh4 up4 => wpAny_throw (tk _ _ ?_)
        exact ⟨a, B, sI, pins, σ', H', cls, d, rfl, J, nb, (up.trans up3).trans up4, .inr (.inr (by rw [hs]; exact hh4)), na, os, ag, hno rfl⟩
      first
        | exact wpAny_bind (wpAny_pure (wpAny_bind fin))
        | exact wpAny_bind fin
  · cases f with
    | next =>
      obtain ⟨σ', H', J', q⟩ := hsp
      exact wpAny_execs_nil ⟨σ', H', J'.ofTry ok, q⟩
    | brk =>
      obtain ⟨σ', H', J', q⟩ := hsp
      exact ⟨σ', H', J'.ofTry ok, q⟩
    | cont =>
      obtain ⟨σ', H', J', q⟩ := hsp
      exact ⟨σ', H', J'.ofTry ok, q⟩
    | ret u =>
      obtain ⟨v, σ', H', J', r, q⟩ := hsp
      exact ⟨v, σ', H', J'.ofTry ok, r, q⟩
end

/-! ### classes of exceptions -/
structure ClsAt (K : PySem.W.Frag) (mg : Str → Option Value) (cls : String) : Prop where
  ex : ∃ C, PySem.W.nsIn K mainGlobals (Str.ofString cls) = some (some (.ref C)) ∧ mg (Str.ofString cls) = some (.ref C) ∧ PySem.W.keepIn K (.ref C) = true ∧
    PySem.W.subIn K (.ref C) (.type "BaseException") = some true ∧ PySem.W.typeIn K (.ref C) = some (.type "type") ∧
    PySem.W.excIn K C [.type "ValueError", .type "Exception", .type "BaseException", .type "object"] "ValueError.__new__" = true
structure NmAt (K : PySem.W.Frag) (mg : Str → Option Value) (cls : String) : Prop where
  ex : ∃ C, PySem.W.nsIn K mainGlobals (Str.ofString cls) = some (some (.ref C)) ∧ mg (Str.ofString cls) = some (.ref C)
/-- raise cls('m') -/
def sRaise (cls : String) : SM4 := fun env st => .ex ⟨cls, []⟩ env st
/-- which class y stands for -/
inductive Cl where
  | own (y : String) | ve
def Cl.at (K : PySem.W.Frag) : Cl → Value → Prop
  | .own y, v => ∃ C, PySem.W.nsIn K mainGlobals (Str.ofString y) = some (some (.ref C)) ∧ v = .ref C
  | .ve, v => v = .type "ValueError"
/-- whether the instances of cls are instances of y -/
structure IsAt (K : PySem.W.Frag) (cls : String) (y : Cl) (b : Bool) : Prop where
  ex : ∃ C v, PySem.W.nsIn K mainGlobals (Str.ofString cls) = some (some (.ref C)) ∧ ExcC K C ∧ y.at K v ∧ PySem.W.kitOne K (.ref C) v = some b
structure NonAt (K : PySem.W.Frag) (y : Cl) : Prop where
  ex : ∃ v, y.at K v ∧ PySem.W.kitOne K (.type "NoneType") v = some false
/-- whether 'except y' takes cls -/
structure ExmAt (K : PySem.W.Frag) (cls : String) (y : Cl) (b : Bool) : Prop where
  ex : ∃ C v, PySem.W.nsIn K mainGlobals (Str.ofString cls) = some (some (.ref C)) ∧ y.at K v ∧ PySem.W.exmOne K (.ref C) v = some b
theorem Cl.at_eq {K : PySem.W.Frag} {y : Cl} {v w : Value} (h : y.at K v) (h' : y.at K w) : v = w := by
  cases y with
  | own y =>
    obtain ⟨C, h1, rfl⟩ := h
    obtain ⟨C', h2, rfl⟩ := h'
    rw [h1] at h2; cases h2; rfl
  | ve => exact (show v = _ from h).trans (show w = _ from h').symm
def tabB (tab : List (String × Bool)) (cls : String) : Option Bool := match tab with
  | [] => none
  | p :: r => if cls = p.1 then some p.2 else tabB r cls
theorem tabB_mem : ∀ {tab : List (String × Bool)} {cls : String} {b : Bool}, tabB tab cls = some b → (cls, b) ∈ tab
  | [], _, _, h => by cases h
  | p :: r, cls, b, h => by
    unfold tabB at h
    by_cases e : cls = p.1
    · rw [if_pos e] at h
      cases h
      rw [e]
      exact List.mem_cons_self
    · rw [if_neg e] at h
      exact List.mem_cons_of_mem _ (tabB_mem h)
section
variable {X : Cx} {W : WX} {a : Expr} {ma : EM} {p p2 p3 pos : Pos} {j : Nat} {m : Str}
theorem fs_raise {cls : String} {x : Str} (hx : x = Str.ofString cls) (hc : X.calm = true) (tk : Takes X W) (c : ClsAt X.K X.mg cls) (hg : Gl X x) (hd : (x == ("__debug__" : Str)) = false := by decide) :
    FS X W (.Raise (some (.Call (.Name x p) [.Constant (.str m) j p2] [] p3)) none pos) (sRaise cls) := by
  subst hx
  obtain ⟨C, c0, c1, c2, c3, c4, c5⟩ := c.ex
  exact PS.imp (ps_raise hc tk (pmk_own PySem.F.excBase_ValueError c5 c1 c2 (raises_own c3 c4) hg hd)) fun D σ H ⟨r, env, st, hE, hS, h⟩ =>
    h (.ref C) none σ H r (Ext.refl _ _) hS hE ⟨⟨C, c0, rfl⟩, rfl⟩

/-! ### isinstance of an exception, of None -/
def rIsX (K : PySem.W.Frag) : List V → Hp → VK → Prop := fun xs H Q => ∃ (a C : Addr) (cv : V) (v : Value) (b : Bool), xs = [.ref a, cv] ∧ H a = some (ExE (.ref C) none a) ∧ ExcC K C ∧ (∀ u, RelV cv u → u = v) ∧ PySem.W.kitOne K (.ref C) v = some b ∧ Q (.bl b) H
theorem call_isX : CallR X (.builtin "isinstance") (rIsX X.K) := by
  intro pins s σ H xs us Q I r h
  obtain ⟨a, D, c, cv, b, rfl, ha, C, hcv, e, q⟩ := h
  cases r with
  | cons rx rr =>
    cases rr with
    | cons rt rr =>
      cases rr
      cases rx
      have ec := hcv _ rt
      subst ec
      obtain ⟨⟨oe, vs, hget, hz, hv⟩, _⟩ := I.hok a _ ha
      have J : PySem.W.InstAt s.heap a oe D none := by
        obtain ⟨oc, od, oda, osl⟩ := oe
        obtain ⟨h1, h2⟩ := hz
        dsimp only at h1 h2 hv
        subst h1 h2 hv
        exact ⟨hget, rfl, rfl, trivial⟩
      exact PySem.W.kia_one (PySem.W.handS_kitx_exc C.hg C.hk C.hs C.hd C.ha C.hn C.ht C.hm) I.kIn J e (fun z => nomatch z) fun tk => ⟨.bl b, H, I.kept (t' := tk) fun _ _ z => z, rfl, q⟩
def eIsx (tab : List (String × Bool)) (ma : EM) : EM := fun env st => (ma env st).bind fun d st1 => match d with
  | .exc cls [] _ => match tabB tab cls with
    | some b => .ok (.bl b) st1
    | none => .bad
  | .non => .ok (.bl false) st1
  | _ => .bad
/-- the second argument: a class by its name -/
structure ClNm (X : Cx) (x : Str) (y : Cl) : Prop where
  pe : ∃ cv v, y.at X.K v ∧ (∀ u, RelV cv u → u = v) ∧ ClsV cv v ∧ ∀ pos, PE X (.Name x pos) (tC cv)
theorem cl_own {y : String} {x : Str} (hx : x = Str.ofString y) (c : NmAt X.K X.mg y) (hg : Gl X x) (hd : (x == ("__debug__" : Str)) = false := by decide) : ClNm X x (.own y) := by
  subst hx
  obtain ⟨C, c0, c1⟩ := c.ex
  exact ⟨.ref C, .ref C, ⟨C, c0, rfl⟩, fun u h => h, .own C, fun pos => pe_glob hg c1 rfl hd⟩
theorem cl_ve (hg : Gl X "ValueError") (hm : X.mg "ValueError" = none) : ClNm X "ValueError" .ve :=
  ⟨.ty "ValueError", .type "ValueError", rfl, fun u h => h, .ty _, fun pos => pe_bltn hg hm (by decide +kernel) rfl (by decide) (by decide)⟩
theorem fe_isx {x : Str} {y : Cl} {tab : List (String × Bool)} (c : ClNm X x y) (ht : ∀ q ∈ tab, IsAt X.K q.1 y q.2) (hn : NonAt X.K y) (hg : Gl X "isinstance") (hm : X.mg "isinstance" = none) (ha : FE X W a ma)
    (he : starEach [a, .Name x p2] X.env = (false, eval a X.env) :: starEach [.Name x p2] X.env := by rfl) (he2 : starEach [.Name x p2] X.env = (false, eval (.Name x p2) X.env) :: starEach [] X.env := by rfl) (hpl : (backTo pos (starEach [.Name x p2] X.env)).any (·.1) = false := by rfl) :
    FE X W (.Call (.Name "isinstance" p) [a, .Name x p2] [] pos) (eIsx tab ma) := by
  obtain ⟨cv, v, c1, c2, c3, c4⟩ := c.pe
  exact PE.imp (pe_callB (CallR.or call_isX call_isi) hg hm boot_isinstance (pa_cons ha (pa_cons (c4 p2) pa_nil he2) he) (by decide) (by decide) he hpl) fun σ H Q ⟨r, env, st, hE, hS, h⟩ =>
    ⟨r, env, st, hE, hS, RES.seq h fun d st1 z H1 r1 e1 s1 v1 h1 => by
      split at h1
      · rename_i cls ds
        cases q : tabB tab cls with
        | none => simp only [q] at h1; exact h1.elim
        | some b =>
          simp only [q] at h1
          obtain ⟨a, vs, rfl, ⟨C, d, k1, k2, k3, k4⟩, _⟩ := v1
          obtain ⟨C', v', f1, f2, f3, f4⟩ := (ht _ (tabB_mem q)).ex
          rw [k2] at f1; cases f1
          have ed : d = none := by
            rcases k4 with k4 | ⟨dd, k5, k6, k7, k8⟩
            · exact k4.2.2
            · exact absurd rfl k8
          subst ed
          cases Cl.at_eq f3 c1
          exact .inl ⟨a, C, cv, _, b, rfl, k3, f2, c2, f4, RES.ok h1 s1 rfl⟩
      · cases v1
        obtain ⟨v', f1, f2⟩ := hn.ex
        cases Cl.at_eq f1 c1
        exact .inr ⟨.non, cv, .type "NoneType", _, false, rfl, c3, .base .non, f2, RES.ok h1 s1 rfl⟩
      · exact h1.elim⟩
end
end FL

namespace FL
open PySem PySem.Spec PyProof.Rows L2
variable [TabCtx]

/-! ### try: .. except y as n: .. -/
def sTry (m : SM4) (i : Nat) (tab : List (String × Bool)) (u : SM4) : SM4 := fun env st => match m env st with
  | .ex x env1 st1 => match tabB tab x.cls with
    | some true => match u (env1.set i (some (.exc x.cls (x.fs.map (·.1)) (x.fs.map (·.2))))) st1 with
      | .nx env2 st2 => .nx (env2.set i none) st2
      | .rt d st2 => .rt d st2
      | _ => .bad
    | some false => .ex x env1 st1
    | none => .bad
  | r => r
theorem ER.unset {K H r env σ} (x : ER K H r env σ) (i : Nat) : ER K H r (env.set i none) (σ.set i none) := by
  refine ⟨by simp [x.len], fun j e q => ?_⟩
  by_cases hj : j = i
  · subst hj
    by_cases hl : j < env.length
    · rw [List.getElem?_set_self hl] at q; cases q
    · rw [List.getElem?_eq_none (by simpa using hl)] at q; cases q
  · rw [List.getElem?_set_ne (Ne.symm hj)] at q
    obtain ⟨w, h1, h2⟩ := x.get j e q
    exact ⟨w, by rw [List.getElem?_set_ne (Ne.symm hj)]; exact h1, h2⟩
theorem fs_zip {K H r} : ∀ {fs : List (Str × D)} {vs : List (Str × V)}, Paired (fun (p : Str × D) (q : Str × V) => p.1 = q.1 ∧ VD K H r p.2 q.2) fs vs → (fs.map (·.1)).zip (vs.map (·.2)) = vs ∧ VDs K H r (fs.map (·.2)) (vs.map (·.2))
  | _, _, .nil => ⟨rfl, rfl⟩
  | _, _, .cons (a := a) (b := b) h t => by
    obtain ⟨h1, h2⟩ := fs_zip t
    refine ⟨?_, _, _, rfl, h.2, h2⟩
    rw [List.map_cons, List.map_cons, List.zip_cons_cons, h1, h.1]
/-- the class y, as the clause names it -/
structure ClVal (X : Cx) (x : Str) (y : Cl) : Prop where
  ex : ∃ v, y.at X.K v ∧ Names X x v
section
variable {X : Cx} {W : WX} {x n : Str} {i : Nat} {body suite : List Stmt} {b₀ : Stmt} {np pos pos' : Pos} {m u : SM4} {y : Cl} {tab : List (String × Bool)}
theorem cv_own {y : String} (hx : x = Str.ofString y) (c : NmAt X.K X.mg y) (hg : Gl X x) (hd : (x == ("__debug__" : Str)) = false := by decide) : ClVal X x (.own y) := by
  subst hx
  obtain ⟨C, c0, c1⟩ := c.ex
  exact ⟨.ref C, ⟨C, c0, rfl⟩, hg, hd, .inl c1⟩
theorem fs_try (hs : X.stack = X.env :: X.outer) (hf : X.env.frame = some X.env.locals) (hN : X.N.Nodup) (hi : X.N[i]? = some n) (hln : X.env.kindOf n = some .local) (c : ClVal X x y) (ht : ∀ q ∈ tab, ExmAt X.K q.1 y q.2) (tk : Takes X W)
    (hb : ∀ (W : WX) (pn : List (Addr × Obj)) (xe : Value → Shared → Prop), Takes (X.tr pn xe) W → PassesOwn (model X.prog X.w) X.A X.env xe → FB (X.tr pn xe) W body m)
    (hsu : ∀ (a : Addr) (pn : List (Addr × Obj)), FB (X.suite a pn) E0W (b₀ :: suite) u) :
    FS X W (.Try body [.ExceptHandler (some (.Name x np)) (some n) (b₀ :: suite) pos'] [] [] pos) (sTry m i tab u) := by
  obtain ⟨v, c1, c2⟩ := c.ex
  refine PS.imp (ps_try_ext (tb := fun W => tS X.K X.mg W m) (ts := tS X.K X.mg E0W u) (Wout := W) hs hf hN hi hln c2 tk hb hsu) fun D σ H ⟨r, env, st, hE, hS, h⟩ => ⟨r, env, st, hE, hS, ?_⟩
  unfold sTry at h
  cases q : m env st with
  | nx env1 st1 => rw [q] at h; exact h
  | rt d st1 => rw [q] at h; exact h
  | bad => rw [q] at h; exact h
  | ex z env1 st1 =>
    rw [q] at h
    simp only at h
    intro cls d σ' H' r' e s hE1 hx
    obtain ⟨⟨C, k1, rfl⟩, k2⟩ := hx
    cases qt : tabB tab z.cls with
    | none => simp only [qt] at h; exact h.elim
    | some b =>
      obtain ⟨C', v', f1, f2, f3⟩ := (ht _ (tabB_mem qt)).ex
      rw [k1] at f1; cases f1
      cases Cl.at_eq f2 c1
      refine ⟨b, f3, fun hbt a ha => ?_, fun hbf => ?_⟩
      · subst hbt
        simp only [qt] at h
        have ef : Ext H' r' (upd H' a (ExE (.ref C) d a)) r' := Ext.fresh ha
        have hv : VD X.K (upd H' a (ExE (.ref C) d a)) r' (.exc z.cls (z.fs.map (·.1)) (z.fs.map (·.2))) (.ref a) := by
          cases qf : z.fs with
          | nil =>
            rw [qf] at k2
            exact ⟨a, [], rfl, ⟨C, d, s.notin ha, k1, upd_same, .inl ⟨rfl, rfl, k2⟩⟩, rfl⟩
          | cons p0 ps0 =>
            rw [qf] at k2
            obtain ⟨dd, vs, y1, y2, y3, y4⟩ := k2
            obtain ⟨z1, z2⟩ := fs_zip y4
            refine ⟨a, vs.map (·.2), rfl, ⟨C, d, s.notin ha, k1, upd_same, .inr ⟨dd, y1, y2, ?_, by simp⟩⟩, VDs.ext ef _ _ z2⟩
            rw [z1, upd_ne (ne_of_none y3 ha)]
            exact y3
        refine ⟨r', env1.set i (some (.exc z.cls (z.fs.map (·.1)) (z.fs.map (·.2)))), st1, (hE1.ext ef).set i hv, s.fresh ha, ?_⟩
        have h2 := RS.mono h (e.trans s ef) (s.fresh ha)
        revert h2
        cases u (env1.set i (some (.exc z.cls (z.fs.map (·.1)) (z.fs.map (·.2))))) st1 with
        | nx env2 st2 => exact fun h2 σ2 H2 r2 e2 s2 hE2 => h2 (σ2.set i none) H2 r2 e2 s2 (hE2.unset i)
        | rt d2 st2 => exact fun h2 => h2
        | ex _ _ _ => exact fun h2 => h2.elim
        | bad => exact fun h2 => h2
      · subst hbf
        simp only [qt] at h
        exact h (.ref C) d σ' H' r' e s hE1 ⟨⟨C, k1, rfl⟩, k2⟩
/-- in a suite nothing is let out -/
theorem hx0S {X : Cx} : ∀ σ, PassesAt (L2.CX X.prog X.w) X σ (WE E0W σ) := hx0

/-! ### is True, is False -/
def isBD (d e : D) (st : Sto) : Res D := match d, e with
  | .bl a, .bl b => .ok (.bl (decide (a = b))) st
  | _, _ => .bad
theorem opf_isB : OpF X (compareOp .Is) isBD := ⟨_, op_is_bl, fun E H r st d e x y Q s v1 v2 h => by
  cases d with
  | bl a =>
    cases e with
    | bl b => cases v1; cases v2; exact ⟨a, b, rfl, rfl, RES.ok h s rfl⟩
    | _ => exact h.elim
  | _ => exact h.elim⟩
end
end FL

namespace FL
open PySem PySem.Spec PyProof.Rows L2
variable [TabCtx]

/-! ### range(i, j, c), c above 0 -/
theorem rngN {i j c : Int} (hc : 0 < c) : Builtin.Range.rangeSize i j c = if i < j then (j - i - 1) / c + 1 else 0 := by
  unfold Builtin.Range.rangeSize
  rw [if_pos (show c > 0 from hc)]
theorem small_pos {i j c : Int} (h1 : smallI i) (h2 : smallI j) (hc : 0 < c) (hc2 : c ≤ 1000) : Builtin.Range.small i j c = true := by
  obtain ⟨a1, a2⟩ := h1
  obtain ⟨b1, b2⟩ := h2
  have key : (j - i - 1) / c ≤ 2000000000 ∧ (i < j → 0 ≤ (j - i - 1) / c) ∧ (i < j → (j - i - 1) / c * c ≤ j - i - 1) := by
    refine ⟨?_, fun h => Int.ediv_nonneg (by omega) (by omega), fun h => Int.ediv_mul_le _ (by omega)⟩
    have := Int.ediv_le_ediv hc (show j - i - 1 ≤ 2000000000 by omega)
    exact Int.le_trans this (Int.ediv_le_self _ (by decide))
  obtain ⟨k1, k2, k3⟩ := key
  have e1 : (decide (-2 ^ 63 ≤ j + (c - 1)) && decide (j + (c - 1) < 2 ^ 63)) = true := by
    rw [decide_eq_true (by omega), decide_eq_true (by omega)]; rfl
  unfold Builtin.Range.small
  rw [rngN hc, if_pos (show c > 0 from hc)]
  simp only [Builtin.Range.rangeFitsLong, e1, Bool.or_true, Bool.and_true]
  simp only [Bool.and_eq_true, decide_eq_true_eq]
  split
  · rename_i hij
    have := k2 hij
    generalize (j - i - 1) / c = z at *
    omega
  · omega
def rng3 (i j c : Int) : List D := (List.range (if i < j then (j - i - 1) / c + 1 else 0).toNat).map fun k => .int (i + (k : Nat) * c)
def iRange3 (ms : Env → Sto → Res (List D)) : IM := fun env st => (ms env st).bind fun ds st1 => match ds with
  | [.int i, .int j, .int c] => if smallI i ∧ smallI j ∧ 0 < c ∧ c ≤ 1000 then .ok (rng3 i j c, []) st1 else .bad
  | _ => .bad
theorem fi_range3 {X : Cx} {W : WX} {tg a b c : Expr} {ms : Env → Sto → Res (List D)} {p pos : Pos} (hg : Gl X "range") (hm : X.mg "range" = none) (ha : FA X W [a, b, c] ms)
    (hs : starEach [a, b, c] X.env = (false, eval a X.env) :: starEach [b, c] X.env := by rfl) (hpl : (backTo pos (starEach [b, c] X.env)).any (·.1) = false := by rfl) :
    FI X W tg (.Call (.Name "range" p) [a, b, c] [] pos) (iRange3 ms) :=
  PI.imp (pi_range3 hg hm ha hs hpl) fun σ H Q ⟨r, env, st, hE, hS, h⟩ => ⟨r, env, st, hE, hS, RES.seq h fun ds st1 xs H1 r1 e1 s1 v1 h1 => by
    split at h1
    · rename_i i j c
      by_cases hk : smallI i ∧ smallI j ∧ 0 < c ∧ c ≤ 1000
      · rw [if_pos hk] at h1
        obtain ⟨k1, k2, k3, k4⟩ := hk
        obtain ⟨x, t, rfl, w1, y, u, rfl, w2, z, u2, rfl, w3, w4⟩ := v1
        cases w1; cases w2; cases w3; cases w4
        have hn : (0 : Int) ≤ (if i < j then (j - i - 1) / c + 1 else 0) := by
          split
          · have := Int.ediv_nonneg (a := j - i - 1) (b := c) (by omega) (by omega)
            omega
          · omega
        refine ⟨i, j, c, _, rfl, ⟨by omega, by omega, small_pos k1 k2 k3 k4, (rngN k3).trans (Int.toNat_of_nonneg hn).symm⟩, RES.ok h1 s1 ⟨fun H2 r2 st2 m e s2 hst => ?_⟩⟩
        have hlen : (rng3 i j c).length = (if i < j then (j - i - 1) / c + 1 else 0).toNat := by unfold rng3; simp
        rw [hlen]
        refine ⟨fun hi => hi, fun hi => hi, fun d hd x H3 hy => ?_⟩
        obtain ⟨rfl, rfl⟩ := hy
        have hm2 := (List.getElem?_eq_some_iff.mp hd).1
        rw [hlen] at hm2
        unfold rng3 at hd
        rw [List.getElem?_map, List.getElem?_range hm2] at hd
        cases hd
        exact ⟨Ext.refl _ _, s2, .inl rfl⟩
      · rw [if_neg hk] at h1; exact h1.elim
    · exact h1.elim⟩
theorem iRange3_i {ms : Env → Sto → Res (List D)} {env : Env} {st st1 : Sto} {i j c : Int} (h : ms env st = .ok [.int i, .int j, .int c] st1) (h1 : smallI i) (h2 : smallI j) (h3 : 0 < c) (h4 : c ≤ 1000) :
    iRange3 ms env st = .ok (rng3 i j c, []) st1 := by
  show (ms env st).bind _ = _
  rw [h, Res.bind_ok]
  exact if_pos ⟨h1, h2, h3, h4⟩
/-! ### big numbers -/
/-- turns enough for numbers below 2 ^ 2000 -/
def fuelB : Nat := 10 ^ 700
theorem fuelB_lt {n : Nat} (h : n < 2 ^ 2000) : n < fuelB := Nat.lt_of_lt_of_le h (by decide +kernel)
theorem log_lt {i : Int} {k : Nat} (h : i.natAbs < 2 ^ k) (hk : 0 < k) : i.natAbs.log2 < k := by
  by_cases h0 : i.natAbs = 0
  · rw [h0]; exact hk
  · exact (Nat.log2_lt h0).mpr h
theorem mulD_b {i j : Int} {st : Sto} (h : i.natAbs < 2 ^ 2000) (h' : j.natAbs < 2 ^ 2000) : mulD (.int i) (.int j) st = .ok (.int (i * j)) st :=
  mulD_i (by have := log_lt h (by decide); have := log_lt h' (by decide); omega)
theorem fdivD_n {i j : Int} {st : Sto} (h : j ≠ 0) (h2 : j.natAbs < 2 ^ 2000) : fdivD (.int i) (.int j) st = .ok (.int (i.fdiv j)) st := by
  show (if j = 0 then Res.bad else if j.natAbs.log2 < 9000 then Res.ok (D.int (i.fdiv j)) st else .bad) = _
  rw [if_neg h, if_pos (by have := log_lt h2 (by decide); omega)]
theorem mul_lt {i j : Int} {a b : Nat} (h : i.natAbs < 2 ^ a) (h' : j.natAbs < 2 ^ b) : (i * j).natAbs < 2 ^ (a + b) := by
  rw [Int.natAbs_mul, Nat.pow_add]
  exact Nat.mul_lt_mul'' h h'
theorem add_lt {i j : Int} {a : Nat} (h : i.natAbs < 2 ^ a) (h' : j.natAbs < 2 ^ a) : (i + j).natAbs < 2 ^ (a + 1) := by
  have := Int.natAbs_add_le i j
  rw [Nat.pow_succ]; omega
theorem sub_lt {i j : Int} {a : Nat} (h : i.natAbs < 2 ^ a) (h' : j.natAbs < 2 ^ a) : (i - j).natAbs < 2 ^ (a + 1) := by
  have := Int.natAbs_sub_le i j
  rw [Nat.pow_succ]; omega
theorem lt_mono {i : Int} {a b : Nat} (h : i.natAbs < 2 ^ a) (hab : a ≤ b) : i.natAbs < 2 ^ b := Nat.lt_of_lt_of_le h (Nat.pow_le_pow_right (by decide) hab)
theorem eqD_bl {a b : Bool} {st : Sto} : eqD (.bl a) (.bl b) st = .ok (.bl (a == b)) st := by
  cases a <;> cases b <;> rfl
theorem absB_i {i : Int} {st : Sto} : absB [.int i] st = .ok (.int (i.natAbs : Nat)) st := by
  show Res.ok (D.int (if i < 0 then -i else i)) st = _
  congr 2
  split <;> omega
/-- Euclid's turns: the greatest common divisor -/
theorem gcd_step {a b : Nat} (h : 0 < b) : Nat.gcd b (a % b) = Nat.gcd a b := by
  rw [Nat.gcd_comm a b, Nat.gcd_rec b a, Nat.gcd_comm]
end FL

namespace FL
open PySem PySem.Spec PyProof.Rows L2
variable [TabCtx]
/-! ### sizes, for simp's own discharge: `simp (maxDischargeDepth := 30) only [..]` -/
def Sz (k : Nat) (i : Int) : Prop := i.natAbs < 2 ^ k
theorem sz_of {i : Int} {k j : Nat} (h : i.natAbs < 2 ^ k) (hj : k ≤ j) : Sz j i := lt_mono h hj
theorem sz_mul {k : Nat} {a b : Int} (h1 : Sz (k / 2) a) (h2 : Sz (k / 2) b) : Sz k (a * b) := lt_mono (mul_lt h1 h2) (by omega)
theorem sz_add {k : Nat} {a b : Int} (h0 : 0 < k) (h1 : Sz (k - 1) a) (h2 : Sz (k - 1) b) : Sz k (a + b) := lt_mono (add_lt h1 h2) (by omega)
theorem sz_sub {k : Nat} {a b : Int} (h0 : 0 < k) (h1 : Sz (k - 1) a) (h2 : Sz (k - 1) b) : Sz k (a - b) := lt_mono (sub_lt h1 h2) (by omega)
theorem sz_neg {k : Nat} {a : Int} (h1 : Sz k a) : Sz k (-a) := by unfold Sz; rw [Int.natAbs_neg]; exact h1
theorem sz_mod {k : Nat} {a b : Int} (h0 : 0 < b) (h1 : Sz k b) : Sz k (a % b) := by
  have := Int.emod_nonneg a (show b ≠ 0 by omega)
  have := Int.emod_lt_of_pos a h0
  unfold Sz at *; omega
theorem sz_div {k : Nat} {a b : Int} (h0 : 0 < b) (h1 : Sz k a) : Sz k (a / b) := by
  have h : (a / b).natAbs ≤ a.natAbs := by
    by_cases ha : 0 ≤ a
    · have := Int.ediv_nonneg ha (Int.le_of_lt h0)
      have := Int.ediv_le_self b ha
      omega
    · have h2 : a / b < 0 := Int.ediv_neg_of_neg_of_pos (by omega) h0
      have h3 : a ≤ a / b := by
        have h5 := Int.le_ediv_iff_mul_le (a := a) (b := a) h0
        rw [h5]
        have h6 : (-a) * 1 ≤ (-a) * b := Int.mul_le_mul_of_nonneg_left (by omega) (by omega)
        rw [Int.neg_mul, Int.neg_mul] at h6
        omega
      omega
  exact Nat.lt_of_le_of_lt h h1
theorem mulD_z {a b : Int} {st : Sto} (h1 : Sz 2000 a) (h2 : Sz 2000 b) : mulD (.int a) (.int b) st = .ok (.int (a * b)) st := mulD_b h1 h2
theorem fdivD_z {a b : Int} {st : Sto} (h0 : 0 < b) (h1 : Sz 2000 b) : fdivD (.int a) (.int b) st = .ok (.int (a / b)) st := by
  rw [fdivD_n (by omega) h1, Int.fdiv_eq_ediv_of_nonneg _ (by omega)]
theorem sz_lit {k : Nat} {n : Nat} (h : n < 2 ^ k) : Sz k (OfNat.ofNat n) := by
  show (n : Int).natAbs < 2 ^ k
  simpa using h
theorem sz_0 {k : Nat} : Sz k 0 := Nat.two_pow_pos k
theorem sz_1 {k : Nat} (h : 0 < k) : Sz k 1 := Nat.one_lt_two_pow (by omega)
theorem ixt0 {a : D} {ds : List D} {st : Sto} : ixD (.tup (a :: ds)) (.int 0) st = .ok a st := by rw [ixD_tup (d := a) (by decide) rfl]
theorem ixt1 {a b : D} {ds : List D} {st : Sto} : ixD (.tup (a :: b :: ds)) (.int 1) st = .ok b st := by rw [ixD_tup (d := b) (by decide) rfl]
theorem ixt2 {a b c : D} {ds : List D} {st : Sto} : ixD (.tup (a :: b :: c :: ds)) (.int 2) st = .ok c st := by rw [ixD_tup (d := c) (by decide) rfl]
theorem ixt3 {a b c d : D} {ds : List D} {st : Sto} : ixD (.tup (a :: b :: c :: d :: ds)) (.int 3) st = .ok d st := by rw [ixD_tup (d := d) (by decide) rfl]
theorem ixt4 {a b c d e : D} {ds : List D} {st : Sto} : ixD (.tup (a :: b :: c :: d :: e :: ds)) (.int 4) st = .ok e st := by rw [ixD_tup (d := e) (by decide) rfl]
theorem negD_i {i : Int} {st : Sto} : negD (.int i) st = .ok (.int (-i)) st := rfl
example {x y : Int} (hx : ∀ k, 100 ≤ k → Sz k x) (hy : ∀ k, 13 ≤ k → Sz k y) (y0 : 0 < y) (st : Sto) : mulD (.int (x * x + 10 % y)) (.int (x / y)) st = .ok (.int ((x * x + 10 % y) * (x / y))) st := by
  simp (maxDischargeDepth := 30) only [mulD_z, sz_mul, sz_add, sz_div, sz_mod, hx, hy, y0, Nat.reduceLeDiff, Nat.reduceDiv, Nat.reduceSub, Nat.reduceLT]
end FL

namespace FL
open PySem PySem.Spec PyProof.Rows L2
variable [TabCtx]
theorem cut_to {α : Type} {xs : List α} {i : Int} (h : 0 ≤ i) : cutL xs none (some i) = xs.take i.toNat := by
  unfold cutL HT.sIx
  simp only [List.drop_zero, Nat.sub_zero]
  rw [if_neg (by omega), List.take_eq_take_iff]
  omega
theorem cut_from {α : Type} {xs : List α} {i : Int} (h : 0 ≤ i) : cutL xs (some i) none = xs.drop i.toNat := by
  unfold cutL HT.sIx
  simp only []
  rw [if_neg (by omega)]
  by_cases hl : i.toNat ≤ xs.length
  · rw [Nat.min_eq_left hl, List.take_of_length_le (by rw [List.length_drop]; omega)]
  · rw [Nat.min_eq_right (by omega), List.drop_length, List.take_nil, List.drop_eq_nil_of_le (by omega)]
theorem cut_last {α : Type} {xs : List α} : cutL xs none (some (-1)) = xs.dropLast := by
  unfold cutL HT.sIx
  simp only [List.drop_zero, Nat.sub_zero]
  rw [if_pos (by decide), List.dropLast_eq_take]
  congr 1
  omega
theorem slD_lst {ds : List D} {lo hi : Option Int} {st : Sto} : slD (.lst ds) lo hi st = .ok (.lst (cutL ds lo hi)) st := rfl
theorem addD_lst {a b : List D} {st : Sto} (h : a.length + b.length ≤ 1000000) : addD (.lst a) (.lst b) st = .ok (.lst (a ++ b)) st := by
  show (if _ then _ else _) = _
  exact if_pos h
theorem ixD_m1 {ds : List D} {d : D} {st : Sto} : ixD (.lst (ds ++ [d])) (.int (-1)) st = .ok d st := by
  show (match atI (ds ++ [d]) (-1) with | some x => Res.ok x st | none => .bad) = _
  have e : atI (ds ++ [d]) (-1) = some d := by
    unfold atI ixN
    rw [if_neg (by decide), if_pos (by rw [List.length_append, List.length_singleton]; omega)]
    simp only [Option.bind_some]
    rw [List.getElem?_append_right (by rw [List.length_append, List.length_singleton]; omega)]
    rw [show ((-1 : Int) + ((ds ++ [d]).length : Nat)).toNat - ds.length = 0 by rw [List.length_append, List.length_singleton]; omega]
    rfl
  rw [e]
theorem tupB_lst {ds : List D} {st : Sto} : tupB [.lst ds] st = .ok (.tup ds) st := rfl
theorem tupB_loc {ds : List D} {st : Sto} {l : Nat} (h : st[l]? = some (.lst ds)) : tupB [.loc l] st = .ok (.tup ds) st := by
  show (match lstD (.loc l) st with
      | some ds => Res.ok (D.tup ds) st
      | none => .bad) = _
  rw [lstD_loc h]
theorem lstB_tup {ds : List D} {st : Sto} : lstB [.tup ds] st = .ok ds st := rfl
theorem extD_loc {st : Sto} {l : Nat} {ds es : List D} (h : st[l]? = some (.lst ds)) (hl : ds.length + es.length < 1000000) : extD (.loc l) [.lst es] st = .ok .non (st.set l (.lst (ds ++ es))) := by
  show (match st[l]?, madeD (.lst es) st with
    | some (.lst ds), some es => if ds.length + es.length < 1000000 then Res.ok D.non (st.set l (.lst (ds ++ es))) else .bad
    | _, _ => .bad) = _
  rw [h]
  exact if_pos hl
theorem iSeq_tup {m : EM} {env : Env} {st st1 : Sto} {ds : List D} (h : m env st = .ok (.tup ds) st1) : iSeq m env st = .ok (ds, []) st1 := by
  rw [iSeq_ap, h]; rfl
theorem iSeq_lst {m : EM} {env : Env} {st st1 : Sto} {ds : List D} (h : m env st = .ok (.lst ds) st1) : iSeq m env st = .ok (ds, []) st1 := by
  rw [iSeq_ap, h]; rfl
/-- no store place in it, at most k deep -/
def D.flt : Nat → D → Bool
  | _, .loc _ => false
  | k + 1, .tup ds => ds.all (D.flt k)
  | k + 1, .lst ds => ds.all (D.flt k)
  | k + 1, .exc _ _ ds => ds.all (D.flt k)
  | 0, .tup _ => false
  | 0, .lst _ => false
  | 0, .exc _ _ _ => false
  | _, _ => true
theorem mapQ_id {f : D → Option D} : ∀ {ds : List D}, (∀ d ∈ ds, f d = some d) → mapQ f ds = some ds
  | [], _ => rfl
  | d :: ds, h => by
    unfold mapQ
    rw [h d List.mem_cons_self]
    simp only
    rw [mapQ_id fun e he => h e (List.mem_cons_of_mem _ he)]
theorem frz_flt {st : Sto} {n : Nat} : ∀ {k m : Nat} {d : D}, D.flt k d = true → k ≤ m → D.frz st n m d = some d
  | 0, m, d, h, hm => by
    cases d <;> first | (cases m <;> rfl) | (simp [D.flt] at h)
  | k + 1, 0, d, h, hm => by omega
  | k + 1, m + 1, d, h, hm => by
    cases d with
    | tup ds =>
      unfold D.frz
      rw [mapQ_id fun e he => frz_flt (k := k) (List.all_eq_true.mp (by simpa [D.flt] using h) e he) (by omega)]
    | lst ds =>
      unfold D.frz
      rw [mapQ_id fun e he => frz_flt (k := k) (List.all_eq_true.mp (by simpa [D.flt] using h) e he) (by omega)]
    | exc c ns ds =>
      unfold D.frz
      rw [mapQ_id fun e he => frz_flt (k := k) (List.all_eq_true.mp (by simpa [D.flt] using h) e he) (by omega)]
    | loc l => simp [D.flt] at h
    | _ => rfl
/-- what a new list's def gives back: frozen -/
theorem fin_list {st g : Sto} {ds : List D} {k : Nat} (hg : (st ++ g)[st.length]? = some (.lst ds)) (h : ds.all (D.flt k) = true) (hk : k ≤ 29) : fin true st (.rt (.loc st.length) (st ++ g)) = .ok (.lst ds) st := by
  refine fin_frozen (by simp [D.blw]) ?_
  unfold D.frz
  rw [if_neg (by omega), hg]
  simp only
  rw [mapQ_id fun e he => frz_flt (k := k) (List.all_eq_true.mp h e he) hk]
theorem flt_map {α : Type} {f : α → D} {k : Nat} (h : ∀ a, D.flt k (f a) = true) (l : List α) : (l.map f).all (D.flt k) = true := by
  rw [List.all_map, List.all_eq_true]
  exact fun a _ => h a
end FL

namespace FL
open PySem PySem.Spec PyProof.Rows L2
variable [TabCtx]
/-- [e for x in xs if t], the items laid out by enc -/
theorem comp_map {α : Type} {g : GM} {tt : Env → Sto → Res Bool} {te : EM} {st : Sto} {env : Env} {enc : α → D} {p : α → Bool} {f : α → D} : ∀ {l : List α} {acc : List D},
    (∀ a ∈ l, ∃ env1, g (enc a) env st = .ok env1 st ∧ tt env1 st = .ok (p a) st ∧ (p a = true → te env1 st = .ok (f a) st)) → acc.length + l.length ≤ 1000000 →
    compL [] g tt te env (l.map enc) st acc = .ok (acc ++ (l.filter p).map f) st
  | [], acc, _, _ => by rw [List.map_nil, compL_nil rfl, List.filter_nil, List.map_nil, List.append_nil]
  | a :: l, acc, h, hl => by
    obtain ⟨env1, h1, h2, h3⟩ := h a List.mem_cons_self
    have hl' : acc.length < 1000000 := by rw [List.length_cons] at hl; omega
    rw [List.map_cons]
    unfold compL
    rw [if_pos (show stillB [] st = true from rfl), h1]
    simp only [h2]
    cases hp : p a with
    | true =>
      simp only [if_true, h3 hp, if_pos hl', List.filter_cons, hp]
      rw [comp_map (l := l) (fun b hb => h b (List.mem_cons_of_mem _ hb)) (by rw [List.length_append, List.length_singleton]; rw [List.length_cons] at hl; omega)]
      simp
    | false =>
      simp only [Bool.false_eq_true, if_false, List.filter_cons, hp]
      exact comp_map (l := l) (fun b hb => h b (List.mem_cons_of_mem _ hb)) (by rw [List.length_cons] at hl; omega)
theorem filter_tt {α : Type} (l : List α) : l.filter (fun _ => true) = l := List.filter_eq_self.mpr fun _ _ => rfl
theorem comp_map0 {α : Type} {g : GM} {te : EM} {st : Sto} {env : Env} {enc : α → D} {f : α → D} {l : List α} {acc : List D}
    (h : ∀ a ∈ l, ∃ env1, g (enc a) env st = .ok env1 st ∧ te env1 st = .ok (f a) st) (hl : acc.length + l.length ≤ 1000000) :
    compL [] g noTest te env (l.map enc) st acc = .ok (acc ++ l.map f) st := by
  rw [comp_map (p := fun _ => true) (f := f) (fun a ha => by
    obtain ⟨env1, h1, h2⟩ := h a ha
    exact ⟨env1, h1, rfl, fun _ => h2⟩) hl, filter_tt]
/-! ### sorted rows of tuples -/
theorem sort_any {ds : List D} {st : Sto} {d : D} (hd : dicD d st = none) (hl : lstD d st = some ds) (hn : intsD ds = none) {l : List (TKey × D)} (hk : tupK (shapeOf ds) ds = some l) : sortB2 [d] st = .ok ((srtT l).map (·.2)) st := by
  show (match dicD d st with
    | some _ => sortB [d] st
    | none => match lstD d st with
      | some ds => match intsD ds with
        | some _ => sortB [d] st
        | none => match sortT ds with
          | some es => Res.ok es st
          | none => .bad
      | none => .bad) = _
  rw [hd, hl]
  simp only [hn]
  unfold sortT
  rw [hk]
/-- two rows of the same keyed tuples are sorted alike -/
theorem srtT_same {l l' : List (TKey × D)} (h : l.Perm l') (hi : ∀ a ∈ l, ∀ b ∈ l, a.1 = b.1 → a = b) : srtT l = srtT l' := by
  refine List.Perm.eq_of_pairwise (fun a b ha hb h1 h2 => ?_) (srtT_mono l) (srtT_mono l') ((srtT_perm l).trans (h.trans (srtT_perm l').symm))
  have ek : a.1 = b.1 := ((listOrd itemOrd).total b.1 a.1 h1 h2).symm
  exact hi a ((srtT_perm l).mem_iff.mp ha) b (h.mem_iff.mpr ((srtT_perm l').mem_iff.mp hb)) ek
theorem eqB_pair {a b c d : Int} {st : Sto} : eqB st (.tup [.int a, .int b]) (.tup [.int c, .int d]) = some ((a, b) == (c, d)) := by
  have e : eqB st (.tup [.int a, .int b]) (.tup [.int c, .int d]) = some (PyData.eqv (.tuple [.int a, .int b]) (.tuple [.int c, .int d])) := rfl
  rw [e]
  simp [PyData.eqv, PyData.eqvAll]
  rfl
theorem eqD_of {a b : D} {st : Sto} {k : Bool} (h : eqB st a b = some k) : eqD a b st = .ok (.bl k) st := by
  show (match eqB st a b with | some b => Res.ok (D.bl b) st | none => .bad) = _
  rw [h]
theorem neD_of {a b : D} {st : Sto} {k : Bool} (h : eqB st a b = some k) : neD a b st = .ok (.bl (!k)) st := by
  show (match eqB st a b with | some b => Res.ok (D.bl (!b)) st | none => .bad) = _
  rw [h]
theorem inD_2 {x a b : Int} {st : Sto} : inD (.int x) (.tup [.int a, .int b]) st = .ok (.bl (x == a || x == b)) st := by
  show (match inB (.int x) (.tup [.int a, .int b]) st with
  | some b => Res.ok (D.bl b) st
  | none => .bad) = _
  have e : inB (.int x) (.tup [.int a, .int b]) st = some ([PyData.int a, PyData.int b].any fun z => PyData.eqv z (.int x)) := rfl
  rw [e]
  simp only [List.any_cons, List.any_nil, Bool.or_false, PyData.eqv]
  rw [BEq.comm, BEq.comm (a := b)]
end FL

namespace FL
open PySem PySem.Spec PyProof.Rows L2
variable [TabCtx]
/-! ## typed values -/
@[reducible] def cI (i : Int) : D := .int i
@[reducible] def cB (b : Bool) : D := .bl b
@[reducible] def cS (x : Str) : D := .str x
@[reducible] def cD (d : D) : D := d
@[reducible] def cU (_ : Unit) : D := .non
@[reducible] def cZ (l : List Int) : D := .scr l
@[reducible] def cP0 (_ : Unit) : D := .tup []
@[reducible] def cP1 {α : Type} (c : α → D) (a : α) : D := .tup [c a]
@[reducible] def cP2 {α β : Type} (ca : α → D) (cb : β → D) (p : α × β) : D := .tup [ca p.1, cb p.2]
@[reducible] def cP3 {α β γ : Type} (ca : α → D) (cb : β → D) (cc : γ → D) (p : α × β × γ) : D := .tup [ca p.1, cb p.2.1, cc p.2.2]
@[reducible] def cP4 {α β γ δ : Type} (ca : α → D) (cb : β → D) (cc : γ → D) (cd : δ → D) (p : α × β × γ × δ) : D := .tup [ca p.1, cb p.2.1, cc p.2.2.1, cd p.2.2.2]
@[reducible] def cP5 {α β γ δ ε : Type} (ca : α → D) (cb : β → D) (cc : γ → D) (cd : δ → D) (ce : ε → D) (p : α × β × γ × δ × ε) : D := .tup [ca p.1, cb p.2.1, cc p.2.2.1, cd p.2.2.2.1, ce p.2.2.2.2]
@[reducible] def cL {α : Type} (c : α → D) (l : List α) : D := .lst (l.map c)
@[reducible] def cT {α : Type} (c : α → D) (l : List α) : D := .tup (l.map c)
def cO {α : Type} (c : α → D) : Option α → D
  | none => .non
  | some a => c a
/-- flat, at most k deep -/
def Flat {α : Type} (k : Nat) (c : α → D) : Prop := ∀ a, D.flt k (c a) = true
theorem fl_I {k} : Flat k cI := fun a => by cases k <;> rfl
theorem fl_B {k} : Flat k cB := fun a => by cases k <;> rfl
theorem fl_S {k} : Flat k cS := fun a => by cases k <;> rfl
theorem fl_U {k} : Flat k cU := fun a => by cases k <;> rfl
theorem fl_Z {k} : Flat k cZ := fun a => by cases k <;> rfl
theorem fl_L {α : Type} {c : α → D} {k} (h : Flat k c) : Flat (k + 1) (cL c) := fun l => by
  show (l.map c).all (D.flt k) = true
  exact flt_map h l
theorem fl_T {α : Type} {c : α → D} {k} (h : Flat k c) : Flat (k + 1) (cT c) := fun l => by
  show (l.map c).all (D.flt k) = true
  exact flt_map h l
theorem fl_P0 {k} : Flat (k + 1) cP0 := fun a => rfl
theorem fl_P1 {α : Type} {ca : α → D} {k} (h1 : Flat k ca) : Flat (k + 1) (cP1 ca) := fun p => by
  show [ca p].all (D.flt k) = true
  simp [h1 p]
theorem fl_P2 {α β : Type} {ca : α → D} {cb : β → D} {k} (h1 : Flat k ca) (h2 : Flat k cb) : Flat (k + 1) (cP2 ca cb) := fun p => by
  show [ca p.1, cb p.2].all (D.flt k) = true
  simp [h1 p.1, h2 p.2]
theorem fl_P3 {α β γ : Type} {ca : α → D} {cb : β → D} {cc : γ → D} {k} (h1 : Flat k ca) (h2 : Flat k cb) (h3 : Flat k cc) : Flat (k + 1) (cP3 ca cb cc) := fun p => by
  show [ca p.1, cb p.2.1, cc p.2.2].all (D.flt k) = true
  simp [h1 p.1, h2 p.2.1, h3 p.2.2]
theorem fl_P4 {α β γ δ : Type} {ca : α → D} {cb : β → D} {cc : γ → D} {cd : δ → D} {k} (h1 : Flat k ca) (h2 : Flat k cb) (h3 : Flat k cc) (h4 : Flat k cd) : Flat (k + 1) (cP4 ca cb cc cd) := fun p => by
  show [ca p.1, cb p.2.1, cc p.2.2.1, cd p.2.2.2].all (D.flt k) = true
  simp [h1 p.1, h2 p.2.1, h3 p.2.2.1, h4 p.2.2.2]
theorem fl_P5 {α β γ δ ε : Type} {ca : α → D} {cb : β → D} {cc : γ → D} {cd : δ → D} {ce : ε → D} {k} (h1 : Flat k ca) (h2 : Flat k cb) (h3 : Flat k cc) (h4 : Flat k cd) (h5 : Flat k ce) : Flat (k + 1) (cP5 ca cb cc cd ce) := fun p => by
  show [ca p.1, cb p.2.1, cc p.2.2.1, cd p.2.2.2.1, ce p.2.2.2.2].all (D.flt k) = true
  simp [h1 p.1, h2 p.2.1, h3 p.2.2.1, h4 p.2.2.2.1, h5 p.2.2.2.2]
theorem fl_O {α : Type} {c : α → D} {k} (h : Flat k c) : Flat k (cO c) := fun a => by
  cases a with
  | none => cases k <;> rfl
  | some a => exact h a
/-! equality -/
def EqE {α : Type} [DecidableEq α] (k : Nat) (c : α → D) : Prop := ∃ p : α → PyData, (∀ st a, toPy k st (c a) = some (p a)) ∧ ∀ a b, PyData.eqv (p a) (p b) = decide (a = b)
theorem eq_I {k} : EqE k cI := ⟨.int, fun st a => by cases k <;> rfl, fun a b => by simp [PyData.eqv]; rfl⟩
theorem eq_B {k} : EqE k cB := ⟨.bool, fun st a => by cases k <;> rfl, fun a b => by cases a <;> cases b <;> rfl⟩
theorem eq_S {k} : EqE k cS := ⟨.str, fun st a => by cases k <;> rfl, fun a b => by simp [PyData.eqv]; rfl⟩
theorem eq_U {k} : EqE k cU := ⟨fun _ => .none, fun st a => by cases k <;> rfl, fun a b => rfl⟩
theorem mapO_map {α β γ : Type} {f : β → Option γ} {g : α → β} {h : α → γ} : ∀ {l : List α}, (∀ a ∈ l, f (g a) = some (h a)) → mapO f (l.map g) = some (l.map h)
  | [], _ => rfl
  | a :: l, q => by
    show mapO f (g a :: l.map g) = _
    unfold mapO
    rw [q a List.mem_cons_self, mapO_map fun b hb => q b (List.mem_cons_of_mem _ hb)]
    rfl
theorem eqvAll_mapP {α : Type} [DecidableEq α] {p : α → PyData} (h : ∀ a b, PyData.eqv (p a) (p b) = decide (a = b)) : ∀ l l' : List α, PyData.eqvAll (l.map p) (l'.map p) = decide (l = l')
  | [], [] => by simp [PyData.eqvAll]
  | [], _ :: _ => by simp [PyData.eqvAll]
  | _ :: _, [] => by simp [PyData.eqvAll]
  | a :: l, b :: l' => by
    simp only [List.map_cons, PyData.eqvAll, h, eqvAll_mapP h l l', List.cons.injEq, Bool.decide_and]
theorem eq_L {α : Type} [DecidableEq α] {c : α → D} {k} (h : EqE k c) : EqE (k + 1) (cL c) := by
  obtain ⟨p, h1, h2⟩ := h
  refine ⟨fun l => .list (l.map p), fun st l => ?_, fun a b => ?_⟩
  · show (mapO (toPy k st) (l.map c)).map PyData.list = _
    rw [mapO_map fun a _ => h1 st a]; rfl
  · simp only [PyData.eqv]
    exact eqvAll_mapP h2 a b
theorem eq_T {α : Type} [DecidableEq α] {c : α → D} {k} (h : EqE k c) : EqE (k + 1) (cT c) := by
  obtain ⟨p, h1, h2⟩ := h
  refine ⟨fun l => .tuple (l.map p), fun st l => ?_, fun a b => ?_⟩
  · show (mapO (toPy k st) (l.map c)).map PyData.tuple = _
    rw [mapO_map fun a _ => h1 st a]; rfl
  · simp only [PyData.eqv]
    exact eqvAll_mapP h2 a b
theorem eq_Z {k} : EqE (k + 1) cZ := by
  refine ⟨fun l => .list (l.map .int), fun st l => rfl, fun a b => ?_⟩
  simp only [PyData.eqv]
  exact eqvAll_mapP (p := PyData.int) (fun a b => by simp [PyData.eqv]; rfl) a b
theorem eq_P2 {α β : Type} [DecidableEq α] [DecidableEq β] {ca : α → D} {cb : β → D} {k} (h1 : EqE k ca) (h2 : EqE k cb) : EqE (k + 1) (cP2 ca cb) := by
  obtain ⟨p, p1, p2⟩ := h1
  obtain ⟨q, q1, q2⟩ := h2
  refine ⟨fun x => .tuple [p x.1, q x.2], fun st x => ?_, fun x y => ?_⟩
  · show (mapO (toPy k st) [ca x.1, cb x.2]).map PyData.tuple = _
    simp [mapO, p1, q1]
  · simp [PyData.eqv, PyData.eqvAll, p2, q2, Prod.ext_iff, Bool.decide_and]
theorem eq_P3 {α β γ : Type} [DecidableEq α] [DecidableEq β] [DecidableEq γ] {ca : α → D} {cb : β → D} {cc : γ → D} {k} (h1 : EqE k ca) (h2 : EqE k cb) (h3 : EqE k cc) : EqE (k + 1) (cP3 ca cb cc) := by
  obtain ⟨p, p1, p2⟩ := h1
  obtain ⟨q, q1, q2⟩ := h2
  obtain ⟨r, r1, r2⟩ := h3
  refine ⟨fun x => .tuple [p x.1, q x.2.1, r x.2.2], fun st x => ?_, fun x y => ?_⟩
  · show (mapO (toPy k st) [ca x.1, cb x.2.1, cc x.2.2]).map PyData.tuple = _
    simp [mapO, p1, q1, r1]
  · simp [PyData.eqv, PyData.eqvAll, p2, q2, r2, Prod.ext_iff, Bool.decide_and]
theorem eq_P4 {α β γ δ : Type} [DecidableEq α] [DecidableEq β] [DecidableEq γ] [DecidableEq δ] {ca : α → D} {cb : β → D} {cc : γ → D} {cd : δ → D} {k} (h1 : EqE k ca) (h2 : EqE k cb) (h3 : EqE k cc) (h4 : EqE k cd) : EqE (k + 1) (cP4 ca cb cc cd) := by
  obtain ⟨p, p1, p2⟩ := h1
  obtain ⟨q, q1, q2⟩ := h2
  obtain ⟨r, r1, r2⟩ := h3
  obtain ⟨s, s1, s2⟩ := h4
  refine ⟨fun x => .tuple [p x.1, q x.2.1, r x.2.2.1, s x.2.2.2], fun st x => ?_, fun x y => ?_⟩
  · show (mapO (toPy k st) [ca x.1, cb x.2.1, cc x.2.2.1, cd x.2.2.2]).map PyData.tuple = _
    simp [mapO, p1, q1, r1, s1]
  · simp [PyData.eqv, PyData.eqvAll, p2, q2, r2, s2, Prod.ext_iff, Bool.decide_and]
theorem eq_P0 {k} : EqE (k + 1) cP0 := ⟨fun _ => .tuple [], fun st a => rfl, fun a b => by simp [PyData.eqv, PyData.eqvAll]⟩
theorem eq_P1 {α : Type} [DecidableEq α] {ca : α → D} {k} (h1 : EqE k ca) : EqE (k + 1) (cP1 ca) := by
  obtain ⟨p, p1, p2⟩ := h1
  refine ⟨fun x => .tuple [p x], fun st x => ?_, fun x y => ?_⟩
  · show (mapO (toPy k st) [ca x]).map PyData.tuple = _
    simp [mapO, p1]
  · simp [PyData.eqv, PyData.eqvAll, p2]
theorem eqB_c {α : Type} [DecidableEq α] {c : α → D} (h : EqE 40 c) {a b : α} {st : Sto} : eqB st (c a) (c b) = some (decide (a = b)) := by
  obtain ⟨p, p1, p2⟩ := h
  unfold eqB
  split
  · rename_i i j e1 e2
    have h1 := p1 [] a
    have h2 := p1 [] b
    rw [e1] at h1; rw [e2] at h2
    have h3 := p2 a b
    rw [← Option.some.inj h1, ← Option.some.inj h2] at h3
    rw [← h3]
    congr 1
  · rw [p1, p1]
    simp only [p2]
theorem eq_c {α : Type} [DecidableEq α] {c : α → D} (h : EqE 40 c) {a b : α} {st : Sto} : eqD (c a) (c b) st = .ok (cB (decide (a = b))) st := eqD_of (eqB_c h)
theorem ne_c {α : Type} [DecidableEq α] {c : α → D} (h : EqE 40 c) {a b : α} {st : Sto} : neD (c a) (c b) st = .ok (cB (!decide (a = b))) st := neD_of (eqB_c h)
end FL

namespace FL
open PySem PySem.Spec PyProof.Rows L2
variable [TabCtx]
/-! ## expressions, typed -/
section
variable {env : Env} {S : Sto} {m ma mb mc : EM} {ms : Env → Sto → Res (List D)} {ta tb : Env → Sto → Res Bool}
theorem ev_v {i : Nat} {d : D} (h : env[i]? = some (some d)) : eV i env S = .ok d S := by unfold eV; rw [h]
theorem ev_op {g : D → D → Sto → Res D} {a b : D} {r : Res D} (ha : ma env S = .ok a S) (hb : mb env S = .ok b S) (hg : g a b S = r) : eOp g ma mb env S = r := by
  rw [eOp_ap, ha, eOp_o1, hb, eOp_o2, hg]
theorem ev_un {g : D → Sto → Res D} {a : D} {r : Res D} (ha : ma env S = .ok a S) (hg : g a S = r) : eUn g ma env S = r := by
  rw [eUn_ap, ha, Res.bind_ok, hg]
theorem ev_nil : aNil env S = .ok [] S := rfl
theorem ev_cons {a : D} {ds : List D} (ha : ma env S = .ok a S) (hs : ms env S = .ok ds S) : aCons ma ms env S = .ok (a :: ds) S := by
  rw [aCons_ap, ha, aCons_o1, hs, aCons_o2]
theorem ev_tup {ds : List D} (h : ms env S = .ok ds S) (hl : Nat.ble ds.length 1000 = true) : eTup ms env S = .ok (.tup ds) S := by
  rw [eTup_ap, h, eTup_o1, if_pos (Nat.le_of_ble_eq_true hl)]
theorem ev_lst {ds : List D} (h : ms env S = .ok ds S) (hl : Nat.ble ds.length 1000 = true) : nLst ms env S = .ok ds S := by
  rw [nLst_ap, h, nLst_o1, if_pos (Nat.le_of_ble_eq_true hl)]
theorem ev_frz {ds : List D} (h : ms env S = .ok ds S) : eFrz ms env S = .ok (.lst ds) S := by
  rw [eFrz_ap, h, eFrz_o1]
theorem ev_call {n : Nat} {f : Fn} {ds : List D} {r : Res D} (h : ms env S = .ok ds S) (hl : ds.length = n) (hf : f ds S = r) : eCall n f ms env S = r := by
  rw [eCall_ap, h, eCall_o1, if_pos hl, hf]
theorem ev_B {g : List D → Sto → Res D} {ds : List D} {r : Res D} (h : ms env S = .ok ds S) (hg : g ds S = r) : eB g ms env S = r := by
  rw [eB_ap, h, Res.bind_ok, hg]
theorem ev_nB {g : List D → Sto → Res (List D)} {ds : List D} {r : Res (List D)} (h : ms env S = .ok ds S) (hg : g ds S = r) : nB g ms env S = r := by
  rw [nB_ap, h, Res.bind_ok, hg]
theorem tt_B {k : Bool} (h : m env S = .ok (cB k) S) : asB m env S = .ok k S := by rw [asB_ap, h]; rfl
theorem tt_tru {d : D} {k : Bool} (h : m env S = .ok d S) (ht : truD d S = .ok k S) : tTru m env S = .ok k S := by rw [tTru_ap, h, Res.bind_ok, ht]
theorem tt_and {a b : Bool} (ha : ta env S = .ok a S) (hb : a = true → tb env S = .ok b S) : tAndM ta tb env S = .ok (a && b) S := by
  rw [tAndM_ap, ha]
  cases a with
  | true => rw [tAndM_t, hb rfl]; rfl
  | false => rw [tAndM_f]; rfl
theorem tt_or {a b : Bool} (ha : ta env S = .ok a S) (hb : a = false → tb env S = .ok b S) : tOrM ta tb env S = .ok (a || b) S := by
  rw [tOrM_ap, ha]
  cases a with
  | true => rw [tOrM_t]; rfl
  | false => rw [tOrM_f, hb rfl]; rfl
theorem tt_not {a : Bool} (ha : ta env S = .ok a S) : tNotM ta env S = .ok (!a) S := by rw [tNotM_ap, ha, tNotM_o1]
theorem ev_andB {a b : Bool} (ha : ma env S = .ok (cB a) S) (hb : a = true → mb env S = .ok (cB b) S) : eAnd ma mb env S = .ok (cB (a && b)) S := by
  rw [eAnd_ap, ha, eAnd_o]
  show eAnd_k2 mb env (.bl a) (.ok a S) = _
  cases a with
  | true => rw [eAnd_t, hb rfl]; rfl
  | false => rw [eAnd_f]; rfl
theorem ev_orB {a b : Bool} (ha : ma env S = .ok (cB a) S) (hb : a = false → mb env S = .ok (cB b) S) : eOr ma mb env S = .ok (cB (a || b)) S := by
  rw [eOr_ap, ha, eOr_o]
  show eOr_k2 mb env (.bl a) (.ok a S) = _
  cases a with
  | true => rw [eOr_t]; rfl
  | false => rw [eOr_f, hb rfl]; rfl
theorem ev_notD {d : D} {k : Bool} (ha : ma env S = .ok d S) (ht : truD d S = .ok k S) : eNot ma env S = .ok (cB (!k)) S := by
  rw [eNot_ap, ha, eNot_o1, ht, eNot_o2]
theorem ev_if {α : Type} {c : α → D} {k : Bool} {x y : α} (ht : ta env S = .ok k S) (ha : k = true → ma env S = .ok (c x) S) (hb : k = false → mb env S = .ok (c y) S) : eIf ta ma mb env S = .ok (c (if k = true then x else y)) S := by
  rw [eIf_ap, ht]
  cases k with
  | true => rw [eIf_t, ha rfl]; rfl
  | false => rw [eIf_f, hb rfl]; rfl
theorem ev_chain {g g' : D → D → Sto → Res D} {a b c : D} {j k : Bool} (ha : ma env S = .ok a S) (hb : mb env S = .ok b S) (hg : g a b S = .ok (cB j) S) (hc : mc env S = .ok c S) (hg' : g' b c S = .ok (cB k) S) :
    eChain g g' ma mb mc env S = .ok (cB (j && k)) S := by
  rw [eChain_ap, ha, eChain_o1, hb, eChain_o2, hg]
  cases j with
  | true => rw [eChain_t, hc, eChain_o4, hg']; rfl
  | false => rw [eChain_f]; rfl
theorem ev_chain3 {md : EM} {g g' g'' : D → D → Sto → Res D} {a b c d : D} {j k l : Bool} (ha : ma env S = .ok a S) (hb : mb env S = .ok b S) (hg : g a b S = .ok (cB j) S) (hc : mc env S = .ok c S) (hg' : g' b c S = .ok (cB k) S) (hd : md env S = .ok d S) (hg'' : g'' c d S = .ok (cB l) S) :
    eChain3 g g' g'' ma mb mc md env S = .ok (cB (j && (k && l))) S := by
  rw [eChain3_ap, ha, eChain3_o1, hb, eChain3_o2, hg]
  cases j with
  | true =>
    rw [eChain3_t, hc, eChain3_o4, hg']
    cases k with
    | true => rw [eChain_t, hd, eChain_o4, hg'']; rfl
    | false => rw [eChain_f]; rfl
  | false => rw [eChain3_f]; rfl
theorem ev_oSome {i : Int} (h : m env S = .ok (cI i) S) : oSome m env S = .ok (some i) S := by rw [oSome_ap, h, oSome_o]
theorem ev_sl {ml mh : OM} {d : D} {lo hi : Option Int} {r : Res D} (h : m env S = .ok d S) (hl : ml env S = .ok lo S) (hh : mh env S = .ok hi S) (hs : slD d lo hi S = r) : eSl m ml mh env S = r := by
  rw [eSl_ap, h, eSl_o1, hl, eSl_o2, hh, eSl_o3, hs]
theorem ev_isi {d : D} {t T : Ty} (h : m env S = .ok d S) (ht : tyD d S = some t) : eIsi T m env S = .ok (cB (t.le T)) S := by
  rw [eIsi_ap, h, eIsi_o1, ht]
theorem ev_mt {ok : D → Sto → Bool} {g : D → List D → Sto → Res D} {d : D} {ds : List D} {r : Res D} (h : m env S = .ok d S) (hk : ok d S = true) (hs : ms env S = .ok ds S) (hg : g d ds S = r) : eMt ok g m ms env S = r := by
  rw [eMt_ap, h, eMt_o1 _ _ _ _ _ _ hk, hs, eMt_o2, hg]
end
/-! ### operations -/
def MulK (a b : Int) : Prop := a.natAbs.log2 + b.natAbs.log2 < 1000000
def DivOk (b : Int) : Prop := b ≠ 0 ∧ b.natAbs.log2 < 9000
theorem mul_c {a b : Int} {S : Sto} (h : MulK a b) : mulD (cI a) (cI b) S = .ok (cI (a * b)) S := mulD_i h
theorem div_k {a b : Int} {S : Sto} (h : 0 < b) (h2 : b.natAbs.log2 < 9000) : fdivD (cI a) (cI b) S = .ok (cI (a / b)) S := fdivD_i h h2
theorem mod_k {a b : Int} {S : Sto} (h : 0 < b) : modD (cI a) (cI b) S = .ok (cI (a % b)) S := modD_i h
theorem div_c {a b : Int} {S : Sto} (h : DivOk b) : fdivD (cI a) (cI b) S = .ok (cI (a.fdiv b)) S := by
  show (if b = 0 then Res.bad else if b.natAbs.log2 < 9000 then Res.ok (D.int (a.fdiv b)) S else .bad) = _
  rw [if_neg h.1, if_pos h.2]
theorem mod_c {a b : Int} {S : Sto} (h : b ≠ 0) : modD (cI a) (cI b) S = .ok (cI (a.fmod b)) S := by
  show (if b = 0 then Res.bad else Res.ok (D.int (a.fmod b)) S) = _
  rw [if_neg h]
theorem pow_c {a b : Int} {S : Sto} (h : 0 ≤ b ∧ b ≤ 1000000 ∧ a.natAbs < 2 ^ 64) {r : Int} (hr : a ^ b.toNat = r) : powD (cI a) (cI b) S = .ok (cI r) S := by rw [← hr]; exact powD_i h
/-! ### rows -/
def getI {α : Type} [Inhabited α] (xs : List α) (i : Int) : α := xs.getD (if i < 0 then i + (xs.length : Int) else i).toNat default
def IxOk (n : Nat) (i : Int) : Prop := -(n : Int) ≤ i ∧ i < n
theorem atI_c {α : Type} [Inhabited α] {xs : List α} {i : Int} (h : IxOk xs.length i) : atI xs i = some (getI xs i) := by
  obtain ⟨h1, h2⟩ := h
  unfold getI
  by_cases h0 : 0 ≤ i
  · rw [atI_nat h0, if_neg (by omega), List.getD_eq_getElem?_getD, List.getElem?_eq_getElem (by omega)]; rfl
  · unfold atI ixN
    rw [if_neg h0, if_pos (by omega), if_pos (by omega), List.getD_eq_getElem?_getD]
    simp only [Option.bind_some]
    rw [Int.add_comm]
    rw [List.getElem?_eq_getElem (by omega)]; rfl
theorem atI_map {α β : Type} {f : α → β} {xs : List α} {i : Int} : atI (xs.map f) i = (atI xs i).map f := by
  unfold atI
  rw [List.length_map]
  cases ixN xs.length i with
  | none => rfl
  | some n => simp
theorem sq_L {α : Type} {c : α → D} {xs : List α} {S : Sto} : seqD (cL c xs) S = some (xs.map c) := rfl
theorem sq_T {α : Type} {c : α → D} {xs : List α} {S : Sto} : seqD (cT c xs) S = some (xs.map c) := rfl
theorem sq_Z {xs : List Int} {S : Sto} : seqD (cZ xs) S = some (xs.map cI) := rfl
theorem ls_L {α : Type} {c : α → D} {xs : List α} {S : Sto} : lstD (cL c xs) S = some (xs.map c) := rfl
theorem ls_Z {xs : List Int} {S : Sto} : lstD (cZ xs) S = some (xs.map cI) := rfl
theorem md_L {α : Type} {c : α → D} {xs : List α} {S : Sto} : madeD (cL c xs) S = some (xs.map c) := rfl
theorem lk {st : Sto} {o : List SO} {i : Nat} {x : SO} (h : o[i]? = some x) : (st ++ o)[st.length + i]? = some x := by
  rw [List.getElem?_append_right (by omega), show st.length + i - st.length = i by omega, h]
theorem sq_M {st : Sto} {o : List SO} {i : Nat} {ds : List D} (h : o[i]? = some (.lst ds)) : seqD (.loc (st.length + i)) (st ++ o) = some ds := seqD_loc (lk h)
theorem ls_M {st : Sto} {o : List SO} {i : Nat} {ds : List D} (h : o[i]? = some (.lst ds)) : lstD (.loc (st.length + i)) (st ++ o) = some ds := lstD_loc (lk h)
theorem md_M {st : Sto} {o : List SO} {i : Nat} {ds : List D} (h : o[i]? = some (.lst ds)) : madeD (.loc (st.length + i)) (st ++ o) = some ds := by
  show (match (st ++ o)[st.length + i]? with | some (.lst ds) => some ds | _ => none) = _
  rw [lk h]
theorem st_set {st : Sto} {o : List SO} {i : Nat} {x : SO} : (st ++ o).set (st.length + i) x = st ++ o.set i x := by
  rw [List.set_append_right _ _ (by omega), show st.length + i - st.length = i by omega]
theorem len_c {α : Type} {c : α → D} {xs : List α} {d : D} {S : Sto} (h : seqD d S = some (xs.map c)) : lenB [d] S = .ok (cI (xs.length : Nat)) S := by
  show (match seqD d S with
    | some ds => Res.ok (D.int (ds.length : Nat)) S
    | none => _) = _
  rw [h]
  simp only [List.length_map]
theorem ix_c {α : Type} [Inhabited α] {c : α → D} {xs : List α} {d : D} {i : Int} {S : Sto} (h : seqD d S = some (xs.map c)) (hi : IxOk xs.length i) : ixD d (cI i) S = .ok (c (getI xs i)) S := by
  have key : (match atI (xs.map c) i with | some x => Res.ok x S | none => .bad) = Res.ok (c (getI xs i)) S := by
    rw [atI_map, atI_c hi]; rfl
  have k2 : ixD d (cI i) S = (match seqD d S with
      | some ds => (match atI ds i with | some x => Res.ok x S | none => .bad)
      | none => match dicD d S with
        | some kvs => (match dget kvs (Sum.inl i) with | some x => .ok x S | none => .bad)
        | none => .bad) := by
    cases d with
    | str z => cases h
    | _ => rfl
  rw [k2, h]
  exact key
theorem cutL_map {α β : Type} {f : α → β} {xs : List α} {lo hi : Option Int} : cutL (xs.map f) lo hi = (cutL xs lo hi).map f := by
  unfold cutL
  rw [List.length_map, ← List.map_drop, ← List.map_take]
theorem sl_T {α : Type} {c : α → D} {xs : List α} {lo hi : Option Int} {S : Sto} : slD (cT c xs) lo hi S = .ok (cT c (cutL xs lo hi)) S := by
  show Res.ok (D.tup (cutL (xs.map c) lo hi)) S = _
  rw [cutL_map]
theorem sl_l {α : Type} {c : α → D} {xs : List α} {d : D} {lo hi : Option Int} {S : Sto} (h : lstD d S = some (xs.map c)) : slD d lo hi S = .ok (cL c (cutL xs lo hi)) S := by
  have key : (match lstD d S with | some ds => Res.ok (D.lst (cutL ds lo hi)) S | none => .bad) = Res.ok (cL c (cutL xs lo hi)) S := by
    rw [h]
    simp only [cutL_map]
  cases d <;> first | exact key | cases h
theorem add_l {α : Type} {c : α → D} {xs ys : List α} {d e : D} {S : Sto} (h1 : madeD d S = some (xs.map c)) (h2 : madeD e S = some (ys.map c)) (hl : xs.length + ys.length ≤ 1000000) : addD d e S = .ok (cL c (xs ++ ys)) S := by
  have key : (match madeD d S, madeD e S with
    | some xs, some ys => if xs.length + ys.length ≤ 1000000 then Res.ok (D.lst (xs ++ ys)) S else .bad
    | _, _ => .bad) = Res.ok (cL c (xs ++ ys)) S := by
    rw [h1, h2]
    simp only [List.length_map, if_pos hl, cL, List.map_append]
  cases d <;> first | (cases e <;> first | exact key | cases h2) | cases h1
theorem add_T {α : Type} {c : α → D} {xs ys : List α} {S : Sto} (hl : xs.length + ys.length ≤ 1000000) : addD (cT c xs) (cT c ys) S = .ok (cT c (xs ++ ys)) S := by
  show (if (xs.map c).length + (ys.map c).length ≤ 1000000 then Res.ok (D.tup (xs.map c ++ ys.map c)) S else .bad) = _
  rw [List.length_map, List.length_map, if_pos hl, ← List.map_append]
theorem tup_c {α : Type} {c : α → D} {xs : List α} {d : D} {S : Sto} (h : lstD d S = some (xs.map c)) : tupB [d] S = .ok (cT c xs) S := by
  have key : (match lstD d S with | some ds => Res.ok (D.tup ds) S | none => .bad) = Res.ok (cT c xs) S := by rw [h]
  cases d <;> first | exact key | cases h
theorem lst_c {α : Type} {c : α → D} {xs : List α} {d : D} {S : Sto} (h : seqD d S = some (xs.map c)) : lstB [d] S = .ok (xs.map c) S := by
  show (match seqD d S with | some ds => Res.ok ds S | none => .bad) = _
  rw [h]
theorem max_c {xs : List Int} {d : D} {S : Sto} (h : lstD d S = some (xs.map cI)) (hn : xs ≠ []) : maxB [d] S = .ok (cI (maxI xs)) S := maxB_l h hn
theorem min_c {xs : List Int} {d : D} {S : Sto} (h : lstD d S = some (xs.map cI)) (hn : xs ≠ []) : minB [d] S = .ok (cI (minI xs)) S := minB_l h hn
theorem blsD_map : ∀ l : List Bool, blsD (l.map .bl) = some l
  | [] => rfl
  | b :: l => by
    show (match blsD (l.map .bl) with | some ns => some (b :: ns) | none => none) = _
    rw [blsD_map l]
theorem all_c {xs : List Bool} {d : D} {S : Sto} (h : lstD d S = some (xs.map cB)) : allB [d] S = .ok (cB (xs.all id)) S := by
  show (match lstD d S with
    | some ds => match blsD ds with
      | some l => Res.ok (D.bl (l.all id)) S
      | none => .bad
    | none => .bad) = _
  rw [h]
  simp only [show xs.map cB = xs.map D.bl from rfl, blsD_map]
theorem any_c {xs : List Bool} {d : D} {S : Sto} (h : lstD d S = some (xs.map cB)) : anyB [d] S = .ok (cB (xs.any id)) S := by
  show (match lstD d S with
    | some ds => match blsD ds with
      | some l => Res.ok (D.bl (l.any id)) S
      | none => .bad
    | none => .bad) = _
  rw [h]
  simp only [show xs.map cB = xs.map D.bl from rfl, blsD_map]
theorem abs_c {i : Int} {S : Sto} : absB [cI i] S = .ok (cI (i.natAbs : Nat)) S := absB_i
theorem max2_c {i j : Int} {S : Sto} : maxB [cI i, cI j] S = .ok (cI (max i j)) S := by
  rw [maxB_i]
  congr 2
  omega
theorem min2_c {i j : Int} {S : Sto} : minB [cI i, cI j] S = .ok (cI (min i j)) S := by
  rw [minB_i]
  congr 2
  omega
/-! ### what a for walks -/
def rngI (a b : Int) : List Int := (List.range (b - a).toNat).map fun (k : Nat) => a + (k : Int)
theorem it_seq {α : Type} {c : α → D} {xs : List α} {d : D} {m : EM} {env : Env} {S : Sto} (h : m env S = .ok d S) (hs : seqD d S = some (xs.map c)) : iSeq m env S = .ok (xs.map c, srcD d (xs.map c)) S := by
  rw [iSeq_ap, h, iSeq_o1, hs]
theorem it_rng1 {ms : Env → Sto → Res (List D)} {env : Env} {S : Sto} {j : Int} (h : ms env S = .ok [cI j] S) (h2 : smallI j) : iRange1 ms env S = .ok ((rngI 0 j).map cI, []) S := by
  rw [iRange1_i h h2]
  unfold rngI
  rw [List.map_map]
  congr 2
  rw [Int.sub_zero]
  refine List.map_congr_left fun k _ => ?_
  simp
theorem it_rng2 {ms : Env → Sto → Res (List D)} {env : Env} {S : Sto} {i j : Int} (h : ms env S = .ok [cI i, cI j] S) (h1 : smallI i) (h2 : smallI j) : iRange2 ms env S = .ok ((rngI i j).map cI, []) S := by
  rw [iRange2_i h h1 h2]
  unfold rngI
  rw [List.map_map]
  rfl
def enumI {α : Type} (xs : List α) : List (Int × α) := xs.zipIdx.map fun p => ((p.2 : Int), p.1)
theorem numL_map {α : Type} {c : α → D} {xs : List α} : numL (xs.map c) = (enumI xs).map (cP2 cI c) := by
  unfold numL enumI
  rw [List.zipIdx_map, List.map_map, List.map_map]
  rfl
theorem it_enum {α : Type} {c : α → D} {xs : List α} {d : D} {ms : Env → Sto → Res (List D)} {env : Env} {S : Sto} (h : ms env S = .ok [d] S) (hs : seqD d S = some (xs.map c)) : iEnum ms env S = .ok ((enumI xs).map (cP2 cI c), srcD d (xs.map c)) S := by
  rw [iEnum_ap, h, iEnum_o _ _ hs, numL_map]
theorem it_zip {α β : Type} {c : α → D} {c' : β → D} {xs : List α} {ys : List β} {d e : D} {ms : Env → Sto → Res (List D)} {env : Env} {S : Sto} (h : ms env S = .ok [d, e] S) (hk : isTup d = isTup e) (hs : seqD d S = some (xs.map c)) (hs' : seqD e S = some (ys.map c')) :
    iZip ms env S = .ok ((xs.zip ys).map (cP2 c c'), srcD d (xs.map c) ++ srcD e (ys.map c')) S := by
  rw [iZip_ap, h, iZip_o _ _ _ hk hs hs']
  unfold pairL
  rw [List.zip_map, List.map_map]
  rfl
theorem it_rev {α : Type} {c : α → D} {xs : List α} {d : D} {m : EM} {env : Env} {S : Sto} (h : m env S = .ok d S) (hs : seqD d S = some (xs.map c)) : iRev m env S = .ok (xs.reverse.map c, iRev.srcR d (xs.map c)) S := by
  rw [iRev_ap, h, iRev_o1, hs, List.map_reverse]
theorem it_revR {m : RM} {env : Env} {S : Sto} {i j : Int} (h : m env S = .ok (i, j) S) (h1 : smallI i) (h2 : smallI j) : iRevR m env S = .ok ((rngI i j).reverse.map cI, []) S := by
  rw [iRevR_ap, h, iRevR_o1, if_pos ⟨h1, h2⟩]
  unfold rngD rngI
  rw [← List.map_reverse, ← List.map_reverse, List.map_map]
  rfl
theorem ev_rOne {m : EM} {env : Env} {S : Sto} {j : Int} (h : m env S = .ok (cI j) S) : rOne m env S = .ok (0, j) S := by rw [rOne_ap, h, rOne_o1]
theorem ev_rTwo {m m' : EM} {env : Env} {S : Sto} {i j : Int} (h : m env S = .ok (cI i) S) (h' : m' env S = .ok (cI j) S) : rTwo m m' env S = .ok (i, j) S := by rw [rTwo_ap, h, rTwo_o1, h', rTwo_o2]
theorem ev_nRng {m : RM} {env : Env} {S : Sto} {i j : Int} (h : m env S = .ok (i, j) S) (h1 : smallI i) (h2 : smallI j) (h3 : j - i ≤ 1000000) : nRng m env S = .ok ((rngI i j).map cI) S := by
  rw [nRng_ap, h, nRng_o1, if_pos ⟨h1, h2, by simp only; omega⟩]
  unfold rngD rngI
  rw [List.map_map]
  rfl
/-! ### comprehensions -/
theorem ev_comp {α β : Type} {cx : α → D} {cy : β → D} {vs : List Nat} {mi : IM} {g : GM} {tt : Env → Sto → Res Bool} {te : EM} {env : Env} {S : Sto} {xs : List α} {p : α → Bool} {f : α → β} (hi : mi env S = .ok (xs.map cx, []) S)
    (hb : ∀ x ∈ xs, ∃ env1, g (cx x) (wipeE env vs) S = .ok env1 S ∧ tt env1 S = .ok (p x) S ∧ (p x = true → te env1 S = .ok (cy (f x)) S)) (hl : xs.length ≤ 1000000) :
    nComp vs mi g tt te env S = .ok (((xs.filter p).map f).map cy) S := by
  rw [nComp_ap, hi, nComp_o1]
  simp only
  rw [comp_map (p := p) (f := fun x => cy (f x)) hb (by simpa using hl), List.nil_append, List.map_map]
  rfl
theorem ev_comp0 {α β : Type} {cx : α → D} {cy : β → D} {vs : List Nat} {mi : IM} {g : GM} {te : EM} {env : Env} {S : Sto} {xs : List α} {f : α → β} (hi : mi env S = .ok (xs.map cx, []) S)
    (hb : ∀ x ∈ xs, ∃ env1, g (cx x) (wipeE env vs) S = .ok env1 S ∧ te env1 S = .ok (cy (f x)) S) (hl : xs.length ≤ 1000000) :
    nComp vs mi g noTest te env S = .ok ((xs.map f).map cy) S := by
  rw [nComp_ap, hi, nComp_o1]
  simp only
  rw [comp_map0 (f := fun x => cy (f x)) hb (by simpa using hl), List.nil_append, List.map_map]
  rfl
end FL

namespace FL
open PySem PySem.Spec PyProof.Rows L2
variable [TabCtx]
/-! ## statements, typed -/
theorem frz_blw {st : Sto} {n : Nat} : ∀ {k : Nat} {d e : D}, d.blw n = true → D.frz st n k d = some e → e = d := by
  intro k
  induction k with
  | zero =>
    intro d e h1 h2
    cases d <;> first | (cases h2; rfl) | cases h2
  | succ k ih =>
    have hq : ∀ {ds es : List D}, D.blws n ds = true → mapQ (D.frz st n k) ds = some es → es = ds := by
      intro ds
      induction ds with
      | nil => intro es _ h; cases h; rfl
      | cons d ds ih2 =>
        intro es h1 h2
        simp only [D.blws, Bool.and_eq_true] at h1
        unfold mapQ at h2
        cases q : D.frz st n k d with
        | none => rw [q] at h2; cases h2
        | some e =>
          rw [q] at h2
          simp only at h2
          cases q2 : mapQ (D.frz st n k) ds with
          | none => rw [q2] at h2; cases h2
          | some es' =>
            rw [q2] at h2
            cases h2
            rw [ih h1.1 q, ih2 h1.2 q2]
    intro d e h1 h2
    cases d with
    | loc l =>
      unfold D.frz at h2
      rw [if_pos (by simpa [D.blw] using h1)] at h2
      cases h2; rfl
    | tup ds =>
      unfold D.frz at h2
      cases q : mapQ (D.frz st n k) ds with
      | none => rw [q] at h2; cases h2
      | some es => rw [q] at h2; cases h2; rw [hq (by simpa [D.blw] using h1) q]
    | lst ds =>
      unfold D.frz at h2
      cases q : mapQ (D.frz st n k) ds with
      | none => rw [q] at h2; cases h2
      | some es => rw [q] at h2; cases h2; rw [hq (by simpa [D.blw] using h1) q]
    | exc c ns ds =>
      unfold D.frz at h2
      cases q : mapQ (D.frz st n k) ds with
      | none => rw [q] at h2; cases h2
      | some es => rw [q] at h2; cases h2; rw [hq (by simpa [D.blw] using h1) q]
    | _ => cases h2; rfl
/-- given back: d, frozen -/
def RtP (st : Sto) (r : SRes) (d : D) : Prop := ∃ d' o, r = .rt d' (st ++ o) ∧ D.frz (st ++ o) st.length 30 d' = some d
theorem RtP.fin {st : Sto} {r : SRes} {d : D} (h : RtP st r d) : fin true st r = .ok d st := by
  obtain ⟨d', o, rfl, h⟩ := h
  show finD true st (st ++ o) d' = _
  unfold finD
  rw [if_pos chk_app]
  by_cases hb : d'.blw st.length = true
  · rw [if_pos hb, frz_blw hb h, List.take_left]
  · rw [if_neg hb, if_pos rfl, h, List.take_left]
theorem RtP.enter {st : Sto} {b : SM4} {env : Env} {d : D} (h : RtP st (b env (st ++ [])) d) : FL.fin true st (b env st) = .ok d st := by
  have := h.fin
  rwa [List.append_nil] at this
def NxP (r : SRes) (P : Env → Sto → Prop) : Prop := ∃ env S, r = .nx env S ∧ P env S
def MxP {σ ρ : Type} (st : Sto) (r : SRes) (o : σ ⊕ ρ) (P : σ → Env → Sto → Prop) (e : ρ → D) : Prop := match o with
  | .inl s => NxP r (P s)
  | .inr v => RtP st r (e v)
theorem NxP.enter {st : Sto} {b : SM4} {env : Env} {P : Env → Sto → Prop} (h : NxP (b env (st ++ [])) P) (hp : ∀ e S, P e S → ∃ o, S = st ++ o) : FL.fin true st (b env st) = .ok .non st := by
  obtain ⟨e, S, h1, h2⟩ := h
  obtain ⟨o, rfl⟩ := hp e S h2
  rw [List.append_nil] at h1
  rw [h1]
  exact fin_nx2
section
variable {env env' : Env} {S S' : Sto} {st : Sto} {o o' : List SO} {m : EM} {u v : SM4} {d : D} {P : Env → Sto → Prop} {σ τ ρ : Type} {e : ρ → D}
theorem rt_nx (h : u env S = .nx env' S') (k : RtP st (v env' S') d) : RtP st (sSeq u v env S) d := by
  show RtP st ((u env S).bind v) d
  rw [h]; exact k
theorem nx_nx (h : u env S = .nx env' S') (k : NxP (v env' S') P) : NxP (sSeq u v env S) P := by
  show NxP ((u env S).bind v) P
  rw [h]; exact k
theorem mx_nx {t : σ ⊕ ρ} {Q : σ → Env → Sto → Prop} (h : u env S = .nx env' S') (k : MxP st (v env' S') t Q e) : MxP st (sSeq u v env S) t Q e := by
  show MxP st ((u env S).bind v) t Q e
  rw [h]; exact k
theorem rt_N (h : NxP (u env S) P) (k : ∀ env' S', P env' S' → RtP st (v env' S') d) : RtP st (sSeq u v env S) d := by
  obtain ⟨env', S', h, hp⟩ := h
  exact rt_nx h (k _ _ hp)
theorem nx_N {Q : Env → Sto → Prop} (h : NxP (u env S) P) (k : ∀ env' S', P env' S' → NxP (v env' S') Q) : NxP (sSeq u v env S) Q := by
  obtain ⟨env', S', h, hp⟩ := h
  exact nx_nx h (k _ _ hp)
theorem mx_N {t : σ ⊕ ρ} {Q : σ → Env → Sto → Prop} (h : NxP (u env S) P) (k : ∀ env' S', P env' S' → MxP st (v env' S') t Q e) : MxP st (sSeq u v env S) t Q e := by
  obtain ⟨env', S', h, hp⟩ := h
  exact mx_nx h (k _ _ hp)
theorem nx_end (h : P env S) : NxP (sNext env S) P := ⟨env, S, rfl, h⟩
theorem mx_end {s : σ} {Q : σ → Env → Sto → Prop} (h : Q s env S) : MxP st (sNext env S) (.inl s) Q e := ⟨env, S, rfl, h⟩
theorem rt_ret {v : SM4} (h : m env (st ++ o) = .ok d (st ++ o)) {x : D} (hf : D.frz (st ++ o) st.length 30 d = some x) : RtP st (sSeq (sRet m) v env (st ++ o)) x := by
  refine ⟨d, o, ?_, hf⟩
  show ((sRet m) env (st ++ o)).bind v = _
  rw [sRet_ap, h]; rfl
theorem rt_stop (h : RtP st (u env S) d) : RtP st (sSeq u v env S) d := by
  obtain ⟨d', o, h, hf⟩ := h
  refine ⟨d', o, ?_, hf⟩
  show (u env S).bind v = _
  rw [h]; rfl
/-- what is frozen -/
theorem fz_c {α : Type} {c : α → D} (h : Flat 20 c) {a : α} {S : Sto} {n : Nat} : D.frz S n 30 (c a) = some (c a) := frz_flt (h a) (by decide)
theorem fz_c' {α : Type} {k : Nat} {c : α → D} (h : Flat k c) (hk : k ≤ 20) {a : α} {S : Sto} {n m : Nat} (hm : 20 ≤ m) : D.frz S n m (c a) = some (c a) := frz_flt (h a) (by omega)
theorem fz_M {α : Type} {c : α → D} (h : Flat 19 c) {xs : List α} {i m : Nat} (ho : o[i]? = some (.lst (xs.map c))) : D.frz (st ++ o) st.length (m + 20) (.loc (st.length + i)) = some (cL c xs) := by
  show (if st.length + i < st.length then _ else match (st ++ o)[st.length + i]? with
    | some (.lst ds) => (match mapQ (D.frz (st ++ o) st.length (m + 19)) ds with
      | some es => some (D.lst es)
      | none => none)
    | _ => none) = _
  rw [if_neg (by omega), lk ho]
  simp only
  rw [mapQ_id fun x hx => by
    obtain ⟨a, _, rfl⟩ := List.mem_map.mp hx
    exact frz_flt (h a) (by omega)]
theorem fz_tup {ds es : List D} {S : Sto} {n k : Nat} (h : mapQ (D.frz S n k) ds = some es) : D.frz S n (k + 1) (.tup ds) = some (.tup es) := by
  unfold D.frz
  rw [h]
theorem fz_nil {S : Sto} {n k : Nat} : mapQ (D.frz S n k) [] = some [] := rfl
theorem fz_cons {x y : D} {ds es : List D} {S : Sto} {n k : Nat} (h : D.frz S n k x = some y) (hs : mapQ (D.frz S n k) ds = some es) : mapQ (D.frz S n k) (x :: ds) = some (y :: es) := by
  unfold mapQ
  rw [h, hs]
/-! ### simple statements -/
theorem do_set {i : Nat} (h : m env S = .ok d S') : sSet i m env S = .nx (env.set i (some d)) S' := by rw [sSet_ap, h, sSet_o1]
theorem do_asg {g : GM} (h : m env S = .ok d S) (hg : g d env S = .ok env' S) : sAsg m g env S = .nx env' S := by rw [sAsg_ap, h, sAsg_o1, hg, sAsg_o2]
theorem do_drop (h : m env S = .ok d S') : sDrop m env S = .nx env S' := by rw [sDrop_ap, h, sDrop_o1]
/-- a new list in the store -/
theorem ev_new {i : Nat} {ms : Env → Sto → Res (List D)} {ds : List D} (h : ms env (st ++ o) = .ok ds (st ++ o)) (hi : o.length = i) : eNew ms env (st ++ o) = .ok (.loc (st.length + i)) (st ++ (o ++ [.lst ds])) := by
  rw [eNew_ap, h, eNew_o1, List.length_append, hi, List.append_assoc]
theorem ev_dnew {i : Nat} (hi : o.length = i) : eDNew env (st ++ o) = .ok (.loc (st.length + i)) (st ++ (o ++ [.dic []])) := by
  show Res.ok (D.loc (st ++ o).length) (st ++ o ++ [.dic []]) = _
  rw [List.length_append, hi, List.append_assoc]
theorem isLst_M {i : Nat} {ds : List D} (h : o[i]? = some (.lst ds)) : isLst (.loc (st.length + i)) (st ++ o) = true := isLst_loc (lk h)
theorem ap_M {α : Type} {c : α → D} {xs : List α} {i : Nat} {x : α} (h : o[i]? = some (.lst (xs.map c))) (hl : xs.length < 1000000) : apD (.loc (st.length + i)) [c x] (st ++ o) = .ok .non (st ++ o.set i (.lst ((xs ++ [x]).map c))) := by
  rw [apD_loc (lk h) (by simpa using hl), st_set]
  simp
theorem ext_M {α : Type} {c : α → D} {xs ys : List α} {i : Nat} {d : D} (h : o[i]? = some (.lst (xs.map c))) (hd : madeD d (st ++ o) = some (ys.map c)) (hl : xs.length + ys.length < 1000000) : extD (.loc (st.length + i)) [d] (st ++ o) = .ok .non (st ++ o.set i (.lst ((xs ++ ys).map c))) := by
  show (match (st ++ o)[st.length + i]?, madeD d (st ++ o) with
    | some (.lst ds), some es => if ds.length + es.length < 1000000 then Res.ok D.non ((st ++ o).set (st.length + i) (.lst (ds ++ es))) else .bad
    | _, _ => .bad) = _
  rw [lk h, hd]
  simp only [List.length_map, if_pos hl, st_set, List.map_append]
def setI {α : Type} (xs : List α) (i : Int) (x : α) : List α := xs.set (if i < 0 then i + (xs.length : Int) else i).toNat x
theorem put_M {α : Type} {c : α → D} {xs : List α} {i : Nat} {x : α} {j : Int} {mv mo mi : EM} (hv : mv env (st ++ o) = .ok (c x) (st ++ o)) (ho : mo env (st ++ o) = .ok (.loc (st.length + i)) (st ++ o)) (hi : mi env (st ++ o) = .ok (cI j) (st ++ o))
    (h : o[i]? = some (.lst (xs.map c))) (hj : IxOk xs.length j) : sPut mv mo mi env (st ++ o) = .nx env (st ++ o.set i (.lst ((setI xs j x).map c))) := by
  rw [sPut_ap, hv, sPut_o1, ho, sPut_o2, hi, sPut_o3]
  have e : setD (.loc (st.length + i)) (cI j) (c x) (st ++ o) = some (st ++ o.set i (.lst ((setI xs j x).map c))) := by
    show (match (st ++ o)[st.length + i]? with
      | some (.lst ds) => (match ixN ds.length j with
          | some n => some ((st ++ o).set (st.length + i) (.lst (ds.set n (c x))))
          | none => none)
      | some (.dic kvs) => _
      | none => none) = _
    rw [lk h]
    obtain ⟨h1, h2⟩ := hj
    have e1 : ixN (xs.map c).length j = some (if j < 0 then j + (xs.length : Int) else j).toNat := by
      rw [List.length_map]
      unfold ixN
      by_cases h0 : 0 ≤ j
      · rw [if_pos h0, if_pos h2, if_neg (by omega)]
      · rw [if_neg h0, if_pos (by omega), if_pos (by omega), Int.add_comm]
    simp only [e1, st_set]
    unfold setI
    rw [List.map_set]
  rw [e]
/-! ### if -/
section
variable {t : Env → Sto → Res Bool} {c : Bool} {A B : SM4}
theorem sIf_yes (h : t env S = .ok true S) : sIf t A B env S = A env S := by rw [sIf_ap, h, sIf_yes']
where sIf_yes' : sIf_k A B env (.ok true S) = A env S := rfl
theorem sIf_no (h : t env S = .ok false S) : sIf t A B env S = B env S := by rw [sIf_ap, h]; rfl
/-- neither gives back -/
theorem if_N {P : σ → Env → Sto → Prop} {x y : σ} (h : t env S = .ok c S) (ha : c = true → NxP (A env S) (P x)) (hb : c = false → NxP (B env S) (P y)) : NxP (sIf t A B env S) (P (if c = true then x else y)) := by
  cases c with
  | true => rw [sIf_yes h]; exact ha rfl
  | false => rw [sIf_no h]; exact hb rfl
theorem if_M {P : σ → Env → Sto → Prop} {x y : σ ⊕ ρ} (h : t env S = .ok c S) (ha : c = true → MxP st (A env S) x P e) (hb : c = false → MxP st (B env S) y P e) : MxP st (sIf t A B env S) (if c = true then x else y) P e := by
  cases c with
  | true => rw [sIf_yes h]; exact ha rfl
  | false => rw [sIf_no h]; exact hb rfl
/-- the first gives back -/
theorem if_RX {x y : ρ} (h : t env S = .ok c S) (ha : c = true → RtP st (A env S) (e x)) (hb : c = false → RtP st (sSeq B v env S) (e y)) : RtP st (sSeq (sIf t A B) v env S) (e (if c = true then x else y)) := by
  cases c with
  | true =>
    refine rt_stop ?_
    rw [sIf_yes h]; exact ha rfl
  | false =>
    show RtP st ((sIf t A B env S).bind v) _
    rw [sIf_no h]; exact hb rfl
theorem if_XR {x y : ρ} (h : t env S = .ok c S) (ha : c = true → RtP st (sSeq A v env S) (e x)) (hb : c = false → RtP st (B env S) (e y)) : RtP st (sSeq (sIf t A B) v env S) (e (if c = true then x else y)) := by
  cases c with
  | true =>
    show RtP st ((sIf t A B env S).bind v) _
    rw [sIf_yes h]; exact ha rfl
  | false =>
    refine rt_stop ?_
    rw [sIf_no h]; exact hb rfl
theorem mx_stop {P : σ → Env → Sto → Prop} {x : ρ} (h : RtP st (u env S) (e x)) : MxP st (sSeq u v env S) (.inr x) P e := rt_stop h
theorem if_MX {P : σ → Env → Sto → Prop} {x : ρ} {y : σ ⊕ ρ} (h : t env S = .ok c S) (ha : c = true → RtP st (A env S) (e x)) (hb : c = false → MxP st (sSeq B v env S) y P e) : MxP st (sSeq (sIf t A B) v env S) (if c = true then .inr x else y) P e := by
  cases c with
  | true =>
    refine mx_stop ?_
    rw [sIf_yes h]; exact ha rfl
  | false =>
    show MxP st ((sIf t A B env S).bind v) _ _ _
    rw [sIf_no h]; exact hb rfl
theorem if_XM {P : σ → Env → Sto → Prop} {x : ρ} {y : σ ⊕ ρ} (h : t env S = .ok c S) (ha : c = true → MxP st (sSeq A v env S) y P e) (hb : c = false → RtP st (B env S) (e x)) : MxP st (sSeq (sIf t A B) v env S) (if c = true then y else .inr x) P e := by
  cases c with
  | true =>
    show MxP st ((sIf t A B env S).bind v) _ _ _
    rw [sIf_yes h]; exact ha rfl
  | false =>
    refine mx_stop ?_
    rw [sIf_no h]; exact hb rfl
end
/-- behind what may give back -/
def outR (t : σ ⊕ ρ) (k : σ → ρ) : ρ := match t with
  | .inl s => k s
  | .inr r => r
def outM (t : σ ⊕ ρ) (k : σ → τ ⊕ ρ) : τ ⊕ ρ := match t with
  | .inl s => k s
  | .inr r => .inr r
theorem rt_M {P : σ → Env → Sto → Prop} {t : σ ⊕ ρ} {k : σ → ρ} (h : MxP st (u env S) t P e) (hk : ∀ s env' S', t = .inl s → P s env' S' → RtP st (v env' S') (e (k s))) : RtP st (sSeq u v env S) (e (outR t k)) := by
  cases t with
  | inl s => exact rt_N h fun env' S' hp => hk s env' S' rfl hp
  | inr r => exact rt_stop h
theorem mx_M {P : σ → Env → Sto → Prop} {Q : τ → Env → Sto → Prop} {t : σ ⊕ ρ} {k : σ → τ ⊕ ρ} (h : MxP st (u env S) t P e) (hk : ∀ s env' S', t = .inl s → P s env' S' → MxP st (v env' S') (k s) Q e) : MxP st (sSeq u v env S) (outM t k) Q e := by
  cases t with
  | inl s => exact mx_N h fun env' S' hp => hk s env' S' rfl hp
  | inr r => exact mx_stop h
end
/-! ### for -/
def cFold {σ X : Type} (c : σ → X → Prop) (t : σ → X → σ) : List X → σ → Prop
  | [], _ => True
  | x :: xs, s => c s x ∧ cFold c t xs (t s x)
theorem for_N {σ X : Type} {E : σ → Env} {O : σ → List SO} {cx : X → D} {c : σ → X → Prop} {t : σ → X → σ} {ks : List Nat} {src : List (Nat × List D)} {g : GM} {body : SM4} {st : Sto}
    (hs : ∀ s, stillB src (st ++ O s) = true) (hl : ∀ s s', (O s).length = (O s').length)
    (hb : ∀ s x, c s x → ∃ env1, g (cx x) (E s) (st ++ O s) = .ok env1 (st ++ O s) ∧ NxP (body env1 (st ++ O s)) (fun env S => kill ks env = E (t s x) ∧ S = st ++ O (t s x))) :
    ∀ (xs : List X) (s : σ), cFold c t xs s → loopF (some ks) src g body (xs.map cx) (E s) (st ++ O s) = .nx (E (xs.foldl t s)) (st ++ O (xs.foldl t s))
  | [], s, _ => loopF_nil (hs s)
  | x :: xs, s, ⟨h1, h2⟩ => by
    obtain ⟨env1, k1, env2, S2, k2, k3, rfl⟩ := hb s x h1
    rw [List.map_cons, loopF_cons (hs s) k1 k2, show ks.foldl (fun e k => e.set k none) env2 = kill ks env2 from rfl, k3,
      shrink_len (by rw [List.length_append, List.length_append, hl (t s x) s])]
    exact for_N hs hl hb xs (t s x) h2
theorem do_for {σ X : Type} {E : σ → Env} {O : σ → List SO} {cx : X → D} {c : σ → X → Prop} {t : σ → X → σ} {ks : List Nat} {src : List (Nat × List D)} {mi : IM} {g : GM} {body : SM4} {st : Sto} {env : Env} {xs : List X} {s : σ}
    (hi : mi env (st ++ O s) = .ok (xs.map cx, src) (st ++ O s)) (hk : kill ks env = E s) (hs : ∀ s, stillB src (st ++ O s) = true) (hl : ∀ s s', (O s).length = (O s').length)
    (hb : ∀ s x, c s x → ∃ env1, g (cx x) (E s) (st ++ O s) = .ok env1 (st ++ O s) ∧ NxP (body env1 (st ++ O s)) (fun env S => kill ks env = E (t s x) ∧ S = st ++ O (t s x)))
    (hc : cFold c t xs s) : sFor (some ks) mi g body env (st ++ O s) = .nx (E (xs.foldl t s)) (st ++ O (xs.foldl t s)) := by
  rw [sFor_ap, hi, sFor_o1]
  show loopF (some ks) src g body (xs.map cx) (kill ks env) (st ++ O s) = _
  rw [hk]
  exact for_N hs hl hb xs s hc
/-! .. that may give back -/
def forR {σ X ρ : Type} (t : σ → X → σ ⊕ ρ) : List X → σ → σ ⊕ ρ
  | [], s => .inl s
  | x :: xs, s => match t s x with
    | .inl s' => forR t xs s'
    | .inr r => .inr r
def cForR {σ X ρ : Type} (c : σ → X → Prop) (t : σ → X → σ ⊕ ρ) : List X → σ → Prop
  | [], _ => True
  | x :: xs, s => c s x ∧ ∀ s', t s x = .inl s' → cForR c t xs s'
theorem for_M {σ X ρ : Type} {E : σ → Env} {O : σ → List SO} {cx : X → D} {e : ρ → D} {c : σ → X → Prop} {t : σ → X → σ ⊕ ρ} {ks : List Nat} {src : List (Nat × List D)} {g : GM} {body : SM4} {st : Sto}
    (hs : ∀ s, stillB src (st ++ O s) = true) (hl : ∀ s s', (O s).length = (O s').length)
    (hb : ∀ s x, c s x → ∃ env1, g (cx x) (E s) (st ++ O s) = .ok env1 (st ++ O s) ∧ MxP st (body env1 (st ++ O s)) (t s x) (fun s' env S => kill ks env = E s' ∧ S = st ++ O s') e) :
    ∀ (xs : List X) (s : σ), cForR c t xs s → MxP st (loopF (some ks) src g body (xs.map cx) (E s) (st ++ O s)) (forR t xs s) (fun s' env S => env = E s' ∧ S = st ++ O s') e
  | [], s, _ => ⟨_, _, loopF_nil (hs s), rfl, rfl⟩
  | x :: xs, s, ⟨h1, h2⟩ => by
    obtain ⟨env1, k1, k2⟩ := hb s x h1
    unfold forR
    cases q : t s x with
    | inl s' =>
      rw [q] at k2
      obtain ⟨env2, S2, k2, k3, rfl⟩ := k2
      rw [List.map_cons, loopF_cons (hs s) k1 k2, show ks.foldl (fun e k => e.set k none) env2 = kill ks env2 from rfl, k3,
        shrink_len (by rw [List.length_append, List.length_append, hl s' s])]
      exact for_M hs hl hb xs s' (h2 s' q)
    | inr r =>
      rw [q] at k2
      obtain ⟨d', o, k2, k3⟩ := k2
      refine ⟨d', o, ?_, k3⟩
      rw [List.map_cons]
      show (if stillB src (st ++ O s) = true then (match g (cx x) (E s) (st ++ O s) with
        | .ok env1 st1 => (body env1 st1).bind _
        | _ => .bad) else .bad) = _
      rw [if_pos (hs s), k1]
      simp only [k2, SRes.bind_rt]
theorem do_forM {σ X ρ : Type} {E : σ → Env} {O : σ → List SO} {cx : X → D} {e : ρ → D} {c : σ → X → Prop} {t : σ → X → σ ⊕ ρ} {ks : List Nat} {src : List (Nat × List D)} {mi : IM} {g : GM} {body : SM4} {st : Sto} {env : Env} {xs : List X} {s : σ}
    (hi : mi env (st ++ O s) = .ok (xs.map cx, src) (st ++ O s)) (hk : kill ks env = E s) (hs : ∀ s, stillB src (st ++ O s) = true) (hl : ∀ s s', (O s).length = (O s').length)
    (hb : ∀ s x, c s x → ∃ env1, g (cx x) (E s) (st ++ O s) = .ok env1 (st ++ O s) ∧ MxP st (body env1 (st ++ O s)) (t s x) (fun s' env S => kill ks env = E s' ∧ S = st ++ O s') e)
    (hc : cForR c t xs s) : MxP st (sFor (some ks) mi g body env (st ++ O s)) (forR t xs s) (fun s' env S => env = E s' ∧ S = st ++ O s') e := by
  rw [sFor_ap, hi, sFor_o1]
  show MxP st (loopF (some ks) src g body (xs.map cx) (kill ks env) (st ++ O s)) _ _ _
  rw [hk]
  exact for_M hs hl hb xs s hc
/-! ### while -/
def whT {σ : Type} (b : σ → Bool) (t : σ → σ) : Nat → σ → σ
  | 0, s => s
  | n + 1, s => if b s = true then whT b t n (t s) else s
def whC {σ : Type} (cb : σ → Prop) (b : σ → Bool) (c : σ → Prop) (t : σ → σ) : Nat → σ → Prop
  | 0, _ => False
  | n + 1, s => cb s ∧ (b s = true → c s ∧ whC cb b c t n (t s))
theorem while_N {σ : Type} {E : σ → Env} {O : σ → List SO} {cb c : σ → Prop} {b : σ → Bool} {t : σ → σ} {ks : List Nat} {tc : Env → Sto → Res Bool} {body : SM4} {st : Sto}
    (hl : ∀ s s', (O s).length = (O s').length)
    (ht : ∀ s, cb s → tc (E s) (st ++ O s) = .ok (b s) (st ++ O s))
    (hb : ∀ s, b s = true → c s → NxP (body (E s) (st ++ O s)) (fun env S => kill ks env = E (t s) ∧ S = st ++ O (t s))) :
    ∀ (n : Nat) (s : σ), whC cb b c t n s → whileF (some ks) tc body n (E s) (st ++ O s) = .nx (E (whT b t n s)) (st ++ O (whT b t n s))
  | 0, s, h => h.elim
  | n + 1, s, ⟨h1, h2⟩ => by
    show ((tc (E s) (st ++ O s)).on (E s) _) = _
    rw [ht s h1]
    unfold whT
    cases q : b s with
    | false => simp only [Res.on_ok, Bool.false_eq_true, if_false]
    | true =>
      obtain ⟨h3, h4⟩ := h2 q
      obtain ⟨env2, S2, k2, k3, rfl⟩ := hb s q h3
      simp only [Res.on_ok, if_true, k2, SRes.bind_nx]
      rw [show ks.foldl (fun e k => e.set k none) env2 = kill ks env2 from rfl, k3, shrink_len (by rw [List.length_append, List.length_append, hl (t s) s])]
      exact while_N hl ht hb n (t s) h4
theorem do_while {σ : Type} {E : σ → Env} {O : σ → List SO} {cb c : σ → Prop} {b : σ → Bool} {t : σ → σ} {ks : List Nat} {tc : Env → Sto → Res Bool} {body : SM4} {st : Sto} {n : Nat} {env : Env} {s : σ}
    (hk : kill ks env = E s) (hl : ∀ s s', (O s).length = (O s').length)
    (ht : ∀ s, cb s → tc (E s) (st ++ O s) = .ok (b s) (st ++ O s))
    (hb : ∀ s, b s = true → c s → NxP (body (E s) (st ++ O s)) (fun env S => kill ks env = E (t s) ∧ S = st ++ O (t s)))
    (hc : whC cb b c t n s) : sWhile n (some ks) tc body env (st ++ O s) = .nx (E (whT b t n s)) (st ++ O (whT b t n s)) := by
  rw [sWhile_ap]
  show whileF (some ks) tc body n (kill ks env) (st ++ O s) = _
  rw [hk]
  exact while_N hl ht hb n s hc
end FL

namespace FL
open PySem PySem.Spec PyProof.Rows L2
variable [TabCtx]
theorem NxP.mono {r : SRes} {P Q : Env → Sto → Prop} (h : NxP r P) (i : ∀ e S, P e S → Q e S) : NxP r Q := by
  obtain ⟨e, S, h1, h2⟩ := h
  exact ⟨e, S, h1, i _ _ h2⟩
theorem MxP.mono {σ ρ : Type} {st : Sto} {r : SRes} {o : σ ⊕ ρ} {P Q : σ → Env → Sto → Prop} {e : ρ → D} (h : MxP st r o P e) (i : ∀ s e S, P s e S → Q s e S) : MxP st r o Q e := by
  cases o with
  | inl s => exact NxP.mono h (i s)
  | inr v => exact h
theorem cFold_triv {σ X : Type} {t : σ → X → σ} : ∀ {xs : List X} {s : σ}, cFold (fun _ _ => True) t xs s
  | [], _ => trivial
  | _ :: _, _ => ⟨trivial, cFold_triv⟩
theorem cForR_triv {σ X ρ : Type} {t : σ → X → σ ⊕ ρ} : ∀ {xs : List X} {s : σ}, cForR (fun _ _ => True) t xs s
  | [], _ => trivial
  | _ :: _, _ => ⟨trivial, fun _ _ => cForR_triv⟩
theorem still_M {st : Sto} {o : List SO} {i : Nat} {ds : List D} (h : o[i]? = some (.lst ds)) : stillB [(st.length + i, ds)] (st ++ o) = true := by
  rw [still_iff]
  intro p hp
  rw [List.mem_singleton.mp hp]
  exact lk h
theorem tru_I {i : Int} {S : Sto} : truD (cI i) S = .ok (decide (i ≠ 0)) S := by
  show Res.ok (i != 0) S = _
  congr 1
  by_cases h : i = 0 <;> simp [h]
theorem is_O {α : Type} {c : α → D} (h : ∀ a, isNon (c a) = false) {a : Option α} {S : Sto} : isD (cO c a) .non S = .ok (cB a.isNone) S := by
  cases a with
  | none => rfl
  | some a => show Res.ok (D.bl (isNon (c a))) S = _; rw [h]; rfl
theorem isnt_O {α : Type} {c : α → D} (h : ∀ a, isNon (c a) = false) {a : Option α} {S : Sto} : isntD (cO c a) .non S = .ok (cB a.isSome) S := by
  cases a with
  | none => rfl
  | some a => show Res.ok (D.bl (!isNon (c a))) S = _; rw [h]; rfl
theorem any_eq {α : Type} [DecidableEq α] {p : α → PyData} (h : ∀ a b, PyData.eqv (p a) (p b) = decide (a = b)) {x : α} : ∀ {l : List α}, (l.map p).any (fun z => PyData.eqv z (p x)) = decide (x ∈ l)
  | [] => by simp
  | a :: l => by
    simp only [List.map_cons, List.any_cons, h, any_eq h (l := l), List.mem_cons, Bool.decide_or]
    congr 1
    exact decide_eq_decide.mpr eq_comm
theorem inB_c {α : Type} [DecidableEq α] {c : α → D} (h : EqE 40 c) {x : α} {xs : List α} {d : D} {S : Sto} (hd : dicD d S = none) (hs : seqD d S = some (xs.map c)) : inB (c x) d S = some (decide (x ∈ xs)) := by
  obtain ⟨p, p1, p2⟩ := h
  unfold inB
  rw [hd, hs]
  simp only [p1, mapO_map (fun a _ => p1 S a), any_eq p2]
theorem in_c {α : Type} [DecidableEq α] {c : α → D} (h : EqE 40 c) {x : α} {xs : List α} {d : D} {S : Sto} (hd : dicD d S = none) (hs : seqD d S = some (xs.map c)) : inD (c x) d S = .ok (cB (decide (x ∈ xs))) S := by
  show (match inB (c x) d S with | some b => Res.ok (D.bl b) S | none => .bad) = _
  rw [inB_c h hd hs]
theorem nin_c {α : Type} [DecidableEq α] {c : α → D} (h : EqE 40 c) {x : α} {xs : List α} {d : D} {S : Sto} (hd : dicD d S = none) (hs : seqD d S = some (xs.map c)) : ninD (c x) d S = .ok (cB (!decide (x ∈ xs))) S := by
  show (match inB (c x) d S with | some b => Res.ok (D.bl (!b)) S | none => .bad) = _
  rw [inB_c h hd hs]
theorem dic_M {st : Sto} {o : List SO} {i : Nat} {ds : List D} (h : o[i]? = some (.lst ds)) : dicD (.loc (st.length + i)) (st ++ o) = none := dicD_loc (lk h)
/-! ### sorted -/
theorem sort_I {xs : List Int} {d : D} {S : Sto} (h : lstD d S = some (xs.map cI)) (hd : dicD d S = none) : sortB2 [d] S = .ok ((srtI xs).map cI) S := by
  have e : intsD (xs.map cI) = some xs := intsD_map xs
  show (match dicD d S with
    | some _ => sortB [d] S
    | none => match lstD d S with
      | some ds => match intsD ds with
        | some _ => sortB [d] S
        | none => _
      | none => .bad) = _
  rw [hd, h]
  simp only [e]
  show (match dicD d S with
    | some _ => _
    | none => match lstD d S with
      | some ds => match intsD ds with
        | some ns => Res.ok ((srtI ns).map D.int) S
        | none => .bad
      | none => .bad) = _
  rw [hd, h]
  simp only [e]
def insY {α : Type} (key : α → TKey) (a : α) : List α → List α
  | [] => [a]
  | b :: r => if ltK (key b) (key a) = true then b :: insY key a r else a :: b :: r
def srtY {α : Type} (key : α → TKey) : List α → List α
  | [] => []
  | a :: r => insY key a (srtY key r)
theorem insY_map {α : Type} {key : α → TKey} {c : α → D} {a : α} : ∀ {l : List α}, insT (key a, c a) (l.map fun x => (key x, c x)) = (insY key a l).map fun x => (key x, c x)
  | [] => rfl
  | b :: l => by
    rw [List.map_cons]
    unfold insT insY
    split
    · rw [List.map_cons, insY_map]
    · rfl
theorem srtY_map {α : Type} {key : α → TKey} {c : α → D} : ∀ {l : List α}, srtT (l.map fun x => (key x, c x)) = (srtY key l).map fun x => (key x, c x)
  | [] => rfl
  | a :: l => by
    rw [List.map_cons]
    unfold srtT srtY
    rw [srtY_map, insY_map]
def isStrD : D → Bool
  | .str _ => true
  | _ => false
/-- rows of tuples of one shape -/
def KeyOk {α : Type} (c : α → D) (key : α → TKey) : Prop := ∃ sh : Nat → Bool, ∀ a, ∃ e es, c a = .tup (e :: es) ∧ itemsK sh 0 (e :: es) = some (key a) ∧ ∀ r, shapeOf (c a :: r) = sh
theorem key_P {α : Type} {c : α → D} {key : α → TKey} (sh : List Bool) {e : α → D} {es : α → List D} (h1 : ∀ a, c a = .tup (e a :: es a) ∧ (e a :: es a).map isStrD = sh) (h2 : ∀ a, itemsK (fun i => sh.getD i false) 0 (e a :: es a) = some (key a)) : KeyOk c key := by
  refine ⟨fun i => sh.getD i false, fun a => ⟨e a, es a, (h1 a).1, h2 a, fun r => ?_⟩⟩
  funext i
  rw [(h1 a).1, ← (h1 a).2]
  show (match (e a :: es a)[i]? with | some (.str _) => true | _ => false) = _
  rw [List.getD_eq_getElem?_getD, List.getElem?_map]
  cases (e a :: es a)[i]? with
  | none => rfl
  | some d => cases d <;> rfl
theorem tupK_map {α : Type} {c : α → D} {key : α → TKey} {sh : Nat → Bool} (h : ∀ a, ∃ e es, c a = .tup (e :: es) ∧ itemsK sh 0 (e :: es) = some (key a)) : ∀ xs : List α, tupK sh (xs.map c) = some (xs.map fun a => (key a, c a))
  | [] => rfl
  | a :: xs => by
    obtain ⟨e, es, h1, h2⟩ := h a
    rw [List.map_cons, List.map_cons, h1]
    unfold tupK
    rw [h2, tupK_map h xs]
theorem sort_Y {α : Type} {c : α → D} {key : α → TKey} (hk : KeyOk c key) {xs : List α} {d : D} {S : Sto} (hd : dicD d S = none) (h : lstD d S = some (xs.map c)) : sortB2 [d] S = .ok ((srtY key xs).map c) S := by
  obtain ⟨sh, hk⟩ := hk
  cases xs with
  | nil => exact sort_I (xs := []) h hd
  | cons a xs =>
    obtain ⟨e, es, h1, h2, h3⟩ := hk a
    have hn : intsD ((a :: xs).map c) = none := by rw [List.map_cons, h1]; rfl
    rw [sort_any hd h hn (l := (a :: xs).map fun a => (key a, c a)) (by
      rw [List.map_cons, h3]
      exact tupK_map (fun a => by obtain ⟨e, es, k1, k2, _⟩ := hk a; exact ⟨e, es, k1, k2⟩) (a :: xs)), srtY_map, List.map_map]
    rfl
theorem insY_perm {α : Type} {key : α → TKey} {a : α} : ∀ l, (insY key a l).Perm (a :: l)
  | [] => .refl _
  | q :: r => by
    unfold insY
    split
    · exact ((insY_perm r).cons q).trans (.swap a q r)
    · exact .refl _
theorem srtY_perm {α : Type} {key : α → TKey} : ∀ l : List α, (srtY key l).Perm l
  | [] => .refl _
  | p :: r => (insY_perm _).trans ((srtY_perm r).cons p)
theorem insY_mono {α : Type} {key : α → TKey} {p : α} : ∀ {l : List α}, l.Pairwise (fun a b => ltK (key b) (key a) = false) → (insY key p l).Pairwise (fun a b => ltK (key b) (key a) = false)
  | [], _ => by simp [insY]
  | q :: r, h => by
    obtain ⟨h1, h2⟩ := List.pairwise_cons.mp h
    unfold insY
    split
    · rename_i hc
      refine List.pairwise_cons.mpr ⟨fun b hb => ?_, insY_mono h2⟩
      rcases List.mem_cons.mp ((insY_perm r).mem_iff.mp hb) with rfl | hb
      · exact ltK_asymm hc
      · exact h1 b hb
    · rename_i hc
      have hc : ltK (key q) (key p) = false := by simpa using hc
      refine List.pairwise_cons.mpr ⟨fun b hb => ?_, h⟩
      rcases List.mem_cons.mp hb with rfl | hb
      · exact hc
      · exact ltK_trans hc (h1 b hb)
theorem srtY_mono {α : Type} {key : α → TKey} : ∀ l : List α, (srtY key l).Pairwise (fun a b => ltK (key b) (key a) = false)
  | [] => .nil
  | _ :: r => insY_mono (srtY_mono r)
/-- rows of the same things, keys apart, are sorted alike -/
theorem srtY_same {α : Type} {key : α → TKey} {l l' : List α} (h : l.Perm l') (hi : ∀ a ∈ l, ∀ b ∈ l, key a = key b → a = b) : srtY key l = srtY key l' := by
  refine List.Perm.eq_of_pairwise (fun a b ha hb h1 h2 => ?_) (srtY_mono l) (srtY_mono l') ((srtY_perm l).trans (h.trans (srtY_perm l').symm))
  have ek : key a = key b := ((listOrd itemOrd).total (key b) (key a) h1 h2).symm
  exact hi a ((srtY_perm l).mem_iff.mp ha) b (h.mem_iff.mpr ((srtY_perm l').mem_iff.mp hb)) ek
/-! ### more on lists in the store -/
theorem ev_nCat {α : Type} {c : α → D} {xs ys : List α} {ma mb : EM} {env : Env} {d e : D} {S : Sto} (ha : ma env S = .ok d S) (hb : mb env S = .ok e S) (h1 : madeD d S = some (xs.map c)) (h2 : madeD e S = some (ys.map c)) (hl : xs.length + ys.length ≤ 1000000) :
    nCat ma mb env S = .ok ((xs ++ ys).map c) S := by
  show (ma env S).bind _ = _
  rw [ha]
  show (mb env S).bind _ = _
  rw [hb]
  show (match madeD d S, madeD e S with
    | some xs, some ys => if xs.length + ys.length ≤ 1000000 then Res.ok (xs ++ ys) S else .bad
    | _, _ => .bad) = _
  rw [h1, h2]
  simp only [List.length_map, if_pos hl, List.map_append]
theorem ev_nSl {α : Type} {c : α → D} {xs : List α} {m : EM} {ml mh : OM} {env : Env} {d : D} {lo hi : Option Int} {S : Sto} (h : m env S = .ok d S) (hl : ml env S = .ok lo S) (hh : mh env S = .ok hi S) (hs : lstD d S = some (xs.map c)) :
    nSl m ml mh env S = .ok ((cutL xs lo hi).map c) S := by
  show (m env S).bind _ = _
  rw [h]
  show (ml env S).bind _ = _
  rw [hl]
  show (mh env S).bind _ = _
  rw [hh]
  show (match lstD d S with | some ds => Res.ok (cutL ds lo hi) S | none => .bad) = _
  rw [hs]
  simp only [cutL_map]
def insI2 {α : Type} (xs : List α) (i : Int) (x : α) : List α := xs.take i.toNat ++ [x] ++ xs.drop i.toNat
theorem ins_M {α : Type} {c : α → D} {xs : List α} {st : Sto} {o : List SO} {i : Nat} {j : Int} {x : α} (h : o[i]? = some (.lst (xs.map c))) (hl : xs.length < 1000000 ∧ 0 ≤ j ∧ j < 2 ^ 62) :
    insD (.loc (st.length + i)) [cI j, c x] (st ++ o) = .ok .non (st ++ o.set i (.lst ((insI2 xs j x).map c))) := by
  show (match (st ++ o)[st.length + i]? with
    | some (.lst ds) => if ds.length < 1000000 ∧ 0 ≤ j ∧ j < 2 ^ 62 then Res.ok D.non ((st ++ o).set (st.length + i) (.lst (ds.take j.toNat ++ [c x] ++ ds.drop j.toNat))) else .bad
    | _ => .bad) = _
  rw [lk h]
  simp only [List.length_map, if_pos hl, st_set]
  unfold insI2
  simp
theorem popAt_M {α : Type} {c : α → D} {xs : List α} {st : Sto} {o : List SO} {i : Nat} {j : Int} (h : o[i]? = some (.lst (xs.map c))) (hl : xs.length < 1000000) (h0 : 0 ≤ j) {x : α} (hx : xs[j.toNat]? = some x) :
    popAtD (.loc (st.length + i)) [cI j] (st ++ o) = .ok (c x) (st ++ o.set i (.lst ((xs.eraseIdx j.toNat).map c))) := by
  have hj := (List.getElem?_eq_some_iff.mp hx).1
  show (match (st ++ o)[st.length + i]? with
    | some (.lst ds) => if 0 ≤ j ∧ j < 2 ^ 62 then (match ds[j.toNat]? with
      | some d => Res.ok d ((st ++ o).set (st.length + i) (.lst (ds.eraseIdx j.toNat)))
      | none => .bad) else .bad
    | _ => .bad) = _
  rw [lk h]
  simp only [if_pos (show 0 ≤ j ∧ j < 2 ^ 62 from ⟨h0, by omega⟩), List.getElem?_map, hx, Option.map_some, st_set]
  congr 3
  rw [List.eraseIdx_eq_take_drop_succ, List.eraseIdx_eq_take_drop_succ, ← List.map_take, ← List.map_drop, ← List.map_append]
/-! ### dicts by numbers -/
def kE {α : Type} (c : α → D) (l : List (Int × α)) : List (Key × D) := l.map fun p => (Sum.inl p.1, c p.2)
def hasK {α : Type} (l : List (Int × α)) (k : Int) : Bool := l.any fun p => decide (p.1 = k)
def getK {α : Type} [Inhabited α] (l : List (Int × α)) (k : Int) : α := ((l.find? fun p => decide (p.1 = k)).map (·.2)).getD default
def putK {α : Type} (l : List (Int × α)) (k : Int) (a : α) : List (Int × α) := if hasK l k = true then l.map (fun p => if p.1 = k then (p.1, a) else p) else l ++ [(k, a)]
theorem dget_kE {α : Type} {c : α → D} {k : Int} : ∀ {l : List (Int × α)}, dget (kE c l) (Sum.inl k) = ((l.find? fun p => decide (p.1 = k)).map (·.2)).map c
  | [] => rfl
  | p :: l => by
    have ih := dget_kE (c := c) (k := k) (l := l)
    unfold dget kE at *
    rw [List.map_cons, List.find?_cons, List.find?_cons]
    by_cases h : p.1 = k
    · rw [decide_eq_true (show ((Sum.inl p.1 : Key)) = Sum.inl k by rw [h]), decide_eq_true h]; rfl
    · rw [decide_eq_false (show ¬ ((Sum.inl p.1 : Key)) = Sum.inl k by intro q; injection q with q; exact h q), decide_eq_false h]; exact ih
theorem has_find {α : Type} {l : List (Int × α)} {k : Int} (h : hasK l k = true) : ∃ p, (l.find? fun p => decide (p.1 = k)) = some p := by
  unfold hasK at h
  obtain ⟨p, hp, hk⟩ := List.any_eq_true.mp h
  cases q : l.find? fun p => decide (p.1 = k) with
  | some p => exact ⟨p, rfl⟩
  | none => exact absurd hk (List.find?_eq_none.mp q p hp)
theorem dicD_M {st : Sto} {o : List SO} {i : Nat} {kvs : List (Key × D)} (h : o[i]? = some (.dic kvs)) : dicD (.loc (st.length + i)) (st ++ o) = some kvs := by
  show (match (st ++ o)[st.length + i]? with | some (.dic kvs) => some kvs | _ => none) = _
  rw [lk h]
theorem seqD_dM {st : Sto} {o : List SO} {i : Nat} {kvs : List (Key × D)} (h : o[i]? = some (.dic kvs)) : seqD (.loc (st.length + i)) (st ++ o) = none := by
  show (match (st ++ o)[st.length + i]? with | some (.lst ds) => some ds | _ => none) = _
  rw [lk h]
theorem ixK_M {α : Type} [Inhabited α] {c : α → D} {l : List (Int × α)} {st : Sto} {o : List SO} {i : Nat} {k : Int} (h : o[i]? = some (.dic (kE c l))) (hk : hasK l k = true) : ixD (.loc (st.length + i)) (cI k) (st ++ o) = .ok (c (getK l k)) (st ++ o) := by
  show (match seqD (.loc (st.length + i)) (st ++ o) with
      | some ds => (match atI ds k with | some x => Res.ok x (st ++ o) | none => .bad)
      | none => match dicD (.loc (st.length + i)) (st ++ o) with
        | some kvs => (match dget kvs (Sum.inl k) with | some x => .ok x (st ++ o) | none => .bad)
        | none => .bad) = _
  rw [seqD_dM h, dicD_M h]
  simp only [dget_kE]
  obtain ⟨p, hp⟩ := has_find hk
  unfold getK
  rw [hp]; rfl
theorem inK_B {α : Type} {c : α → D} {l : List (Int × α)} {st : Sto} {o : List SO} {i : Nat} {k : Int} (h : o[i]? = some (.dic (kE c l))) : inB (cI k) (.loc (st.length + i)) (st ++ o) = some (hasK l k) := by
  unfold inB
  rw [dicD_M h]
  simp only [show keyD (cI k) = some (Sum.inl k) from rfl, dget_kE]
  congr 1
  cases q : hasK l k with
  | true => obtain ⟨p, hp⟩ := has_find q; rw [hp]; rfl
  | false =>
    have : (l.find? fun p => decide (p.1 = k)) = none := by
      rw [List.find?_eq_none]
      intro p hp hk
      have : hasK l k = true := List.any_eq_true.mpr ⟨p, hp, hk⟩
      rw [q] at this; cases this
    rw [this]; rfl
theorem inK_M {α : Type} {c : α → D} {l : List (Int × α)} {st : Sto} {o : List SO} {i : Nat} {k : Int} (h : o[i]? = some (.dic (kE c l))) : inD (cI k) (.loc (st.length + i)) (st ++ o) = .ok (cB (hasK l k)) (st ++ o) := by
  show (match inB (cI k) (.loc (st.length + i)) (st ++ o) with | some b => Res.ok (D.bl b) (st ++ o) | none => .bad) = _
  rw [inK_B h]
theorem ninK_M {α : Type} {c : α → D} {l : List (Int × α)} {st : Sto} {o : List SO} {i : Nat} {k : Int} (h : o[i]? = some (.dic (kE c l))) : ninD (cI k) (.loc (st.length + i)) (st ++ o) = .ok (cB (!hasK l k)) (st ++ o) := by
  show (match inB (cI k) (.loc (st.length + i)) (st ++ o) with | some b => Res.ok (D.bl (!b)) (st ++ o) | none => .bad) = _
  rw [inK_B h]
theorem lenK_M {α : Type} {c : α → D} {l : List (Int × α)} {st : Sto} {o : List SO} {i : Nat} (h : o[i]? = some (.dic (kE c l))) : lenB [.loc (st.length + i)] (st ++ o) = .ok (cI (l.length : Int)) (st ++ o) := by
  show (match seqD (.loc (st.length + i)) (st ++ o) with
    | some ds => Res.ok (D.int (ds.length : Nat)) (st ++ o)
    | none => match dicD (.loc (st.length + i)) (st ++ o) with
      | some kvs => Res.ok (D.int (kvs.length : Nat)) (st ++ o)
      | none => _) = _
  rw [seqD_dM h, dicD_M h]
  unfold kE
  simp only [List.length_map]
theorem putD_kE {α : Type} {c : α → D} {l : List (Int × α)} {k : Int} {a : α} : putD (kE c l) (Sum.inl k) (c a) = kE c (putK l k a) := by
  have e : (kE c l).any (fun p => decide (p.1 = (Sum.inl k : Key))) = hasK l k := by
    unfold kE hasK
    rw [List.any_map]
    congr 1
    funext p
    exact decide_eq_decide.mpr ⟨fun q => by injection q, fun q => by rw [← q]⟩
  unfold putD putK
  rw [e]
  split
  · unfold kE
    rw [List.map_map, List.map_map]
    refine List.map_congr_left fun p _ => ?_
    by_cases h : p.1 = k
    · simp only [Function.comp, if_pos h, h, if_true]
    · simp only [Function.comp, if_neg h]
      rw [if_neg (by intro q; injection q with q; exact h q)]
  · unfold kE
    simp
theorem putK_M {α : Type} {c : α → D} {l : List (Int × α)} {st : Sto} {o : List SO} {i : Nat} {k : Int} {a : α} {mv mo mi : EM} {env : Env} (hv : mv env (st ++ o) = .ok (c a) (st ++ o)) (ho : mo env (st ++ o) = .ok (.loc (st.length + i)) (st ++ o)) (hi : mi env (st ++ o) = .ok (cI k) (st ++ o))
    (h : o[i]? = some (.dic (kE c l))) (hl : l.length < 1000000) : sPut mv mo mi env (st ++ o) = .nx env (st ++ o.set i (.dic (kE c (putK l k a)))) := by
  rw [sPut_ap, hv, sPut_o1, ho, sPut_o2, hi, sPut_o3]
  have e : setD (.loc (st.length + i)) (cI k) (c a) (st ++ o) = some (st ++ o.set i (.dic (kE c (putK l k a)))) := by
    show (match (st ++ o)[st.length + i]? with
      | some (.lst ds) => _
      | some (.dic kvs) => (if kvs.length < 1000000 then some ((st ++ o).set (st.length + i) (.dic (putD kvs (Sum.inl k) (c a)))) else none)
      | none => none) = _
    rw [lk h]
    have : (kE c l).length < 1000000 := by unfold kE; simpa using hl
    simp only [if_pos this, st_set, putD_kE]
  rw [e]
end FL

namespace FL
open PySem
variable [TabCtx]
/-! ## plain lemmas -/
/-- a fraction, lowered -/
def shI (t b : Int) : Int := if b < 0 then -(Int.gcd t b : Int) else (Int.gcd t b : Int)
def lowI (t b : Int) : Int × Int := (t.fdiv (shI t b), b.fdiv (shI t b))
theorem gcdI_pos {t b : Int} (hb : b ≠ 0) : 0 < Int.gcd t b := Int.gcd_pos_of_ne_zero_right _ hb
theorem gcdI_le {t b : Int} (hb : b ≠ 0) : Int.gcd t b ≤ b.natAbs := Nat.gcd_le_right _ (by omega)
theorem shI_ne {t b : Int} (hb : b ≠ 0) : shI t b ≠ 0 := by
  have := gcdI_pos (t := t) hb
  unfold shI
  split <;> omega
theorem shI_abs {t b : Int} : (shI t b).natAbs = Int.gcd t b := by unfold shI; split <;> omega
theorem neg_mul_neg_pos' {s v : Int} (hs : s < 0) (h : s * v < 0) : 0 < v := by
  rcases Int.lt_or_le 0 v with h1 | h1
  · exact h1
  · have := Int.mul_nonneg_of_nonpos_of_nonpos (Int.le_of_lt hs) h1
    omega
theorem pos_mul_pos' {s v : Int} (hs : 0 < s) (h : 0 < s * v) : 0 < v := by
  rcases Int.lt_or_le 0 v with h1 | h1
  · exact h1
  · have := Int.mul_nonpos_of_nonneg_of_nonpos (Int.le_of_lt hs) h1
    omega
/-- what a lowered fraction is -/
theorem lowI_facts {t b : Int} (hb : b ≠ 0) : 1 ≤ (lowI t b).2 ∧ Int.gcd (lowI t b).1 (lowI t b).2 = 1 ∧ (lowI t b).1 * b = t * (lowI t b).2 ∧ (lowI t b).1.natAbs ≤ t.natAbs ∧ (lowI t b).2.natAbs ≤ b.natAbs := by
  have hg := gcdI_pos (t := t) hb
  have hs := shI_ne (t := t) hb
  have ea := shI_abs (t := t) (b := b)
  have d1 : shI t b ∣ t := by
    rw [← Int.natAbs_dvd_natAbs, ea]
    exact Nat.gcd_dvd_left _ _
  have d2 : shI t b ∣ b := by
    rw [← Int.natAbs_dvd_natAbs, ea]
    exact Nat.gcd_dvd_right _ _
  obtain ⟨u, hu⟩ := d1
  obtain ⟨v, hv⟩ := d2
  have ex : t.fdiv (shI t b) = u := by
    have : (shI t b * u).fdiv (shI t b) = u := Int.mul_fdiv_cancel_left _ hs
    rw [← hu] at this
    exact this
  have ey : b.fdiv (shI t b) = v := by
    have : (shI t b * v).fdiv (shI t b) = v := Int.mul_fdiv_cancel_left _ hs
    rw [← hv] at this
    exact this
  have hp : 0 < v := by
    by_cases hneg : b < 0
    · have : shI t b < 0 := by unfold shI; rw [if_pos hneg]; omega
      exact neg_mul_neg_pos' this (by rw [← hv]; exact hneg)
    · have : 0 < shI t b := by unfold shI; rw [if_neg hneg]; omega
      exact pos_mul_pos' this (by rw [← hv]; omega)
  unfold lowI
  simp only [ex, ey]
  refine ⟨by omega, ?_, ?_, ?_, ?_⟩
  · have h1 : Int.gcd (shI t b * u) (shI t b * v) = (shI t b).natAbs * Int.gcd u v := Int.gcd_mul_left ..
    rw [← hu, ← hv, ea] at h1
    have h2 : Int.gcd t b * 1 = Int.gcd t b * Int.gcd u v := by rw [Nat.mul_one]; exact h1
    exact (Nat.eq_of_mul_eq_mul_left hg h2).symm
  · calc u * b = u * (shI t b * v) := by rw [← hv]
      _ = (shI t b * u) * v := by rw [← Int.mul_assoc, Int.mul_comm u]
      _ = t * v := by rw [← hu]
  · have : t.natAbs = (shI t b).natAbs * u.natAbs := by conv => lhs; rw [hu, Int.natAbs_mul]
    rw [this]
    exact Nat.le_mul_of_pos_left _ (by omega)
  · have : b.natAbs = (shI t b).natAbs * v.natAbs := by conv => lhs; rw [hv, Int.natAbs_mul]
    rw [this]
    exact Nat.le_mul_of_pos_left _ (by omega)
theorem lowI_low {x y : Int} (hy : 1 ≤ y) (hg : Int.gcd x y = 1) : lowI x y = (x, y) := by
  have e : shI x y = 1 := by unfold shI; rw [if_neg (by omega), hg]; rfl
  unfold lowI
  rw [e, Int.fdiv_one, Int.fdiv_one]
theorem lowI_pos {t b : Int} (hb : 0 < b) (ht : 0 < t) : 0 < (lowI t b).1 := by
  obtain ⟨h1, _, h3, _, _⟩ := lowI_facts (t := t) (b := b) (by omega)
  have : 0 < (lowI t b).1 * b := by rw [h3]; exact Int.mul_pos ht (by omega)
  exact pos_mul_pos' hb (by rw [Int.mul_comm]; exact this)
theorem dvd_cop {k m n : Int} (h : k ∣ m * n) (hg : Int.gcd k m = 1) : k ∣ n := by
  rw [← Int.natAbs_dvd_natAbs] at h ⊢
  rw [Int.natAbs_mul] at h
  exact Nat.Coprime.dvd_of_dvd_mul_left hg h
theorem lowI_inj {t b t' b' : Int} (hb : b ≠ 0) (hb' : b' ≠ 0) (h : t * b' = t' * b) : lowI t b = lowI t' b' := by
  obtain ⟨p1, p2, p3, _, _⟩ := lowI_facts (t := t) hb
  obtain ⟨q1, q2, q3, _, _⟩ := lowI_facts (t := t') hb'
  generalize lowI t b = p at *
  generalize lowI t' b' = q at *
  obtain ⟨x, y⟩ := p
  obtain ⟨u, v⟩ := q
  simp only at *
  have hbb : b * b' ≠ 0 := Int.mul_ne_zero hb hb'
  have e : x * v = u * y := by
    have h1 : (x * v) * (b * b') = (u * y) * (b * b') := by
      calc (x * v) * (b * b') = (x * b) * (v * b') := by
            rw [Int.mul_assoc, Int.mul_assoc]; congr 1; rw [← Int.mul_assoc, ← Int.mul_assoc, Int.mul_comm v b]
        _ = (t * y) * (v * b') := by rw [p3]
        _ = (t * b') * (y * v) := by
            rw [Int.mul_assoc, Int.mul_assoc]; congr 1; rw [← Int.mul_assoc, Int.mul_comm]
        _ = (t' * b) * (y * v) := by rw [h]
        _ = (t' * v) * (y * b) := by
            rw [Int.mul_assoc, Int.mul_assoc]; congr 1; rw [Int.mul_comm y v, ← Int.mul_assoc, Int.mul_comm b v, Int.mul_assoc, Int.mul_comm b y]
        _ = (u * b') * (y * b) := by rw [q3]
        _ = (u * y) * (b * b') := by
            rw [Int.mul_assoc, Int.mul_assoc]; congr 1; rw [Int.mul_comm b' (y * b), Int.mul_assoc]
    exact Int.eq_of_mul_eq_mul_right hbb h1
  have d1 : x ∣ u := by
    have : x ∣ y * u := ⟨v, by rw [Int.mul_comm, ← e]⟩
    exact dvd_cop this p2
  have d2 : y ∣ v := by
    have : y ∣ x * v := ⟨u, by rw [e, Int.mul_comm]⟩
    exact dvd_cop this (by rw [Int.gcd_comm]; exact p2)
  have d3 : v ∣ y := by
    have : v ∣ u * y := ⟨x, by rw [← e, Int.mul_comm]⟩
    exact dvd_cop this (by rw [Int.gcd_comm]; exact q2)
  have ey : y = v := Int.dvd_antisymm (by omega) (by omega) d2 d3
  subst ey
  have : x = u := Int.eq_of_mul_eq_mul_right (by omega : y ≠ 0) e
  rw [this]
/-! ### Euclid's turns -/
theorem gcd_wh {cb c : Int × Int → Prop} {b : Int × Int → Bool} {t : Int × Int → Int × Int} (hcb : ∀ s, cb s) (hb : ∀ x y, 0 ≤ y → b (x, y) = decide (0 < y)) (hc : ∀ x y, 0 < y → c (x, y)) (ht : ∀ x y, t (x, y) = (y, Int.fmod x y)) :
    ∀ (n : Nat) (x y : Int), 0 ≤ x → 0 ≤ y → y.toNat < n → whC cb b c t n (x, y) ∧ whT b t n (x, y) = ((Int.gcd x y : Int), 0)
  | 0, _, _, _, _, h => absurd h (by omega)
  | n + 1, x, y, hx, hy, hn => by
    unfold whC whT
    rw [hb x y hy, ht]
    by_cases h0 : 0 < y
    · have h1 := Int.emod_nonneg x (show y ≠ 0 by omega)
      have h2 := Int.emod_lt_of_pos x h0
      have em : Int.fmod x y = x % y := Int.fmod_eq_emod_of_nonneg _ (by omega)
      obtain ⟨i1, i2⟩ := gcd_wh hcb hb hc ht n y (Int.fmod x y) (by omega) (by omega) (by omega)
      rw [decide_eq_true h0]
      refine ⟨⟨hcb _, fun _ => ⟨hc x y h0, i1⟩⟩, ?_⟩
      rw [if_pos rfl, i2, em]
      congr 1
      have : Int.gcd y (x % y) = Int.gcd x y := by
        rw [Int.gcd_comm x y]
        have k := Int.gcd_add_mul_left_right y (x % y) (x / y)
        rw [Int.emod_add_mul_ediv] at k
        exact k.symm
      rw [this]
    · have e0 : y = 0 := by omega
      subst e0
      refine ⟨⟨hcb _, fun h => absurd h (by simp)⟩, ?_⟩
      simp only [Int.lt_irrefl, decide_false, Bool.false_eq_true, if_false, Int.gcd_zero_right]
      congr 1
      omega
/-! ### sizes -/
theorem mulOk_of {a b : Int} (h : a.natAbs < 2 ^ 2000) (h' : b.natAbs < 2 ^ 2000) : MulK a b := by
  have := log_lt h (by decide); have := log_lt h' (by decide)
  unfold MulK; omega
theorem mulOk_s {a b : Int} (h : -(2 ^ 64) < a ∧ a < 2 ^ 64) (h' : -(2 ^ 64) < b ∧ b < 2 ^ 64) : MulK a b := by
  have := log_small h.1 h.2; have := log_small h'.1 h'.2
  unfold MulK; omega
theorem divOk_of {b : Int} (h0 : b ≠ 0) (h : b.natAbs < 2 ^ 2000) : DivOk b := ⟨h0, by have := log_lt h (by decide); omega⟩
theorem divOk_sh {t b : Int} (hb : b ≠ 0) (h : b.natAbs < 2 ^ 2000) : DivOk (shI t b) := divOk_of (shI_ne hb) (by rw [shI_abs]; exact Nat.lt_of_le_of_lt (gcdI_le hb) h)
theorem fuelB_gt {y : Int} (h : y.natAbs < 2 ^ 2000) : y.toNat < fuelB := fuelB_lt (by omega)
theorem small_I {i : Int} (h : -1000000000 ≤ i ∧ i ≤ 1000000000) : smallI i := h
/-! ### folds -/
theorem cFold_inv {σ X : Type} {c : σ → X → Prop} {t : σ → X → σ} (P : σ → Prop) : ∀ {xs : List X} {s : σ}, (∀ s x, x ∈ xs → P s → c s x ∧ P (t s x)) → P s → cFold c t xs s ∧ P (xs.foldl t s)
  | [], s, _, hp => ⟨trivial, hp⟩
  | x :: xs, s, h, hp => by
    obtain ⟨h1, h2⟩ := h s x List.mem_cons_self hp
    obtain ⟨h3, h4⟩ := cFold_inv P (xs := xs) (s := t s x) (fun s y hy => h s y (List.mem_cons_of_mem _ hy)) h2
    exact ⟨⟨h1, h3⟩, h4⟩
theorem cFold_pre {σ X : Type} {c : σ → X → Prop} {t : σ → X → σ} (P : List X → σ → Prop) {xs : List X} : ∀ {ys pre : List X} {s : σ}, xs = pre ++ ys → (∀ pre x post s, xs = pre ++ x :: post → P pre s → c s x ∧ P (pre ++ [x]) (t s x)) → P pre s → cFold c t ys s ∧ P xs (ys.foldl t s)
  | [], pre, s, e, _, hp => ⟨trivial, by rw [e, List.append_nil]; exact hp⟩
  | x :: ys, pre, s, e, h, hp => by
    obtain ⟨h1, h2⟩ := h pre x ys s e hp
    obtain ⟨h3, h4⟩ := cFold_pre P (xs := xs) (ys := ys) (pre := pre ++ [x]) (by rw [e, List.append_assoc]; rfl) h h2
    exact ⟨⟨h1, h3⟩, h4⟩
theorem cFold_pre0 {σ X : Type} {c : σ → X → Prop} {t : σ → X → σ} (P : List X → σ → Prop) {xs : List X} {s : σ} (h : ∀ pre x post s, xs = pre ++ x :: post → P pre s → c s x ∧ P (pre ++ [x]) (t s x)) (h0 : P [] s) : cFold c t xs s ∧ P xs (xs.foldl t s) :=
  cFold_pre P (ys := xs) (pre := []) rfl h h0
theorem flat_len {α β : Type} {f : α → List β} {n : Nat} : ∀ {l : List α}, (∀ a ∈ l, (f a).length ≤ n) → (l.flatMap f).length ≤ n * l.length
  | [], _ => by simp
  | a :: l, h => by
    rw [List.flatMap_cons, List.length_append, List.length_cons]
    have := h a List.mem_cons_self
    have := flat_len (l := l) fun b hb => h b (List.mem_cons_of_mem _ hb)
    rw [Nat.mul_add, Nat.mul_one]; omega
/-- a loop that adds to a row -/
theorem cFold_flat {X β : Type} {c : List β → X → Prop} {t : List β → X → List β} {f : X → List β} {xs : List X} {s : List β} {n : Nat} (hn : ∀ x ∈ xs, (f x).length ≤ n)
    (h : ∀ r x, x ∈ xs → r.length ≤ s.length + n * xs.length → c r x ∧ t r x = r ++ f x) : cFold c t xs s ∧ xs.foldl t s = s ++ xs.flatMap f := by
  refine cFold_pre0 (fun pre r => r = s ++ pre.flatMap f) (fun pre x post r e hp => ?_) (by simp)
  have hx : x ∈ xs := by rw [e]; simp
  have hl : (pre.flatMap f).length ≤ n * pre.length := flat_len fun a ha => hn a (by rw [e]; simp [ha])
  have hl2 : pre.length ≤ xs.length := by rw [e]; simp
  have hl3 := Nat.mul_le_mul_left n hl2
  obtain ⟨h1, h2⟩ := h r x hx (by rw [hp, List.length_append]; omega)
  refine ⟨h1, ?_⟩
  rw [h2, hp, List.flatMap_append, List.append_assoc]
  simp
theorem any_congr {α : Type} {p q : α → Bool} : ∀ {l : List α}, (∀ x ∈ l, p x = q x) → l.any p = l.any q
  | [], _ => rfl
  | a :: l, h => by rw [List.any_cons, List.any_cons, h a List.mem_cons_self, any_congr fun x hx => h x (List.mem_cons_of_mem _ hx)]
theorem flat_if {α β : Type} {p : α → Bool} {h : α → β} : ∀ {l : List α}, (l.flatMap fun a => if p a = true then [h a] else []) = (l.filter p).map h
  | [] => rfl
  | a :: l => by
    rw [List.flatMap_cons, List.filter_cons, flat_if]
    split <;> simp
theorem flat_two {α β : Type} {f g : α → List β} : ∀ {l : List α}, (l.flatMap fun a => f a ++ g a).Perm (l.flatMap f ++ l.flatMap g)
  | [] => .refl _
  | a :: l => by
    rw [List.flatMap_cons, List.flatMap_cons, List.flatMap_cons, List.append_assoc, List.append_assoc]
    refine .append_left _ ?_
    refine (List.Perm.append_left _ flat_two).trans ?_
    rw [← List.append_assoc, ← List.append_assoc]
    exact .append_right _ List.perm_append_comm
theorem cFold_all {σ X : Type} {c : σ → X → Prop} {t : σ → X → σ} {xs : List X} {s : σ} (h : ∀ s x, x ∈ xs → c s x) : cFold c t xs s :=
  (cFold_inv (fun _ => True) (fun s x hx _ => ⟨h s x hx, trivial⟩) trivial).1
theorem cForR_all {σ X ρ : Type} {c : σ → X → Prop} {t : σ → X → σ ⊕ ρ} : ∀ {xs : List X} {s : σ}, (∀ s x, x ∈ xs → c s x) → cForR c t xs s
  | [], _, _ => trivial
  | x :: xs, s, h => ⟨h s x List.mem_cons_self, fun s' _ => cForR_all fun s y hy => h s y (List.mem_cons_of_mem _ hy)⟩
theorem cForR_inv {σ X ρ : Type} {c : σ → X → Prop} {t : σ → X → σ ⊕ ρ} (P : σ → Prop) : ∀ {xs : List X} {s : σ}, (∀ s x, x ∈ xs → P s → c s x ∧ ∀ s', t s x = .inl s' → P s') → P s → cForR c t xs s ∧ ∀ s', forR t xs s = .inl s' → P s'
  | [], s, _, hp => ⟨trivial, fun s' e => by cases e; exact hp⟩
  | x :: xs, s, h, hp => by
    obtain ⟨h1, h2⟩ := h s x List.mem_cons_self hp
    refine ⟨⟨h1, fun s' e => (cForR_inv P (fun s y hy => h s y (List.mem_cons_of_mem _ hy)) (h2 s' e)).1⟩, fun s' e => ?_⟩
    unfold forR at e
    cases q : t s x with
    | inl s1 => rw [q] at e; exact (cForR_inv P (fun s y hy => h s y (List.mem_cons_of_mem _ hy)) (h2 s1 q)).2 s' e
    | inr r => rw [q] at e; cases e
/-- a loop that only looks for one -/
theorem forR_unit {X ρ : Type} {t : Unit → X → Unit ⊕ ρ} {p : X → Bool} {r : ρ} : ∀ {xs : List X}, (∀ x ∈ xs, t () x = if p x = true then .inr r else .inl ()) → forR t xs () = if xs.any p = true then .inr r else .inl ()
  | [], _ => rfl
  | x :: xs, h => by
    unfold forR
    rw [h x List.mem_cons_self, List.any_cons]
    cases p x with
    | true => rfl
    | false =>
      simp only [Bool.false_eq_true, if_false, Bool.false_or]
      exact forR_unit fun y hy => h y (List.mem_cons_of_mem _ hy)
theorem forR_const {σ X ρ : Type} {t : σ → X → σ ⊕ ρ} {s : σ} : ∀ {xs : List X}, (∀ x ∈ xs, t s x = .inl s) → forR t xs s = .inl s
  | [], _ => rfl
  | x :: xs, h => by
    unfold forR
    rw [h x List.mem_cons_self]
    exact forR_const fun y hy => h y (List.mem_cons_of_mem _ hy)
theorem forR_find {X ρ : Type} {t : Unit → X → Unit ⊕ ρ} {f : X → Option ρ} : ∀ {xs : List X}, (∀ x ∈ xs, t () x = match f x with | some r => .inr r | none => .inl ()) → forR t xs () = match xs.findSome? f with | some r => .inr r | none => .inl ()
  | [], _ => rfl
  | x :: xs, h => by
    unfold forR
    rw [h x List.mem_cons_self, List.findSome?_cons]
    cases f x with
    | some r => rfl
    | none => exact forR_find fun y hy => h y (List.mem_cons_of_mem _ hy)
/-! ### rows -/
theorem getI_nat {α : Type} [Inhabited α] {xs : List α} {k : Nat} : getI xs (k : Int) = xs.getD k default := by
  unfold getI
  rw [if_neg (by omega)]
  rfl
theorem getI_ge {α : Type} [Inhabited α] {xs : List α} {i : Int} (h : 0 ≤ i) : getI xs i = xs.getD i.toNat default := by
  unfold getI
  rw [if_neg (by omega)]
theorem getI_mem {α : Type} [Inhabited α] {xs : List α} {i : Int} (h : IxOk xs.length i) : getI xs i ∈ xs := by
  obtain ⟨h1, h2⟩ := h
  unfold getI
  rw [List.getD_eq_getElem?_getD, List.getElem?_eq_getElem (by split <;> omega)]
  exact List.getElem_mem _
theorem getI_map {α β : Type} [Inhabited α] [Inhabited β] {f : α → β} {xs : List α} {i : Int} (h : IxOk xs.length i) : getI (xs.map f) i = f (getI xs i) := by
  obtain ⟨h1, h2⟩ := h
  unfold getI
  rw [List.length_map, List.getD_eq_getElem?_getD, List.getD_eq_getElem?_getD, List.getElem?_map, List.getElem?_eq_getElem (by split <;> omega)]
  rfl
theorem ixOk_of {n : Nat} {i : Int} (h : 0 ≤ i) (h2 : i < n) : IxOk n i := ⟨by omega, h2⟩
theorem mem_rngI {a b x : Int} : x ∈ rngI a b ↔ a ≤ x ∧ x < b := by
  unfold rngI
  rw [List.mem_map]
  constructor
  · rintro ⟨k, hk, rfl⟩
    rw [List.mem_range] at hk
    omega
  · intro h
    exact ⟨(x - a).toNat, by rw [List.mem_range]; omega, by omega⟩
theorem rngI_len {a b : Int} : (rngI a b).length = (b - a).toNat := by unfold rngI; simp
theorem rngI_nat {n : Nat} : rngI 0 (n : Int) = (List.range n).map fun (k : Nat) => (k : Int) := by
  unfold rngI
  rw [show ((n : Int) - 0).toNat = n by omega]
  refine List.map_congr_left fun k _ => by omega
theorem rngI_succ {a b : Int} (h : a < b) : rngI a b = a :: rngI (a + 1) b := by
  unfold rngI
  rw [show (b - a).toNat = (b - (a + 1)).toNat + 1 by omega, List.range_succ_eq_map, List.map_cons, List.map_map]
  congr 1
  · omega
  · refine List.map_congr_left fun k _ => ?_
    simp only [Function.comp]
    omega
theorem rngI_nil {a b : Int} (h : b ≤ a) : rngI a b = [] := by
  unfold rngI
  rw [show (b - a).toNat = 0 by omega]
  rfl
theorem rngI_snoc {a b : Int} (h : a ≤ b) : rngI a (b + 1) = rngI a b ++ [b] := by
  unfold rngI
  rw [show (b + 1 - a).toNat = (b - a).toNat + 1 by omega, List.range_succ, List.map_append, List.map_cons, List.map_nil]
  congr 2
  omega
theorem enumI_map {α β : Type} {f : α → β} {xs : List α} : enumI (xs.map f) = (enumI xs).map fun p => (p.1, f p.2) := by
  unfold enumI
  rw [List.zipIdx_map, List.map_map, List.map_map]
  rfl
theorem mem_enumI {α : Type} {xs : List α} {p : Int × α} : p ∈ enumI xs ↔ ∃ k : Nat, p.1 = (k : Int) ∧ xs[k]? = some p.2 := by
  unfold enumI
  rw [List.mem_map]
  constructor
  · rintro ⟨⟨x, k⟩, h, rfl⟩
    rw [List.mem_zipIdx_iff_getElem?] at h
    exact ⟨k, rfl, h⟩
  · rintro ⟨k, h1, h2⟩
    exact ⟨(p.2, k), by rw [List.mem_zipIdx_iff_getElem?]; exact h2, by obtain ⟨a, b⟩ := p; simp only at h1; rw [h1]⟩
theorem enumI_len {α : Type} {xs : List α} : (enumI xs).length = xs.length := by unfold enumI; simp
theorem fmod_pos {a b : Int} (h : 0 < b) : Int.fmod a b = a % b := Int.fmod_eq_emod_of_nonneg _ (by omega)
theorem fdiv_pos {a b : Int} (h : 0 < b) : Int.fdiv a b = a / b := Int.fdiv_eq_ediv_of_nonneg _ (by omega)
theorem fmod_b {a b : Int} (h : 0 < b) : 0 ≤ Int.fmod a b ∧ Int.fmod a b < b := by
  rw [fmod_pos h]
  exact ⟨Int.emod_nonneg _ (by omega), Int.emod_lt_of_pos _ h⟩
end FL

namespace FL
open PySem PySem.Spec PyProof.Rows L2
variable [TabCtx]
/-! ## values of any kind -/
theorem fz_D {d : D} (h : D.flt 20 d = true) {S : Sto} {n : Nat} : D.frz S n 30 d = some d := frz_flt h (by decide)
def eqR (a b : D) : Bool := (eqB [] a b).getD false
def EqOkR (a b : D) : Prop := ∀ st, eqB st a b = some (eqR a b)
theorem eq_R {a b : D} {S : Sto} (h : EqOkR a b) : eqD a b S = .ok (cB (eqR a b)) S := eqD_of (h S)
theorem ne_R {a b : D} {S : Sto} (h : EqOkR a b) : neD a b S = .ok (cB (!eqR a b)) S := neD_of (h S)
def isR (T : Ty) (d : D) : Bool := ((tyD d []).map fun t => t.le T).getD false
def TyOkR (d : D) : Prop := ∀ st, tyD d st = tyD d [] ∧ (tyD d []).isSome
theorem ev_isR {env : Env} {S : Sto} {m : EM} {T : Ty} {d : D} (h : m env S = .ok d S) (hk : TyOkR d) : eIsi T m env S = .ok (cB (isR T d)) S := by
  obtain ⟨h1, h2⟩ := hk S
  obtain ⟨t, ht⟩ := Option.isSome_iff_exists.mp h2
  unfold isR
  rw [ht]
  exact ev_isi h (by rw [h1, ht])
def sqR (d : D) : List D := (seqD d []).getD []
def SqOkR (d : D) : Prop := ∀ st, seqD d st = some (sqR d)
theorem sq_R {d : D} {S : Sto} (h : SqOkR d) : seqD d S = some ((sqR d).map cD) := by rw [h S]; simp [cD]
theorem tru_L {α : Type} {c : α → D} {xs : List α} {S : Sto} : truD (cL c xs) S = .ok (!xs.isEmpty) S := by
  show Res.ok (!(xs.map c).isEmpty) S = _
  cases xs <;> rfl
theorem tru_T {α : Type} {c : α → D} {xs : List α} {S : Sto} : truD (cT c xs) S = .ok (!xs.isEmpty) S := by
  show Res.ok (!(xs.map c).isEmpty) S = _
  cases xs <;> rfl
end FL

namespace FL
open PySem PySem.Spec PyProof.Rows L2
variable [TabCtx]
/-! ## comprehensions over what lies in the store -/
theorem compL_nilS {src : List (Nat × List D)} {g : GM} {tt : Env → Sto → Res Bool} {te : EM} {st : Sto} {env : Env} {acc : List D} (h : stillB src st = true) : compL src g tt te env [] st acc = .ok acc st := if_pos h
theorem comp_mapS {α : Type} {src : List (Nat × List D)} {g : GM} {tt : Env → Sto → Res Bool} {te : EM} {st : Sto} {env : Env} {enc : α → D} {p : α → Bool} {f : α → D} (hs : stillB src st = true) : ∀ {l : List α} {acc : List D},
    (∀ a ∈ l, ∃ env1, g (enc a) env st = .ok env1 st ∧ tt env1 st = .ok (p a) st ∧ (p a = true → te env1 st = .ok (f a) st)) → acc.length + l.length ≤ 1000000 →
    compL src g tt te env (l.map enc) st acc = .ok (acc ++ (l.filter p).map f) st
  | [], acc, _, _ => by rw [List.map_nil, compL_nilS hs, List.filter_nil, List.map_nil, List.append_nil]
  | a :: l, acc, h, hl => by
    obtain ⟨env1, h1, h2, h3⟩ := h a List.mem_cons_self
    have hl' : acc.length < 1000000 := by rw [List.length_cons] at hl; omega
    rw [List.map_cons]
    unfold compL
    rw [if_pos hs, h1]
    simp only [h2]
    cases hp : p a with
    | true =>
      simp only [if_true, h3 hp, if_pos hl', List.filter_cons, hp]
      rw [comp_mapS hs (l := l) (fun b hb => h b (List.mem_cons_of_mem _ hb)) (by rw [List.length_append, List.length_singleton]; rw [List.length_cons] at hl; omega)]
      simp
    | false =>
      simp only [Bool.false_eq_true, if_false, List.filter_cons, hp]
      exact comp_mapS hs (l := l) (fun b hb => h b (List.mem_cons_of_mem _ hb)) (by rw [List.length_cons] at hl; omega)
theorem ev_compS {α β : Type} {cx : α → D} {cy : β → D} {vs : List Nat} {mi : IM} {g : GM} {tt : Env → Sto → Res Bool} {te : EM} {env : Env} {S : Sto} {xs : List α} {p : α → Bool} {f : α → β} {src : List (Nat × List D)} (hi : mi env S = .ok (xs.map cx, src) S) (hs : stillB src S = true)
    (hb : ∀ x ∈ xs, ∃ env1, g (cx x) (wipeE env vs) S = .ok env1 S ∧ tt env1 S = .ok (p x) S ∧ (p x = true → te env1 S = .ok (cy (f x)) S)) (hl : xs.length ≤ 1000000) :
    nComp vs mi g tt te env S = .ok (((xs.filter p).map f).map cy) S := by
  rw [nComp_ap, hi, nComp_o1]
  simp only
  rw [comp_mapS hs (p := p) (f := fun x => cy (f x)) hb (by simpa using hl), List.nil_append, List.map_map]
  rfl
theorem ev_compS0 {α β : Type} {cx : α → D} {cy : β → D} {vs : List Nat} {mi : IM} {g : GM} {te : EM} {env : Env} {S : Sto} {xs : List α} {f : α → β} {src : List (Nat × List D)} (hi : mi env S = .ok (xs.map cx, src) S) (hs : stillB src S = true)
    (hb : ∀ x ∈ xs, ∃ env1, g (cx x) (wipeE env vs) S = .ok env1 S ∧ te env1 S = .ok (cy (f x)) S) (hl : xs.length ≤ 1000000) :
    nComp vs mi g noTest te env S = .ok ((xs.map f).map cy) S := by
  rw [nComp_ap, hi, nComp_o1]
  simp only
  rw [comp_mapS hs (p := fun _ => true) (f := fun x => cy (f x)) (fun a ha => by
    obtain ⟨env1, h1, h2⟩ := hb a ha
    exact ⟨env1, h1, rfl, fun _ => h2⟩) (by simpa using hl), filter_tt, List.nil_append, List.map_map]
  rfl
theorem sSeq_eq {u v : SM4} {env env' : Env} {S S' : Sto} (h : u env S = .nx env' S') : sSeq u v env S = v env' S' := by
  show (u env S).bind v = _
  rw [h]; rfl
theorem ls_T {α : Type} {c : α → D} {xs : List α} {S : Sto} : lstD (cT c xs) S = none := rfl
/-! ## places given -/
section
variable {st : Sto} {o : List SO} {l : Nat}
theorem lkP {x : SO} (h : st[l]? = some x) : (st ++ o)[l]? = some x := by
  rw [List.getElem?_append_left (List.getElem?_eq_some_iff.mp h).1]; exact h
theorem sq_P {ds : List D} (h : st[l]? = some (.lst ds)) : seqD (.loc l) (st ++ o) = some ds := seqD_loc (lkP h)
theorem ls_P {ds : List D} (h : st[l]? = some (.lst ds)) : lstD (.loc l) (st ++ o) = some ds := lstD_loc (lkP h)
theorem md_P {ds : List D} (h : st[l]? = some (.lst ds)) : madeD (.loc l) (st ++ o) = some ds := by
  show (match (st ++ o)[l]? with | some (.lst ds) => some ds | _ => none) = _
  rw [lkP h]
theorem dic_P {ds : List D} (h : st[l]? = some (.lst ds)) : dicD (.loc l) (st ++ o) = none := dicD_loc (lkP h)
theorem isLst_P {ds : List D} (h : st[l]? = some (.lst ds)) : isLst (.loc l) (st ++ o) = true := isLst_loc (lkP h)
theorem still_P {ds : List D} (h : st[l]? = some (.lst ds)) : stillB [(l, ds)] (st ++ o) = true := by
  rw [still_iff]
  intro p hp
  rw [List.mem_singleton.mp hp]
  exact lkP h
theorem dicD_P {kvs : List (Key × D)} (h : st[l]? = some (.dic kvs)) : dicD (.loc l) (st ++ o) = some kvs := by
  show (match (st ++ o)[l]? with | some (.dic kvs) => some kvs | _ => none) = _
  rw [lkP h]
theorem seqD_dP {kvs : List (Key × D)} (h : st[l]? = some (.dic kvs)) : seqD (.loc l) (st ++ o) = none := by
  show (match (st ++ o)[l]? with | some (.lst ds) => some ds | _ => none) = _
  rw [lkP h]
theorem ixK_gen {α : Type} [Inhabited α] {c : α → D} {m : List (Int × α)} {S : Sto} {d : D} {k : Int} (hs : seqD d S = none) (h : dicD d S = some (kE c m)) (hk : hasK m k = true) : ixD d (cI k) S = .ok (c (getK m k)) S := by
  have e : ixD d (cI k) S = (match seqD d S with
      | some ds => (match atI ds k with | some x => Res.ok x S | none => .bad)
      | none => match dicD d S with
        | some kvs => (match dget kvs (Sum.inl k) with | some x => .ok x S | none => .bad)
        | none => .bad) := by
    cases d with
    | str z => cases h
    | _ => rfl
  rw [e, hs, h]
  simp only [dget_kE]
  obtain ⟨p, hp⟩ := has_find hk
  unfold getK
  rw [hp]; rfl
theorem ixK_P {α : Type} [Inhabited α] {c : α → D} {m : List (Int × α)} {k : Int} (h : st[l]? = some (.dic (kE c m))) (hk : hasK m k = true) : ixD (.loc l) (cI k) (st ++ o) = .ok (c (getK m k)) (st ++ o) := ixK_gen (seqD_dP h) (dicD_P h) hk
theorem inK_gen {α : Type} {c : α → D} {m : List (Int × α)} {S : Sto} {d : D} {k : Int} (h : dicD d S = some (kE c m)) : inB (cI k) d S = some (hasK m k) := by
  unfold inB
  rw [h]
  simp only [show keyD (cI k) = some (Sum.inl k) from rfl, dget_kE]
  congr 1
  cases q : hasK m k with
  | true => obtain ⟨p, hp⟩ := has_find q; rw [hp]; rfl
  | false =>
    have : (m.find? fun p => decide (p.1 = k)) = none := by
      rw [List.find?_eq_none]
      intro p hp hk
      have : hasK m k = true := List.any_eq_true.mpr ⟨p, hp, hk⟩
      rw [q] at this; cases this
    rw [this]; rfl
theorem inK_P {α : Type} {c : α → D} {m : List (Int × α)} {k : Int} (h : st[l]? = some (.dic (kE c m))) : inD (cI k) (.loc l) (st ++ o) = .ok (cB (hasK m k)) (st ++ o) := by
  show (match inB (cI k) (.loc l) (st ++ o) with | some b => Res.ok (D.bl b) (st ++ o) | none => .bad) = _
  rw [inK_gen (dicD_P h)]
theorem ninK_P {α : Type} {c : α → D} {m : List (Int × α)} {k : Int} (h : st[l]? = some (.dic (kE c m))) : ninD (cI k) (.loc l) (st ++ o) = .ok (cB (!hasK m k)) (st ++ o) := by
  show (match inB (cI k) (.loc l) (st ++ o) with | some b => Res.ok (D.bl (!b)) (st ++ o) | none => .bad) = _
  rw [inK_gen (dicD_P h)]
theorem lenK_gen {α : Type} {c : α → D} {m : List (Int × α)} {S : Sto} {d : D} (hs : seqD d S = none) (h : dicD d S = some (kE c m)) : lenB [d] S = .ok (cI (m.length : Int)) S := by
  show (match seqD d S with
    | some ds => Res.ok (D.int (ds.length : Nat)) S
    | none => match dicD d S with
      | some kvs => Res.ok (D.int (kvs.length : Nat)) S
      | none => _) = _
  rw [hs, h]
  unfold kE
  simp only [List.length_map]
theorem lenK_P {α : Type} {c : α → D} {m : List (Int × α)} (h : st[l]? = some (.dic (kE c m))) : lenB [.loc l] (st ++ o) = .ok (cI (m.length : Int)) (st ++ o) := lenK_gen (seqD_dP h) (dicD_P h)
end
/-- d.get(k, x) -/
theorem get_K {α : Type} [Inhabited α] {c : α → D} {m : List (Int × α)} {S : Sto} {d : D} {k : Int} {x : α} {mo ma mb : EM} {env : Env} (ho : mo env S = .ok d S) (h : dicD d S = some (kE c m)) (ha : ma env S = .ok (cI k) S) (hb : mb env S = .ok (c x) S) :
    eGet2 mo ma mb env S = .ok (c (if hasK m k = true then getK m k else x)) S := by
  show (mo env S).bind _ = _
  rw [ho]
  show (if (dicD d S).isSome = true then _ else _) = _
  rw [h]
  show (ma env S).bind _ = _
  rw [ha]
  show (mb env S).bind _ = _
  rw [hb]
  show (match dicD d S, keyD (cI k) with
    | some kvs, some key => Res.ok ((dget kvs key).getD (c x)) S
    | _, _ => .bad) = _
  rw [h]
  simp only [show keyD (cI k) = some (Sum.inl k) from rfl, dget_kE]
  congr 1
  cases q : hasK m k with
  | true =>
    obtain ⟨p, hp⟩ := has_find q
    unfold getK
    rw [hp]; rfl
  | false =>
    have : (m.find? fun p => decide (p.1 = k)) = none := by
      rw [List.find?_eq_none]
      intro p hp hk
      have : hasK m k = true := List.any_eq_true.mpr ⟨p, hp, hk⟩
      rw [q] at this; cases this
    rw [this]; rfl
/-- sorted(d) -/
theorem keysI_kE {α : Type} {c : α → D} : ∀ {m : List (Int × α)}, keysI (kE c m) = some (m.map (·.1))
  | [] => rfl
  | p :: m => by
    show (match keysI (kE c m) with | some ns => some (p.1 :: ns) | none => none) = _
    rw [keysI_kE]; rfl
theorem sort_K {α : Type} {c : α → D} {m : List (Int × α)} {S : Sto} {d : D} (h : dicD d S = some (kE c m)) (hl : m.length < 64) : sortB2 [d] S = .ok ((srtI (m.map (·.1))).map cI) S := by
  show (match dicD d S with
    | some _ => sortB [d] S
    | none => _) = _
  rw [h]
  show sortB [d] S = _
  show (match dicD d S with
    | some kvs => match keysI kvs with
      | some ns => if ns.length < 64 then Res.ok ((srtI ns).map D.int) S else .bad
      | none => .bad
    | none => _) = _
  rw [h]
  simp only [keysI_kE, List.length_map, if_pos hl]
/-- a new dict is given back: it stays in the store -/
def RtK (st : Sto) (r : SRes) (o : SO) : Prop := r = .rt (.loc st.length) (st ++ [o])
theorem frz_dic {st : Sto} {kvs : List (Key × D)} : D.frz (st ++ [.dic kvs]) st.length 30 (.loc st.length) = none := by
  show (if st.length < st.length then _ else match (st ++ [SO.dic kvs])[st.length]? with
    | some (.lst ds) => _
    | _ => none) = _
  rw [if_neg (by omega)]
  have : (st ++ [SO.dic kvs])[st.length]? = some (.dic kvs) := by
    have := lk (st := st) (o := [SO.dic kvs]) (i := 0) (x := .dic kvs) rfl
    simpa using this
  rw [this]
theorem RtK.fin {st : Sto} {r : SRes} {kvs : List (Key × D)} (h : RtK st r (.dic kvs)) : FL.fin true st r = .ok (.loc st.length) (st ++ [.dic kvs]) := by
  rw [h]
  show finD true st (st ++ [.dic kvs]) (.loc st.length) = _
  unfold finD
  rw [if_pos chk_app, if_neg (by simp [D.blw]), if_pos rfl, frz_dic]
theorem RtK.enter {st : Sto} {b : SM4} {env : Env} {kvs : List (Key × D)} (h : RtK st (b env (st ++ [])) (.dic kvs)) : FL.fin true st (b env st) = .ok (.loc st.length) (st ++ [.dic kvs]) := by
  have := h.fin
  rwa [List.append_nil] at this
theorem rk_ret {st : Sto} {m : EM} {v : SM4} {env : Env} {o : SO} (h : m env (st ++ [o]) = .ok (.loc (st.length + 0)) (st ++ [o])) : RtK st (sSeq (sRet m) v env (st ++ [o])) o := by
  show ((sRet m) env (st ++ [o])).bind v = _
  rw [sRet_ap, h]; rfl
theorem rk_nx {st : Sto} {u v : SM4} {env env' : Env} {S S' : Sto} {o : SO} (h : u env S = .nx env' S') (k : RtK st (v env' S') o) : RtK st (sSeq u v env S) o := by
  show RtK st ((u env S).bind v) o
  rw [h]; exact k
theorem rk_N {st : Sto} {u v : SM4} {env : Env} {S : Sto} {o : SO} {P : Env → Sto → Prop} (h : NxP (u env S) P) (k : ∀ env' S', P env' S' → RtK st (v env' S') o) : RtK st (sSeq u v env S) o := by
  obtain ⟨env', S', h, hp⟩ := h
  exact rk_nx h (k _ _ hp)
/-- .. as the caller sees it -/
theorem call_K {st : Sto} {o : List SO} {n i : Nat} {f : Fn} {ms : Env → Sto → Res (List D)} {env : Env} {ds : List D} {x : SO} (h : ms env (st ++ o) = .ok ds (st ++ o)) (hl : ds.length = n) (hi : o.length = i) (hf : f ds (st ++ o) = .ok (.loc (st ++ o).length) ((st ++ o) ++ [x])) :
    eCall n f ms env (st ++ o) = .ok (.loc (st.length + i)) (st ++ (o ++ [x])) := by
  rw [ev_call h hl hf, List.length_append, hi, List.append_assoc]
end FL

namespace FL
open PySem PySem.Spec PyProof.Rows L2
variable [TabCtx]
/-! ## the least and the greatest of a tuple; a tuple's place of -/
section
variable {X : Cx}
def rBestT (K : PySem.W.Frag) (up : Bool) : List V → Hp → VK → Prop := fun vs H Q => ∃ (p : Addr) (ns : List Int), vs = [V.ref p] ∧ SqT K H p (ns.map V.int) ∧ ns ≠ [] ∧ ∀ m, m ∈ ns → (∀ j ∈ ns, if up = true then j ≤ m else m ≤ j) → Q (.int m) H
theorem numAt_list {ns : List Int} {its : List Value} (hi : IntsAre its ns) {i : Nat} {v : Value} (h : its.toArray[i]? = some v) : ∃ t, v = Value.int (ns.getD i 0) t := by
  rw [List.getElem?_toArray] at h
  obtain ⟨hl, e⟩ := List.getElem?_eq_some_iff.mp h
  have hn : i < ns.length := by rw [← hi.length]; exact hl
  have := hi
  clear h
  induction hi generalizing i with
  | nil => exact absurd hl (Nat.not_lt_zero _)
  | cons y t r ih =>
    cases i with
    | zero => exact ⟨t, by rw [← e] <;> rfl⟩
    | succ i => exact ih (i := i) (Nat.lt_of_succ_lt_succ hl) e (Nat.lt_of_succ_lt_succ hn) r
theorem cr_minT (hc : X.calm = true) : CallR X (.builtin "min") (rBestT X.K false) := by
  intro pins s σ H vs us Q I r h
  obtain ⟨p, ns, rfl, hq, hne, q⟩ := h
  rw [Vals.ref1 r]
  obtain ⟨its, rv, pl, hz⟩ := I.tuple hq
  have hi := rv.ints
  have hT : s.heap.IsTuple p its.toArray := by
    obtain ⟨o, e, c, n, d⟩ := pl
    exact ⟨o, e, c, n, d⟩
  have hlt : p < s.heap.objs.size := by obtain ⟨_, e, _⟩ := hT; exact Heap.lt_size e
  have hsz : its.toArray.size = ns.length := by rw [List.size_toArray, hi.length]
  have hpos : 0 < ns.length := List.length_pos_iff.mpr hne
  refine call_min_walk (wpAny_pyIter_tuple hT ?_)
  refine ⟨_, _, _, _, _, _, _, rfl, Walks.tuple (A := X.A.in1) (I.ok.hd hc) s.heap.objs.size p (Nat.ne_of_lt hlt) its.toArray, ⟨⟨_, Heap.get?_push_size _ rfl, rfl, rfl⟩, hT.push _⟩, fun b hb => ?_, by rw [hsz]; exact hpos,
    CmpOf.ints_lt (fun i => ns.getD i 0) (fun i v hv => numAt_list hi hv), fun v h' tk hP hk => ?_⟩
  · rcases List.mem_cons.mp hb with rfl | hb
    · show _ < (s.heap.push _).objs.size
      rw [Heap.size_push]
      exact Nat.lt_succ_self _
    · show _ < (s.heap.push _).objs.size
      rw [Heap.size_push, List.mem_singleton.mp hb]
      exact Nat.lt_succ_of_lt hlt
  · obtain ⟨t, rfl⟩ := numAt_list hi hP
    obtain ⟨b1, b2⟩ := argBest_lt (fun i => ns.getD i 0) (its.toArray.size - 1)
    refine ⟨.int _, H, I.kept (t' := tk) fun b u e => hk b u (fun hmem => ?_) (Heap.get?_push_of_some _ e), ⟨t, rfl⟩, q _ ?_ fun j hj => ?_⟩
    · have e2 := Heap.lt_size e
      rw [List.mem_singleton.mp hmem] at e2
      exact Nat.lt_irrefl _ e2
    · have hb : argBest (fun i j => decide (ns.getD i 0 < ns.getD j 0)) (its.toArray.size - 1) < ns.length := by omega
      rw [List.getD_eq_getElem?_getD, List.getElem?_eq_getElem hb]
      exact List.getElem_mem hb
    · obtain ⟨i, hl, e⟩ := List.getElem_of_mem hj
      have := b2 i (by omega)
      simp only [Bool.false_eq_true, if_false]
      rw [← e, show ns[i] = ns.getD i 0 from by rw [List.getD_eq_getElem?_getD, List.getElem?_eq_getElem hl] <;> rfl]
      exact this
theorem cr_maxT (hc : X.calm = true) : CallR X (.builtin "max") (rBestT X.K true) := by
  intro pins s σ H vs us Q I r h
  obtain ⟨p, ns, rfl, hq, hne, q⟩ := h
  rw [Vals.ref1 r]
  obtain ⟨its, rv, pl, hz⟩ := I.tuple hq
  have hi := rv.ints
  have hT : s.heap.IsTuple p its.toArray := by
    obtain ⟨o, e, c, n, d⟩ := pl
    exact ⟨o, e, c, n, d⟩
  have hlt : p < s.heap.objs.size := by obtain ⟨_, e, _⟩ := hT; exact Heap.lt_size e
  have hsz : its.toArray.size = ns.length := by rw [List.size_toArray, hi.length]
  have hpos : 0 < ns.length := List.length_pos_iff.mpr hne
  refine call_max_walk (wpAny_pyIter_tuple hT ?_)
  refine ⟨_, _, _, _, _, _, _, rfl, Walks.tuple (A := X.A.in1) (I.ok.hd hc) s.heap.objs.size p (Nat.ne_of_lt hlt) its.toArray, ⟨⟨_, Heap.get?_push_size _ rfl, rfl, rfl⟩, hT.push _⟩, fun b hb => ?_, by rw [hsz]; exact hpos,
    CmpOf.ints_gt (fun i => ns.getD i 0) (fun i v hv => numAt_list hi hv), fun v h' tk hP hk => ?_⟩
  · rcases List.mem_cons.mp hb with rfl | hb
    · show _ < (s.heap.push _).objs.size
      rw [Heap.size_push]
      exact Nat.lt_succ_self _
    · show _ < (s.heap.push _).objs.size
      rw [Heap.size_push, List.mem_singleton.mp hb]
      exact Nat.lt_succ_of_lt hlt
  · obtain ⟨t, rfl⟩ := numAt_list hi hP
    obtain ⟨b1, b2⟩ := argBest_gt (fun i => ns.getD i 0) (its.toArray.size - 1)
    refine ⟨.int _, H, I.kept (t' := tk) fun b u e => hk b u (fun hmem => ?_) (Heap.get?_push_of_some _ e), ⟨t, rfl⟩, q _ ?_ fun j hj => ?_⟩
    · have e2 := Heap.lt_size e
      rw [List.mem_singleton.mp hmem] at e2
      exact Nat.lt_irrefl _ e2
    · have hb : argBest (fun i j => decide (ns.getD i 0 > ns.getD j 0)) (its.toArray.size - 1) < ns.length := by omega
      rw [List.getD_eq_getElem?_getD, List.getElem?_eq_getElem hb]
      exact List.getElem_mem hb
    · obtain ⟨i, hl, e⟩ := List.getElem_of_mem hj
      have := b2 i (by omega)
      simp only [if_true]
      rw [← e, show ns[i] = ns.getD i 0 from by rw [List.getD_eq_getElem?_getD, List.getElem?_eq_getElem hl] <;> rfl]
      exact this
def minC : List D → Sto → Res D
  | [.tup ds], st => match intsD ds with
    | some (i :: r) => .ok (.int (minI (i :: r))) st
    | _ => .bad
  | l, st => minB l st
def maxC : List D → Sto → Res D
  | [.tup ds], st => match intsD ds with
    | some (i :: r) => .ok (.int (maxI (i :: r))) st
    | _ => .bad
  | l, st => maxB l st
theorem bi_minC (hc : X.calm = true) : BiF X (.builtin "min") minC := by
  obtain ⟨rr, c1, c2⟩ := bi_min hc
  refine ⟨_, CallR.or (cr_minT hc) c1, fun E H r st ds xs Q s v h => ?_⟩
  unfold minC at h
  split at h
  · rename_i ds
    obtain ⟨x, rfl, w⟩ := vds1 v
    split at h
    · rename_i i rr q2
      obtain ⟨a, ys, rfl, h1, h2⟩ := id w
      rw [intsD_eq q2] at h2
      have h3 := h1.sq
      rw [vds_ints h2] at h3
      refine .inl ⟨a, _, rfl, h3, by simp, fun m m1 m2 => ?_⟩
      rw [← minI_eq (by simp) m1 (fun j hj => by simpa using m2 j hj)]
      exact RES.ok h s rfl
    · exact h.elim
  · exact .inr (c2 E H r st _ xs Q s v h)
theorem bi_maxC (hc : X.calm = true) : BiF X (.builtin "max") maxC := by
  obtain ⟨rr, c1, c2⟩ := bi_max hc
  refine ⟨_, CallR.or (cr_maxT hc) c1, fun E H r st ds xs Q s v h => ?_⟩
  unfold maxC at h
  split at h
  · rename_i ds
    obtain ⟨x, rfl, w⟩ := vds1 v
    split at h
    · rename_i i rr q2
      obtain ⟨a, ys, rfl, h1, h2⟩ := id w
      rw [intsD_eq q2] at h2
      have h3 := h1.sq
      rw [vds_ints h2] at h3
      refine .inl ⟨a, _, rfl, h3, by simp, fun m m1 m2 => ?_⟩
      rw [← maxI_eq (by simp) m1 (fun j hj => by simpa using m2 j hj)]
      exact RES.ok h s rfl
    · exact h.elim
  · exact .inr (c2 E H r st _ xs Q s v h)
theorem minC_l {d : D} {S : Sto} {r : D} (h : minB [d] S = .ok r S) : minC [d] S = .ok r S := by
  cases d <;> first | exact h | exact h.elim | (rw [minB_one] at h; cases h)
theorem maxC_l {d : D} {S : Sto} {r : D} (h : maxB [d] S = .ok r S) : maxC [d] S = .ok r S := by
  cases d <;> first | exact h | exact h.elim | (rw [maxB_one] at h; cases h)
theorem minT_c {xs : List Int} {S : Sto} (hn : xs ≠ []) : minC [cT cI xs] S = .ok (cI (minI xs)) S := by
  show (match intsD (xs.map cI) with | some (i :: r) => Res.ok (D.int (minI (i :: r))) S | _ => .bad) = _
  rw [show xs.map cI = xs.map D.int from rfl, intsD_map]
  cases xs with
  | nil => exact absurd rfl hn
  | cons i r => rfl
theorem maxT_c {xs : List Int} {S : Sto} (hn : xs ≠ []) : maxC [cT cI xs] S = .ok (cI (maxI xs)) S := by
  show (match intsD (xs.map cI) with | some (i :: r) => Res.ok (D.int (maxI (i :: r))) S | _ => .bad) = _
  rw [show xs.map cI = xs.map D.int from rfl, intsD_map]
  cases xs with
  | nil => exact absurd rfl hn
  | cons i r => rfl
theorem minC2_c {i j : Int} {S : Sto} : minC [cI i, cI j] S = .ok (cI (min i j)) S := min2_c
theorem maxC2_c {i j : Int} {S : Sto} : maxC [cI i, cI j] S = .ok (cI (max i j)) S := max2_c
theorem minC_c {xs : List Int} {d : D} {S : Sto} (h : lstD d S = some (xs.map cI)) (hn : xs ≠ []) : minC [d] S = .ok (cI (minI xs)) S := minC_l (min_c h hn)
theorem maxC_c {xs : List Int} {d : D} {S : Sto} (h : lstD d S = some (xs.map cI)) (hn : xs ≠ []) : maxC [d] S = .ok (cI (maxI xs)) S := maxC_l (max_c h hn)
end
end FL

namespace FL
open PySem PySem.Spec PyProof.Rows L2
variable [TabCtx]
/-! ## set(l), l a list of whole numbers -/
abbrev sObj (w : World) : Obj := { cls := .type "set", dict := none, data := .set #[] 0 (.fresh 0 0 (!w.params.followText "set-order")) }
section
variable {P : Program} {w : World} {A : Around} {E : Value → Shared → Prop} {s : Shared}
set_option maxHeartbeats 6400000 in
theorem set_of_list {l : Addr} {its : Array Value} (ns : List Int) {Q : Value → Shared → Prop} (hA : A.handled = none) (hl : s.heap.IsList l its) (hit : IntsAre its.toList ns) (hb : ns.length + 1 < scanBound)
    (h : ∀ (g : Heap) (tk c : Nat), SetR w g s.heap.objs.size (fun j => decide (j ∈ ns)) c → c ≤ ns.length → (∀ b o, s.heap.get? b = some o → g.get? b = some o) → Q (.ref s.heap.objs.size) { s with heap := g, toks := tk }) :
    wpAny (model P w) A (call (.type "set") [.ref l]) Q E s := by
  have hz : its.size = ns.length := by have q := IntsAre.length hit; rw [Array.length_toList] at q; exact q
  obtain ⟨c, tl, hmro⟩ := F.called_set.mro
  have hmade := F.called_set.made
  have hsub := F.called_set.sub
  refine wpAny_call (codeAny_of_tree (by
    show wpAny _ _ (callAny (.type "set") _) _ _ _
    refine wpAny_pure ⟨Code.quiet_builtin _ (by decide +kernel), codeAny_builtin F.entry_type_call ?_⟩
    rw [Around.under_plain (weight_type_call_type "set" [.ref l] []) rfl]
    have i1 := F.called_set.notType
    have i2 := F.called_set.canCreate
    have i3 := F.typeCall_set_1 (.ref l)
    repeat (any_goals first | assumption | wp_step)
    refine codeAny_mono (code_set_led1 (.ref l) (E := E) (Q₁ := fun ob s1 => ob = .ref s.heap.objs.size ∧ s1 = { s with heap := s.heap.push (sObj w) }) ⟨rfl, rfl⟩) fun r s1 hr => ?_
    cases r with
    | error e => exact hr
    | ok fl =>
      cases fl with
      | ret ob =>
        obtain ⟨rfl, rfl⟩ := hr
        have g0 : (s.heap.push (sObj w)).get? s.heap.objs.size = some (sObj w) := Heap.get?_push_size _ rfl
        have t0 : Shared.TypeIs { s with heap := s.heap.push (sObj w) } (.ref s.heap.objs.size) "set" := ⟨_, g0, rfl⟩
        have i4 := F.called_set.init.lookup
        have i5 := F.called_set.init.bind (.ref s.heap.objs.size)
        repeat (any_goals first | assumption | wp_step)
        refine codeAny_mono (codeAny_call_builtin (R := wants (fun r s2 => r = .none ∧ ∃ g tk c, s2 = { s with heap := g, toks := tk } ∧ SetR w g s.heap.objs.size (fun j => decide (j ∈ ns)) c ∧ c ≤ ns.length ∧ (∀ b o, s.heap.get? b = some o → g.get? b = some o)) E)
          F.called_set.init.plain F.entry_set_init (check_set_init_1 t0 (by
            obtain ⟨⟨oc, od, oda, os⟩, e1, e2, nl, e3⟩ := hl
            simp only at e2 e3
            subst e2; subst e3
            have g1 : (s.heap.push (sObj w)).get? l = some { cls := .type "list", dict := od, data := .seq its nl, slots := os } := Heap.get?_push_of_some _ e1
            have j1 := F.sub_list_set
            have j2 := F.sub_list_frozenset
            have j3 : (Value.type "list" == Value.type "dict") = false := by decide
            have l1 : (s.heap.push (sObj w)).IsList l its := ⟨_, g1, rfl, nl, rfl⟩
            unfold Builtin.«set.__init__» noKeywords Builtin.Frozenset.updateFrom
            generalize hPI : pyIter = PI
            wp_walk
            subst hPI
            refine wpAny_pyIter_list l1 (wpAny_bind (wpAny_runValue ?_))
            have lt := Heap.lt_size e1
            have hn3 : A.in1.in1.in1.handled = none := by simp [hA]
            have up1 : s.heap.objs.size < (s.heap.push (sObj w)).objs.size := by rw [Heap.size_push]; exact Nat.lt_succ_self _
            have ne1 : l ≠ (s.heap.push (sObj w)).objs.size := Nat.ne_of_lt (Nat.lt_trans lt up1)
            have nf : s.heap.objs.size ∉ [(s.heap.push (sObj w)).objs.size, l] := by
              simp only [List.mem_cons, List.not_mem_nil, or_false, not_or]; exact ⟨Nat.ne_of_lt up1, Nat.ne_of_gt lt⟩
            have hv : ∀ (i : Nat) (v : Value), its[i]? = some v → ∃ k t, ns[i]? = some k ∧ v = .int k t := fun i v q => by
              have hi : i < ns.length := by rw [← hz]; exact (Array.getElem?_eq_some_iff.mp q).1
              obtain ⟨t, e⟩ := PyProof.Rows.IntsAre.int_at hit i v (by rw [Array.getElem?_toList]; exact q)
              exact ⟨ns[i], t, List.getElem?_eq_getElem hi, by rw [e, List.getD_eq_getElem?_getD, List.getElem?_eq_getElem hi] <;> rfl⟩
            refine set_update_ints ((Walks.list hn3 _ l ne1 its).toS) s.heap.objs.size nf ns hz hb hv (its.size - 0) 0 _ (by omega) (Nat.zero_le _) ⟨⟨_, Heap.get?_push_size _ rfl, rfl, rfl⟩, l1.push _⟩ ⟨0, Nat.le_refl 0, setR_new_at (Heap.get?_push_of_some _ g0)⟩ ?fin
            case fin =>
              intro s3 c3 hm hc3 hS3
              obtain ⟨g3, gg, gd, tk3, go⟩ := s3
              have q1 : gg = s.gens := hm.gens
              have q2 : gd = s.drawn := hm.drawn
              have q3 : go = s.os := hm.os
              subst q1; subst q2; subst q3
              show wpAny _ _ _ _ _ _
              refine wpAny_pure (by
                show wpAny _ _ (ret Value.none) _ _ _
                rw [hz] at hc3
                refine wpAny_pure ⟨rfl, g3, tk3, c3, rfl, hS3, hc3, fun b o e => hm.heap b o ?_ (Heap.get?_push_of_some _ (Heap.get?_push_of_some _ e))⟩
                have b0 := Heap.lt_size e
                simp only [List.mem_cons, List.not_mem_nil, or_false, not_or]
                exact ⟨Nat.ne_of_lt b0, Nat.ne_of_lt (Nat.lt_trans b0 up1)⟩)))) fun r2 s2 hr2 => ?_
        cases r2 with
        | error e => exact hr2
        | ok fl2 =>
          cases fl2 with
          | ret r =>
            obtain ⟨rfl, g, tk, c, rfl, k1, k2, k3⟩ := hr2
            repeat (any_goals first | assumption | wp_step)
            exact h _ _ _ k1 k2 k3
          | _ => exact hr2.elim
      | _ => exact hr.elim))
end
section
variable {X : Cx}
/-- a set of the whole numbers of a list -/
def rSetL (K : PySem.W.Frag) (w : World) : List V → Hp → VK → Prop := fun vs H Q => ∃ (a : Addr) (ns : List Int), vs = [V.ref a] ∧ SqL K H a (ns.map V.int) ∧ ns.length + 1 < scanBound ∧
  ∀ p c, H p = none → c ≤ ns.length → Q (.ref p) (upd H p (SetO w p (fun j => decide (j ∈ ns)) c))
theorem cr_setL (hc : X.calm = true) : CallR X (.type "set") (rSetL X.K X.w) := by
  intro pins s σ H vs us Q I r h
  obtain ⟨a, ns, rfl, hq, hb, q⟩ := h
  rw [Vals.ref1 r]
  obtain ⟨its, rv, pl, _⟩ := I.list hq
  refine set_of_list ns (I.ok.hd hc) pl.isList rv.ints hb fun g tk c R hle k => ?_
  exact ⟨.ref _, upd H s.heap.objs.size (SetO X.w s.heap.objs.size (fun j => decide (j ∈ ns)) c), I.laid (t' := tk) k (Nat.le_refl _) (setO_new R), rfl, q _ c (I.hok.fresh (Nat.le_refl _)) hle⟩
end
end FL

namespace FL
open PySem PySem.Spec PyProof.Rows L2
variable [TabCtx]
/-! ## sorted(set(l)) -/
def uniI : List Int → List Int
  | [] => []
  | i :: r => if i ∈ uniI r then uniI r else i :: uniI r
theorem uniI_mem {k : Int} : ∀ {l : List Int}, k ∈ uniI l ↔ k ∈ l
  | [] => Iff.rfl
  | i :: r => by
    unfold uniI
    split
    · rename_i h
      rw [uniI_mem, List.mem_cons]
      exact ⟨.inr, fun q => q.elim (fun e => e ▸ uniI_mem.mp h) id⟩
    · rw [List.mem_cons, List.mem_cons, uniI_mem]
theorem uniI_nodup : ∀ {l : List Int}, (uniI l).Nodup
  | [] => List.nodup_nil
  | i :: r => by
    unfold uniI
    split
    · exact uniI_nodup
    · rename_i h
      exact List.nodup_cons.mpr ⟨h, uniI_nodup⟩
theorem uniI_len : ∀ {l : List Int}, (uniI l).length ≤ l.length
  | [] => Nat.le_refl _
  | i :: r => by
    have := uniI_len (l := r)
    unfold uniI
    split <;> simp <;> omega
/-- each number once, the least first -/
def srtU (l : List Int) : List Int := srtI (uniI l)
theorem srtU_mem {k : Int} {l : List Int} : k ∈ srtU l ↔ k ∈ l := by unfold srtU; rw [(srtI_perm _).mem_iff, uniI_mem]
theorem srtU_eq {m l : List Int} (h : m.Pairwise (· < ·)) (h2 : ∀ k, k ∈ m ↔ k ∈ l) : m = srtU l := by
  refine srtI_eq ((List.perm_ext_iff_of_nodup (h.imp fun h => Int.ne_of_lt h) uniI_nodup).mpr fun k => ?_) (h.imp fun h => Int.le_of_lt h)
  rw [h2, uniI_mem]
theorem srtU_len {l : List Int} : (srtU l).length ≤ l.length := by unfold srtU; rw [(srtI_perm _).length_eq]; exact uniI_len
def sortSB : List D → Sto → Res (List D)
  | [d], st => match lstD d st with
    | some es => match intsD es with
      | some ns => if ns.length < 64 then .ok ((srtU ns).map .int) st else .bad
      | none => .bad
    | none => .bad
  | _, _ => .bad
section
variable {X : Cx} {W : WX} {es : List Expr} {e : Expr} {ms : Env → Sto → Res (List D)} {x y : Str} {p pos p2 pos2 : Pos}
theorem fn_sortSet (hc : X.calm = true) (hg : Gl X x) (hm : X.mg x = none) (hv : bootBuiltins x = some (.builtin "sorted")) (gy : Gl X y) (my : X.mg y = none) (hy : bootBuiltins y = some (.type "set")) (ha : FA X W [e] ms)
    (hn : x ≠ "__name__" := by decide) (hdb : (x == ("__debug__" : Str)) = false := by decide) (ny : y ≠ "__name__" := by decide) (dy : (y == ("__debug__" : Str)) = false := by decide)
    (he : starEach [e] X.env = (false, eval e X.env) :: starEach [] X.env := by rfl) :
    FN X W (.Call (.Name x p) [.Call (.Name y p2) [e] [] pos2] [] pos) (nB sortSB ms) := by
  have inner := pe_callTy (pos := pos2) (p := p2) (cr_setL hc) gy my hy ha ny dy he (by rfl)
  refine PE.imp (pe_callB (pos := pos) (p := p) (cr_sortedSet hc) hg hm hv (pa_cons inner pa_nil (by rfl)) hn hdb (by rfl) (by rfl)) fun σ H Q ⟨r, env, st, hE, hS, h⟩ => ?_
  refine ⟨r, env, st, hE, hS, RES.seq h fun ds st1 xs H1 r1 e1 s1 v1 h1 => ?_⟩
  unfold sortSB at h1
  split at h1
  · rename_i d
    obtain ⟨z, rfl, w⟩ := vds1 v1
    cases q : lstD d st1 with
    | none => simp only [q] at h1; exact h1.elim
    | some es =>
      simp only [q] at h1
      cases q2 : intsD es with
      | none => simp only [q2] at h1; exact h1.elim
      | some ns =>
        simp only [q2] at h1
        by_cases hl : ns.length < 64
        · rw [if_pos hl] at h1
          obtain ⟨a, ys, rfl, k1, k2⟩ := lstD_v s1 q w
          rw [intsD_eq q2] at k1
          rw [vds_ints k1] at k2
          refine ⟨a, ns, rfl, k2, by have : (64 : Nat) < scanBound := by decide
                                     omega, fun p c hp hc2 => ?_⟩
          refine ⟨p, _, c, rfl, upd_same, by omega, fun ms' p2 hms hmem hml hp2 => ?_⟩
          rw [srtU_eq hms (fun k => (hmem k).trans decide_eq_true_iff)]
          exact RES.ok' h1 (Ext.fresh hp) (s1.fresh hp) (VDs.ints _) p2 hp2
        · rw [if_neg hl] at h1; exact h1.elim
  · exact h1.elim
end
theorem sortS_c {xs : List Int} {d : D} {S : Sto} (h : lstD d S = some (xs.map cI)) (hl : xs.length < 64) : sortSB [d] S = .ok ((srtU xs).map cI) S := by
  show (match lstD d S with
    | some es => match intsD es with
      | some ns => if ns.length < 64 then Res.ok ((srtU ns).map D.int) S else .bad
      | none => .bad
    | none => .bad) = _
  rw [h, show xs.map cI = xs.map D.int from rfl]
  simp only [intsD_map, if_pos hl]
/-! ## l.index(x), x and l's things data -/
section
variable {X : Cx}
theorem mt_idxP (hu : X.A.units + 64 < cLine) : MtR X "list.index" (fun x xs H Q => ∃ a ys y ps p, x = .ref a ∧ xs = [y] ∧ SqL X.K H a ys ∧ DpAll X.K H ys ps ∧ PyData.plainAll ps = true ∧ PyOk X.K H 40 y p ∧
    true ∈ (ps.map fun z => PyData.eqv z p) ∧ Q (.int ((ps.map fun z => PyData.eqv z p).idxOf true : Nat)) H) := by
  intro pins s σ H x xs v us Q I rx rs h
  obtain ⟨a, ys, y, ps, p, rfl, rfl, hq, hd, hp, ⟨o1, o2, o3⟩, hm, q⟩ := h
  cases rx
  cases rs with
  | cons ry rt =>
    rename_i uy ut
    cases rt
    obtain ⟨its, rv, pl, hz⟩ := I.list hq
    obtain ⟨as, r1⟩ := Dp.readsAll I ps ys its hd rv
    obtain ⟨bs, r2⟩ := Dp.reads I p y uy o1 ry
    have em := SeqAt.readsAll_map_plain ps its as hp r1
    have hl := congrArg List.length em
    rw [List.length_map] at hl
    refine SeqAt.call_list_index (α := Bool) (vs := its) (ks := ps.map fun z => PyData.eqv z p) (k := true) pl.isList ⟨by rw [List.length_map, hl], fun j h1 h2 => ?_⟩ ?_ hm ⟨.int _, H, I.tok _, ⟨_, rfl⟩, q⟩
    · have := SeqAt.items_plain (A := X.A) (vs := its.toArray) (x := uy) (by simpa using r1) r2 hp o2 (Nat.lt_of_le_of_lt (Nat.add_le_add_left (Nat.min_le_right _ _) _) (by omega)) its[j] (by simp)
      refine this.cast ?_
      have h3 : j < ps.length := by rw [← hl]; exact h1
      have e : SeqAt.readOf s.heap its[j] = ps[j] := by
        have : (its.map (SeqAt.readOf s.heap))[j]? = ps[j]? := by rw [em]
        rw [List.getElem?_map, List.getElem?_eq_getElem h1, List.getElem?_eq_getElem h3] at this
        exact Option.some.inj this
      rw [e, List.getElem_map]
      cases PyData.eqv ps[j] p <;> rfl
    · have := rv.length
      rw [List.length_map]
      omega
/-- the same of a tuple -/
theorem mt_idxT (hu : X.A.units + 64 < cLine) : MtR X "tuple.index" (fun x xs H Q => ∃ a ys y ps p, x = .ref a ∧ xs = [y] ∧ SqT X.K H a ys ∧ DpAll X.K H ys ps ∧ PyData.plainAll ps = true ∧ PyOk X.K H 40 y p ∧
    true ∈ (ps.map fun z => PyData.eqv z p) ∧ Q (.int ((ps.map fun z => PyData.eqv z p).idxOf true : Nat)) H) := by
  intro pins s σ H x xs v us Q I rx rs h
  obtain ⟨a, ys, y, ps, p, rfl, rfl, hq, hd, hp, ⟨o1, o2, o3⟩, hm, q⟩ := h
  cases rx
  cases rs with
  | cons ry rt =>
    rename_i uy ut
    cases rt
    obtain ⟨its, rv, pl, hz⟩ := I.tuple hq
    obtain ⟨as, r1⟩ := Dp.readsAll I ps ys its hd rv
    obtain ⟨bs, r2⟩ := Dp.reads I p y uy o1 ry
    have em := SeqAt.readsAll_map_plain ps its as hp r1
    have hl := congrArg List.length em
    rw [List.length_map] at hl
    refine SeqAt.call_tuple_index (α := Bool) (vs := its) (ks := ps.map fun z => PyData.eqv z p) (k := true) pl ⟨by rw [List.length_map, hl], fun j h1 h2 => ?_⟩ hm ⟨.int _, H, I.tok _, ⟨_, rfl⟩, q⟩
    have := SeqAt.items_plain (A := X.A) (vs := its.toArray) (x := uy) (by simpa using r1) r2 hp o2 (Nat.lt_of_le_of_lt (Nat.add_le_add_left (Nat.min_le_right _ _) _) (by omega)) its[j] (by simp)
    refine this.cast ?_
    have h3 : j < ps.length := by rw [← hl]; exact h1
    have e : SeqAt.readOf s.heap its[j] = ps[j] := by
      have : (its.map (SeqAt.readOf s.heap))[j]? = ps[j]? := by rw [em]
      rw [List.getElem?_map, List.getElem?_eq_getElem h1, List.getElem?_eq_getElem h3] at this
      exact Option.some.inj this
    rw [e, List.getElem_map]
    cases PyData.eqv ps[j] p <;> rfl
def isSq (d : D) (st : Sto) : Bool := (seqD d st).isSome
def idxC : D → List D → Sto → Res D
  | d, [e], st => match seqD d st with
    | some es => match toPy 40 st e, mapO (toPy 40 st) es with
      | some p, some ps => if true ∈ (ps.map fun z => PyData.eqv z p) then .ok (.int ((ps.map fun z => PyData.eqv z p).idxOf true : Nat)) st else .bad
      | _, _ => .bad
    | none => .bad
  | _, _, _ => .bad
theorem isSq_ty {K H r st} {d : D} {x : V} (s : SR K H r st) (v : VD K H r d x) (h : isSq d st = true) : (isTup d = true ∧ TupN K H x) ∨ (isTup d = false ∧ tyV K "list" x H) := by
  obtain ⟨ds, q⟩ := Option.isSome_iff_exists.mp h
  by_cases ht : ∃ es, d = .tup es
  · obtain ⟨es, rfl⟩ := ht
    obtain ⟨a, xs, rfl, h1, _⟩ := v
    refine .inl ⟨rfl, a, rfl, ?_⟩
    rcases h1 with ⟨_, o, k1, k2⟩ | ⟨o, its, n, k1, k2, k3, _⟩
    · exact .inl ⟨xs, o, k1, k2⟩
    · exact .inr ⟨o, k1, k2, k3⟩
  · have e : isTup d = false := by cases d <;> first | rfl | exact absurd ⟨_, rfl⟩ ht
    have q2 : lstD d st = some ds := by
      revert q
      cases d <;> first | exact fun h => h | exact absurd ⟨_, rfl⟩ ht
    obtain ⟨a, xs, rfl, _, h2⟩ := lstD_v s q2 v
    exact .inr ⟨e, .inl ⟨rfl, xs, h2⟩⟩
section
variable {W : WX} {o e : Expr} {es : List Expr} {mo : EM} {ms : Env → Sto → Res (List D)} {apos cpos : Pos}
theorem fe_idx (hu : X.A.units + 64 < cLine) (hr : FE X W o mo) (ha : FA X W (e :: es) ms)
    (hbase : attributeBase o "index" X.env (eval o X.env) = eval o X.env := by rfl)
    (hfew : ((backTo cpos (starEach (e :: es) X.env)).all (fun x => !x.1) && (backToKw cpos (keywordEach [] X.env)).all (fun x => x.1.isSome)
      && decide ((e :: es).length + ([] : List Keyword).length + (if ([] : List Keyword).isEmpty then 0 else 1) < 30)) = true := by rfl)
    (hline : (apos.endLine == cpos.line) = true := by rfl) (hs : starEach (e :: es) X.env = (false, eval e X.env) :: starEach es X.env := by rfl) (hplain : (backTo cpos (starEach es X.env)).any (·.1) = false := by rfl) :
    FE X W (.Call (.Attribute o "index" apos) (e :: es) [] cpos) (eMt isSq idxC mo ms) := by
  refine PE.imp (pe_tm ⟨PySem.F.plainAttrs_tuple, PySem.F.slot_tuple_index, PySem.F.type_tuple_index, mt_idxT hu⟩ ⟨PySem.F.plainAttrs_list, PySem.F.slot_list_index, PySem.F.type_list_index, mt_idxP hu⟩ hr ha hbase hfew hline hs hplain) fun σ H Q ⟨r, env, st, hE, hS, h⟩ => ⟨r, env, st, hE, hS, RES.seq h fun d st1 x H1 r1 e1 s1 v1 q1 => ?_⟩
  rcases Bool.eq_false_or_eq_true (isSq d st1) with hok | hok
  case inr => rw [if_neg (by rw [hok]; exact Bool.false_ne_true)] at q1; exact q1.elim
  rw [if_pos hok] at q1
  have core : ∀ ds st2 xs H2 r2, Ext H1 r1 H2 r2 → SR X.K H2 r2 st2 → VDs X.K H2 r2 ds xs → RES X.K X.mg (RV X.K) (WE W σ) H2 r2 (idxC d ds st2) Q →
      ∃ a ys y ps p, x = .ref a ∧ xs = [y] ∧ ((isTup d = true ∧ SqT X.K H2 a ys) ∨ (isTup d = false ∧ SqL X.K H2 a ys)) ∧ DpAll X.K H2 ys ps ∧ PyData.plainAll ps = true ∧ PyOk X.K H2 40 y p ∧
      true ∈ (ps.map fun z => PyData.eqv z p) ∧ Q (.int ((ps.map fun z => PyData.eqv z p).idxOf true : Nat)) H2 := by
    intro ds st2 xs H2 r2 e2 s2 v2 q2
    unfold idxC at q2
    split at q2
    · rename_i e
      obtain ⟨y, rfl, w⟩ := vds1 v2
      cases q : seqD d st2 with
      | none => simp only [q] at q2; exact q2.elim
      | some es =>
        simp only [q] at q2
        cases q3 : toPy 40 st2 e with
        | none => simp only [q3] at q2; exact q2.elim
        | some p =>
          cases q4 : mapO (toPy 40 st2) es with
          | none => simp only [q3, q4] at q2; exact q2.elim
          | some ps =>
            simp only [q3, q4] at q2
            by_cases hm : true ∈ (ps.map fun z => PyData.eqv z p)
            · rw [if_pos hm] at q2
              have key : ∃ a ys, x = .ref a ∧ VDs X.K H2 r2 es ys ∧ ((isTup d = true ∧ SqT X.K H2 a ys) ∨ (isTup d = false ∧ SqL X.K H2 a ys)) := by
                by_cases ht : ∃ us, d = .tup us
                · obtain ⟨us, rfl⟩ := ht
                  cases q
                  obtain ⟨a, ys, rfl, k1, k2⟩ := v1.ext e2
                  exact ⟨a, ys, rfl, k2, .inl ⟨rfl, k1.sq⟩⟩
                · have e : isTup d = false := by cases d <;> first | rfl | exact absurd ⟨_, rfl⟩ ht
                  have q5 : lstD d st2 = some es := by
                    revert q
                    cases d <;> first | exact fun h => h | exact absurd ⟨_, rfl⟩ ht
                  obtain ⟨a, ys, rfl, k1, k2⟩ := lstD_v s2 q5 (v1.ext e2)
                  exact ⟨a, ys, rfl, k1, .inr ⟨e, k2⟩⟩
              obtain ⟨a, ys, rfl, k1, k2⟩ := key
              obtain ⟨b1, b2, _⟩ := mapO_py (toPy_ok s2 40) es ys ps q4 k1
              exact ⟨a, ys, y, ps, p, rfl, rfl, k2, b1, b2, toPy_ok s2 40 e y p q3 w, hm, RES.ok q2 s2 rfl⟩
            · rw [if_neg hm] at q2; exact q2.elim
    · exact q2.elim
  rcases isSq_ty s1 v1 hok with ⟨t1, t2⟩ | ⟨t1, t2⟩
  · refine .inl ⟨t2, r1, env, st1, hE.ext e1, s1, RES.seq q1 fun ds st2 xs H2 r2 e2 s2 v2 q2 => ?_⟩
    obtain ⟨a, ys, y, ps, p, k1, k2, k3, k4⟩ := core ds st2 xs H2 r2 e2 s2 v2 q2
    refine ⟨a, ys, y, ps, p, k1, k2, ?_, k4⟩
    rcases k3 with k3 | k3
    · exact k3.2
    · rw [t1] at k3; cases k3.1
  · refine .inr ⟨t2, r1, env, st1, hE.ext e1, s1, RES.seq q1 fun ds st2 xs H2 r2 e2 s2 v2 q2 => ?_⟩
    obtain ⟨a, ys, y, ps, p, k1, k2, k3, k4⟩ := core ds st2 xs H2 r2 e2 s2 v2 q2
    refine ⟨a, ys, y, ps, p, k1, k2, ?_, k4⟩
    rcases k3 with k3 | k3
    · rw [t1] at k3; cases k3.1
    · exact k3.2
end
end
theorem idxC_c {α : Type} [DecidableEq α] {c : α → D} (h : EqE 40 c) {d : D} {xs : List α} {x : α} {S : Sto} (hl : seqD d S = some (xs.map c)) (hx : x ∈ xs) : idxC d [c x] S = .ok (cI ((xs.findIdx (fun y => decide (y = x)) : Nat) : Int)) S := by
  obtain ⟨p, p1, p2⟩ := h
  have e : ∀ l : List α, ((l.map p).map fun z => PyData.eqv z (p x)).idxOf true = l.findIdx (fun y => decide (y = x)) := by
    intro l
    induction l with
    | nil => rfl
    | cons a l ih =>
      rw [List.map_cons, List.map_cons, List.idxOf_cons, List.findIdx_cons, p2, ih]
      by_cases ha : a = x
      · rw [decide_eq_true ha]; rfl
      · rw [decide_eq_false ha]; rfl
  show (match seqD d S with
    | some es => match toPy 40 S (c x), mapO (toPy 40 S) es with
      | some p, some ps => if true ∈ (ps.map fun z => PyData.eqv z p) then Res.ok (D.int ((ps.map fun z => PyData.eqv z p).idxOf true : Nat)) S else .bad
      | _, _ => .bad
    | none => .bad) = _
  rw [hl]
  simp only [p1, mapO_map (fun a _ => p1 S a)]
  rw [if_pos (by
    rw [List.map_map]
    exact List.mem_map.mpr ⟨x, hx, by simp only [Function.comp, p2, decide_true]⟩), e]
theorem isSq_c {α : Type} {c : α → D} {d : D} {xs : List α} {S : Sto} (h : seqD d S = some (xs.map c)) : isSq d S = true := by unfold isSq; rw [h]; rfl
theorem sq_N {S : Sto} : seqD (.tup []) S = some (([] : List D).map cD) := rfl
/-! ## a, b = a list -/
def gLstM (n : Nat) (gs : GMs) : GM := fun d env st => match lstD d st with
  | some ds => if ds.length = n then gs ds env st else .bad
  | none => .bad
section
variable {X : Cx} {W : WX}
theorem fg_lst {sl : List Nat} {gs : GMs} {es : List Expr} {k n : Nat} {pos : Pos} (hc : X.calm = true) (h : FGs X W es sl gs)
    (hn : (assignEach es X.env).length = n := by rfl) (hst : (assignEach es X.env).findIdx? (·.1) = none := by rfl) : FG X W (.Tuple es k pos) sl (gLstM n gs) := PG.imp (pg_unl hc h hn hst) fun v σ H Q ⟨r, env, st, d, hE, hS, hv, h⟩ => by
  unfold gLstM at h
  cases q : lstD d st with
  | none => simp only [q] at h
  | some ds =>
    simp only [q] at h
    have hv : VD X.K H r d v := hv.resolve_right fun ⟨_, es, _, _, e, _⟩ => by subst e; cases q
    obtain ⟨a, xs, rfl, h1, h2⟩ := lstD_v hS q hv
    by_cases hl : ds.length = n
    · simp only [if_pos hl] at h
      exact ⟨a, xs, rfl, h2, by rw [← h1.len]; exact hl, r, env, st, ds, hE, hS, h1, h⟩
    · simp only [if_neg hl] at h
end
theorem cFold_rng {σ : Type} {c : σ → Int → Prop} {t : σ → Int → σ} (P : Int → σ → Prop) : ∀ {n : Nat} {a b : Int} {s : σ}, (b - a).toNat = n → a ≤ b → (∀ k s, a ≤ k → k < b → P k s → c s k ∧ P (k + 1) (t s k)) → P a s → cFold c t (rngI a b) s ∧ P b ((rngI a b).foldl t s)
  | 0, a, b, s, hn, hab, h, h0 => by
    have e : a = b := by omega
    subst e
    rw [rngI_nil (by omega)]
    exact ⟨trivial, h0⟩
  | n + 1, a, b, s, hn, hab, h, h0 => by
    rw [rngI_succ (by omega)]
    obtain ⟨h1, h2⟩ := h a s (by omega) (by omega) h0
    obtain ⟨h3, h4⟩ := cFold_rng P (n := n) (a := a + 1) (b := b) (s := t s a) (by omega) (by omega) (fun k s q1 q2 => h k s (by omega) q2) h2
    exact ⟨⟨h1, h3⟩, h4⟩
end FL

namespace FL
open PySem PySem.Spec PyProof.Rows L2
variable [TabCtx]
/-! ## len(set(l)) -/
section
variable {X : Cx}
theorem cr_lenSetI : CallR X (.builtin "len") (fun xs H Q => ∃ (a : Addr) (ns : List Int) (c : Nat), xs = [.ref a] ∧ H a = some (SetO X.w a (fun j => decide (j ∈ ns)) c) ∧ ns.length < 64 ∧ Q (.int ((uniI ns).length : Nat)) H) := by
  intro pins s σ H xs us Q I r h
  obtain ⟨a, ns, c, rfl, ha, hl, q⟩ := h
  rw [Vals.ref1 r]
  obtain ⟨o, es, ep, t, ho, hex, hd, _, hnd, hm, hsz, hf, hn, _, _⟩ := setO_get I ha
  have e : (es.toList.map keyOf).Perm (uniI ns) := (List.perm_ext_iff_of_nodup hnd uniI_nodup).mpr fun k => by
    rw [← hm k, uniI_mem, decide_eq_true_iff]
  have e2 := e.length_eq
  rw [List.length_map, Array.length_toList] at e2
  have h3 := uniI_len (l := ns)
  refine call_len_set ho hex hd hf (by omega) ⟨.int ((uniI ns).length : Nat), H, I.tok _, ⟨_, by rw [e2]⟩, q⟩
/-- the unlike ones of some rows -/
def uniL : List (List Int) → List (List Int)
  | [] => []
  | i :: r => if i ∈ uniL r then uniL r else i :: uniL r
theorem uniL_mem {k : List Int} : ∀ {l : List (List Int)}, k ∈ uniL l ↔ k ∈ l
  | [] => Iff.rfl
  | i :: r => by
    unfold uniL
    split
    · rename_i h
      rw [uniL_mem, List.mem_cons]
      exact ⟨.inr, fun q => q.elim (fun e => e ▸ uniL_mem.mp h) id⟩
    · rw [List.mem_cons, List.mem_cons, uniL_mem]
theorem uniL_nodup : ∀ {l : List (List Int)}, (uniL l).Nodup
  | [] => List.nodup_nil
  | i :: r => by
    unfold uniL
    split
    · exact uniL_nodup
    · rename_i h
      exact List.nodup_cons.mpr ⟨h, uniL_nodup⟩
theorem uniL_len : ∀ {l : List (List Int)}, (uniL l).length ≤ l.length
  | [] => Nat.le_refl _
  | i :: r => by
    have := uniL_len (l := r)
    unfold uniL
    split <;> simp <;> omega
theorem cr_lenSetT : CallR X (.builtin "len") (fun xs H Q => ∃ (a : Addr) (L : List (Addr × List Int)) (ks : List (List Int)), xs = [.ref a] ∧ H a = some (SetTO X.prog X.w a L) ∧ (∀ p ∈ L, SqT X.K H p.1 (p.2.map V.int)) ∧ (∀ k, k ∈ L.map (·.2) ↔ k ∈ ks) ∧ ks.length < 64 ∧ Q (.int ((uniL ks).length : Nat)) H) := by
  intro pins s σ H xs us Q I r h
  obtain ⟨a, L, ks, rfl, ha, hk, hm, hl, q⟩ := h
  rw [Vals.ref1 r]
  have R0 : SetT0 X.prog X.w s.heap a L := (I.hok a _ ha).1
  obtain ⟨es, ep, t, R⟩ := R0.full fun p hp => I.isT (hk p hp)
  obtain ⟨o, ho, hex, hd⟩ := R.ob
  have e : (L.map (·.2)).Perm (uniL ks) := (List.perm_ext_iff_of_nodup R.nd uniL_nodup).mpr fun k => by rw [hm, uniL_mem]
  have e2 := e.length_eq
  rw [List.length_map] at e2
  have h3 := uniL_len (l := ks)
  have hsz := R.size
  refine call_len_set ho hex hd R.fits (by omega) ⟨.int ((uniL ks).length : Nat), H, I.tok _, ⟨_, by rw [hsz, e2]⟩, q⟩
end
theorem sqT_fresh {K : PySem.W.Frag} {H : Hp} {a p : Addr} {xs : List V} {o : HO} (hp : H p = none) (h : SqT K H a xs) : SqT K (upd H p o) a xs := by
  rcases h with (h | ⟨o2, h⟩) | h
  · exact .inl (.inl (by rw [upd_ne (ne_of_none h hp)]; exact h))
  · exact .inl (.inr ⟨o2, by rw [upd_ne (ne_of_none h hp)]; exact h⟩)
  · exact .inr h
/-- rows of whole numbers, each a tuple -/
def tupsD : List D → Option (List (List Int))
  | [] => some []
  | .tup ds :: r => match intsD ds, tupsD r with
    | some ns, some rs => some (ns :: rs)
    | _, _ => none
  | _ :: _ => none
theorem tupsD_v {K H r st} (s : SR K H r st) : ∀ {ds : List D} {ks : List (List Int)} {xs : List V}, tupsD ds = some ks → VDs K H r ds xs → ∃ ps : List (Addr × List Int), xs = ps.map (fun p => V.ref p.1) ∧ ps.map (·.2) = ks ∧ ∀ p ∈ ps, SqT K H p.1 (p.2.map V.int)
  | [], ks, xs, h, v => by cases h; cases v; exact ⟨[], rfl, rfl, by simp⟩
  | d :: ds, ks, xs, h, v => by
    cases d with
    | tup es =>
      unfold tupsD at h
      cases q : intsD es with
      | none => simp only [q] at h; cases h
      | some ns =>
        cases q2 : tupsD ds with
        | none => simp only [q, q2] at h; cases h
        | some rs =>
          simp only [q, q2] at h
          cases h
          obtain ⟨x, t, rfl, ⟨a, ys, rfl, h1, h2⟩, h3⟩ := v
          rw [intsD_eq q] at h2
          rw [vds_ints h2] at h1
          obtain ⟨ps, e1, e2, e3⟩ := tupsD_v s q2 h3
          refine ⟨(a, ns) :: ps, by rw [List.map_cons, e1], by rw [List.map_cons, e2], fun p hp => ?_⟩
          rcases List.mem_cons.mp hp with rfl | hp
          · exact h1.sq
          · exact e3 p hp
    | _ => cases h
def lenSB : List D → Sto → Res D
  | [d], st => match lstD d st with
    | some es => match intsD es with
      | some ns => if ns.length < 64 then .ok (.int ((uniI ns).length : Nat)) st else .bad
      | none => match tupsD es with
        | some ks => if ks.length < 64 then .ok (.int ((uniL ks).length : Nat)) st else .bad
        | none => .bad
    | none => .bad
  | _, _ => .bad
section
variable {X : Cx} {W : WX} {es : List Expr} {e : Expr} {ms : Env → Sto → Res (List D)} {x y : Str} {p pos p2 pos2 : Pos}
theorem fe_lenSet (hc : X.calm = true) (hu : X.A.units + 64 < cLine) (hg : Gl X x) (hm : X.mg x = none) (hv : bootBuiltins x = some (.builtin "len")) (gy : Gl X y) (my : X.mg y = none) (hy : bootBuiltins y = some (.type "set")) (ha : FA X W [e] ms)
    (hn : x ≠ "__name__" := by decide) (hdb : (x == ("__debug__" : Str)) = false := by decide) (ny : y ≠ "__name__" := by decide) (dy : (y == ("__debug__" : Str)) = false := by decide)
    (he : starEach [e] X.env = (false, eval e X.env) :: starEach [] X.env := by rfl) :
    FE X W (.Call (.Name x p) [.Call (.Name y p2) [e] [] pos2] [] pos) (eB lenSB ms) := by
  have inner := pe_callTy (pos := pos2) (p := p2) (CallR.or (cr_setL hc) (cr_setOfT hc hu)) gy my hy ha ny dy he (by rfl)
  refine PE.imp (pe_callB (pos := pos) (p := p) (CallR.or cr_lenSetI cr_lenSetT) hg hm hv (pa_cons inner pa_nil (by rfl)) hn hdb (by rfl) (by rfl)) fun σ H Q ⟨r, env, st, hE, hS, h⟩ => ?_
  refine ⟨r, env, st, hE, hS, RES.seq h fun ds st1 xs H1 r1 e1 s1 v1 h1 => ?_⟩
  unfold lenSB at h1
  split at h1
  · rename_i d
    obtain ⟨z, rfl, w⟩ := vds1 v1
    cases q : lstD d st1 with
    | none => simp only [q] at h1; exact h1.elim
    | some es =>
      simp only [q] at h1
      obtain ⟨a, ys, rfl, k1, k2⟩ := lstD_v s1 q w
      cases q2 : intsD es with
      | some ns =>
        simp only [q2] at h1
        by_cases hl : ns.length < 64
        · rw [if_pos hl] at h1
          rw [intsD_eq q2] at k1
          rw [vds_ints k1] at k2
          refine .inl ⟨a, ns, rfl, k2, by have : (64 : Nat) < scanBound := by decide
                                          omega, fun p c hp hc2 => ?_⟩
          exact .inl ⟨p, ns, c, rfl, upd_same, hl, RES.ok' h1 (Ext.fresh hp) (s1.fresh hp) rfl⟩
        · rw [if_neg hl] at h1; exact h1.elim
      | none =>
        simp only [q2] at h1
        cases q3 : tupsD es with
        | none => simp only [q3] at h1; exact h1.elim
        | some ks =>
          simp only [q3] at h1
          by_cases hl : ks.length < 64
          · rw [if_pos hl] at h1
            obtain ⟨ps, f1, f2, f3⟩ := tupsD_v s1 q3 k1
            rw [f1] at k2
            have hpl : ps.length < 64 := by rw [← f2, List.length_map] at hl; exact hl
            refine .inr ⟨a, ps, rfl, k2, f3, hpl, fun p L hp g1 g2 => .inr ⟨p, L, ks, rfl, upd_same, fun t ht => ?_, fun k => ?_, hl, RES.ok' h1 (Ext.fresh hp) (s1.fresh hp) rfl⟩⟩
            · exact sqT_fresh hp (f3 t (g1 t ht))
            · rw [← f2]
              constructor
              · intro hk
                obtain ⟨t, ht, rfl⟩ := List.mem_map.mp hk
                exact List.mem_map.mpr ⟨t, g1 t ht, rfl⟩
              · intro hk
                obtain ⟨t, ht, rfl⟩ := List.mem_map.mp hk
                exact g2 t ht
          · rw [if_neg hl] at h1; exact h1.elim
  · exact h1.elim
end
theorem lenS_I {xs : List Int} {d : D} {S : Sto} (h : lstD d S = some (xs.map cI)) (hl : xs.length < 64) : lenSB [d] S = .ok (cI ((uniI xs).length : Nat)) S := by
  show (match lstD d S with
    | some es => match intsD es with
      | some ns => if ns.length < 64 then Res.ok (D.int ((uniI ns).length : Nat)) S else .bad
      | none => _
    | none => .bad) = _
  rw [h, show xs.map cI = xs.map D.int from rfl]
  simp only [intsD_map, if_pos hl]
theorem tupsD_map : ∀ {ks : List (List Int)}, tupsD (ks.map (cT cI)) = some ks
  | [] => rfl
  | k :: ks => by
    show (match intsD (k.map cI), tupsD (ks.map (cT cI)) with
      | some ns, some rs => some (ns :: rs)
      | _, _ => none) = _
    rw [tupsD_map, show k.map cI = k.map D.int from rfl, intsD_map]
/-- of pairs, none lacking -/
def toO2 : Option (Int × Int) → List Int
  | some p => [p.1, p.2]
  | none => []
theorem lenS_O2 {xs : List (Option (Int × Int))} {d : D} {S : Sto} (h : lstD d S = some (xs.map (cO (cP2 cI cI)))) (ha : ∀ y ∈ xs, y.isSome = true) (hl : xs.length < 64) : lenSB [d] S = .ok (cI ((uniL (xs.map toO2)).length : Nat)) S := by
  show (match lstD d S with
    | some es => match intsD es with
      | some ns => if ns.length < 64 then Res.ok (D.int ((uniI ns).length : Nat)) S else .bad
      | none => match tupsD es with
        | some ks => if ks.length < 64 then Res.ok (D.int ((uniL ks).length : Nat)) S else .bad
        | none => .bad
    | none => .bad) = _
  have e : xs.map (cO (cP2 cI cI)) = (xs.map toO2).map (cT cI) := by
    rw [List.map_map]
    refine List.map_congr_left fun y hy => ?_
    cases y with
    | none => cases ha _ hy
    | some p => rfl
  rw [h, e]
  cases xs with
  | nil => rfl
  | cons a l =>
    have e2 : intsD (((a :: l).map toO2).map (cT cI)) = none := rfl
    simp only [e2, tupsD_map, List.length_map, if_pos hl]
/-- the count tells whether two are alike -/
theorem uniI_nd {l : List Int} : (uniI l).length = l.length ↔ l.Nodup := by
  induction l with
  | nil => simp [uniI]
  | cons a l ih =>
    have hle := uniI_len (l := l)
    unfold uniI
    rw [List.nodup_cons]
    split
    · rename_i h
      rw [uniI_mem] at h
      constructor
      · intro q; rw [List.length_cons] at q; omega
      · intro q; exact absurd h q.1
    · rename_i h
      rw [uniI_mem] at h
      rw [List.length_cons, List.length_cons]
      constructor
      · intro q; exact ⟨h, ih.mp (by omega)⟩
      · intro q; have := ih.mpr q.2; omega
theorem uniL_nd {l : List (List Int)} : (uniL l).length = l.length ↔ l.Nodup := by
  induction l with
  | nil => simp [uniL]
  | cons a l ih =>
    have hle := uniL_len (l := l)
    unfold uniL
    rw [List.nodup_cons]
    split
    · rename_i h
      rw [uniL_mem] at h
      constructor
      · intro q; rw [List.length_cons] at q; omega
      · intro q; exact absurd h q.1
    · rename_i h
      rw [uniL_mem] at h
      rw [List.length_cons, List.length_cons]
      constructor
      · intro q; exact ⟨h, ih.mp (by omega)⟩
      · intro q; have := ih.mpr q.2; omega
end FL

namespace FL
open PySem PySem.Spec PyProof.Rows L2
variable [TabCtx]
/-! ## exceptions of own classes with an __init__ of their own -/
def clsS : Stmt → Nat → Stmt
  | .ClassDef _ _ _ body _ _ _ _ _ _ _, j => body.getD j (.Pass ⟨0, 0, 0, 0⟩)
  | s, _ => s
/-- what is said of the base class, whose __init__ is called by name -/
structure BaseAt (K : PySem.W.Frag) (mg : Str → Option Value) (b : String) : Prop where
  ex : ∃ B, mg (Str.ofString b) = some (.ref B) ∧ PySem.W.readsIn K B (.type "type") = true ∧ PySem.W.specialIn K (.ref B) "__getattribute__" = some (some (.builtin "type.__getattribute__")) ∧
    PySem.W.findCls K (.ref B) (.type "type") "__init__" = some (.val (.builtin "ValueError.__init__"))
section
variable {X : Cx} {e : Expr} {es : List Expr} {ta : TA} {p1 p2 pos : Pos}
theorem pe_base {b : String} {x : Str} {pl : Sem Bool} (hx : x = Str.ofString b) (hg : Gl X x) (B : BaseAt X.K X.mg b) (ha : PA X (e :: es) ta) (hd : (x == ("__debug__" : Str)) = false := by decide)
    (hc : eval (.Call (.Attribute (.Name x p1) "__init__" p2) (e :: es) [] pos) X.env = (do
      let ov ← eval (.Name x p1) X.env
      standAt p2.atName
      let (f, first) ← holding [ov] (getMethod ov "__init__" pl)
      callWith pos f first (backTo pos (starEach (e :: es) X.env)) (backToKw pos (keywordEach [] X.env))) := by rfl)
    (he : starEach (e :: es) X.env = (false, eval e X.env) :: starEach es X.env := by rfl) (hpl : (backTo pos (starEach es X.env)).any (·.1) = false := by rfl) :
    PE X (.Call (.Attribute (.Name x p1) "__init__" p2) (e :: es) [] pos) (tVeI X.K ta) := by
  subst hx
  obtain ⟨C, c1, c2, c3, c4⟩ := B.ex
  refine ⟨fun pins s σ H Q I h => ?_⟩
  refine PySem.W.methodCall_KW (ld_glob I hg c1 ?_ hd) hc
  refine PySem.W.method_cls I.kIn c3 (PySem.W.cls_value I.kIn c2 c4 (by decide +kernel) ?_)
  show wpAny _ _ (callWith pos (Value.builtin "ValueError.__init__") [] (backTo pos (starEach (e :: es) X.env)) []) _ _ _
  refine PyProof.Rows.callWith_method1 (thn (ha.run pos pins _ σ H _ (I.tok _) h) fun us s1 ⟨vs, H1, I1, r1, a, D, ws, ev, hl, T, ea, q⟩ => ?_) he hpl
  subst ev
  cases r1 with
  | @cons _ u0 _ ur ra rw' =>
    obtain rfl : u0 = Value.ref a := ra
    have hlen : ur.length ≤ sizeLine := by
      rw [← Paired.length rw', sizeLine_eq]
      omega
    exact oinit_ok T I1 ea hlen fun s' J => ⟨.non, H1, J, rfl, q⟩
end
/-- what __init__ leaves of a fresh exception -/
def spIni (K : PySem.W.Frag) (fs : List Str) : Sp := fun vs H Q _ => vs.length = fs.length + 1 ∧ ∃ (a C : Addr) (ys : List V), vs = .ref a :: ys ∧ H a = some (exo a C none) ∧ OexC K C ∧ (∀ f ∈ fs, PySem.W.findIn K (.ref C) f = some none) ∧
  ∀ dx H', H dx = none → dx ≠ a → H' a = some (exo a C (some dx)) → H' dx = some (exd dx (fs.zip ys).reverse) → (∀ b, b ≠ a → b ≠ dx → H' b = H b) → Q .non H'
/-- an exception class with an __init__ of this kind -/
structure ClsF (P : Program) (w : World) (K : PySem.W.Frag) (mg : Str → Option Value) (base : Heap) (CX : CXT) (cls : String) (k : Nat) (fs : List Str) : Prop where
  ex : ∃ C fI fd ps, PySem.W.nsIn K mainGlobals (Str.ofString cls) = some (some (.ref C)) ∧ mg (Str.ofString cls) = some (.ref C) ∧ OexC K C ∧ (∀ f ∈ fs, PySem.W.findIn K (.ref C) f = some none) ∧
    PySem.W.findIn K (.ref C) "__init__" = some (some (.ref fI)) ∧ PySem.W.typeIn K (.ref fI) = some (.type "function") ∧ FnOk P w K mg base CX k fI fd ps (spIni K fs) ∧ Binds K fd ps []
/-- raise cls(..) -/
def sRaiseF (cls : String) (fs : List Str) (ms : Env → Sto → Res (List D)) : SM4 := fun env st => (ms env st).on env fun ds st1 => if ds.length = fs.length then .ex ⟨cls, (fs.zip ds).reverse⟩ env st1 else .bad
theorem zip_paired {K H r} : ∀ {fs : List Str} {ds : List D} {vs : List V}, VDs K H r ds vs → Paired (fun (p : Str × D) (q : Str × V) => p.1 = q.1 ∧ VD K H r p.2 q.2) (fs.zip ds) (fs.zip vs)
  | [], _, _, _ => .nil
  | f :: fs, [], _, h => by cases h; exact .nil
  | f :: fs, d :: ds, _, h => by
    obtain ⟨x, t, rfl, h1, h2⟩ := h
    exact .cons ⟨rfl, h1⟩ (zip_paired h2)
theorem paired_rev {α β : Type} {F : α → β → Prop} : ∀ {l₁ : List α} {l₂ : List β}, Paired F l₁ l₂ → Paired F l₁.reverse l₂.reverse
  | _, _, .nil => .nil
  | _, _, .cons r t => by
    rw [List.reverse_cons, List.reverse_cons]
    exact paired_app (paired_rev t) (.cons r .nil)
section
variable {X : Cx} {W : WX} {e : Expr} {es : List Expr} {ms : Env → Sto → Res (List D)} {x : Str} {p pos pos2 : Pos} {k : Nat}
theorem fs_raiseF {cls : String} {fs : List Str} (hx : x = Str.ofString cls) (hne' : fs ≠ [] ∧ fs.length ≤ 10) (hc : X.calm = true) (tk : Takes X W) (c : ClsF X.prog X.w X.K X.mg X.base (L2.CX X.prog X.w) cls k fs) (hr : Room (k + 1) X.A) (hg : Gl X x) (ha : FA X W (e :: es) ms)
    (hd : (x == ("__debug__" : Str)) = false := by decide) (he : starEach (e :: es) X.env = (false, eval e X.env) :: starEach es X.env := by rfl) (hpl : (backTo pos2 (starEach es X.env)).any (·.1) = false := by rfl) :
    FS X W (.Raise (some (.Call (.Name x p) (e :: es) [] pos2)) none pos) (sRaiseF cls fs ms) := by
  subst hx
  obtain ⟨C, fI, fd, ps, c0, c1, c2, c3, c4, c5, c6, c7⟩ := c.ex
  have hpass : Passes (L2.CX X.prog X.w) X (fun _ _ _ => False) := fun pins σ H s e s' I h => by
    obtain ⟨a, B, H', cls, d, _, _, _, _, _, _, _, hf⟩ := h
    exact hf.elim
  refine PS.imp (ps_raise hc tk (pmk_oex c2 c4 c5 c6 hr c7 Paired.nil hpass hg c1 ha hd he hpl)) fun D σ H ⟨r, env, st, hE, hS, h⟩ =>
    ⟨r, env, st, hE, hS, RS.on hE h fun ds st1 vs H1 r1 e1 s1 v1 h1 => ?_⟩
  by_cases hl : ds.length = fs.length
  · rw [if_pos hl] at h1
    have hvl := v1.len
    have h10 := hne'.2
    refine ⟨by omega, fun a na => ⟨by simp; omega, a, C, vs, by simp, upd_same, c2, c3, fun dx H' ndx hne k1 k2 k3 => ⟨rfl, dx, _, k1, k2, by rw [upd_ne hne] at ndx; exact ndx, ?_⟩⟩⟩
    have hdx : H1 dx = none := by rw [upd_ne hne] at ndx; exact ndx
    have eh : upd (del H' a) dx (HO.xd (fs.zip vs).reverse) = upd H1 dx (HO.xd (fs.zip vs).reverse) := by
      funext b
      by_cases hb : b = dx
      · rw [hb, upd_same, upd_same]
      · rw [upd_ne hb, upd_ne hb]
        by_cases hba : b = a
        · rw [hba, del_same, na]
        · rw [del_ne hba, k3 b hba hb, upd_ne hba]
    rw [eh]
    have ef : Ext H1 r1 (upd H1 dx (HO.xd (fs.zip vs).reverse)) r1 := Ext.fresh hdx
    refine h1 (.ref C) (some dx) σ _ r1 ef (s1.fresh hdx) ((hE.ext e1).ext ef) ⟨⟨C, c0, rfl⟩, ?_⟩
    have hp := paired_imp (fun _ _ (q : _ ∧ _) => (⟨q.1, VD.ext ef _ _ q.2⟩ : _ ∧ _)) (paired_rev (zip_paired (fs := fs) v1))
    have hnn : (fs.zip ds).reverse ≠ [] := by
      cases fs with
      | nil => exact absurd rfl hne'.1
      | cons f fs =>
        cases ds with
        | nil => simp at hl
        | cons d ds => simp
    cases hq : (fs.zip ds).reverse with
    | nil => exact absurd hq hnn
    | cons p0 ps0 =>
      rw [hq] at hp
      exact ⟨dx, _, rfl, s1.notin hdx, upd_same, hp⟩
  · rw [if_neg hl] at h1; exact h1.elim
end
/-! ### __init__ of one field, of two -/
def tIni1 (K : PySem.W.Frag) (f1 m : Str) : TS := tSeq (tDrop (tVeI K (tCons (tVar 0) (tCons (tC (.str m)) tNil)))) (tOst K f1 (tVar 0) (tVar 1))
def tIni2 (K : PySem.W.Frag) (f1 f2 m : Str) : TS := tSeq (tDrop (tVeI K (tCons (tVar 0) (tCons (tC (.str m)) tNil)))) (tSeq (tOst K f1 (tVar 0) (tVar 1)) (tOst K f2 (tVar 0) (tVar 2)))
section
variable {P : Program} {w : World} {K : PySem.W.Frag} {mg : Str → Option Value} {base : Heap} {qual : Str} {st : Stmt} {fd : FuncData}
theorem ini_ok1 {f : Addr} {f1 m : Str} (F : L2.Fun K "__init__" qual st f fd) (S : FnScope ["self", f1] ["self", f1] (defScope st))
    (hb : ∀ (cdv : Value) (A : Around) (outer : List PySem.Env) (s : Shared) (H : Hp) (E : XK), PSs (cxOf (L2.CX P w) P w K mg base ["self", f1] qual (defScope st) f cdv A outer s H E) (defBody st) (tIni1 K f1 m)) :
    FnOk P w K mg base (L2.CX P w) 2 f fd ["self", f1] (spIni K [f1]) := by
  refine F.okX S (fun vs H Q E h => h.1) fun cdv A outer s H vs Q E hr h => ?_
  obtain ⟨hl, a, C, ys, rfl, ha, hC, hf, q⟩ := h
  refine ⟨_, hb cdv A outer s H E, ?_⟩
  match ys, hl with
  | [y], _ =>
    refine ⟨.ref a, rfl, a, C, [.str m], rfl, by simp, hC, ha, ?_⟩
    refine ⟨y, rfl, .ref a, rfl, a, C, rfl, hC, hf f1 List.mem_cons_self, .inl ⟨ha, fun dx h1 h2 => ?_⟩⟩
    refine q dx _ h1 h2 upd_same (by rw [upd_ne h2, upd_same]; rfl) fun b h3 h4 => by rw [upd_ne h3, upd_ne h4]
theorem ini_ok2 {f : Addr} {f1 f2 m : Str} (F : L2.Fun K "__init__" qual st f fd) (S : FnScope ["self", f1, f2] ["self", f1, f2] (defScope st))
    (hb : ∀ (cdv : Value) (A : Around) (outer : List PySem.Env) (s : Shared) (H : Hp) (E : XK), PSs (cxOf (L2.CX P w) P w K mg base ["self", f1, f2] qual (defScope st) f cdv A outer s H E) (defBody st) (tIni2 K f1 f2 m)) :
    FnOk P w K mg base (L2.CX P w) 2 f fd ["self", f1, f2] (spIni K [f1, f2]) := by
  refine F.okX S (fun vs H Q E h => h.1) fun cdv A outer s H vs Q E hr h => ?_
  obtain ⟨hl, a, C, ys, rfl, ha, hC, hf, q⟩ := h
  refine ⟨_, hb cdv A outer s H E, ?_⟩
  match ys, hl with
  | [y, z], _ =>
    refine ⟨.ref a, rfl, a, C, [.str m], rfl, by simp, hC, ha, ?_⟩
    refine ⟨y, rfl, .ref a, rfl, a, C, rfl, hC, hf f1 List.mem_cons_self, .inl ⟨ha, fun dx h1 h2 => ?_⟩⟩
    refine ⟨z, rfl, .ref a, rfl, a, C, rfl, hC, hf f2 (by simp), .inr ⟨dx, [(f1, y)], upd_same, by rw [upd_ne h2, upd_same], by simp, ?_⟩⟩
    refine q dx _ h1 h2 (by rw [upd_ne (Ne.symm h2), upd_same]) upd_same fun b h3 h4 => by rw [upd_ne h4, upd_ne h3, upd_ne h4]
end
/-! ### isinstance, fields -/
def rIsY (K : PySem.W.Frag) : List V → Hp → VK → Prop := fun xs H Q => ∃ (a C : Addr) (d : Option Addr) (cv : V) (v : Value) (b : Bool), xs = [.ref a, cv] ∧ H a = some (ExE (.ref C) d a) ∧ (∀ dd, d = some dd → ∃ vs, H dd = some (.xd vs)) ∧ ExcC K C ∧ (∀ u, RelV cv u → u = v) ∧ PySem.W.kitOne K (.ref C) v = some b ∧ Q (.bl b) H
/-- how a caught exception lies -/
theorem inst_exc {X : Cx} {pins : List (Addr × Obj)} {σ : L2.St} {H : Hp} {s : Shared} {a C : Addr} {d : Option Addr} (I : Inv X pins σ H s) (ha : H a = some (ExE (.ref C) d a)) (hd : ∀ dd, d = some dd → ∃ vs, H dd = some (.xd vs)) :
    ∃ oe od, PySem.W.InstAt s.heap a oe C od := by
  obtain ⟨⟨oe, vs, hget, hz, hv⟩, _⟩ := I.hok a _ ha
  obtain ⟨oc, od, oda, osl⟩ := oe
  obtain ⟨h1, h2⟩ := hz
  dsimp only at h1 h2 hv
  subst h1 h2 hv
  cases od with
  | none => exact ⟨_, none, hget, rfl, rfl, trivial⟩
  | some dd =>
    obtain ⟨ws, hws⟩ := hd dd rfl
    obtain ⟨mA, hns, hr⟩ := (show ObjOk X.prog X.w H s.heap dd (.xd ws) from I.hok dd _ hws)
    obtain ⟨od, ho, hl⟩ := lookIn_ns hns
    exact ⟨_, some od, hget, rfl, rfl, ho⟩
section
variable {X : Cx} {W : WX} {a : Expr} {ma : EM} {p p2 p3 pos : Pos} {j : Nat} {m : Str}
theorem call_isY : CallR X (.builtin "isinstance") (rIsY X.K) := by
  intro pins s σ H xs us Q I r h
  obtain ⟨a, D, d, c, cv, b, rfl, ha, hdd, C, hcv, e, q⟩ := h
  cases r with
  | cons rx rr =>
    cases rr with
    | cons rt rr =>
      cases rr
      cases rx
      have ec := hcv _ rt
      subst ec
      obtain ⟨oe, od, J⟩ := inst_exc I ha hdd
      obtain ⟨cd, hcd, _⟩ := PySem.W.any_some C.hd
      exact PySem.W.kia_one (PySem.W.kitx_exc (od := od) (by rw [hcd]; rfl) C.hg C.hk C.hs C.ha C.hn C.ht C.hm) I.kIn J e (fun z => nomatch z) fun tk => ⟨.bl b, H, I.kept (t' := tk) fun _ _ z => z, rfl, q⟩
def eIsy (tab : List (String × Bool)) (ma : EM) : EM := fun env st => (ma env st).bind fun d st1 => match d with
  | .exc cls _ _ => match tabB tab cls with
    | some b => .ok (.bl b) st1
    | none => .bad
  | .non => .ok (.bl false) st1
  | _ => .bad
theorem exc_dd {K : PySem.W.Frag} {H : Hp} {r : Rho} {cls : String} {ns : List Str} {a : Addr} {vs : List V} (h : ExcAt K H r cls ns a vs) : ∃ C d, PySem.W.nsIn K mainGlobals (Str.ofString cls) = some (some (.ref C)) ∧ H a = some (ExE (.ref C) d a) ∧ ∀ dd, d = some dd → ∃ vs, H dd = some (.xd vs) := by
  obtain ⟨C, d, k1, k2, k3, k4⟩ := h
  refine ⟨C, d, k2, k3, fun dd e => ?_⟩
  rcases k4 with k4 | ⟨d', k5, k6, k7, k8⟩
  · rw [k4.2.2] at e; cases e
  · rw [e] at k5; cases k5
    exact ⟨_, k7⟩
theorem fe_isy {x : Str} {y : Cl} {tab : List (String × Bool)} (c : ClNm X x y) (ht : ∀ q ∈ tab, IsAt X.K q.1 y q.2) (hn : NonAt X.K y) (hg : Gl X "isinstance") (hm : X.mg "isinstance" = none) (ha : FE X W a ma)
    (he : starEach [a, .Name x p2] X.env = (false, eval a X.env) :: starEach [.Name x p2] X.env := by rfl) (he2 : starEach [.Name x p2] X.env = (false, eval (.Name x p2) X.env) :: starEach [] X.env := by rfl) (hpl : (backTo pos (starEach [.Name x p2] X.env)).any (·.1) = false := by rfl) :
    FE X W (.Call (.Name "isinstance" p) [a, .Name x p2] [] pos) (eIsy tab ma) := by
  obtain ⟨cv, v, c1, c2, c3, c4⟩ := c.pe
  exact PE.imp (pe_callB (CallR.or call_isY call_isi) hg hm boot_isinstance (pa_cons ha (pa_cons (c4 p2) pa_nil he2) he) (by decide) (by decide) he hpl) fun σ H Q ⟨r, env, st, hE, hS, h⟩ =>
    ⟨r, env, st, hE, hS, RES.seq h fun d st1 z H1 r1 e1 s1 v1 h1 => by
      split at h1
      · rename_i cls ns ds
        cases q : tabB tab cls with
        | none => simp only [q] at h1; exact h1.elim
        | some b =>
          simp only [q] at h1
          obtain ⟨a, vs, rfl, hx, _⟩ := v1
          obtain ⟨C, d, k2, k3, k4⟩ := exc_dd hx
          obtain ⟨C', v', f1, f2, f3, f4⟩ := (ht _ (tabB_mem q)).ex
          rw [k2] at f1; cases f1
          cases Cl.at_eq f3 c1
          exact .inl ⟨a, C, d, cv, _, b, rfl, k3, k4, f2, c2, f4, RES.ok h1 s1 rfl⟩
      · cases v1
        obtain ⟨v', f1, f2⟩ := hn.ex
        cases Cl.at_eq f1 c1
        exact .inr ⟨.non, cv, .type "NoneType", _, false, rfl, c3, .base .non, f2, RES.ok h1 s1 rfl⟩
      · exact h1.elim⟩
/-- the class cls lets its instances' field f be read -/
structure FldAt (K : PySem.W.Frag) (cls : String) (f : Str) : Prop where
  ex : ∃ C, PySem.W.nsIn K mainGlobals (Str.ofString cls) = some (some (.ref C)) ∧ XfC K C ∧ PySem.W.findIn K (.ref C) f = some none
def fldD (f : Str) : List Str → List D → Option D
  | n :: ns, d :: ds => if f = n then some d else fldD f ns ds
  | _, _ => none
def eFld (tab : List String) (f : Str) (ma : EM) : EM := fun env st => (ma env st).bind fun d st1 => match d with
  | .exc cls ns ds => if cls ∈ tab then (match fldD f ns ds with
    | some v => .ok v st1
    | none => .bad) else .bad
  | _ => .bad
theorem fld_v {K H r} {f : Str} : ∀ {ns : List Str} {ds : List D} {vs : List V} {d : D}, fldD f ns ds = some d → VDs K H r ds vs → ∃ v, (ns.zip vs).lookup f = some v ∧ VD K H r d v
  | [], _, _, _, h, _ => by simp [fldD] at h
  | n :: ns, [], _, _, h, _ => by simp [fldD] at h
  | n :: ns, d :: ds, _, d', h, hv => by
    obtain ⟨x, t, rfl, h1, h2⟩ := hv
    unfold fldD at h
    rw [List.zip_cons_cons, lookup_put]
    by_cases e : f = n
    · rw [if_pos e] at h ⊢
      cases h
      exact ⟨x, rfl, h1⟩
    · rw [if_neg e] at h ⊢
      exact fld_v h h2
theorem fe_fld {tab : List String} {f : Str} (ht : ∀ c ∈ tab, FldAt X.K c f) (he : FE X W a ma) (hb : attributeBase a f X.env (eval a X.env) = eval a X.env := by rfl) : FE X W (.Attribute a f pos) (eFld tab f ma) := by
  refine ⟨fun pins s σ H Q I h => ?_⟩
  obtain ⟨r, env, st, hE, hS, h⟩ := h
  have h' := RES.seq (R := RV X.K) (Q1 := fun x H1 => ∃ (b C : Addr) (d dd : Addr) (fs : List (Str × V)) (v : V), x = .ref b ∧ XfC X.K C ∧ PySem.W.findIn X.K (.ref C) f = some none ∧ H1 b = some (ExE (.ref C) (some dd) b) ∧ H1 dd = some (.xd fs) ∧ fs.lookup f = some v ∧ Q v H1) h fun d st1 x H1 r1 e1 s1 v1 h1 => by
    split at h1
    · rename_i cls ns ds
      by_cases hc : cls ∈ tab
      · rw [if_pos hc] at h1
        cases q : fldD f ns ds with
        | none => simp only [q] at h1; exact h1.elim
        | some d' =>
          simp only [q] at h1
          obtain ⟨b, vs, rfl, ⟨C, od, k1, k2, k3, k4⟩, hvs⟩ := v1
          obtain ⟨C', f1, f2, f3⟩ := (ht _ hc).ex
          rw [k2] at f1; cases f1
          obtain ⟨v, l1, l2⟩ := fld_v q hvs
          rcases k4 with k4 | ⟨dd, k5, k6, k7, k8⟩
          · rw [k4.1] at q; simp [fldD] at q
          · subst k5
            exact ⟨b, C, dd, dd, _, v, rfl, f2, f3, k3, k7, l1, RES.ok h1 s1 l2⟩
      · rw [if_neg hc] at h1; exact h1.elim
    · exact h1.elim
  refine attr_of hb (thn (he.run pins s σ H _ I ⟨r, env, st, hE, hS, h'⟩) fun u s1 ⟨x, H1, I1, rx, b, C, _, dd, fs, v, ex, T, hno, ea, ed, l, q⟩ => ?_)
  subst ex
  obtain rfl : u = Value.ref b := rx
  obtain ⟨⟨oe, vs, hget, hz, hv⟩, _⟩ := I1.hok b _ ea
  obtain ⟨mA, hns, hr⟩ := (show ObjOk X.prog X.w H1 s1.heap dd (.xd fs) from I1.hok dd _ ed)
  obtain ⟨od, ho, hl⟩ := lookIn_ns hns
  obtain ⟨u, hu, ru⟩ := RelO.some_of (v := v) (o := mA f) (by rw [← l]; exact hr f)
  have J : PySem.W.InstAt s1.heap b oe C (some od) := by
    obtain ⟨oc, od', oda, osl⟩ := oe
    obtain ⟨h1, h2⟩ := hz
    dsimp only at h1 h2 hv
    subst h1 h2 hv
    exact ⟨hget, rfl, rfl, ho⟩
  exact HandSPX.exc_get I1.kIn J T.ga T.gg T.exC (PySem.W.findObj_own T.hdC hno rfl (by rw [hl, hu])) (handed_of ru) ⟨v, H1, I1.tok _, ru, q⟩
end
end FL

namespace FL
open PySem PySem.Spec PyProof.Rows L2
variable [TabCtx]
/-! ## try with several clauses, each 'except c as n' -/
structure HdR where
  x : Str
  np : Pos
  n : Str
  i : Nat
  c : Value
  b₀ : Stmt
  suite : List Stmt
  ps : Pos
  ts : TS
def HdR.ast (h : HdR) : ExceptHandler := .ExceptHandler (some (.Name h.x h.np)) (some h.n) (h.b₀ :: h.suite) h.ps
structure HdR.Ok (X : Cx) (h : HdR) : Prop where
  at_ : X.N[h.i]? = some h.n
  loc : X.env.kindOf h.n = some .local
  nm : Names X h.x h.c
  su : ∀ (a : Addr) (pn : List (Addr × Obj)), PSs (X.suite a pn) (h.b₀ :: h.suite) h.ts
/-- what the clauses wish of an exception of the body -/
def wExts (K : PySem.W.Frag) (Wout : WX) (D : Ends) : List HdR → WX
  | [] => Wout
  | h :: r => fun cls d σ H => ∃ b, PySem.W.exmOne K cls h.c = some b ∧
    (b = true → ∀ a, H a = none → h.ts { nx := fun σ' H' => D.nx (σ'.set h.i none) H', rt := D.rt, bk := fun σ' H' => D.bk (σ'.set h.i none) H', ct := fun σ' H' => D.ct (σ'.set h.i none) H' } (σ.set h.i (some (.ref a))) (upd H a (ExE cls d a))) ∧
    (b = false → wExts K Wout D r cls d σ H)
section
variable {X : Cx} {body : List Stmt} {pos : Pos} {tb : WX → TS} {Wout : WX} {h0 : HdR} {hs : List HdR}
theorem ps_try_exts (hst : X.stack = X.env :: X.outer) (hf : X.env.frame = some X.env.locals) (hN : X.N.Nodup) (tk : Takes X Wout) (ok0 : ∀ h ∈ h0 :: hs, HdR.Ok X h)
    (hb : ∀ (W : WX) (pn : List (Addr × Obj)) (xe : Value → Shared → Prop), Takes (X.tr pn xe) W → PassesOwn (model X.prog X.w) X.A X.env xe → PSs (X.tr pn xe) body (tb W)) :
    PS X (.Try body ((h0 :: hs).map HdR.ast) [] [] pos) (fun D σ H => tb (wExts X.K Wout D (h0 :: hs)) D σ H) := by
  refine ⟨fun pins s σ H D I h => ?_⟩
  have ok := I.ok
  have hfr : X.A.frames = some (X.env :: X.outer) := by rw [ok.frames, hst]
  refine wpAny_Try_except ?_
  refine wpAny_mono ((hb (wExts X.K Wout D (h0 :: hs)) (X.pn ++ pins) (fun e s₁ => wpAny (model X.prog X.w) X.A (noteFrame e X.env) (fun _ s₂ => wpAny (model X.prog X.w) X.A (setFlight e none) (fun _ s₃ =>
    wpAny (model X.prog X.w) X.A (handleBy e X.env ((h0 :: hs).map HdR.ast)) (SP X pins D) X.xe s₃) X.xe s₂) X.xe s₁) (fun u s' xx => ?_) PassesOwn.looking).run [] s σ H D (I.toTry _) h) (fun f s1 hsp => ?_) (fun e s1 he => he)
  · obtain ⟨a, B, sI, pins', σ', H', cls, d, rfl, J', nb, up, sky, na, os, ag, hw⟩ := xx
    have J : Inv X pins σ' H' sI := J'.ofTry ok
    have sky' : Sky B (X.env :: X.outer) a (Zc cls d) X.env.locals s'.heap := by rw [← hst]; exact sky
    show wpAny (model X.prog X.w) X.A (noteFrame (.ref a) X.env) _ _ _
    refine Sky.land Zc.steady hfr hf sky' fun h3 fl3 up3 => ?_
    have J3 : Inv X pins σ' H' { s' with heap := h3 } := J.landed nb fl3.1 (up.trans up3) os ag
    obtain ⟨oe3, vs3, he3, hz3, hd3⟩ := fl3.there
    have notFr : ∀ {h : Heap} {o : Obj} {vs : Array Value}, h.FunFrames B (X.env :: X.outer) → h.get? a = some o → o.data = .fields vs → a ∉ frs (X.env :: X.outer) := fun {h o vs} ff e dd hm => by
      obtain ⟨_, o', e', hnf⟩ := ff.mem hm
      rw [e] at e'; cases e'
      exact hnf _ dd
    have nfr := notFr fl3.2.2.1 he3 hd3
    have nL : a ≠ X.env.locals := fun z => nfr (List.mem_filterMap.mpr ⟨X.env, List.mem_cons_self, by rw [hf, z]⟩)
    have nF : a ∉ X.fs := fun hm => by
      obtain ⟨e, he, q⟩ := List.mem_filterMap.mp hm
      exact nfr (List.mem_filterMap.mpr ⟨e, List.mem_cons_of_mem _ he, q⟩)
    have hI : sI.heap.get? a = none := by
      cases q : sI.heap.get? a with
      | none => rfl
      | some o =>
        have := nb a o q (by rw [hst]; exact nfr)
        rw [fl3.2.1] at this; cases this
    have S3 := J3.suite he3 hd3 na nL nF
    have LT : PySem.W.Looks (model X.prog X.w) h3 (typeOf (.ref a)) cls := fun A Q E s k q => wpAny_typeOf_ref (k _ _ he3) (by rw [hz3.1]; exact q)
    have key : ∀ hs : List HdR, (∀ h ∈ hs, HdR.Ok X h) → wExts X.K Wout D hs cls d σ' H' → wpAny (model X.prog X.w) X.A (handleBy (.ref a) X.env (hs.map HdR.ast)) (SP X pins D) X.xe { s' with heap := h3 } := by
      intro hs
      induction hs with
      | nil =>
        intro _ hw
        show wpAny _ X.A (handleBy (.ref a) X.env []) _ _ _
        refine wpAny_handleBy_nil ?_
        obtain ⟨k1, k2, k3, oe, vs, T, oT, ts', he, hz, hd, h1, hr⟩ := id fl3
        unfold PySem.passOn
        refine wpAny_bind (wpAny_field he hd h1 ?_)
        rw [if_neg (show ¬ ((Value.ref T == Value.none) = true) from by simp)]
        have fin : wpAny (model X.prog X.w) X.A (setFlight (.ref a) X.env.frame) (fun _ s4 => wpAny (model X.prog X.w) X.A (throw (.ref a) : Sem Flow) (SP X pins D) X.xe s4) X.xe { s' with heap := h3 } := by
          rw [hf]
          refine HandSPX.setFlight_upZ fl3 fun h4 hh4 up4 => wpAny_throw (tk _ _ ?_)
          exact ⟨a, B, sI, pins, σ', H', cls, d, rfl, J, nb, (up.trans up3).trans up4, .inr (.inr (by rw [hst]; exact hh4)), na, os, ag, hw⟩
        first
          | exact wpAny_bind (wpAny_pure (wpAny_bind fin))
          | exact wpAny_bind fin
      | cons hd0 hs ih =>
        intro okh hw
        obtain ⟨b, hb1, hyes, hno⟩ := hw
        have o0 := okh hd0 List.mem_cons_self
        have hloc : Loc X.env.scope hd0.n := .inl o0.loc
        refine wpAny_handleBy_cons (codeAny_handlers_test ?_) (by intro q; cases q)
        have LM := PySem.W.exm_one (M := model X.prog X.w) (J3.kIn) LT hb1
        have test : ∀ {Q : Value → Shared → Prop} {E : Value → Shared → Prop}, Q hd0.c { s' with heap := h3 } → wpAny (model X.prog X.w) (X.A.mark (some (.ref a))) (eval (.Name hd0.x hd0.np) X.env) Q E { s' with heap := h3 } := fun {Q E} q => by
          obtain ⟨hg, hdbg, hm | ⟨hm, hv, hnn⟩⟩ := o0.nm
          · exact ld_glob (X := X.suite a ((a, oe3) :: (X.pn ++ pins))) S3 hg hm q hdbg
          · exact ld_blt (X := X.suite a ((a, oe3) :: (X.pn ++ pins))) S3 hg hm hv q hnn hdbg
        refine test (LM.here ?_)
        cases b with
        | true =>
          refine codeAny_handlers_suite_as ?_
          refine HandSPX.lands_againZ fl3 fun h4 fl4 up4 => ?_
          have J4 : Inv X pins σ' H' { s' with heap := h4 } := J.landed nb fl4.1 ((up.trans up3).trans up4) os ag
          obtain ⟨oe4, vs4, he4, hz4, hd4⟩ := fl4.there
          have J5 : Inv X pins σ' (upd H' a (ExE cls d a)) { s' with heap := h4 } := inv_ext J J4 hI na nL nF (exE_ok he4 hz4 hd4)
          have S4 := inv_suite J5 a
          refine store_ok (X := X.suite a (X.pn ++ pins)) (v := .ref a) S4 hN o0.at_ hloc rfl (fun s5 S5 => ?_) (.inr o0.loc)
          refine wpAny_mono ((o0.su a (X.pn ++ pins)).run [] s5 _ _ _ S5 (hyes rfl a na)) (fun f s6 hsp => ?_) (fun _ _ z => False.elim z)
          have end_ : ∀ {σ6 : L2.St} {H6 : Hp} {Q : Shared → Prop}, Inv (X.suite a (X.pn ++ pins)) [] σ6 H6 s6 → (∀ s7, Inv X pins (σ6.set hd0.i none) H6 s7 → Q s7) →
              wpAny (model X.prog X.w) X.A (do bindName X.env hd0.n .none; unbindBehindTheSuite X.env hd0.n hd0.ps) (fun _ s7 => Q s7) X.xe s6 := fun {σ6 H6 Q} S6 hq => gone_ok (inv_unsuite S6 ok) hN o0.at_ o0.loc hq
          cases f with
          | next =>
            obtain ⟨σ6, H6, S6, q6⟩ := hsp
            exact end_ S6 fun s7 J7 => ⟨_, _, J7, q6⟩
          | brk =>
            obtain ⟨σ6, H6, S6, q6⟩ := hsp
            exact end_ S6 fun s7 J7 => ⟨_, _, J7, q6⟩
          | cont =>
            obtain ⟨σ6, H6, S6, q6⟩ := hsp
            exact end_ S6 fun s7 J7 => ⟨_, _, J7, q6⟩
          | ret u =>
            obtain ⟨v6, σ6, H6, S6, r6, q6⟩ := hsp
            exact end_ S6 fun s7 J7 => ⟨_, _, _, J7, r6, q6⟩
        | false => exact ih (fun h hh => okh h (List.mem_cons_of_mem _ hh)) (hno rfl)
    exact key (h0 :: hs) ok0 hw
  · cases f with
    | next =>
      obtain ⟨σ', H', J', q⟩ := hsp
      exact wpAny_execs_nil ⟨σ', H', J'.ofTry ok, q⟩
    | brk =>
      obtain ⟨σ', H', J', q⟩ := hsp
      exact ⟨σ', H', J'.ofTry ok, q⟩
    | cont =>
      obtain ⟨σ', H', J', q⟩ := hsp
      exact ⟨σ', H', J'.ofTry ok, q⟩
    | ret u =>
      obtain ⟨v, σ', H', J', r, q⟩ := hsp
      exact ⟨v, σ', H', J'.ofTry ok, r, q⟩
end
/-- the clauses, one behind the other -/
def hdl : List (Nat × List (String × Bool) × SM4) → Exc → SM4
  | [], x => fun env st => .ex x env st
  | (i, tab, u) :: r, x => fun env st => match tabB tab x.cls with
    | some true => (match u (env.set i (some (.exc x.cls (x.fs.map (·.1)) (x.fs.map (·.2))))) st with
      | .nx env2 st2 => .nx (env2.set i none) st2
      | .rt d st2 => .rt d st2
      | _ => .bad)
    | some false => hdl r x env st
    | none => .bad
def sTryM (m : SM4) (cs : List (Nat × List (String × Bool) × SM4)) : SM4 := fun env st => match m env st with
  | .ex x env1 st1 => hdl cs x env1 st1
  | r => r
section
variable {X : Cx} {W : WX}
/-- an exception as a value in a suite -/
theorem exc_val {K : PySem.W.Frag} {mg : Str → Option Value} {H' : Hp} {r' : Rho} {st1 : Sto} {z : Exc} {C a : Addr} {d : Option Addr} (s : SR K H' r' st1) (ha : H' a = none) (hx : XR K mg H' r' z (.ref C) d) : VD K (upd H' a (ExE (.ref C) d a)) r' (.exc z.cls (z.fs.map (·.1)) (z.fs.map (·.2))) (.ref a) := by
  obtain ⟨⟨C', k1, e⟩, k2⟩ := hx
  cases e
  have ef : Ext H' r' (upd H' a (ExE (.ref C) d a)) r' := Ext.fresh ha
  cases qf : z.fs with
  | nil =>
    rw [qf] at k2
    exact ⟨a, [], rfl, ⟨C, d, s.notin ha, k1, upd_same, .inl ⟨rfl, rfl, k2⟩⟩, rfl⟩
  | cons p0 ps0 =>
    rw [qf] at k2
    obtain ⟨dd, vs, y1, y2, y3, y4⟩ := k2
    obtain ⟨z1, z2⟩ := fs_zip y4
    refine ⟨a, vs.map (·.2), rfl, ⟨C, d, s.notin ha, k1, upd_same, .inr ⟨dd, y1, y2, ?_, by simp⟩⟩, VDs.ext ef _ _ z2⟩
    rw [z1, upd_ne (ne_of_none y3 ha)]
    exact y3
/-- one clause -/
structure Clz (X : Cx) (h : HdR) (c : Nat × List (String × Bool) × SM4) : Prop where
  i : h.i = c.1
  ex : ∃ y, y.at X.K h.c ∧ ∀ q ∈ c.2.1, ExmAt X.K q.1 y q.2
  ts : h.ts = tS X.K X.mg E0W c.2.2
theorem hdl_wish {D : Ends} : ∀ {hs : List HdR} {cs : List (Nat × List (String × Bool) × SM4)} {z : Exc} {env1 : Env} {st1 : Sto} {H' : Hp} {r' : Rho} {σ' : L2.St} {cls : Value} {d : Option Addr}, Paired (Clz X) hs cs → RS X.K X.mg W D H' r' (hdl cs z env1 st1) → SR X.K H' r' st1 → ER X.K H' r' env1 σ' → XR X.K X.mg H' r' z cls d → wExts X.K W D hs cls d σ' H'
  | [], _, z, env1, st1, H', r', σ', cls, d, .nil, h, s, hE, hx => h cls d σ' H' r' (Ext.refl _ _) s hE hx
  | h0 :: hs, _, z, env1, st1, H', r', σ', cls, d, .cons (b := c) hc hcs, h, s, hE, hx => by
    obtain ⟨i, tab, u⟩ := c
    obtain ⟨e1, ⟨y, c1, ht⟩, e3⟩ := hc
    simp only at e1 e3 ht
    obtain ⟨⟨C, k1, rfl⟩, k2⟩ := id hx
    unfold hdl at h
    cases qt : tabB tab z.cls with
    | none => simp only [qt] at h; exact h.elim
    | some b =>
      obtain ⟨C', v', f1, f2, f3⟩ := (ht _ (tabB_mem qt)).ex
      rw [k1] at f1; cases f1
      cases Cl.at_eq f2 c1
      refine ⟨b, f3, fun hbt a ha => ?_, fun hbf => ?_⟩
      · subst hbt
        simp only [qt] at h
        have ef : Ext H' r' (upd H' a (ExE (.ref C) d a)) r' := Ext.fresh ha
        rw [e3, e1]
        refine ⟨r', env1.set i (some (.exc z.cls (z.fs.map (·.1)) (z.fs.map (·.2)))), st1, (hE.ext ef).set i (exc_val s ha hx), s.fresh ha, ?_⟩
        have h2 := RS.mono h ef (s.fresh ha)
        revert h2
        cases u (env1.set i (some (.exc z.cls (z.fs.map (·.1)) (z.fs.map (·.2))))) st1 with
        | nx env2 st2 => exact fun h2 σ2 H2 r2 e2 s2 hE2 => h2 (σ2.set i none) H2 r2 e2 s2 (hE2.unset i)
        | rt d2 st2 => exact fun h2 => h2
        | ex _ _ _ => exact fun h2 => h2.elim
        | bad => exact fun h2 => h2
      · subst hbf
        simp only [qt] at h
        exact hdl_wish hcs h s hE hx
variable {x1 x2 n1 n2 : Str} {i1 i2 : Nat} {body s1 s2 : List Stmt} {b1 b2 : Stmt} {np1 np2 pos p1 p2 : Pos} {m u1 u2 : SM4} {y1 y2 : Cl} {t1 t2 : List (String × Bool)}
theorem fs_try2 (hst : X.stack = X.env :: X.outer) (hf : X.env.frame = some X.env.locals) (hN : X.N.Nodup) (hi1 : X.N[i1]? = some n1) (hl1 : X.env.kindOf n1 = some .local) (hi2 : X.N[i2]? = some n2) (hl2 : X.env.kindOf n2 = some .local)
    (c1 : ClVal X x1 y1) (ht1 : ∀ q ∈ t1, ExmAt X.K q.1 y1 q.2) (c2 : ClVal X x2 y2) (ht2 : ∀ q ∈ t2, ExmAt X.K q.1 y2 q.2) (tk : Takes X W)
    (hb : ∀ (W : WX) (pn : List (Addr × Obj)) (xe : Value → Shared → Prop), Takes (X.tr pn xe) W → PassesOwn (model X.prog X.w) X.A X.env xe → FB (X.tr pn xe) W body m)
    (hsu1 : ∀ (a : Addr) (pn : List (Addr × Obj)), FB (X.suite a pn) E0W (b1 :: s1) u1) (hsu2 : ∀ (a : Addr) (pn : List (Addr × Obj)), FB (X.suite a pn) E0W (b2 :: s2) u2) :
    FS X W (.Try body [.ExceptHandler (some (.Name x1 np1)) (some n1) (b1 :: s1) p1, .ExceptHandler (some (.Name x2 np2)) (some n2) (b2 :: s2) p2] [] [] pos) (sTryM m [(i1, t1, u1), (i2, t2, u2)]) := by
  obtain ⟨v1, d1, d2⟩ := c1.ex
  obtain ⟨v2, g1, g2⟩ := c2.ex
  refine PS.imp (ps_try_exts (tb := fun W => tS X.K X.mg W m) (Wout := W) (h0 := ⟨x1, np1, n1, i1, v1, b1, s1, p1, tS X.K X.mg E0W u1⟩) (hs := [⟨x2, np2, n2, i2, v2, b2, s2, p2, tS X.K X.mg E0W u2⟩]) hst hf hN tk (fun h hh => ?_) hb) fun D σ H ⟨r, env, st, hE, hS, h⟩ => ⟨r, env, st, hE, hS, ?_⟩
  · simp only [List.mem_cons, List.not_mem_nil, or_false] at hh
    rcases hh with rfl | rfl
    · exact ⟨hi1, hl1, d2, hsu1⟩
    · exact ⟨hi2, hl2, g2, hsu2⟩
  unfold sTryM at h
  cases q : m env st with
  | nx env1 st1 => rw [q] at h; exact h
  | rt d st1 => rw [q] at h; exact h
  | bad => rw [q] at h; exact h
  | ex z env1 st1 =>
    rw [q] at h
    simp only at h
    intro cls d σ' H' r' e s hE1 hx
    exact hdl_wish (.cons ⟨rfl, ⟨y1, d1, ht1⟩, rfl⟩ (.cons ⟨rfl, ⟨y2, g1, ht2⟩, rfl⟩ .nil)) (RS.mono h e s) s hE1 hx
end
/-! ### a class with fields, by the module's facts -/
structure ClsR (K : PySem.W.Frag) (mg : Str → Option Value) (cls qual : String) (st : Stmt) (ps fs : List Str) : Prop where
  ex : ∃ C fI fd, PySem.W.nsIn K mainGlobals (Str.ofString cls) = some (some (.ref C)) ∧ mg (Str.ofString cls) = some (.ref C) ∧ OexC K C ∧ (∀ f ∈ fs, PySem.W.findIn K (.ref C) f = some none) ∧
    PySem.W.findIn K (.ref C) "__init__" = some (some (.ref fI)) ∧ PySem.W.typeIn K (.ref fI) = some (.type "function") ∧ L2.Fun K "__init__" (Str.ofString qual) st fI fd ∧ Binds K fd ps []
section
variable {P : Program} {w : World} {K : PySem.W.Frag} {mg : Str → Option Value} {base : Heap} {cls qual : String} {st : Stmt}
theorem ClsR.ok1 {f1 m : Str} (c : ClsR K mg cls qual st ["self", f1] [f1]) (S : FnScope ["self", f1] ["self", f1] (defScope st))
    (hb : ∀ (f : Addr) (cdv : Value) (A : Around) (outer : List PySem.Env) (s : Shared) (H : Hp) (E : XK), PSs (cxOf (L2.CX P w) P w K mg base ["self", f1] (Str.ofString qual) (defScope st) f cdv A outer s H E) (defBody st) (tIni1 K f1 m)) : ClsF P w K mg base (L2.CX P w) cls 2 [f1] := by
  obtain ⟨C, fI, fd, c1, c2, c3, c4, c5, c6, c7, c8⟩ := c.ex
  exact ⟨C, fI, fd, _, c1, c2, c3, c4, c5, c6, ini_ok1 c7 S fun cdv A outer s H E => hb fI cdv A outer s H E, c8⟩
theorem ClsR.ok2 {f1 f2 m : Str} (c : ClsR K mg cls qual st ["self", f1, f2] [f1, f2]) (S : FnScope ["self", f1, f2] ["self", f1, f2] (defScope st))
    (hb : ∀ (f : Addr) (cdv : Value) (A : Around) (outer : List PySem.Env) (s : Shared) (H : Hp) (E : XK), PSs (cxOf (L2.CX P w) P w K mg base ["self", f1, f2] (Str.ofString qual) (defScope st) f cdv A outer s H E) (defBody st) (tIni2 K f1 f2 m)) : ClsF P w K mg base (L2.CX P w) cls 2 [f1, f2] := by
  obtain ⟨C, fI, fd, c1, c2, c3, c4, c5, c6, c7, c8⟩ := c.ex
  exact ⟨C, fI, fd, _, c1, c2, c3, c4, c5, c6, ini_ok2 c7 S fun cdv A outer s H E => hb fI cdv A outer s H E, c8⟩
end
theorem clsR_mk {K : PySem.W.Frag} {mg : Str → Option Value} {h : Heap} {cls qual : String} {st : Stmt} {ps fs : List Str} {C fI N : Addr} {nm q : Str} {bs bm : List Value} {sn : List Str} {sub : List Value} {ab : Bool} {col : Option Bool} {dd : Option Addr} {k0 k1 k2 k3 k5 : Option Value}
    {oc kV doc pm cdv ct : Value} {od an : Option Addr} {osl : Array (Option Value)} (X : K.In h) (G : h.Ns mainGlobals mg)
    (a : PySem.W.nsIn K mainGlobals (Str.ofString cls) = some (some (.ref C))) (xL : K.lookup C = some (excClassObj nm q C N bs bm true sn sub ab col dd k0 k1 k2 k3 k5 "ValueError.__new__")) (hbm : PySem.HandSPX.refsVE bm = true)
    (sa : PySem.W.findIn K (.ref C) "__setattr__" = some (some (.builtin "object.__setattr__"))) (eC : PySem.W.subIn K (.ref C) (.type "BaseException") = some true) (tC : PySem.W.typeIn K (.ref C) = some (.type "type")) (kC : PySem.W.keepIn K (.ref C) = true)
    (nf : ∀ f ∈ fs, PySem.W.findIn K (.ref C) f = some none) (a1 : PySem.W.findIn K (.ref C) "__init__" = some (some (.ref fI))) (t1 : PySem.W.typeIn K (.ref fI) = some (.type "function"))
    (l1 : K.lookup fI = some ⟨oc, od, .func (PySem.W.fnOf "__init__" (Str.ofString qual) (defArgs st) (defBody st) (defScope st) .none kV doc pm an cdv ct), osl⟩) (c1 : PySem.W.codeIn K cdv (Str.ofString qual) = true) (k1 : PySem.W.keepIn K (.ref fI) = true)
    (b : ∀ F : L2.Fun K "__init__" (Str.ofString qual) st fI (PySem.W.fnOf "__init__" (Str.ofString qual) (defArgs st) (defBody st) (defScope st) .none kV doc pm an cdv ct), Binds K (PySem.W.fnOf "__init__" (Str.ofString qual) (defArgs st) (defBody st) (defScope st) .none kV doc pm an cdv ct) ps []) : ClsR K mg cls qual st ps fs :=
  ⟨C, fI, _, a, PySem.W.mg_of X G a, ⟨⟨nm, q, N, bs, bm, sn, sub, ab, col, dd, k0, _, k2, k3, k5, xL, hbm⟩, sa, eC, tC, kC⟩, nf, a1, t1, fun_mk l1 c1 k1, b (fun_mk l1 c1 k1)⟩
end FL

namespace FL
open PySem PySem.Spec PyProof.Rows L2
variable [TabCtx]
/-! ## what may raise, typed -/
abbrev OC := D ⊕ Exc
def flatX (x : Exc) : Bool := x.fs.all fun p => D.flt 20 p.2
mutual
theorem flt_blw {n : Nat} : ∀ {k : Nat} (d : D), D.flt k d = true → d.blw n = true
  | k, .non, _ => rfl
  | k, .bl _, _ => rfl
  | k, .int _, _ => rfl
  | k, .str _, _ => rfl
  | k, .scr _, _ => rfl
  | 0, .tup _, h => by simp [D.flt] at h
  | k + 1, .tup ds, h => by
    show D.blws n ds = true
    exact flt_blws ds (by simpa [D.flt] using h)
  | 0, .lst _, h => by simp [D.flt] at h
  | k + 1, .lst ds, h => by
    show D.blws n ds = true
    exact flt_blws ds (by simpa [D.flt] using h)
  | 0, .loc _, h => by simp [D.flt] at h
  | k + 1, .loc _, h => by simp [D.flt] at h
  | 0, .exc _ _ _, h => by simp [D.flt] at h
  | k + 1, .exc _ _ ds, h => by
    show D.blws n ds = true
    exact flt_blws ds (by simpa [D.flt] using h)
theorem flt_blws {n : Nat} : ∀ {k : Nat} (ds : List D), (∀ d ∈ ds, D.flt k d = true) → D.blws n ds = true
  | k, [], _ => rfl
  | k, d :: ds, h => by
    show (d.blw n && D.blws n ds) = true
    rw [flt_blw d (h d List.mem_cons_self), flt_blws ds fun e he => h e (List.mem_cons_of_mem _ he)]
    rfl
end
/-- given back or raised -/
def RxP (st : Sto) (r : SRes) (o : OC) : Prop := match o with
  | .inl d => RtP st r d
  | .inr x => (∃ env o', r = .ex x env (st ++ o')) ∧ flatX x = true
def xE {α : Type} (c : α → D) : α ⊕ Exc → OC
  | .inl v => .inl (c v)
  | .inr x => .inr x
def resX {α : Type} (c : α → D) (o : α ⊕ Exc) (st : Sto) : Res D := match o with
  | .inl v => .ok (c v) st
  | .inr x => .ex x st
theorem RxP.enter {α : Type} {c : α → D} {st : Sto} {b : SM4} {env : Env} {t : α ⊕ Exc} (h : RxP st (b env (st ++ [])) (xE c t)) : FL.fin true st (b env st) = resX c t st := by
  cases t with
  | inl v => exact RtP.enter h
  | inr x =>
    obtain ⟨⟨e, o', h⟩, hf⟩ := h
    rw [List.append_nil] at h
    rw [h]
    show Res.ex x (shrink st (st ++ o') (x.fs.all fun p => p.2.blw st.length)) = _
    have hb : (x.fs.all fun p => p.2.blw st.length) = true := by
      rw [List.all_eq_true]
      intro p hp
      exact flt_blw _ (List.all_eq_true.mp hf p hp)
    rw [hb, shrink_same]
    rfl
theorem RxP.flat {α : Type} {c : α → D} {st : Sto} {r : SRes} {t : α ⊕ Exc} (h : RxP st r (xE c t)) : ∀ x, t = .inr x → flatX x = true := fun x e => by
  subst e
  exact h.2
def MyP {σ ρ : Type} (st : Sto) (r : SRes) (o : σ ⊕ ρ) (P : σ → Env → Sto → Prop) (e : ρ → OC) : Prop := match o with
  | .inl s => NxP r (P s)
  | .inr v => RxP st r (e v)
section
variable {env env' : Env} {S S' : Sto} {st : Sto} {o o' : List SO} {m : EM} {u v : SM4} {d : OC} {P : Env → Sto → Prop} {σ τ ρ : Type} {e : ρ → OC}
theorem rx_nx (h : u env S = .nx env' S') (k : RxP st (v env' S') d) : RxP st (sSeq u v env S) d := by
  show RxP st ((u env S).bind v) d
  rw [h]; exact k
theorem my_nx {t : σ ⊕ ρ} {Q : σ → Env → Sto → Prop} (h : u env S = .nx env' S') (k : MyP st (v env' S') t Q e) : MyP st (sSeq u v env S) t Q e := by
  show MyP st ((u env S).bind v) t Q e
  rw [h]; exact k
theorem rx_N (h : NxP (u env S) P) (k : ∀ env' S', P env' S' → RxP st (v env' S') d) : RxP st (sSeq u v env S) d := by
  obtain ⟨env', S', h, hp⟩ := h
  exact rx_nx h (k _ _ hp)
theorem my_N {t : σ ⊕ ρ} {Q : σ → Env → Sto → Prop} (h : NxP (u env S) P) (k : ∀ env' S', P env' S' → MyP st (v env' S') t Q e) : MyP st (sSeq u v env S) t Q e := by
  obtain ⟨env', S', h, hp⟩ := h
  exact my_nx h (k _ _ hp)
theorem my_end {s : σ} {Q : σ → Env → Sto → Prop} (h : Q s env S) : MyP st (sNext env S) (.inl s) Q e := ⟨env, S, rfl, h⟩
theorem rx_ret {v : SM4} {d : D} (h : m env (st ++ o) = .ok d (st ++ o)) {x : D} (hf : D.frz (st ++ o) st.length 30 d = some x) : RxP st (sSeq (sRet m) v env (st ++ o)) (.inl x) := rt_ret (v := v) h hf
theorem rx_raise {v : SM4} {x : Exc} (h : u env (st ++ o) = .ex x env (st ++ o)) (hf : flatX x = true) : RxP st (sSeq u v env (st ++ o)) (.inr x) := by
  refine ⟨⟨env, o, ?_⟩, hf⟩
  show (u env (st ++ o)).bind v = _
  rw [h]; rfl
theorem rx_stop (h : RxP st (u env S) d) : RxP st (sSeq u v env S) d := by
  cases d with
  | inl d => exact rt_stop h
  | inr x =>
    obtain ⟨⟨e, o', h⟩, hf⟩ := h
    refine ⟨⟨e, o', ?_⟩, hf⟩
    show (u env S).bind v = _
    rw [h]; rfl
section
variable {t : Env → Sto → Res Bool} {c : Bool} {A B : SM4}
theorem iy_M {P : σ → Env → Sto → Prop} {x y : σ ⊕ ρ} (h : t env S = .ok c S) (ha : c = true → MyP st (A env S) x P e) (hb : c = false → MyP st (B env S) y P e) : MyP st (sIf t A B env S) (if c = true then x else y) P e := by
  cases c with
  | true => rw [sIf_yes h]; exact ha rfl
  | false => rw [sIf_no h]; exact hb rfl
/-- the first gives back -/
theorem iy_RX {x y : ρ} (h : t env S = .ok c S) (ha : c = true → RxP st (A env S) (e x)) (hb : c = false → RxP st (sSeq B v env S) (e y)) : RxP st (sSeq (sIf t A B) v env S) (e (if c = true then x else y)) := by
  cases c with
  | true =>
    refine rx_stop ?_
    rw [sIf_yes h]; exact ha rfl
  | false =>
    show RxP st ((sIf t A B env S).bind v) _
    rw [sIf_no h]; exact hb rfl
theorem iy_XR {x y : ρ} (h : t env S = .ok c S) (ha : c = true → RxP st (sSeq A v env S) (e x)) (hb : c = false → RxP st (B env S) (e y)) : RxP st (sSeq (sIf t A B) v env S) (e (if c = true then x else y)) := by
  cases c with
  | true =>
    show RxP st ((sIf t A B env S).bind v) _
    rw [sIf_yes h]; exact ha rfl
  | false =>
    refine rx_stop ?_
    rw [sIf_no h]; exact hb rfl
theorem my_stop {P : σ → Env → Sto → Prop} {x : ρ} (h : RxP st (u env S) (e x)) : MyP st (sSeq u v env S) (.inr x) P e := rx_stop h
theorem iy_MX {P : σ → Env → Sto → Prop} {x : ρ} {y : σ ⊕ ρ} (h : t env S = .ok c S) (ha : c = true → RxP st (A env S) (e x)) (hb : c = false → MyP st (sSeq B v env S) y P e) : MyP st (sSeq (sIf t A B) v env S) (if c = true then .inr x else y) P e := by
  cases c with
  | true =>
    refine my_stop ?_
    rw [sIf_yes h]; exact ha rfl
  | false =>
    show MyP st ((sIf t A B env S).bind v) _ _ _
    rw [sIf_no h]; exact hb rfl
theorem iy_XM {P : σ → Env → Sto → Prop} {x : ρ} {y : σ ⊕ ρ} (h : t env S = .ok c S) (ha : c = true → MyP st (sSeq A v env S) y P e) (hb : c = false → RxP st (B env S) (e x)) : MyP st (sSeq (sIf t A B) v env S) (if c = true then y else .inr x) P e := by
  cases c with
  | true =>
    show MyP st ((sIf t A B env S).bind v) _ _ _
    rw [sIf_yes h]; exact ha rfl
  | false =>
    refine my_stop ?_
    rw [sIf_no h]; exact hb rfl
end
theorem rx_M {P : σ → Env → Sto → Prop} {t : σ ⊕ ρ} {k : σ → ρ} (h : MyP st (u env S) t P e) (hk : ∀ s env' S', t = .inl s → P s env' S' → RxP st (v env' S') (e (k s))) : RxP st (sSeq u v env S) (e (outR t k)) := by
  cases t with
  | inl s => exact rx_N h fun env' S' hp => hk s env' S' rfl hp
  | inr r => exact rx_stop h
theorem my_M {P : σ → Env → Sto → Prop} {Q : τ → Env → Sto → Prop} {t : σ ⊕ ρ} {k : σ → τ ⊕ ρ} (h : MyP st (u env S) t P e) (hk : ∀ s env' S', t = .inl s → P s env' S' → MyP st (v env' S') (k s) Q e) : MyP st (sSeq u v env S) (outM t k) Q e := by
  cases t with
  | inl s => exact my_N h fun env' S' hp => hk s env' S' rfl hp
  | inr r => exact my_stop h
end
theorem for_Y {σ X ρ : Type} {E : σ → Env} {O : σ → List SO} {cx : X → D} {e : ρ → OC} {c : σ → X → Prop} {t : σ → X → σ ⊕ ρ} {ks : List Nat} {src : List (Nat × List D)} {g : GM} {body : SM4} {st : Sto}
    (hs : ∀ s, stillB src (st ++ O s) = true) (hl : ∀ s s', (O s).length = (O s').length)
    (hb : ∀ s x, c s x → ∃ env1, g (cx x) (E s) (st ++ O s) = .ok env1 (st ++ O s) ∧ MyP st (body env1 (st ++ O s)) (t s x) (fun s' env S => kill ks env = E s' ∧ S = st ++ O s') e) :
    ∀ (xs : List X) (s : σ), cForR c t xs s → MyP st (loopF (some ks) src g body (xs.map cx) (E s) (st ++ O s)) (forR t xs s) (fun s' env S => env = E s' ∧ S = st ++ O s') e
  | [], s, _ => ⟨_, _, loopF_nil (hs s), rfl, rfl⟩
  | x :: xs, s, ⟨h1, h2⟩ => by
    obtain ⟨env1, k1, k2⟩ := hb s x h1
    unfold forR
    cases q : t s x with
    | inl s' =>
      rw [q] at k2
      obtain ⟨env2, S2, k2, k3, rfl⟩ := k2
      rw [List.map_cons, loopF_cons (hs s) k1 k2, show ks.foldl (fun e k => e.set k none) env2 = kill ks env2 from rfl, k3,
        shrink_len (by rw [List.length_append, List.length_append, hl s' s])]
      exact for_Y hs hl hb xs s' (h2 s' q)
    | inr r =>
      rw [q] at k2
      have key : ∀ z : SRes, body env1 (st ++ O s) = z → (∀ e2 s2, z ≠ .nx e2 s2) → loopF (some ks) src g body ((x :: xs).map cx) (E s) (st ++ O s) = z := fun z hz hn => by
        rw [List.map_cons]
        show (if stillB src (st ++ O s) = true then (match g (cx x) (E s) (st ++ O s) with
          | .ok env1 st1 => (body env1 st1).bind _
          | _ => .bad) else .bad) = _
        rw [if_pos (hs s), k1]
        simp only [hz]
        cases z with
        | nx e2 s2 => exact absurd rfl (hn e2 s2)
        | _ => rfl
      cases qe : e r with
      | inl d =>
        have k3 : RxP st (body env1 (st ++ O s)) (e r) := k2
        rw [qe] at k3
        obtain ⟨d', o, k4, k5⟩ := k3
        show RxP st _ (e r)
        rw [qe, key _ k4 (fun _ _ z => nomatch z)]
        exact ⟨d', o, rfl, k5⟩
      | inr x' =>
        have k3 : RxP st (body env1 (st ++ O s)) (e r) := k2
        rw [qe] at k3
        obtain ⟨⟨e', o, k4⟩, k5⟩ := k3
        show RxP st _ (e r)
        rw [qe, key _ k4 (fun _ _ z => nomatch z)]
        exact ⟨⟨e', o, rfl⟩, k5⟩
theorem do_forY {σ X ρ : Type} {E : σ → Env} {O : σ → List SO} {cx : X → D} {e : ρ → OC} {c : σ → X → Prop} {t : σ → X → σ ⊕ ρ} {ks : List Nat} {src : List (Nat × List D)} {mi : IM} {g : GM} {body : SM4} {st : Sto} {env : Env} {xs : List X} {s : σ}
    (hi : mi env (st ++ O s) = .ok (xs.map cx, src) (st ++ O s)) (hk : kill ks env = E s) (hs : ∀ s, stillB src (st ++ O s) = true) (hl : ∀ s s', (O s).length = (O s').length)
    (hb : ∀ s x, c s x → ∃ env1, g (cx x) (E s) (st ++ O s) = .ok env1 (st ++ O s) ∧ MyP st (body env1 (st ++ O s)) (t s x) (fun s' env S => kill ks env = E s' ∧ S = st ++ O s') e)
    (hc : cForR c t xs s) : MyP st (sFor (some ks) mi g body env (st ++ O s)) (forR t xs s) (fun s' env S => env = E s' ∧ S = st ++ O s') e := by
  rw [sFor_ap, hi, sFor_o1]
  show MyP st (loopF (some ks) src g body (xs.map cx) (kill ks env) (st ++ O s)) _ _ _
  rw [hk]
  exact for_Y hs hl hb xs s hc
/-! ### while -/
/-! ### calls that may raise -/
def outX {α ρ : Type} (T : α ⊕ Exc) (k : α → ρ ⊕ Exc) : ρ ⊕ Exc := match T with
  | .inl v => k v
  | .inr x => .inr x
def outY {α σ ρ : Type} (T : α ⊕ Exc) (k : α → σ ⊕ (ρ ⊕ Exc)) : σ ⊕ (ρ ⊕ Exc) := match T with
  | .inl v => k v
  | .inr x => .inr (.inr x)
section
variable {env env' : Env} {S S' : Sto} {st : Sto} {o o' : List SO} {m : EM} {ms : Env → Sto → Res (List D)} {u v : SM4} {α β σ : Type} {T : α ⊕ Exc} {c : β → D}
/-- a statement that goes on, or raises -/
theorem rx_X {k : α → β ⊕ Exc} (hv : ∀ a, T = .inl a → RxP st (sSeq u v env (st ++ o)) (xE c (k a))) (hx : ∀ x, T = .inr x → u env (st ++ o) = .ex x env (st ++ o)) (hf : ∀ x, T = .inr x → flatX x = true) : RxP st (sSeq u v env (st ++ o)) (xE c (outX T k)) := by
  cases q : T with
  | inl a => exact hv a q
  | inr x => exact rx_raise (hx x q) (hf x q)
theorem my_X {P : σ → Env → Sto → Prop} {k : α → σ ⊕ (β ⊕ Exc)} (hv : ∀ a, T = .inl a → MyP st (sSeq u v env (st ++ o)) (k a) P (xE c)) (hx : ∀ x, T = .inr x → u env (st ++ o) = .ex x env (st ++ o)) (hf : ∀ x, T = .inr x → flatX x = true) : MyP st (sSeq u v env (st ++ o)) (outY T k) P (xE c) := by
  cases q : T with
  | inl a => exact hv a q
  | inr x => exact rx_raise (hx x q) (hf x q)
theorem dx_set {i : Nat} {x : Exc} (h : m env S = .ex x S) : sSet i m env S = .ex x env S := by rw [sSet_ap, h]; rfl
theorem dx_drop {x : Exc} (h : m env S = .ex x S) : sDrop m env S = .ex x env S := by rw [sDrop_ap, h]; rfl
theorem dx_ret {x : Exc} (h : m env S = .ex x S) : sRet m env S = .ex x env S := by rw [sRet_ap, h]; rfl
theorem dx_raise {cls : String} : sRaise cls env S = .ex ⟨cls, []⟩ env S := rfl
theorem dx_raiseF {cls : String} {fs : List Str} {ds : List D} (h : ms env S = .ok ds S) (hl : ds.length = fs.length) : sRaiseF cls fs ms env S = .ex ⟨cls, (fs.zip ds).reverse⟩ env S := by
  show (ms env S).on env _ = _
  rw [h]
  simp only [Res.on_ok, if_pos hl]
theorem ex_call {n : Nat} {f : Fn} {ds : List D} {x : Exc} (h : ms env S = .ok ds S) (hl : ds.length = n) (hf : f ds S = .ex x S) : eCall n f ms env S = .ex x S := by
  show (ms env S).bind _ = _
  rw [h]
  simp only [Res.bind_ok, if_pos hl, hf]
theorem ex_here {x : Exc} (h : m env S = .ex x S) : aCons m ms env S = .ex x S := by
  show (m env S).bind _ = _
  rw [h]; rfl
theorem ex_there {a : D} {x : Exc} (h : m env S = .ok a S) (h2 : ms env S = .ex x S) : aCons m ms env S = .ex x S := by
  show (m env S).bind _ = _
  rw [h]
  show (ms env S).bind _ = _
  rw [h2]; rfl
theorem ex_tup {x : Exc} (h : ms env S = .ex x S) : eTup ms env S = .ex x S := by
  show (ms env S).bind _ = _
  rw [h]; rfl
theorem resX_ok {cc : α → D} {r : Res D} (h : r = resX cc T S) {a : α} (e : T = .inl a) : r = .ok (cc a) S := by rw [h, e]; rfl
theorem resX_ex {cc : α → D} {r : Res D} (h : r = resX cc T S) {x : Exc} (e : T = .inr x) : r = .ex x S := by rw [h, e]; rfl
theorem fx_nil {cls : String} : flatX ⟨cls, []⟩ = true := rfl
theorem fx_cons {cls : String} {f : Str} {d : D} {fs : List (Str × D)} (h : D.flt 20 d = true) (h2 : flatX ⟨cls, fs⟩ = true) : flatX ⟨cls, (f, d) :: fs⟩ = true := by
  unfold flatX at *
  rw [List.all_cons, h2]
  simp only [h, Bool.and_self]
end
/-! ### exceptions as values -/
@[reducible] def cX (x : Exc) : D := .exc x.cls (x.fs.map (·.1)) (x.fs.map (·.2))
def isX (tab : List (String × Bool)) (x : Exc) : Bool := (tabB tab x.cls).getD false
def okX (tab : List (String × Bool)) (x : Exc) : Prop := (tabB tab x.cls).isSome = true
def isOX (tab : List (String × Bool)) : Option Exc → Bool
  | none => false
  | some x => isX tab x
def okOX (tab : List (String × Bool)) : Option Exc → Prop
  | none => True
  | some x => okX tab x
def fldX (f : Str) (x : Exc) : D := (fldD f (x.fs.map (·.1)) (x.fs.map (·.2))).getD .non
def okF (tab : List String) (f : Str) (x : Exc) : Prop := x.cls ∈ tab ∧ (fldD f (x.fs.map (·.1)) (x.fs.map (·.2))).isSome = true
def fldOX (f : Str) : Option Exc → D
  | none => .non
  | some x => fldX f x
def okOF (tab : List String) (f : Str) : Option Exc → Prop
  | none => False
  | some x => okF tab f x
section
variable {env : Env} {S : Sto} {m : EM}
theorem ev_isX {tab : List (String × Bool)} {x : Exc} (h : m env S = .ok (cX x) S) (hk : okX tab x) : eIsy tab m env S = .ok (cB (isX tab x)) S := by
  show (m env S).bind _ = _
  rw [h]
  show (match tabB tab x.cls with
    | some b => Res.ok (D.bl b) S
    | none => .bad) = _
  unfold okX at hk
  unfold isX
  cases q : tabB tab x.cls with
  | none => rw [q] at hk; cases hk
  | some b => rfl
theorem ev_isOX {tab : List (String × Bool)} {x : Option Exc} (h : m env S = .ok (cO cX x) S) (hk : okOX tab x) : eIsy tab m env S = .ok (cB (isOX tab x)) S := by
  cases x with
  | none =>
    show (m env S).bind _ = _
    rw [h]; rfl
  | some x => exact ev_isX h hk
theorem ev_fldX {tab : List String} {f : Str} {x : Exc} (h : m env S = .ok (cX x) S) (hk : okF tab f x) : eFld tab f m env S = .ok (fldX f x) S := by
  show (m env S).bind _ = _
  rw [h]
  show (if x.cls ∈ tab then (match fldD f (x.fs.map (·.1)) (x.fs.map (·.2)) with
    | some v => Res.ok v S
    | none => .bad) else .bad) = _
  rw [if_pos hk.1]
  have h2 := hk.2
  unfold fldX
  cases q : fldD f (x.fs.map (·.1)) (x.fs.map (·.2)) with
  | none => rw [q] at h2; cases h2
  | some v => rfl
theorem ev_fldOX {tab : List String} {f : Str} {x : Option Exc} (h : m env S = .ok (cO cX x) S) (hk : okOF tab f x) : eFld tab f m env S = .ok (fldOX f x) S := by
  cases x with
  | none => exact hk.elim
  | some x => exact ev_fldX h hk
end
/-! ### try -/
section
variable {env : Env} {S : Sto} {α τ : Type} {T : α ⊕ Exc} {P : τ → Env → Sto → Prop} {m u u1 u2 : SM4} {i i1 i2 : Nat} {tab t1 t2 : List (String × Bool)}
theorem do_try1 {g : α → τ} {k : Exc → τ} (hv : ∀ a, T = .inl a → NxP (m env S) (P (g a))) (hx : ∀ x, T = .inr x → m env S = .ex x env S) (ht : ∀ x, T = .inr x → tabB tab x.cls = some true)
    (hu : ∀ x, T = .inr x → NxP (u (env.set i (some (cX x))) S) (fun env' S' => P (k x) (env'.set i none) S')) : NxP (sTry m i tab u env S) (P (Sum.elim g k T)) := by
  cases q : T with
  | inl a =>
    obtain ⟨e, s, h1, h2⟩ := hv a q
    refine ⟨e, s, ?_, h2⟩
    unfold sTry
    rw [h1]
  | inr x =>
    obtain ⟨e, s, h1, h2⟩ := hu x q
    refine ⟨e.set i none, s, ?_, h2⟩
    unfold sTry
    rw [hx x q]
    simp only [ht x q]
    show (match u (env.set i (some (cX x))) S with
      | .nx env2 st2 => SRes.nx (env2.set i none) st2
      | .rt d st2 => .rt d st2
      | _ => .bad) = _
    rw [h1]
theorem do_try2 {g : α → τ} {k1 k2 : Exc → τ} (hv : ∀ a, T = .inl a → NxP (m env S) (P (g a))) (hx : ∀ x, T = .inr x → m env S = .ex x env S) (ht : ∀ x, T = .inr x → okX t1 x ∧ (isX t1 x = false → tabB t2 x.cls = some true))
    (hu1 : ∀ x, T = .inr x → isX t1 x = true → NxP (u1 (env.set i1 (some (cX x))) S) (fun env' S' => P (k1 x) (env'.set i1 none) S'))
    (hu2 : ∀ x, T = .inr x → isX t1 x = false → NxP (u2 (env.set i2 (some (cX x))) S) (fun env' S' => P (k2 x) (env'.set i2 none) S')) : NxP (sTryM m [(i1, t1, u1), (i2, t2, u2)] env S) (P (Sum.elim g (fun x => if isX t1 x = true then k1 x else k2 x) T)) := by
  cases q : T with
  | inl a =>
    obtain ⟨e, s, h1, h2⟩ := hv a q
    refine ⟨e, s, ?_, h2⟩
    unfold sTryM
    rw [h1]
  | inr x =>
    obtain ⟨a1, a2⟩ := ht x q
    show NxP _ (P (if isX t1 x = true then k1 x else k2 x))
    unfold okX at a1
    cases qt : tabB t1 x.cls with
    | none => rw [qt] at a1; cases a1
    | some b =>
      have eb : isX t1 x = b := by unfold isX; rw [qt]; rfl
      cases b with
      | true =>
        obtain ⟨e, s, h1, h2⟩ := hu1 x q eb
        rw [if_pos eb]
        refine ⟨e.set i1 none, s, ?_, h2⟩
        unfold sTryM
        rw [hx x q]
        simp only [hdl, qt]
        show (match u1 (env.set i1 (some (cX x))) S with
          | .nx env2 st2 => SRes.nx (env2.set i1 none) st2
          | .rt d st2 => .rt d st2
          | _ => .bad) = _
        rw [h1]
      | false =>
        obtain ⟨e, s, h1, h2⟩ := hu2 x q eb
        rw [if_neg (by rw [eb]; decide)]
        refine ⟨e.set i2 none, s, ?_, h2⟩
        unfold sTryM
        rw [hx x q]
        simp only [hdl, qt, a2 eb]
        show (match u2 (env.set i2 (some (cX x))) S with
          | .nx env2 st2 => SRes.nx (env2.set i2 none) st2
          | .rt d st2 => .rt d st2
          | _ => .bad) = _
        rw [h1]
end
theorem MyP.mono {σ ρ : Type} {st : Sto} {r : SRes} {o : σ ⊕ ρ} {P Q : σ → Env → Sto → Prop} {e : ρ → OC} (h : MyP st r o P e) (i : ∀ s e S, P s e S → Q s e S) : MyP st r o Q e := by
  cases o with
  | inl s => exact NxP.mono h (i s)
  | inr v => exact h
theorem NxP.at {r : SRes} {P : Env → Sto → Prop} {env : Env} {S : Sto} (h : r = .nx env S) (hp : P env S) : NxP r P := ⟨env, S, h, hp⟩
/-! ### a, b = x, y -/
def sPar (i j : Nat) (ms : Env → Sto → Res (List D)) : SM4 := fun env st => (ms env st).on env fun ds st1 => match ds with
  | [a, b] => .nx ((env.set i (some a)).set j (some b)) st1
  | _ => .bad
section
variable {X : Cx} {W : WX} {ms : Env → Sto → Res (List D)} {i j : Nat} {x y : Str} {a b : Expr} {px py pt : Pos} {kt k2 pt2} {pos : Pos}
theorem fs_par (hc : X.calm = true) (hN : X.N.Nodup) (hi : X.N[i]? = some x) (hj : X.N[j]? = some y) (hij : i ≠ j)
    (hx : X.env.scope.names.lookup x = some .local) (hy : X.env.scope.names.lookup y = some .local) (ha : FA X W [a, b] ms)
    (hw : swappedStores [.Tuple [.Name x px, .Name y py] kt pt] (.Tuple [a, b] k2 pt2) X.env = pure (some [x, y]))
    (hs : swapsWithSole [.Tuple [.Name x px, .Name y py] kt pt] (.Tuple [a, b] k2 pt2) pos.line X.env = pure false := by rfl) :
    FS X W (.Assign [.Tuple [.Name x px, .Name y py] kt pt] (.Tuple [a, b] k2 pt2) pos) (sPar i j ms) :=
  PS.imp (ps_par hc hN hi hj hij hx hy ha hw hs) fun D σ H ⟨r, env, st, hE, hS, h⟩ => ⟨r, env, st, hE, hS, RS.on hE h fun ds st1 vs H1 r1 e1 s1 v1 h1 => by
    split at h1
    · obtain ⟨v, w, rfl, v2, v3⟩ := vds2 v1
      exact ⟨v, w, rfl, h1 _ H1 r1 (Ext.refl _ _) s1 (((hE.ext e1).set i v2).set j v3)⟩
    · exact h1.elim⟩
theorem do_par {env : Env} {S : Sto} {a b : D} (h : ms env S = .ok [a, b] S) : sPar i j ms env S = .nx ((env.set i (some a)).set j (some b)) S := by
  show (ms env S).on env _ = _
  rw [h]; rfl
end
/-! ### what is not None -/
theorem cO_sub {α : Type} [Inhabited α] {c : α → D} {v : Option α} {F : D → Prop} (h : v.isNone = false) (k : F (c (v.getD default))) : F (cO c v) := by
  cases v with
  | none => cases h
  | some a => exact k
theorem ev_get {α : Type} [Inhabited α] {c : α → D} {v : Option α} {m : EM} {env : Env} {S : Sto} (h : m env S = .ok (cO c v) S) (hk : v.isSome = true) : m env S = .ok (c (v.getD default)) S := by
  cases v with
  | none => cases hk
  | some a => exact h
/-! ### a list compared with [] -/
theorem eqB_M {α : Type} [DecidableEq α] {c : α → D} (h : EqE 39 c) {xs ys : List α} {st : Sto} {o : List SO} {i : Nat} (ho : o[i]? = some (.lst (xs.map c))) : eqB (st ++ o) (.loc (st.length + i)) (.lst (ys.map c)) = some (decide (xs = ys)) := by
  obtain ⟨p, p1, p2⟩ := h
  have e1 : toPy 40 (st ++ o) (.loc (st.length + i)) = some (.list (xs.map p)) := by
    show (match (st ++ o)[st.length + i]? with
      | some (.lst ds) => (mapO (toPy 39 (st ++ o)) ds).map PyData.list
      | _ => _) = _
    rw [lk ho]
    simp only
    rw [mapO_map fun a _ => p1 _ a]; rfl
  have e2 : toPy 40 (st ++ o) (.lst (ys.map c)) = some (.list (ys.map p)) := by
    show (mapO (toPy 39 (st ++ o)) (ys.map c)).map PyData.list = _
    rw [mapO_map fun a _ => p1 _ a]; rfl
  unfold eqB
  rw [e1, e2]
  simp only [PyData.eqv]
  rw [eqvAll_mapP p2]
theorem eq_M {α : Type} [DecidableEq α] {c : α → D} (h : EqE 39 c) {xs ys : List α} {st : Sto} {o : List SO} {i : Nat} (ho : o[i]? = some (.lst (xs.map c))) : eqD (.loc (st.length + i)) (cL c ys) (st ++ o) = .ok (cB (decide (xs = ys))) (st ++ o) := eqD_of (eqB_M h ho)
theorem ne_M {α : Type} [DecidableEq α] {c : α → D} (h : EqE 39 c) {xs ys : List α} {st : Sto} {o : List SO} {i : Nat} (ho : o[i]? = some (.lst (xs.map c))) : neD (.loc (st.length + i)) (cL c ys) (st ++ o) = .ok (cB (!decide (xs = ys))) (st ++ o) := neD_of (eqB_M h ho)
theorem popI_M {α : Type} [Inhabited α] {c : α → D} {xs : List α} {st : Sto} {o : List SO} {i : Nat} {j : Int} (h : o[i]? = some (.lst (xs.map c))) (hl : xs.length < 1000000 ∧ 0 ≤ j ∧ j < (xs.length : Int)) :
    popAtD (.loc (st.length + i)) [cI j] (st ++ o) = .ok (c (getI xs j)) (st ++ o.set i (.lst ((xs.eraseIdx j.toNat).map c))) := by
  refine popAt_M h hl.1 hl.2.1 ?_
  rw [getI_ge hl.2.1, List.getD_eq_getElem?_getD, List.getElem?_eq_getElem (by omega)]
  rfl
/-! ### a def that gives nothing back -/
def uE (v : SM4) : SM4 := fun env st => (v env st).bind fun _ st2 => .rt .non st2
theorem uE_seq {u v : SM4} : uE (sSeq u v) = sSeq u (uE v) := by
  funext env st
  show ((u env st).bind v).bind _ = (u env st).bind _
  cases u env st <;> rfl
theorem uE_fin {fz : Bool} {st : Sto} {b : SM4} {env : Env} {st0 : Sto} : FL.fin fz st (uE b env st0) = FL.fin fz st (b env st0) := by
  show FL.fin fz st ((b env st0).bind _) = _
  cases b env st0 with
  | nx e s =>
    show finD fz st s .non = Res.ok .non (shrink st s true)
    unfold finD shrink
    by_cases c : chkS st.length st s = true
    · rw [if_pos c, if_pos (show D.non.blw st.length = true from rfl), if_pos (by rw [c]; rfl)]
    · rw [if_neg c, if_neg (by rw [Bool.not_eq_true] at c; rw [c]; decide)]
  | rt d s => rfl
  | ex x e s => rfl
  | bad => rfl
theorem ru_seq {u v : SM4} {env : Env} {S st : Sto} {d : OC} (h : RxP st (sSeq u (uE v) env S) d) : RxP st (uE (sSeq u v) env S) d := by rw [uE_seq]; exact h
theorem ru_end {env : Env} {st : Sto} {o : List SO} : RxP st (uE sNext env (st ++ o)) (xE cU (.inl ())) := ⟨.non, o, rfl, fz_c fl_U (a := ())⟩
theorem RxP.enterU {α : Type} {c : α → D} {st : Sto} {b : SM4} {env : Env} {t : α ⊕ Exc} (h : RxP st (uE b env (st ++ [])) (xE c t)) : FL.fin true st (b env st) = resX c t st := by
  rw [← uE_fin]
  exact RxP.enter h
end FL

namespace FL
open PySem PySem.Spec PyProof.Rows L2
variable [TabCtx]
open SrtO
/-! ## sorted(a tuple of ints) -/
section
variable {prog : Program} {w : World} {A : Around} {E : Value → Shared → Prop} {s : Shared}
theorem collect_tup {l : Addr} {vs : List Value} {Q : List Value → Shared → Prop} (hl : IsTup s.heap l vs.toArray)
    (h : Q vs { s with heap := (s.heap.push (seqObj "list" #[] 0)).update s.heap.objs.size (Obj.mapSeq (· ++ vs.toArray)) }) (hsz : vs.length ≤ sizeLine) :
    wpAny (model prog w) A (collect (.ref l)) Q E s := by
  obtain ⟨o, ho, hc, n, hd⟩ := id hl
  unfold collect
  refine wpAny_bind (wpAny_runValue (codeAny_builtin entry_proto_collect' ?_))
  show wpAny _ _ (do again (.builtin "list.__iadd__" ⟨[← newList [], .ref l], []⟩)) _ _ s
  refine wpAny_bind (wpAny_newList (wpAny_pure ⟨Code.quiet_builtin _ (by decide +kernel), codeAny_builtin entry_list_iadd' ?_⟩))
  show wpAny _ _ (Builtin.List.listExtendWith (.ref s.heap.objs.size) (.ref l) (.ref s.heap.objs.size)) _ _ { s with heap := s.heap.push (seqObj "list" #[] 0) }
  unfold Builtin.List.listExtendWith
  have ho' : (s.heap.push (seqObj "list" #[] 0)).get? l = some o := Heap.get?_push_of_some _ ho
  refine wpAny_bind (wpAny_typeOf (T := "tuple") ⟨o, ho', hc⟩ ?_)
  have ht : (Value.type "tuple" == Value.type "tuple") = true := by rfl
  rw [if_pos (by rw [ht]; simp)]
  refine wpAny_bind (listItems_at ho' hd ?_)
  refine wpAny_bind (listItems_at (xs := #[]) (n := 0) (Heap.get?_push_size _ rfl) rfl ?_)
  rw [if_neg (by simp)]
  refine wpAny_bind (listUpdate_at (xs := #[]) (n := 0) (Heap.get?_push_size _ rfl) rfl ?_ (Nat.zero_le _) (by show (#[] ++ vs.toArray).size ≤ sizeLine + 1; simp only [Array.size_append, List.size_toArray, List.length_nil, Nat.zero_add]; omega))
  refine wpAny_pure ?_
  show wpAny (model prog w) A (do
      let o ← load s.heap.objs.size
      match o.data with
      | .seq xs _ => pure xs.toList
      | _ => unsupported "internal:collect") Q E { s with heap := (s.heap.push (seqObj "list" #[] 0)).update s.heap.objs.size (Obj.mapSeq (· ++ vs.toArray)) }
  refine wpAny_bind (wpAny_load (get?_update_seq (Heap.get?_push_size _ rfl) _) ?_)
  show wpAny _ _ (pure ((#[] : Array Value) ++ vs.toArray).toList) Q E _
  rw [show ((#[] : Array Value) ++ vs.toArray).toList = vs by simp]
  exact wpAny_pure h
theorem sorted_ordT {l : Addr} {vs : List Value} {ltv : Value → Value → Bool} {Q : Value → Shared → Prop} (O : Swo ltv) (hl : IsTup s.heap l vs.toArray) (hz : vs.length ≤ sizeLine)
    (hS : 2 ≤ vs.length → ∀ (h₁ : Heap) (a : Addr), h₁.get? a = some (seqObj "list" vs.toArray 0) → (∀ b o, s.heap.get? b = some o → b ≠ a ∧ h₁.get? b = some o) → SortableO prog w A.in1.in1 { s with heap := h₁ } a vs ltv)
    (h : ∀ out : List Value, Srtd ltv out → Stb ltv out vs → Q (.ref (s.heap.objs.size + 1)) { s with heap := sortedAll s.heap vs out.toArray }) :
    wpAny (model prog w) A (call (.builtin "sorted") [.ref l]) Q E s := by
  refine Calls.call_function_entry kind_sorted plain_sorted entry_sorted (args_sorted1 _) ?_
  unfold Builtin.«sorted»
  refine wpAny_bind (m := checkCount "sorted" 1 1 _) (wpAny_pure ?_)
  refine wpAny_bind (collect_tup hl ?_ hz)
  refine wpAny_bind (wpAny_newList ?_ hz)
  have hsz : ((s.heap.push (seqObj "list" #[] 0)).update s.heap.objs.size (Obj.mapSeq (· ++ vs.toArray))).objs.size = s.heap.objs.size + 1 := by
    rw [Heap.size_update, size_push']
  have hoL : (((s.heap.push (seqObj "list" #[] 0)).update s.heap.objs.size (Obj.mapSeq (· ++ vs.toArray))).push (seqObj "list" vs.toArray 0)).get? (s.heap.objs.size + 1) = some (seqObj "list" vs.toArray 0) := by
    rw [← hsz]; exact Heap.get?_push_size _ rfl
  have keep : ∀ b o, s.heap.get? b = some o → b ≠ s.heap.objs.size + 1 ∧ (((s.heap.push (seqObj "list" #[] 0)).update s.heap.objs.size (Obj.mapSeq (· ++ vs.toArray))).push (seqObj "list" vs.toArray 0)).get? b = some o := fun b o q => by
    have hlt : b < s.heap.objs.size := Heap.lt_size q
    refine ⟨Nat.ne_of_lt (Nat.lt_succ_of_lt hlt), Heap.get?_push_of_some _ ?_⟩
    rw [Heap.get?_update_ne _ _ _ _ (Nat.ne_of_lt hlt)]
    exact Heap.get?_push_of_some _ q
  show wpAny _ _ _ _ _ { s with heap := ((s.heap.push (seqObj "list" #[] 0)).update s.heap.objs.size (Obj.mapSeq (· ++ vs.toArray))).push (seqObj "list" vs.toArray 0) }
  rw [hsz]
  refine wpAny_bind (wpAny_holding (wpAny_call_entry slot_list_sort ⟨_, hoL, rfl⟩ entry_list_sort (list_sort_ord O hoL hz (fun h2 => hS h2 _ _ hoL keep) fun out hs hb => ⟨_, rfl, ?_⟩) (args_list_sort _)))
  exact wpAny_pure ⟨_, rfl, h out hs hb⟩
end
def rSortedIT (K : PySem.W.Frag) : List V → Hp → VK → Prop := fun vs H Q => ∃ (a : Addr) (ns : List Int), vs = [V.ref a] ∧ SqT K H a (ns.map V.int) ∧
  ∀ (ns' : List Int) (p : Addr), ns'.Perm ns → ns'.Pairwise (· ≤ ·) → H p = none → Q (.ref p) (upd H p (.lst (ns'.map V.int)))
variable {X : Cx}
theorem cr_sortedIT : CallR X (.builtin "sorted") (rSortedIT X.K) := by
  intro pins s σ H vs us Q I r h
  obtain ⟨a, ns, rfl, hs, q⟩ := h
  obtain ⟨its, rv, hl, hz⟩ := I.tuple hs
  rw [Vals.ref1 r]
  have hi := rv.ints
  refine sorted_ordT SrtO.swo_int hl (by rw [← rv.length]; exact hz) (fun h2 h₁ a' _ _ => SrtO.ints_sortable hi h2) fun out h1 h2 => ?_
  obtain ⟨k1, k2, k3⟩ := SrtO.ints_out hi h1 h2
  obtain ⟨ep, he'⟩ := PyProof.Rows.sortedAll_at s.heap its out.toArray
  have hlen : ((out.map SrtO.iv).map V.int).length ≤ sizeLine := by
    rw [List.length_map, k2.length_eq]
    rw [List.length_map] at hz
    exact hz
  exact ⟨.ref _, upd H (s.heap.objs.size + 1) (.lst ((out.map SrtO.iv).map V.int)), I.laid (t' := s.toks) (fun _ _ => PyProof.Rows.sortedAll_old) (Nat.le_succ _) ⟨hlen, out, ep, vals_of_ints k1, he'⟩, rfl, q _ _ k2 k3 (I.hok.fresh (Nat.le_succ _))⟩
def sortTp : List D → Sto → Res (List D)
  | [.tup ds], st => match intsD ds with
    | some ns => .ok ((srtI ns).map .int) st
    | none => .bad
  | _, _ => .bad
theorem bn_sortTp : BiN X (.builtin "sorted") sortTp := ⟨_, cr_sortedIT, fun E H r st ds xs Q s v h => by
  unfold sortTp at h
  split at h
  · rename_i es
    obtain ⟨x, rfl, w⟩ := vds1 v
    cases q3 : intsD es with
    | none => simp only [q3] at h; exact h.elim
    | some ns =>
      simp only [q3] at h
      obtain ⟨a, ys, rfl, h1, h2⟩ := w
      rw [intsD_eq q3] at h2
      rw [vds_ints h2] at h1
      refine ⟨a, ns, rfl, h1.sq, fun ns' p hy hs hp => ?_⟩
      rw [srtI_eq hy hs]
      exact RES.ok h s (VDs.ints _) p hp
  · exact h.elim⟩
theorem sort_T {xs : List Int} {S : Sto} : sortTp [cT cI xs] S = .ok ((srtI xs).map cI) S := by
  show (match intsD (xs.map D.int) with
    | some ns => Res.ok ((srtI ns).map D.int) S
    | none => .bad) = _
  rw [intsD_map]
end FL

namespace FL
open PySem PySem.Spec PyProof.Rows L2
variable [TabCtx]
/-! ## lists that stand in a list -/
section
variable {α : Type} {c : α → D} {xs : List α} {S : Sto} {l : Nat} {x : α} {env : Env}
theorem ap_S (h : S[l]? = some (.lst (xs.map c))) (hl : xs.length < 1000000) : apD (.loc l) [c x] S = .ok .non (S.set l (.lst ((xs ++ [x]).map c))) := by
  rw [apD_loc h (by simpa using hl)]
  simp
theorem ins_S {j : Int} (h : S[l]? = some (.lst (xs.map c))) (hl : xs.length < 1000000 ∧ 0 ≤ j ∧ j < 2 ^ 62) : insD (.loc l) [cI j, c x] S = .ok .non (S.set l (.lst ((insI2 xs j x).map c))) := by
  show (match S[l]? with
    | some (.lst ds) => if ds.length < 1000000 ∧ 0 ≤ j ∧ j < 2 ^ 62 then Res.ok D.non (S.set l (.lst (ds.take j.toNat ++ [c x] ++ ds.drop j.toNat))) else .bad
    | _ => .bad) = _
  rw [h]
  simp only [List.length_map, if_pos hl]
  unfold insI2
  simp
theorem put_S {j : Int} {mv mo mi : EM} (hv : mv env S = .ok (c x) S) (ho : mo env S = .ok (.loc l) S) (hi : mi env S = .ok (cI j) S)
    (h : S[l]? = some (.lst (xs.map c))) (hj : IxOk xs.length j) : sPut mv mo mi env S = .nx env (S.set l (.lst ((setI xs j x).map c))) := by
  have h1 := put_M (st := []) (o := S) (i := l) (mv := mv) (mo := mo) (mi := mi) (env := env) (xs := xs) (c := c) (x := x) (j := j) hv (by rw [List.length_nil, Nat.zero_add]; exact ho) hi h hj
  exact h1
theorem new_S {ms : Env → Sto → Res (List D)} {ds : List D} (h : ms env S = .ok ds S) : eNew ms env S = .ok (.loc S.length) (S ++ [.lst ds]) := by
  have h1 := ev_new (st := S) (o := []) (i := 0) (ms := ms) (env := env) (ds := ds) (by rw [List.append_nil]; exact h) rfl
  rw [List.append_nil] at h1
  exact h1
end
theorem mapQ_map {α : Type} {f : D → Option D} {g h : α → D} : ∀ {xs : List α}, (∀ x ∈ xs, f (g x) = some (h x)) → mapQ f (xs.map g) = some (xs.map h)
  | [], _ => rfl
  | x :: xs, H => by
    rw [List.map_cons]
    unfold mapQ
    rw [H x List.mem_cons_self, mapQ_map fun y hy => H y (List.mem_cons_of_mem _ hy)]
    rfl
def nestO (xss : List (List Int)) : List SO := xss.map fun xs => SO.lst (xs.map cI)
theorem nestO_at {xss : List (List Int)} {j : Nat} (h : j < xss.length) : (nestO xss)[j]? = some (.lst ((xss.getD j []).map cI)) := by
  unfold nestO
  rw [List.getElem?_map, List.getD_eq_getElem?_getD, List.getElem?_eq_getElem h]; rfl
theorem nestO_set {xss : List (List Int)} {j : Nat} {l : List Int} : (nestO xss).set j (.lst (l.map cI)) = nestO (xss.set j l) := by
  unfold nestO
  rw [List.map_set]
theorem nestO_len {xss : List (List Int)} : (nestO xss).length = xss.length := by unfold nestO; rw [List.length_map]
theorem frz_nest {st g : Sto} {xss : List (List Int)} : D.frz (st ++ (nestO xss ++ g)) st.length 30 (.lst ((List.range xss.length).map fun i => .loc (st.length + i))) = some (cL (cL cI) xss) := by
  unfold D.frz
  have h : mapQ (D.frz (st ++ (nestO xss ++ g)) st.length 29) ((List.range xss.length).map fun i => D.loc (st.length + i)) = some ((List.range xss.length).map fun i => cL cI (xss.getD i [])) := by
    refine mapQ_map fun i hi => ?_
    rw [List.mem_range] at hi
    unfold D.frz
    rw [if_neg (by omega)]
    have e : (st ++ (nestO xss ++ g))[st.length + i]? = some (.lst ((xss.getD i []).map cI)) := lk (by rw [List.getElem?_append_left (by rw [nestO_len]; exact hi)]; exact nestO_at hi)
    rw [e]
    simp only
    rw [mapQ_map (h := cI) fun x _ => fz_c' (k := 15) fl_I (by decide) (by decide)]
  rw [h]
  simp only
  congr 2
  refine List.ext_getElem (by simp) fun i h1 h2 => ?_
  simp only [List.getElem_map, List.getElem_range]
  rw [List.getD_eq_getElem?_getD, List.getElem?_eq_getElem (by simpa using h2)]
  rfl
theorem comp_alloc {cx : Int → D} {g : GM} {te : EM} {env : Env} {o : SO} {st : Sto} : ∀ {xs : List Int} {k : Nat} {acc : List D}, (∀ x ∈ xs, ∀ S, ∃ env1, g (cx x) env S = .ok env1 S ∧ te env1 S = .ok (.loc S.length) (S ++ [o])) → acc.length + xs.length ≤ 1000000 →
    compL [] g noTest te env (xs.map cx) (st ++ List.replicate k o) acc = .ok (acc ++ (List.range xs.length).map fun i => .loc (st.length + k + i)) (st ++ List.replicate (k + xs.length) o)
  | [], k, acc, _, _ => by
    rw [List.map_nil, compL_nil rfl]; simp
  | x :: xs, k, acc, h, hl => by
    obtain ⟨env1, h1, h2⟩ := h x List.mem_cons_self (st ++ List.replicate k o)
    rw [List.length_cons] at hl
    rw [List.map_cons]
    unfold compL
    rw [if_pos (show stillB [] (st ++ List.replicate k o) = true from rfl), h1]
    simp only [noTest_ap, if_true, h2, if_pos (show acc.length < 1000000 by omega)]
    have e : st ++ List.replicate k o ++ [o] = st ++ List.replicate (k + 1) o := by rw [List.append_assoc, ← List.replicate_succ']
    rw [e, comp_alloc (k := k + 1) (fun y hy => h y (List.mem_cons_of_mem _ hy)) (by rw [List.length_append, List.length_singleton]; omega)]
    congr 1
    · rw [List.append_assoc, List.length_cons, List.range_succ_eq_map, List.map_cons, List.map_map]
      simp only [List.length_append, List.length_replicate, Nat.add_zero, List.singleton_append]
      congr 2
      refine List.map_congr_left fun i _ => ?_
      simp only [Function.comp]
      congr 1
      omega
    · rw [List.length_cons]
      congr 2
      omega
/-- `[[] for _ in range(n)]` -/
theorem alloc_nest {v : Nat} {ms : Env → Sto → Res (List D)} {env : Env} {st : Sto} {n : Nat} (hm : ms env st = .ok [cI (n : Int)] st) (hn : n ≤ 1000) :
    (eFrz (nComp [v] (iRange1 ms) (gSet v) noTest (eNew (nLst aNil)))) env st = .ok (.lst ((List.range n).map fun i => .loc (st.length + i))) (st ++ nestO (List.replicate n [])) := by
  have hi := it_rng1 hm ⟨by omega, by omega⟩
  have hc := comp_alloc (cx := cI) (g := gSet v) (te := eNew (nLst aNil)) (env := wipeE env [v]) (o := SO.lst []) (st := st) (xs := rngI 0 (n : Int)) (k := 0) (acc := []) (fun x _ S => ⟨_, rfl, rfl⟩) (by simp [rngI]; omega)
  have e0 : (rngI 0 (n : Int)).length = n := by simp [rngI]
  rw [e0] at hc
  simp only [List.replicate_zero, List.append_nil, List.nil_append, Nat.add_zero, Nat.zero_add] at hc
  have hne : nestO (List.replicate n []) = List.replicate n (SO.lst []) := by unfold nestO; rw [List.map_replicate]; rfl
  rw [hne, eFrz_ap, nComp_ap, hi, nComp_o1]
  simp only
  rw [hc, eFrz_o1]
/-- a list of lists, and a list of ints, both in the store -/
structure NetS (S : Sto) (lt lh : Nat) (ls : List Nat) (tt : List (List Int)) (homes : List Int) : Prop where
  t : S[lt]? = some (.lst (ls.map D.loc))
  h : S[lh]? = some (.lst (homes.map cI))
  len : ls.length = tt.length
  at_ : ∀ i : Nat, i < tt.length → S[ls.getD i 0]? = some (.lst ((tt.getD i []).map cI))
  nd : (lt :: lh :: ls).Nodup
theorem NetS.lt_len {S : Sto} {lt lh : Nat} {ls : List Nat} {tt : List (List Int)} {homes : List Int} (h : NetS S lt lh ls tt homes) : ∀ l ∈ lt :: lh :: ls, l < S.length := fun l hl => by
  rcases List.mem_cons.mp hl with rfl | hl
  · exact (List.getElem?_eq_some_iff.mp h.t).1
  rcases List.mem_cons.mp hl with rfl | hl
  · exact (List.getElem?_eq_some_iff.mp h.h).1
  · obtain ⟨i, hi, rfl⟩ := List.getElem_of_mem hl
    have := h.at_ i (by rw [← h.len]; exact hi)
    rw [List.getD_eq_getElem?_getD, List.getElem?_eq_getElem hi] at this
    exact (List.getElem?_eq_some_iff.mp this).1
section
variable {S : Sto} {lt lh : Nat} {ls : List Nat} {tt : List (List Int)} {homes : List Int} {env : Env}
theorem NetS.ne (h : NetS S lt lh ls tt homes) {i : Nat} (hi : i < tt.length) : ls.getD i 0 ≠ lt ∧ ls.getD i 0 ≠ lh ∧ lt ≠ lh := by
  have hi2 : i < ls.length := by rw [h.len]; exact hi
  have hm : ls.getD i 0 ∈ ls := by rw [List.getD_eq_getElem?_getD, List.getElem?_eq_getElem hi2]; exact List.getElem_mem hi2
  have n1 := List.nodup_cons.mp h.nd
  have n2 := List.nodup_cons.mp n1.2
  refine ⟨fun e => n1.1 ?_, fun e => n2.1 ?_, fun e => n1.1 ?_⟩
  · rw [← e]; exact List.mem_cons_of_mem _ hm
  · rw [← e]; exact hm
  · rw [e]; exact List.mem_cons_self
theorem NetS.inj (h : NetS S lt lh ls tt homes) {i j : Nat} (hi : i < tt.length) (hj : j < tt.length) (e : ls.getD i 0 = ls.getD j 0) : i = j := by
  have hi2 : i < ls.length := by rw [h.len]; exact hi
  have hj2 : j < ls.length := by rw [h.len]; exact hj
  rw [List.getD_eq_getElem?_getD, List.getElem?_eq_getElem hi2, List.getD_eq_getElem?_getD, List.getElem?_eq_getElem hj2] at e
  exact (List.getElem_inj (List.nodup_cons.mp (List.nodup_cons.mp h.nd).2).2).mp e
/-- one of the lists exchanged -/
theorem NetS.setT (h : NetS S lt lh ls tt homes) {j : Nat} (hj : j < tt.length) (t : List Int) : NetS (S.set (ls.getD j 0) (.lst (t.map cI))) lt lh ls (tt.set j t) homes := by
  obtain ⟨n1, n2, n3⟩ := h.ne hj
  refine ⟨by rw [List.getElem?_set_ne n1]; exact h.t, by rw [List.getElem?_set_ne n2]; exact h.h, by rw [List.length_set]; exact h.len, fun i hi => ?_, h.nd⟩
  rw [List.length_set] at hi
  by_cases e : i = j
  · subst e
    rw [List.getElem?_set_self (h.lt_len _ (by
      have hi2 : i < ls.length := by rw [h.len]; exact hi
      rw [List.getD_eq_getElem?_getD, List.getElem?_eq_getElem hi2]
      exact List.mem_cons_of_mem _ (List.mem_cons_of_mem _ (List.getElem_mem hi2))))]
    rw [List.getD_eq_getElem?_getD, List.getElem?_set_self hi]; rfl
  · rw [List.getElem?_set_ne (fun q => e (h.inj hj hi q).symm), h.at_ i hi, List.getD_eq_getElem?_getD, List.getD_eq_getElem?_getD, List.getElem?_set_ne (fun q => e q.symm)]
theorem NetS.setH (h : NetS S lt lh ls tt homes) (hs : List Int) : NetS (S.set lh (.lst (hs.map cI))) lt lh ls tt hs := by
  have hlt := h.lt_len lh (by simp)
  have n1 := List.nodup_cons.mp h.nd
  have n2 := List.nodup_cons.mp n1.2
  refine ⟨by rw [List.getElem?_set_ne (fun e => n1.1 (by rw [e]; simp))]; exact h.t, by rw [List.getElem?_set_self hlt], h.len, fun i hi => ?_, h.nd⟩
  rw [List.getElem?_set_ne (fun e => (h.ne hi).2.1 e.symm)]
  exact h.at_ i hi
/-- a list more -/
theorem NetS.more (h : NetS S lt lh ls tt homes) (t : List Int) : NetS ((S ++ [SO.lst (t.map cI)]).set lt (.lst ((ls ++ [S.length]).map D.loc))) lt lh (ls ++ [S.length]) (tt ++ [t]) homes := by
  have hall := h.lt_len
  have hlt := hall lt (by simp)
  have hlh := hall lh (by simp)
  have n1 := List.nodup_cons.mp h.nd
  refine ⟨by rw [List.getElem?_set_self (by rw [List.length_append]; omega)], ?_, by rw [List.length_append, List.length_append, h.len]; rfl, fun i hi => ?_, ?_⟩
  · rw [List.getElem?_set_ne (fun e => n1.1 (by rw [e]; simp)), List.getElem?_append_left hlh]; exact h.h
  · rw [List.length_append, List.length_singleton] at hi
    by_cases e : i < tt.length
    · have e2 : i < ls.length := by rw [h.len]; exact e
      have hm : ls.getD i 0 ∈ lt :: lh :: ls := by
        rw [List.getD_eq_getElem?_getD, List.getElem?_eq_getElem e2]
        exact List.mem_cons_of_mem _ (List.mem_cons_of_mem _ (List.getElem_mem e2))
      have g1 : (ls ++ [S.length]).getD i 0 = ls.getD i 0 := by rw [List.getD_eq_getElem?_getD, List.getElem?_append_left e2, List.getD_eq_getElem?_getD]
      have g2 : (tt ++ [t]).getD i [] = tt.getD i [] := by rw [List.getD_eq_getElem?_getD, List.getElem?_append_left e, List.getD_eq_getElem?_getD]
      rw [g1, g2, List.getElem?_set_ne (fun q => (h.ne e).1 q.symm), List.getElem?_append_left (hall _ hm)]
      exact h.at_ i e
    · have e2 : i = tt.length := by omega
      subst e2
      have g1 : (ls ++ [S.length]).getD tt.length 0 = S.length := by rw [← h.len, List.getD_eq_getElem?_getD, List.getElem?_append_right (Nat.le_refl _), Nat.sub_self]; rfl
      have g2 : (tt ++ [t]).getD tt.length [] = t := by rw [List.getD_eq_getElem?_getD, List.getElem?_append_right (Nat.le_refl _), Nat.sub_self]; rfl
      rw [g1, g2, List.getElem?_set_ne (by omega), List.getElem?_append_right (Nat.le_refl _), Nat.sub_self]
      rfl
  · have n2 := List.nodup_cons.mp n1.2
    have hn : S.length ∉ lt :: lh :: ls := fun q => by have := hall _ q; omega
    have : (lt :: lh :: (ls ++ [S.length])) = (lt :: lh :: ls) ++ [S.length] := rfl
    rw [this, List.nodup_append]
    refine ⟨h.nd, by simp, fun a ha b hb e => hn ?_⟩
    rw [← List.mem_singleton.mp hb, ← e]
    exact ha
/-- the turn of an end, from the list of lists -/
theorem NetS.turn (h : NetS S lt lh ls tt homes) {a : Int} {j : Nat} {mt mh ma : EM} (ht : mt env S = .ok (.loc lt) S) (hh : mh env S = .ok (.loc lh) S) (ha : ma env S = .ok (cI a) S) (h0 : 0 ≤ a ∧ a < homes.length) (hj : getI homes a = j) (hj2 : j < tt.length) :
    eOp ixD mt (eOp ixD mh ma) env S = .ok (.loc (ls.getD j 0)) S := by
  have e1 : eOp ixD mh ma env S = .ok (cI (j : Int)) S := by
    rw [← hj]
    exact ev_op hh ha (ix_c (c := cI) (xs := homes) (seqD_loc h.h) ⟨by omega, h0.2⟩)
  refine ev_op ht e1 ?_
  have := ix_c (c := D.loc) (xs := ls) (i := (j : Int)) (S := S) (seqD_loc h.t) ⟨by omega, by rw [h.len]; omega⟩
  rw [this]
  congr 2
end
end FL

namespace FL
open PySem PySem.Spec PyProof.Rows L2
variable [TabCtx]
/-! ## behind some statements the lists made there are read for good -/
def oB (e e' : Option D) : Bool := match e, e' with
  | some d, some d' => D.beq d d'
  | _, _ => false
def fz1 (S : Sto) (n : Nat) (e e' : Option D) : Option D := if oB e e' = true then e else match e' with
  | some d => D.frz S n 30 d
  | none => none
def fzE (S : Sto) (n : Nat) : Env → Env → Env
  | e :: es, e' :: es' => fz1 S n e e' :: fzE S n es es'
  | _, es' => es'.map fun _ => none
def sFz (j : Nat) (m : SM4) : SM4 := fun env st => match m (env.set j none) st with
  | .nx env' st' => if chkS st.length st st' = true then .nx (fzE st' st.length (env.set j none) env') (st'.take st.length) else .bad
  | x => x
theorem fzE_len {S : Sto} {n : Nat} : ∀ {env env' : Env}, (fzE S n env env').length = env'.length
  | [], es' => by cases es' <;> simp [fzE]
  | e :: es, [] => by simp [fzE]
  | e :: es, e' :: es' => by simp [fzE, fzE_len (env := es)]
theorem fzE_get {S : Sto} {n : Nat} {d : D} : ∀ {env env' : Env} {i : Nat}, (fzE S n env env')[i]? = some (some d) → (env[i]? = some (some d) ∧ env'[i]? = some (some d)) ∨ ∃ d', env'[i]? = some (some d') ∧ D.frz S n 30 d' = some d
  | [], es', i, h => by
    have : fzE S n [] es' = es'.map fun _ => none := by cases es' <;> rfl
    rw [this, List.getElem?_map] at h
    cases q : es'[i]? with
    | none => rw [q] at h; cases h
    | some x => rw [q] at h; cases h
  | e :: es, [], i, h => by simp [fzE] at h
  | e :: es, e' :: es', 0, h => by
    have h : fz1 S n e e' = some d := by simpa [fzE] using h
    unfold fz1 at h
    split at h
    · next q =>
      unfold oB at q
      cases e with
      | none => cases h
      | some a =>
        cases h
        cases e' with
        | none => cases q
        | some b => exact .inl ⟨rfl, by rw [D.beq_eq q]; rfl⟩
    · cases e' with
      | none => cases h
      | some b => exact .inr ⟨b, rfl, h⟩
  | e :: es, e' :: es', i + 1, h => fzE_get (env := es) (env' := es') (i := i) (by simpa [fzE] using h)
theorem wp_execs_app {M : Model} {Γ : PySem.Ctx} {env : PySem.Env} {rest : List Stmt} {Q : Flow → PySem.Pos → Shared → Prop} {E : Value → PySem.Pos → Shared → Prop} : ∀ {l : List Stmt} {p : PySem.Pos} {s : Shared},
    Sem.wp M Γ (execs l env) (fun f p' s' => match f with | .next => Sem.wp M Γ (execs rest env) Q E p' s' | f => Q f p' s') E p s → Sem.wp M Γ (execs (l ++ rest) env) Q E p s
  | [], p, s, h => h
  | st :: l, p, s, h => by
    rw [List.cons_append, execs_cons, Sem.wp_bind']
    rw [execs_cons, Sem.wp_bind'] at h
    refine Sem.wp_mono M Γ _ (fun f p' s' h' => ?_) (fun _ _ _ h' => h') _ _ h
    cases f with
    | next => exact wp_execs_app (l := l) h'
    | ret v => exact h'
    | brk => exact h'
    | cont => exact h'
theorem pss_app {X : Cx} {l rest : List Stmt} {t u : TS} (h1 : PSs X l t) (h2 : PSs X rest u) : PSs X (l ++ rest) (tSeq t u) := by
  refine ⟨fun pins s σ H D I h => ?_⟩
  have h' := h1.run pins s σ H { D with nx := u D } I h
  refine fun Γ p hΓ => wp_execs_app (Sem.wp_mono _ Γ _ (fun f p' s' q => ?_) (fun _ _ _ q => q) _ _ (h' Γ p hΓ))
  cases f with
  | next =>
    obtain ⟨σ', H', I', q⟩ := q
    exact h2.run pins s' σ' H' D I' q Γ p' hΓ
  | ret v => exact q
  | brk => exact q
  | cont => exact q
section
variable {X : Cx} {W : WX} {ss : List Stmt} {m m1 m2 : SM4}
theorem ER.forget {K : PySem.W.Frag} {H : Hp} {r : Rho} {env : Env} {σ : L2.St} (x : ER K H r env σ) (j : Nat) : ER K H r (env.set j none) σ := ⟨by rw [List.length_set, x.len], fun i d h => by
  by_cases q : j = i
  · subst q
    rw [List.getElem?_set] at h
    split at h
    · split at h <;> cases h
    · next z => exact absurd rfl z
  · rw [List.getElem?_set_ne q] at h
    exact x.get i d h⟩
theorem fb_fz {j : Nat} (h : FB X W ss m) : FB X W ss (sFz j m) := PSs.imp h fun D σ H ⟨r, env, st, hE, hS, q⟩ => ⟨r, env.set j none, st, hE.forget j, hS, by
  unfold sFz at q
  revert q
  have hE := hE.forget j
  cases qm : m (env.set j none) st with
  | nx env' st' =>
    intro q
    simp only at q
    by_cases hc : chkS st.length st st' = true
    · rw [if_pos hc] at q
      intro σ' H' r' e' s' hE'
      obtain ⟨h1, h2⟩ := SR.cut hS e' s' hc
      refine q σ' H' r h1 h2 ⟨by rw [fzE_len, hE'.len], fun i d hd => ?_⟩
      obtain ⟨t, q0, rfl, _, _⟩ := e'.pre
      rcases fzE_get hd with ⟨k1, k2⟩ | ⟨d', k1, k2⟩
      · obtain ⟨v0, v1, v2⟩ := hE.get i d k1
        obtain ⟨v, w1, w2⟩ := hE'.get i d k2
        exact ⟨v, w1, VD.shrink d v (VD.closed d v0 v2) w2⟩
      · obtain ⟨v, w1, w2⟩ := hE'.get i d' k1
        rw [← hS.len] at k2
        exact ⟨v, w1, frz_v s' 30 d' v d k2 w2⟩
    · rw [if_neg hc] at q; exact q.elim
  | rt d st' => exact fun q => q
  | ex x env' st' => exact fun q => q
  | bad => exact fun q => q⟩
/-- some statements, then the others -/
theorem fb_split (k : Nat) (h1 : FB X W (ss.take k) m1) (h2 : FB X W (ss.drop k) m2) : FB X W ss (sSeq m1 m2) := by
  have h := PSs.imp (t' := tS X.K X.mg W (sSeq m1 m2)) (pss_app h1 h2) fun D σ H ⟨r, env, st, hE, hS, h⟩ => ⟨r, env, st, hE, hS, RS.seq h⟩
  rw [List.take_append_drop] at h
  exact h
end
end FL

namespace FL
open PySem PySem.Spec PyProof.Rows L2
variable [TabCtx]
/-! ## tuple(reversed(a list)) -/
def tTrZ (K : PySem.W.Frag) (te : TE) : TE := fun σ H Q => te σ H fun v H1 => ∃ (a : Addr) (xs : List V), v = .ref a ∧ SqL K H1 a xs ∧ NewT H1 Q xs.reverse
theorem pe_trZ {X : Cx} {e : Expr} {te : TE} {p p2 pos pos2 : PySem.Pos} (cal : X.calm = true) (gT : Gl X "tuple") (mT : X.mg "tuple" = none) (gR : Gl X "reversed") (mR : X.mg "reversed" = none) (pe : PE X e te)
    (nsE : starEach [e] X.env = (false, eval e X.env) :: starEach [] X.env := by rfl)
    (nsR : starEach [.Call (.Name "reversed" p2) [e] [] pos2] X.env = (false, eval (.Call (.Name "reversed" p2) [e] [] pos2) X.env) :: starEach [] X.env := by rfl) :
    PE X (.Call (.Name "tuple" p) [.Call (.Name "reversed" p2) [e] [] pos2] [] pos) (tTrZ X.K te) := ⟨fun pins st σ H Q inv hq => by
  refine Call_ (ld_blt inv gT mT boot_tuple (PyProof.Rows.callWith_type1 (args_cons ?_ nsR) nsR rfl))
  refine Call_ (ld_blt inv gR mR PyProof.Rows.boot_reversed (PyProof.Rows.callWith_type1 (args_cons (thn (pe.run pins st σ H _ inv hq) fun u t1 ⟨v, H1, J1, r1, q1⟩ => args_nil ?_) nsE) nsE rfl))
  obtain ⟨l, ys, rfl, sq, new⟩ := q1
  cases (show u = Value.ref l from r1)
  obtain ⟨us, rus, isl, bound⟩ := J1.list sq
  have lst := isl.isList
  refine call_reversed_list lst (args_nil ?_)
  obtain ⟨o, ho, _⟩ := id lst
  have room : us.toArray.size ≤ sizeLine := by rw [List.size_toArray, ← rus.length]; exact bound
  have J2 : Inv X pins σ H1 { t1 with heap := t1.heap.push (revObj l ((us.toArray.size : Int) - 1)) } := J1.kept (t' := t1.toks) fun b ob eb => Heap.get?_push_of_some _ eb
  obtain ⟨g0, g1, g2, g3, g4, g5⟩ := J1.fpOk (H' := H1) (b := t1.heap.objs.size) (Nat.le_refl _) (J1.hok.fresh (Nat.le_refl _))
  refine RT.call_tuple_rev (s := { t1 with heap := t1.heap.push (revObj l ((us.toArray.size : Int) - 1)) }) (J1.ok.hd cal) ⟨_, Heap.get?_push_size _ rfl, rfl, rfl⟩ (lst.push _) (Nat.ne_of_lt (Heap.lt_size ho)) room fun hp tk acc keep items => ?_
  have J3 : Inv X pins σ H1 { t1 with heap := hp, toks := tk } := J2.turned (t' := tk) (fun b ob nb eb => keep b ob nb eb) g0 g1 g3 g4 g5
  have done := laidT (s := { t1 with heap := hp, toks := tk }) J3 (by rw [List.length_reverse]; exact bound) (RT.vals_rev rus items) new
  rw [Array.toArray_toList] at done
  exact done⟩
def eTupRev (m : EM) : EM := fun env st => (m env st).bind fun d st1 => match lstD d st1 with
  | some ds => .ok (.tup ds.reverse) st1
  | none => .bad
theorem fe_tupRev {X : Cx} {W : WX} {e : Expr} {m : EM} {p p2 pos pos2 : PySem.Pos} (cal : X.calm = true) (gT : Gl X "tuple") (mT : X.mg "tuple" = none) (gR : Gl X "reversed") (mR : X.mg "reversed" = none) (he : FE X W e m)
    (nsE : starEach [e] X.env = (false, eval e X.env) :: starEach [] X.env := by rfl)
    (nsR : starEach [.Call (.Name "reversed" p2) [e] [] pos2] X.env = (false, eval (.Call (.Name "reversed" p2) [e] [] pos2) X.env) :: starEach [] X.env := by rfl) :
    FE X W (.Call (.Name "tuple" p) [.Call (.Name "reversed" p2) [e] [] pos2] [] pos) (eTupRev m) :=
  PE.imp (pe_trZ cal gT mT gR mR he nsE nsR) fun σ H Q ⟨r, env, st, hE, hS, h⟩ => ⟨r, env, st, hE, hS, RES.seq h fun d st1 x H1 r1 e1 s1 v1 h1 => by
    cases q : lstD d st1 with
    | none => simp only [q] at h1; exact h1.elim
    | some ds =>
      simp only [q] at h1
      obtain ⟨a, xs, rfl, k1, k2⟩ := lstD_v s1 q v1
      exact ⟨a, xs, rfl, k2, fun p o ho hp => RES.ok' h1 (Ext.fresh hp) (s1.fresh hp) ⟨p, _, rfl, .inl ⟨s1.notin hp, o, ho, upd_same⟩, (k1.ext (Ext.fresh hp)).rev⟩⟩⟩
/-! typed -/
theorem ev_tupRev {α : Type} {c : α → D} {xs : List α} {ma : EM} {d : D} {env : Env} {S : Sto} (h : ma env S = .ok d S) (hl : lstD d S = some (xs.map c)) : eTupRev ma env S = .ok (.tup (xs.reverse.map c)) S := by
  unfold eTupRev
  rw [h]
  show (match lstD d S with
    | some ds => Res.ok (D.tup ds.reverse) S
    | none => .bad) = _
  rw [hl, List.map_reverse]
end FL

namespace FL
open PySem PySem.Spec PyProof.Rows L2
variable [TabCtx]
/-! ## f(lambda: e), where f asks it within a try -/
def finR (st : Sto) : SRes → Res D
  | .nx _ st' => .ok .non (shrink st st' true)
  | .rt d st' => finD true st st' d
  | _ => .bad
def endsQ (Q : VK) : Ends := { nx := fun _ H' => Q .non H', rt := Q }
theorem RES.mono {α β : Type} {K : PySem.W.Frag} {mg : Str → Option Value} {R : Hp → Rho → α → β → Prop} {E : Value → Option Addr → Hp → Prop} {H H1 : Hp} {r r1 : Rho} {st : Sto} {m : Res α} {Q : β → Hp → Prop} (h : RES K mg R E H r m Q) (e : Ext H r H1 r1) (s : SR K H1 r1 st) : RES K mg R E H1 r1 m Q := by
  cases m with
  | ok a st2 => exact fun b H' r' e2 s2 q => h b H' r' (e.trans s e2) s2 q
  | ex x st2 => exact fun cls d H' r' e2 s2 q => h cls d H' r' (e.trans s e2) s2 q
  | bad => exact h
/-- what the end of a def's block is worth -/
theorem rs_fin {K : PySem.W.Frag} {mg : Str → Option Value} {E : Value → Option Addr → Hp → Prop} {W : WX} {H : Hp} {r : Rho} {st0 : Sto} {m : SRes} {Q : VK} (hS : SR K H r st0) (h : RES K mg (RV K) E H r (finR st0 m) Q) : RS K mg W (endsQ Q) H r m := by
  revert h
  cases m with
  | bad => exact fun h => h.elim
  | nx env st' =>
    intro h σ' H' r' e s' hE
    obtain ⟨r'', e2, s2, _, _⟩ := hS.shrunk e s' true
    exact h .non H' r'' e2 s2 rfl
  | rt d st' =>
    intro h v H' r' e s' hv
    have h' : RES K mg (RV K) E H r (finD true st0 st' d) Q := h
    unfold finD at h'
    by_cases c1 : chkS st0.length st0 st' = true
    · rw [if_pos c1] at h'
      obtain ⟨e2, s2⟩ := hS.cut e s' c1
      obtain ⟨t, q0, rfl, _⟩ := id e.pre
      by_cases c2 : d.blw st0.length = true
      · rw [if_pos c2] at h'
        exact h' v H' r e2 s2 (VD.shrink d v (by rw [hS.len]; exact c2) hv)
      · rw [if_neg c2, if_pos rfl] at h'
        cases q : D.frz st' st0.length 30 d with
        | none => rw [q] at h'; exact h' v H' _ e s' hv
        | some d' =>
          rw [q] at h'
          exact h' v H' r e2 s2 (frz_v s' 30 d v d' (by rw [hS.len]; exact q) hv)
    · rw [if_neg c1] at h'; exact h' v H' r' e s' hv
  | ex x env st' => exact fun h => h.elim
def envV (n ic iff : Nat) (d : D) : Env := ((List.replicate n none).set ic (some .non)).set iff (some d)
def envX (n ie : Nat) (x : Exc) : Env := (List.replicate n none).set ie (some (cX x))
def eSaid (n ic iff ie : Nat) (tab : List (String × Bool)) (mb : EM) (mU mR : SM4) : EM := fun env st => match mb env st with
  | .ok d st1 => finR st1 (mR (envV n ic iff d) st1)
  | .ex x st1 => if tabB tab x.cls = some true then (match mU (envX n ie x) st1 with
    | .nx env2 st2 => finR st1 (mR (env2.set ie none) st2)
    | _ => .bad) else .bad
  | .bad => .bad
def VRs (K : PySem.W.Frag) (mg : Str → Option Value) (n ic iff : Nat) (mR : SM4) (Q : VK) : VK := fun v H' => ∃ r st d, SR K H' r st ∧ VD K H' r d v ∧ RS K mg E0W (endsQ Q) H' r (mR (envV n ic iff d) st)
def XRs (K : PySem.W.Frag) (mg : Str → Option Value) (n ie : Nat) (tab : List (String × Bool)) (mU mR : SM4) (Q : VK) : XK := fun cls dd H' => ∃ r st x env2 st2, SR K H' r st ∧ XR K mg H' r x cls dd ∧ tabB tab x.cls = some true ∧ mU (envX n ie x) st = .nx env2 st2 ∧ RS K mg E0W (endsQ Q) H' r (mR (env2.set ie none) st2)
def TTs (K : PySem.W.Frag) (mg : Str → Option Value) (n ic iff ie : Nat) (tab : List (String × Bool)) (mU mR : SM4) : (XK → Hp → VK → Prop) → Hp → VK → Prop := fun tl H Q => ∀ Q' : VK, (∀ v H', VRs K mg n ic iff mR Q v H' → Q' v H') → tl (XRs K mg n ie tab mU mR Q) H Q'
theorem er_none {K : PySem.W.Frag} {H : Hp} {r : Rho} {σ : L2.St} {n : Nat} (h : σ.length = n) : ER K H r (List.replicate n none) σ := ⟨by rw [List.length_replicate, h], fun i d q => by
  rw [List.getElem?_replicate] at q
  split at q
  · cases q
  · cases q⟩
theorem XR.ext {K : PySem.W.Frag} {mg : Str → Option Value} {H H' : Hp} {r r' : Rho} {x : Exc} {cls : Value} {d : Option Addr} (h : XR K mg H r x cls d) (e : Ext H r H' r') : XR K mg H' r' x cls d := by
  obtain ⟨h1, h2⟩ := h
  refine ⟨h1, ?_⟩
  cases q : x.fs with
  | nil => rw [q] at h2; exact h2
  | cons p ps =>
    rw [q] at h2
    obtain ⟨dd, vs, y1, y2, y3, y4⟩ := h2
    refine ⟨dd, vs, y1, e.new y2 y3, e.keep _ _ y2.1 (fun ps z => by cases z) y3, ?_⟩
    exact paired_imp (fun a b w => ⟨w.1, VD.ext e _ _ w.2⟩) y4
/-- the heap of before and of after the lambda's making -/
theorem ext_lam {K : PySem.W.Frag} {H H1 : Hp} {r : Rho} (e : LamX.ExtN H H1) : Ext H r H1 r := ⟨⟨[], [], by simp, by simp, by simp⟩, fun a o _ n h => e a o h n⟩
theorem sr_lam {K : PySem.W.Frag} {H H1 : Hp} {r : Rho} {st : Sto} (s : SR K H r st) (e : LamX.ExtN H H1) (t : LamX.Tabs TabCtx.tabs H1) : SR K H1 r st := by
  have eE := ext_lam (K := K) (r := r) e
  refine ⟨s.len, s.nd, fun l o q => ?_, fun a ha => ?_, t⟩
  · obtain ⟨a, h, h1, h2, h3⟩ := s.obj l o q
    exact ⟨a, h, h1, e a h h2 h3.nx.1, h3.ext eE⟩
  · obtain ⟨h1, o, n, h2⟩ := s.apart a ha
    exact ⟨h1, o, n, e a o h2 n.1⟩
theorem takes_len {X : Cx} {W : WX} (t : Takes X W) : Takes X (fun cls d σ H => σ.length = X.N.length → W cls d σ H) := fun u s' ⟨a, B, sI, pins, σ, H, cls, d, e, I, nb, up, sky, na, os, ag, w⟩ =>
  t u s' ⟨a, B, sI, pins, σ, H, cls, d, e, I, nb, up, sky, na, os, ag, w I.len⟩
section
variable {X : Cx} {Ng : List Str} {x a q yc yf ye xc : Str} {sg : Scope} {g : Addr} {cdg : Value} {ic iff ie : Nat} {tab : List (String × Bool)} {y : Cl} {mU mR : SM4} {b₀ : Stmt} {suite rest : List Stmt}
  {j1 j2 : Option Str} {p1 p2 p3 p4 p5 p6 p7 p8 p9 p10 p11 p12 p13 : Pos}
abbrev saidCx (X : Cx) (Ng : List Str) (x : Str) (sg : Scope) (g : Addr) (cdg : Value) (s : Shared) (H : Hp) : Cx := (cxOf C8.CX0 X.prog X.w X.K X.mg X.base Ng x sg g cdg X.A X.stack s H C8.E0).nox
theorem said_gives (hN : Ng.Nodup) (h0 : ∀ f : Addr, (L2.start Ng [V.ref f])[0]? = some (some (V.ref f))) (hic : Ng[ic]? = some yc) (hif : Ng[iff]? = some yf) (hie : Ng[ie]? = some ye) (hd1 : ic ≠ 0) (hd2 : iff ≠ 0) (hd3 : ic ≠ iff)
    (lc : sg.names.lookup yc = some .local) (lf : sg.names.lookup yf = some .local) (le : ∀ (s : Shared) (H : Hp), (saidCx X Ng x sg g cdg s H).env.kindOf ye = some .local)
    (hcl : ∀ (s : Shared) (H : Hp), ClVal (saidCx X Ng x sg g cdg s H) xc y) (ht : ∀ p ∈ tab, ExmAt X.K p.1 y p.2)
    (hU : ∀ (s : Shared) (H : Hp) (aa : Addr) (pn : List (Addr × Obj)), FB ((saidCx X Ng x sg g cdg s H).suite aa pn) E0W (b₀ :: suite) mU)
    (hR : ∀ (s : Shared) (H : Hp), FB (saidCx X Ng x sg g cdg s H) E0W rest mR)
    (sw1 : ∀ (s : Shared) (H : Hp), swapsWith (.Constant .none 0 p2) (some (.Name yc p1)) p3.line (saidCx X Ng x sg g cdg s H).env = pure false := by intros; rfl)
    (sw2 : ∀ (s : Shared) (H : Hp), swapsWith (.Constant .none 0 p5) (some (.Name yf p4)) p6.line (saidCx X Ng x sg g cdg s H).env = pure false := by intros; rfl)
    (sw3 : ∀ (s : Shared) (H : Hp) (pn : List (Addr × Obj)) (xe : Value → Shared → Prop), swapsWith (.Call (.Name a p8) [] [] p9) (some (.Name yf p7)) p10.line ((saidCx X Ng x sg g cdg s H).tr pn xe).env = pure false := by intros; rfl) :
    LamX.GivesTo X Ng x sg g cdg (.Assign [.Name yc p1] (.Constant .none 0 p2) p3 :: .Assign [.Name yf p4] (.Constant .none 0 p5) p6 :: .Try [.Assign [.Name yf p7] (.Call (.Name a p8) [] [] p9) p10] [.ExceptHandler (some (.Name xc p11)) (some ye) (b₀ :: suite) p12] [] [] p13 :: rest) a q
      (TTs X.K X.mg Ng.length ic iff ie tab mU mR) := by
  intro f c' s H Q tl act hco hTT
  obtain ⟨v, c1, c2⟩ := (hcl s H).ex
  have htry := ps_try_ext (X := saidCx X Ng x sg g cdg s H) (n := ye) (i := ie) (x := xc) (c := v) (body := [.Assign [.Name yf p7] (.Call (.Name a p8) [] [] p9) p10]) (b₀ := b₀) (suite := suite) (np := p11) (pos' := p12) (pos := p13)
    (tb := fun W D σ H2 => ∃ E : XK, (∀ cls d σ' H', E cls d H' → σ'.length = Ng.length → W cls d σ' H') ∧ σ[0]? = some (some (V.ref f)) ∧ H2 c' = some (LamX.CodeO c' q) ∧ tl E H2 (fun v H' => D.nx (σ.set iff (some v)) H'))
    (ts := tS X.K X.mg E0W mU) (Wout := E0W) rfl rfl hN hie (le s H) c2 LamX.takes0 (fun W pn xe tk _ => by
      refine ⟨fun pins s' σ H2 D I h' => ?_⟩
      obtain ⟨E, hW, k1, k2, k3⟩ := h'
      have hp := act (fun cls d σ' H' => σ'.length = Ng.length → W cls d σ' H') pn xe E p8 p9 (takes_len tk) hW
      have hset := pss_one (ps_set (X := (saidCx X Ng x sg g cdg s H).tr pn xe) (pos' := p7) (pos := p10) hN hif (.inl lf) hp (sw3 s H pn xe) (.inr lf))
      exact hset.run pins s' σ H2 D I ⟨k1, k2, k3⟩) (hU s H)
  refine ⟨_, pss_cons (ps_set (X := saidCx X Ng x sg g cdg s H) (pos' := p1) (pos := p3) hN hic (.inl lc) pe_non (sw1 s H) (.inr lc)) (pss_cons (ps_set (X := saidCx X Ng x sg g cdg s H) (pos' := p4) (pos := p6) hN hif (.inl lf) pe_non (sw2 s H) (.inr lf)) (pss_cons htry (hR s H))), ?_⟩
  have hpos : 0 < Ng.length := by
    have := (List.getElem?_eq_some_iff.mp hie).1
    omega
  have hlen : (L2.start Ng [V.ref f]).length = Ng.length := by
    unfold L2.start
    simp
    omega
  show ∃ E : XK, _ ∧ _ ∧ _ ∧ _
  refine ⟨XRs X.K X.mg Ng.length ie tab mU mR Q, fun cls d σ' H' hx hl' => ?_, ?_, hco, hTT _ fun v' H' hv => ?_⟩
  · obtain ⟨r, st, z, env2, st2, sR, xR, tabT, eU, hRS⟩ := hx
    obtain ⟨⟨C, k1, rfl⟩, k2⟩ := id xR
    obtain ⟨C', v', f1, f2, f3⟩ := (ht _ (tabB_mem tabT)).ex
    rw [k1] at f1; cases f1
    cases Cl.at_eq f2 c1
    refine ⟨true, f3, fun _ aa ha => ?_, fun hb => by cases hb⟩
    have ef : Ext H' r (upd H' aa (ExE (.ref C) d aa)) r := Ext.fresh ha
    have hv := exc_val sR ha xR
    refine ⟨r, envX Ng.length ie z, st, ((er_none hl').ext ef).set ie hv, sR.fresh ha, ?_⟩
    rw [eU]
    intro σ3 H3 r3 e3 s3 hE3
    exact ⟨r3, env2.set ie none, st2, hE3.unset ie, s3, RS.mono hRS (ef.trans (sR.fresh ha) e3) s3⟩
  · rw [List.getElem?_set_ne hd2, List.getElem?_set_ne hd1]
    exact h0 f
  · obtain ⟨r, st, dd, sR, vD, hRS⟩ := hv
    have e0 : ((((L2.start Ng [V.ref f]).set ic (some .non)).set iff (some .non)).set iff (some v')) = (((L2.start Ng [V.ref f]).set ic (some .non)).set iff (some v')) := List.set_set ..
    refine ⟨r, envV Ng.length ic iff dd, st, ?_, sR, hRS⟩
    rw [e0]
    exact ((er_none hlen).set ic (d := .non) rfl).set iff vD
/-- what calls it -/
theorem fe_said {p pos lpos : Pos} {c P : Addr} {k : Nat} {st : Stmt} {params : Arguments} {body : Expr} {scope : Scope} {mb : EM} {W : WX} {n : Nat} (hg : Gl X x) (hm : X.mg x = some (.ref g)) {fd : FuncData}
    (F : L2.Fun X.K x x st g fd) (hB : L2.Binds X.K fd [a] []) (S : FnScope Ng [a] (defScope st)) (hn : n = Ng.length)
    (hN0 : Ng[0]? = some a) (hva : Vis (defScope st) a)
    (hG : ∀ cdg, LamX.GivesTo X Ng x (defScope st) g cdg (defBody st) a (X.env.qual ++ "<lambda>") (TTs X.K X.mg n ic iff ie tab mU mR))
    (TB : LamX.TabB X.base X.mg c P) (hcode : X.env.code = .ref c) (hmT : (P, X.env.qual ++ "<lambda>") ∈ TabCtx.tabs) (hu : ∀ p ∈ TabCtx.tabs, p.1 = P → p.2 = X.env.qual ++ "<lambda>") (hr : Room (k + 2) X.A) (L : LamX.LamS X.env.scope scope) (hdef : defaultsOf params X.env = ([], []))
    (hbind : ∀ (q : Str) (cl : List (Str × Addr)) (pm cv ctv : Value), bindArgs (PySem.W.kla_fn "<lambda>" q params body scope cl pm cv ctv) ⟨[], []⟩ = pure [])
    (hbody : ∀ (A : Around) (outer : List PySem.Env) (s : Shared) (H : Hp) (E : XK) (f c' : Addr), Room k (A.deeper (LamX.lamEnv X scope s.heap.objs.size f c')) → FE (LamX.lamCx X A outer s H E scope f c') (fun cls d _ H' => E cls d H') body mb)
    (hdb : (x == ("__debug__" : Str)) = false := by decide) (hd : (a == ("__debug__" : Str)) = false := by decide) (hcd : (a == ("__classdict__" : Str)) = false := by decide) :
    FE X W (.Call (.Name x p) [.Lambda params body scope lpos] [] pos) (eSaid n ic iff ie tab mb mU mR) := by
  obtain ⟨oc, od, kV, doc, pm, an, cdv, ct, osl, rfl, lk, hcg⟩ := F.ex
  refine PE.imp (LamX.pe_lamcall (T := TabCtx.tabs) (TT := TTs X.K X.mg n ic iff ie tab mU mR) (t := fun E => tM X.K X.mg (fun cls d _ H' => E cls d H') mb) hg hm F.kp lk hcg hB S hN0 hva (hG cdv) TB hcode hmT hu hr L hdef hbind (fun A outer s H E f c' hr2 => hbody A outer s H E f c' hr2) hdb hd hcd) fun σ H Q ⟨r, env, st0, hE, hS, h⟩ => ⟨hS.tabs, fun H1 eN tN Q' hQ => ?_⟩
  have e1 := ext_lam (K := X.K) (r := r) eN
  have s1 := sr_lam hS eN tN
  refine ⟨r, env, st0, hE.ext e1, s1, ?_⟩
  unfold eSaid at h
  cases qm : mb env st0 with
  | bad => rw [qm] at h; exact h.elim
  | ok d st1 =>
    rw [qm] at h
    simp only at h
    intro v H2 r2 e2 s2 hv
    refine hQ v H2 ⟨r2, st1, d, s2, hv, ?_⟩
    have e12 := e1.trans s1 e2
    exact rs_fin s2 (RES.mono h e12 s2)
  | ex z st1 =>
    rw [qm] at h
    simp only at h
    intro cls d H2 r2 e2 s2 hx
    by_cases ht : tabB tab z.cls = some true
    · rw [if_pos ht] at h
      cases qu : mU (envX n ie z) st1 with
      | nx env2 st2 =>
        rw [qu] at h
        simp only at h
        refine ⟨r2, st1, z, env2, st2, s2, hx, ht, qu, ?_⟩
        have e12 := e1.trans s1 e2
        exact rs_fin s2 (RES.mono h e12 s2)
      | rt _ _ => rw [qu] at h; exact h.elim
      | ex _ _ _ => rw [qu] at h; exact h.elim
      | bad => rw [qu] at h; exact h.elim
    · rw [if_neg ht] at h; exact h.elim
end
end FL

namespace FL
open PySem PySem.Spec PyProof.Rows L2
variable [TabCtx]
/-! ## defs that make lambdas: their code object is known -/
theorem finR_fin {K : PySem.W.Frag} {mg : Str → Option Value} {E : XK} {H : Hp} {r : Rho} {st0 : Sto} {m : SRes} {Q : VK} (hS : SR K H r st0) (h : RES K mg (RV K) E H r (fin true st0 m) Q) : RS K mg (fun cls d _ H' => E cls d H') (endsQ Q) H r m := by
  cases m with
  | bad => exact h
  | nx env st' => exact rs_fin (W := fun cls d _ H' => E cls d H') (mg := mg) (E := E) (st0 := st0) (m := .nx env st') hS h
  | rt d st' => exact rs_fin (W := fun cls d _ H' => E cls d H') (mg := mg) (E := E) (st0 := st0) (m := .rt d st') hS h
  | ex x env st' =>
    intro cls d σ' H' r' e s' hE hx
    obtain ⟨r'', e2, s2, h3, h4⟩ := hS.shrunk e s' (x.fs.all fun p => p.2.blw st0.length)
    refine h cls d H' r'' e2 s2 ?_
    have same : r'' = r' → XR K mg H' r'' x cls d := fun z => by rw [z]; exact hx
    rcases h3 with h3 | h3
    · rw [List.all_eq_true] at h3
      rcases h4 with z | rfl
      · exact same z
      · obtain ⟨t, q0, rfl, _⟩ := e.pre
        obtain ⟨x1, x2⟩ := hx
        refine ⟨x1, ?_⟩
        cases q : x.fs with
        | nil => rw [q] at x2; exact x2
        | cons p ps =>
          rw [q] at x2 h3
          obtain ⟨dd, vs, y1, y2, y3, y4⟩ := x2
          refine ⟨dd, vs, y1, not_app y2, y3, ?_⟩
          have : ∀ (ps : List (Str × D)) (vs : List (Str × V)), (∀ z ∈ ps, z.2.blw st0.length = true) → Paired (fun p q => p.1 = q.1 ∧ VD K H' (r''.app t q0) p.2 q.2) ps vs → Paired (fun p q => p.1 = q.1 ∧ VD K H' r'' p.2 q.2) ps vs := fun ps => by
            induction ps with
            | nil => intro vs _ w; cases w; exact .nil
            | cons p ps ih =>
              intro vs hb w
              cases w with
              | cons a b => exact .cons ⟨a.1, VD.shrink _ _ (by rw [hS.len]; exact hb p List.mem_cons_self) a.2⟩ (ih _ (fun z hz => hb z (List.mem_cons_of_mem _ hz)) b)
          exact this _ _ h3 y4
    · exact same h3
theorem fn_okC {P : Program} {w : World} {K : PySem.W.Frag} {mg : Str → Option Value} {base : Heap} {x qual : Str} {st : Stmt} {f c : Addr} {fd : FuncData} {N ps : List Str} {k : Nat} {m : SM4} (F : Fun K x qual st f fd) (S : FnScope N ps (defScope st)) (hc : fd.code = .ref c)
    (hb : ∀ (A : Around) (outer : List PySem.Env) (s : Shared) (H : Hp) (E : XK), Room k (A.deeper (envOfC qual (defScope st) s.heap.objs.size f (.ref c))) →
      FB (cxOf (L2.CX P w) P w K mg base N qual (defScope st) f (.ref c) A outer s H E) (fun cls d _ H' => E cls d H') (defBody st) m) : FnOk P w K mg base (L2.CX P w) (k + 1) f fd ps (spM K mg ps.length (mFn true N.length m)) := by
  obtain ⟨oc, od, kV, doc, pm, an, cdv, ct, osl, rfl, lk, hcd⟩ := F.ex
  have hcv : cdv = .ref c := hc
  subst hcv
  refine fn_of lk hcd S (fun vs H Q E h => h.1) fun A outer s H vs Q E hr h => ?_
  obtain ⟨hl, r, st0, ds, hS, hV, h⟩ := h
  exact ⟨_, hb A outer s H E hr, r, _, st0, er_start hV, hS, finR_fin hS h⟩
theorem hxL {X : Cx} {A : Around} {outer : List PySem.Env} {s : Shared} {H : Hp} {E : XK} {scope : Scope} {f c' : Addr} : ∀ σ, PassesAt (L2.CX X.prog X.w) (LamX.lamCx X A outer s H E scope f c') σ (WE (fun cls d _ H' => E cls d H') σ) := fun σ => passAt (takes_of rfl rfl rfl rfl) σ
section
variable {X : Cx} {Ng : List Str} {x a : Str} {ic iff ie : Nat} {tab : List (String × Bool)} {mU mR : SM4}
theorem fe_saidD {p pos lpos : PySem.Pos} {c P : Addr} {k : Nat} {st : Stmt} {params : Arguments} {body : Expr} {scope : Scope} {mb : EM} {W : WX} {n : Nat} (D : DefAt X.K X.mg x st [a]) (hg : Gl X x) (S : FnScope Ng [a] (defScope st)) (hn : n = Ng.length)
    (hN0 : Ng[0]? = some a) (hva : Vis (defScope st) a)
    (hG : ∀ g cdg, LamX.GivesTo X Ng x (defScope st) g cdg (defBody st) a (X.env.qual ++ "<lambda>") (TTs X.K X.mg n ic iff ie tab mU mR))
    (TB : LamX.TabB X.base X.mg c P) (hcode : X.env.code = .ref c) (hmT : (P, X.env.qual ++ "<lambda>") ∈ TabCtx.tabs) (hu : ∀ p ∈ TabCtx.tabs, p.1 = P → p.2 = X.env.qual ++ "<lambda>") (hr : Room (k + 2) X.A) (L : LamX.LamS X.env.scope scope) (hdef : defaultsOf params X.env = ([], []))
    (hbind : ∀ (q : Str) (cl : List (Str × Addr)) (pm cv ctv : Value), bindArgs (PySem.W.kla_fn "<lambda>" q params body scope cl pm cv ctv) ⟨[], []⟩ = pure [])
    (hbody : ∀ (A : Around) (outer : List PySem.Env) (s : Shared) (H : Hp) (E : XK) (f c' : Addr), Room k (A.deeper (LamX.lamEnv X scope s.heap.objs.size f c')) → (∀ σ, PassesAt (L2.CX X.prog X.w) (LamX.lamCx X A outer s H E scope f c') σ (WE (fun cls d _ H' => E cls d H') σ)) → FE (LamX.lamCx X A outer s H E scope f c') (fun cls d _ H' => E cls d H') body mb)
    (hdb : (x == ("__debug__" : Str)) = false := by decide) (hd : (a == ("__debug__" : Str)) = false := by decide) (hcd : (a == ("__classdict__" : Str)) = false := by decide) :
    FE X W (.Call (.Name x p) [.Lambda params body scope lpos] [] pos) (eSaid n ic iff ie tab mb mU mR) := by
  obtain ⟨g, fd, h1, h2, h3⟩ := D.ex
  exact fe_said hg h2 h1 h3 S hn hN0 hva (hG g) TB hcode hmT hu hr L hdef hbind (fun A outer s H E f c' h => hbody A outer s H E f c' h hxL) hdb hd hcd
end
/-! typed -/
theorem ev_callX {ms : Env → Sto → Res (List D)} {env : Env} {S : Sto} {n : Nat} {m : Fn} {ds : List D} {r : Res D} (h : ms env S = .ok ds S) (hn : ds.length = n) (hr : m ds S = r) : eCall n m ms env S = r := by
  unfold eCall
  rw [h]
  show (if ds.length = n then m ds S else .bad) = r
  rw [if_pos hn, hr]
theorem ev_said {τ ρ : Type} {c : τ → D} {e : ρ → D} {T : τ ⊕ Exc} {mb : EM} {mU mR : SM4} {env : Env} {S : Sto} {n ic iff ie : Nat} {tab : List (String × Bool)} {vA : τ → ρ} {vB : Exc → ρ} {eU : Exc → Env}
    (hb : mb env S = resX c T S) (hA : ∀ v, T = .inl v → finR S (mR (envV n ic iff (c v)) S) = .ok (e (vA v)) S) (hU : ∀ x, mU (envX n ie x) S = .nx (eU x) S) (ht : ∀ x, T = .inr x → tabB tab x.cls = some true) (hB : ∀ x, T = .inr x → finR S (mR ((eU x).set ie none) S) = .ok (e (vB x)) S) :
    eSaid n ic iff ie tab mb mU mR env S = .ok (e (Sum.elim vA vB T)) S := by
  unfold eSaid
  rw [hb]
  cases T with
  | inl v => exact hA v rfl
  | inr x =>
    show (if tabB tab x.cls = some true then _ else _) = _
    rw [if_pos (ht x rfl)]
    simp only [hU]
    exact hB x rfl
theorem RtP.finR {st : Sto} {b : SM4} {env : Env} {d : D} (h : RtP st (b env (st ++ [])) d) : FL.finR st (b env st) = .ok d st := by
  have h2 := RtP.enter h
  rw [List.append_nil] at h
  obtain ⟨d', o, h1, _⟩ := h
  rw [h1] at h2 ⊢
  exact h2
end FL

namespace FL
open PySem PySem.Spec PyProof.Rows L2 LamX
/-! ## the end of a law whose defs make lambdas -/
theorem walk_ofOwns {l : PySem.W.OpenLaw} {n k : Nat} {q : Program} {loose : List Str} {XP : (Str → Option Value) → Heap → Prop} {YP : World → Heap → Prop} {d : DefRec} {K : Params → PySem.W.Frag} {CX : World → CXT} {x : Str}
    (most : l.most = some n) (small : n ≤ sizeLine) (nodef : d.params.defaults = []) (room : Room k callerA) (inn : ∀ (w : World) (h : Heap), YP w h → (K w.params).In h)
    (F : ∀ (w : World) (mg : Str → Option Value) (fa : Addr) (h : Heap), YP w h → (K w.params).In h → h.Ns mainGlobals mg → mg d.name = some (.ref fa) →
      (∀ (y : Str) (fy : Addr), ((recsOf q).any fun e => e.name == y) = true → mg y = some (.ref fy) → OwnTab (K w.params) fy h) → LawAtS l w (K w.params) (CX w) k n x mg fa h)
    (none_ : ∀ (w : World) (H : Hp) (s : Shared) (e : Value) (s' : Shared), CX w [] H s (fun _ _ _ => False) e s' → False) :
    PySem.W.WalkO q loose XP YP l.row.toRowW d [] (fun f vs => PySem.call f vs) := by
  refine Att.attach_callB most nodef fun w s₀ s₁ mg mb fa o pm cd doc a vs ns G Y ho hd hcd hmg hobj hints hlen hbits hg => ?_
  have KX := inn w _ Y
  have own : ∀ (y : Str) (fy : Addr), ((recsOf q).any fun e => e.name == y) = true → mg y = some (.ref fy) → OwnTab (K w.params) fy s₁.heap := fun y fy hr hy c P ob fb e dd vb sl l1 l2 l3 l4 l5 => by
    obtain ⟨rec, mem, nm⟩ := List.any_eq_true.mp hr
    have nm : rec.name = y := beq_iff_eq.mp nm
    obtain ⟨a', o', f', c', P', t1, t2, t3, t4, t5, t6⟩ := G.T.tab rec mem
    rw [nm, hy] at t1
    cases t1
    rw [KX _ _ l1] at t2
    cases t2
    rw [l2] at t3
    cases t3
    rw [l3] at t4
    cases t4
    obtain ⟨⟨oc, vc, e1, _, e3, e4⟩, tab⟩ := t6
    rw [KX _ _ l4] at e1
    cases e1
    cases e3
    rw [l5] at e4
    cases e4
    exact tab
  obtain ⟨fd, cs, sp, hT, nT, C, hb, hsp, hF⟩ := F w mg fa _ Y KX G.T.g hmg own
  exact law_callTs KX G.T.g G.T.b G.T.builtins G.T.nolimit hg hT nT C G.T.bmain hobj hints (Nat.le_trans hlen small) room hF hb (fun H hH hS => hsp H a ns hlen hbits hH hS) fun H e s' => none_ w H s₁ e s'
structure DefAtC (K : PySem.W.Frag) (mg : Str → Option Value) (x : Str) (st : Stmt) (ps : List Str) (c : Addr) : Prop where
  ex : ∃ f fd, L2.Fun K x x st f fd ∧ mg x = some (.ref f) ∧ Binds K fd ps [] ∧ fd.code = .ref c
variable [TabCtx]
theorem def_okC {P : Program} {w : World} {K : PySem.W.Frag} {mg : Str → Option Value} {base : Heap} {x : Str} {st : Stmt} {N ps : List Str} {k n nl : Nat} {m : SM4} {c : Addr} (F : DefAtC K mg x st ps c) (S : FnScope N ps (defScope st)) (hn : ps.length = n) (hl : N.length = nl)
    (hb : ∀ (f : Addr) (A : Around) (outer : List PySem.Env) (s : Shared) (H : Hp) (E : XK), Room k (A.deeper (envOfC x (defScope st) s.heap.objs.size f (.ref c))) →
      FB (cxOf (L2.CX P w) P w K mg base N x (defScope st) f (.ref c) A outer s H E) (fun cls d _ H' => E cls d H') (defBody st) m) : DefOk P w K mg base (L2.CX P w) (k + 1) x n (mFn true nl m) := by
  subst hn hl
  obtain ⟨f, fd, h1, h2, h3, h4⟩ := F.ex
  exact ⟨f, fd, ps, fn_okC h1 S h4 fun A outer s H E hr => hb f A outer s H E hr, h2, h1.kp, h3⟩
/-- what the end asks, from what stands in K -/
theorem code_mk {K : PySem.W.Frag} {h : Heap} {f c P : Addr} {e : Value} {dd : Option Addr} {vs : Array Value} {sl : Array (Option Value)} {o : Obj} {fd : FuncData} (own : OwnTab K f h) (X : K.In h)
    (l : K.lookup f = some o) (d : o.data = .func fd) (hc : fd.code = .ref c) (lc : K.lookup c = some ⟨e, dd, .fields vs, sl⟩) (lv : vs[11]? = some (.ref P)) (lh : PySem.W.codeHdIn K c P = true) :
    h.get? P = some { cls := .none, data := .fields #[] } ∧ PySem.W.CodeHd h c P := ⟨own c P o fd e dd vs sl l d hc lc lv, PySem.W.codeHd_of_K X lh⟩
end FL

namespace FL
open PySem PySem.Spec PyProof.Rows L2
/-! ## set(t), t a tuple of tuples of ints: the kit has it of a list; its loop (set_update_tups) serves both -/
abbrev newSet (w : World) : Obj := { cls := .type "set", dict := none, data := .set #[] 0 (.fresh 0 0 (!w.params.followText "set-order")) }
theorem refs_at {its : List Value} {ks : List (Addr × List Int)} (h : its = ks.map fun p => Value.ref p.1) {i : Nat} {v : Value} (hv : its[i]? = some v) : ∃ p, ks[i]? = some p ∧ v = .ref p.1 := by
  subst h
  rw [List.getElem?_map] at hv
  obtain ⟨p, h1, h2⟩ := Option.map_eq_some_iff.mp hv
  exact ⟨p, h1, h2.symm⟩
theorem get_new {h : Heap} {b : Addr} (hb : h.objs.size ≤ b) : h.get? b = none := by
  cases q : h.get? b with
  | none => rfl
  | some o => exact absurd (Heap.lt_size q) (Nat.not_lt.mpr hb)
section
variable {P : Program} {w : World} {A : Around} {E : Value → Shared → Prop} {s : Shared} {l : Addr} {its : Array Value} {ks : List (Addr × List Int)}
/-- the new set's first filling -/
theorem init_setTT {Z : PySem.Fin → Shared → Prop} (hh : A.handled = none) (hl : s.heap.IsTuple l its) (hit : its.toList = ks.map fun p => Value.ref p.1) (hk : ∀ p ∈ ks, IsT P w s.heap p.2 p.1) (few : ks.length < 64) (hu : A.units + 1 < cLine)
    (done : ∀ (h' : Heap) (tk : Nat) L es ep t, SetTR P w h' s.heap.objs.size L es ep t → Got ks ks.length L → (∀ b o, s.heap.get? b = some o → h'.get? b = some o) → Z (.done (.ret .none)) { s with heap := h', toks := tk }) :
    wpAny (model P w) A (Builtin.«set.__init__» ⟨[.ref s.heap.objs.size, .ref l], []⟩) Z E { s with heap := s.heap.push (newSet w) } := by
  have size : its.size = ks.length := by
    have := congrArg List.length hit
    rwa [Array.length_toList, List.length_map] at this
  have tup : (s.heap.push (newSet w)).IsTuple l its := hl.push _
  have at0 : (s.heap.push (newSet w)).get? s.heap.objs.size = some (newSet w) := Heap.get?_push_size _ rfl
  have old : l < s.heap.objs.size := by
    obtain ⟨o, ho, _⟩ := hl
    exact Heap.lt_size ho
  have n1 : (s.heap.push (newSet w)).objs.size = s.heap.objs.size + 1 := Heap.size_push ..
  obtain ⟨⟨ocls, odict, odata, oslots⟩, ho, hc, n, hd⟩ := tup
  cases hc
  cases hd
  have no1 := F.sub_tuple_set
  have no2 := F.sub_tuple_frozenset
  have no3 : (Value.type "tuple" == Value.type "dict") = false := by decide
  have tup : (s.heap.push (newSet w)).IsTuple l its := hl.push _
  unfold Builtin.«set.__init__» noKeywords Builtin.Frozenset.updateFrom
  generalize hPI : pyIter = PI
  wp_walk
  subst hPI
  refine wpAny_pyIter_tuple tup (wpAny_bind (wpAny_runValue ?_))
  have apart : l ≠ (s.heap.push (newSet w)).objs.size := by rw [n1]; exact Nat.ne_of_lt (Nat.lt_succ_of_lt old)
  refine set_update_tups ((Walks.tuple (A := A.in1) (by simp [hh]) _ l apart its).toS) s.heap.objs.size (fun z => ?_) ks size few (fun i v hv => refs_at hit (by rw [Array.getElem?_toList]; exact hv)) s.heap hk (get_new (Nat.le_refl _))
    (fun b hb => get_new ?_) hu its.size 0 _ (Nat.sub_zero _) (Nat.zero_le _) ⟨⟨_, Heap.get?_push_size _ rfl, rfl, rfl⟩, tup.push _⟩ (fun b o e => Heap.get?_push_of_some _ (Heap.get?_push_of_some _ e)) ⟨[], #[], 0, _, setTR_fresh (Heap.get?_push_of_some _ at0), Got.zero ks⟩
    (fun s' L es ep t hm R g keep => ?_)
  · rw [n1] at z
    rcases List.mem_cons.mp z with z | z
    · exact absurd z (Nat.ne_of_lt (Nat.lt_succ_self _))
    · exact absurd (List.mem_singleton.mp z) (Nat.ne_of_gt old)
  · rw [List.mem_singleton.mp hb, n1]
    exact Nat.le_succ _
  · obtain ⟨h', g2, d', tk', os'⟩ := s'
    cases (show g2 = s.gens from hm.gens)
    cases (show d' = s.drawn from hm.drawn)
    cases (show os' = s.os from hm.os)
    rw [size] at g
    refine wpAny_pure ?_
    show wpAny _ _ (ret Value.none) _ _ _
    exact wpAny_pure (done h' tk' L es ep t R g keep)
/-- set(t) -/
theorem call_setTT {Q : Value → Shared → Prop} (ks : List (Addr × List Int)) (hh : A.handled = none) (hl : s.heap.IsTuple l its) (hit : its.toList = ks.map fun p => Value.ref p.1) (hk : ∀ p ∈ ks, IsT P w s.heap p.2 p.1) (few : ks.length < 64) (hu : A.units + 3 < cLine)
    (h : ∀ (h' : Heap) (tk : Nat) L es ep t, SetTR P w h' s.heap.objs.size L es ep t → Got ks ks.length L → (∀ b o, s.heap.get? b = some o → h'.get? b = some o) → Q (.ref s.heap.objs.size) { s with heap := h', toks := tk }) :
    wpAny (model P w) A (call (.type "set") [.ref l]) Q E s := by
  have C := F.called_set
  obtain ⟨_, _, c1⟩ := C.mro
  have c2 := C.made
  have c3 := C.sub
  have c4 := C.notType
  have c5 := C.canCreate
  have c6 := F.typeCall_set_1 (.ref l)
  refine wpAny_call (codeAny_of_tree (?_ : wpAny _ _ (callAny (.type "set") _) _ _ _))
  refine wpAny_pure ⟨Code.quiet_builtin _ (by decide +kernel), codeAny_builtin F.entry_type_call ?_⟩
  rw [Around.under_plain (weight_type_call_type "set" [.ref l] []) rfl]
  repeat (any_goals (first | assumption | wp_step))
  refine codeAny_mono (code_set_led1 (.ref l) (E := E) (Q₁ := fun o s₁ => o = .ref s.heap.objs.size ∧ s₁ = { s with heap := s.heap.push (newSet w) }) ⟨rfl, rfl⟩) fun r s₁ hr => ?_
  rcases r with _ | (_ | _ | _ | _)
  case error => exact hr
  case ok.ret =>
    obtain ⟨rfl, rfl⟩ := hr
    have ty : Shared.TypeIs { s with heap := s.heap.push (newSet w) } (.ref s.heap.objs.size) "set" := ⟨_, Heap.get?_push_size _ rfl, rfl⟩
    have i1 := C.init.lookup
    have i2 := C.init.bind (.ref s.heap.objs.size)
    repeat (any_goals (first | assumption | wp_step))
    refine codeAny_mono (codeAny_call_builtin (R := wants (fun r z => r = .none ∧ ∃ h' tk L es ep t, z = { s with heap := h', toks := tk } ∧ SetTR P w h' s.heap.objs.size L es ep t ∧ Got ks ks.length L ∧
      (∀ b o, s.heap.get? b = some o → h'.get? b = some o)) E) C.init.plain F.entry_set_init (check_set_init_1 ty (init_setTT (by simp [hh]) hl hit hk few hu fun h' tk L es ep t R g keep => ⟨rfl, h', tk, L, es, ep, t, rfl, R, g, keep⟩))) fun r₂ s₂ hr₂ => ?_
    rcases r₂ with _ | (_ | _ | _ | _)
    case error => exact hr₂
    case ok.ret =>
      obtain ⟨rfl, h', tk, L, es, ep, t, rfl, R, g, keep⟩ := hr₂
      repeat (any_goals (first | assumption | wp_step))
      exact h _ _ _ _ _ _ R g keep
    all_goals exact hr₂.elim
  all_goals exact hr.elim
end
end FL

namespace FL
open PySem PySem.Spec PyProof.Rows L2
variable [TabCtx]
/-! ## sorted(set(t)), t a tuple of tuples of ints, strictly rising -/
def kyI (k : List Int) : TKey := k.map Sum.inl
theorem kyI_inj : ∀ {k l : List Int}, kyI k = kyI l → k = l
  | [], [], _ => rfl
  | [], _ :: _, h => by cases h
  | _ :: _, [], h => by cases h
  | a :: k, b :: l, h => by
    injection h with h1 h2
    injection h1 with h1
    rw [h1, kyI_inj h2]
theorem kyI_items : ∀ {k : List Int} {vs : List Value} (i : Nat), IntsAre vs k → tupItems (fun _ => false) i vs = some (kyI k)
  | _, _, _, .nil => rfl
  | _, _, i, .cons k0 t h => by
    show (if false = true then none else (tupItems (fun _ => false) (i + 1) _).map (Sum.inl k0 :: ·)) = _
    rw [if_neg Bool.false_ne_true, kyI_items (i + 1) h]
    rfl
section
variable {P : Program} {w : World} {A : Around} {E : Value → Shared → Prop} {s : Shared}
theorem tupKey_T {h : Heap} {k : List Int} {b : Addr} (x : IsT P w h k b) : G.tupKeyC h (fun _ => false) (.ref b) = some (kyI k) := by
  obtain ⟨o, items, n, ho, hc, hd, hi⟩ := x
  unfold G.tupKeyC
  have e1 : G.isTupObj h (.ref b) = true := by simp [G.isTupObj, ho, hc]
  rw [if_pos e1]
  simp only [tupKey, ho, hd]
  exact kyI_items 0 (ints_of_items hi)
theorem tupOf_T {h : Heap} {k : List Int} {b : Addr} (x : IsT P w h k b) (hne : k ≠ []) : ∃ f, TupOf h (fun _ => false) (.ref b) f := by
  obtain ⟨o, ⟨items⟩, n, ho, hc, hd, hi⟩ := x
  have hi2 : IntsAre items k := ints_of_items hi
  cases hi2 with
  | nil => exact absurd rfl hne
  | cons k0 t r => exact ⟨.int k0 t, b, o, _, n, rfl, ho, hc, hd, by simp, fun _ => ⟨_, _, rfl⟩, fun z => (by cases z)⟩
theorem tupsOf_T {h : Heap} : ∀ {vs : List Value}, (∀ v ∈ vs, ∃ f, TupOf h (fun _ => false) v f) → ∃ fs, TupsOf h (fun _ => false) vs fs
  | [], _ => ⟨[], .nil⟩
  | v :: vs, hv => by
    obtain ⟨f, h1⟩ := hv v List.mem_cons_self
    obtain ⟨fs, h2⟩ := tupsOf_T fun u hu => hv u (List.mem_cons_of_mem _ hu)
    exact ⟨f :: fs, .cons h1 h2⟩
theorem sorted_setTT {a : Addr} {L ks : List (Addr × List Int)} {es : Array (Int × Value)} {ep : Nat} {t : SetTable} {Q : Value → Shared → Prop} (R : SetTR P w s.heap a L es ep t) (hh : A.handled = none)
    (pk : L.Perm ks) (ne : ∀ p ∈ ks, p.2 ≠ []) (rise : ks.Pairwise fun p q => ltK (kyI p.2) (kyI q.2) = true)
    (hQ : ∀ s' p (c : Nat), (∀ b o, s.heap.get? b = some o → s'.heap.get? b = some o) → s'.gens = s.gens → s'.os = s.os → s.heap.objs.size ≤ p →
      s'.heap.get? p = some (seqObj "list" (ks.map fun q => Value.ref q.1).toArray c) → Q (.ref p) s') :
    wpAny (model P w) A (call (.builtin "sorted") [.ref a]) Q E s := by
  obtain ⟨o, ho, hex, hd⟩ := R.ob
  have few := R.few
  refine Calls.call_function_entry kind_sorted plain_sorted entry_sorted (args_sorted1 _) ?_
  unfold Builtin.«sorted»
  refine wpAny_bind (m := checkCount "sorted" 1 1 _) (wpAny_pure ?_)
  refine wpAny_bind (collect_set (A := A.in1) hh ⟨o, ho, hex.1, hd⟩ R.fits (by have := R.size; unfold scanBound; omega) R.tab.ris R.led fun s1 vs old hz g1 o1 pm => ?_)
  have pv : vs.Perm (ks.map fun q => Value.ref q.1) := by
    refine pm.trans ?_
    rw [R.rows]
    unfold rowsOf
    rw [List.map_map]
    exact pk.map _
  have hvl : vs.length < 64 := by rw [pv.length_eq, List.length_map, ← pk.length_eq]; exact few
  refine wpAny_bind (wpAny_newList ?_ (by rw [sizeLine_eq]; omega))
  have hoL : (s1.heap.push (seqObj "list" vs.toArray 0)).get? s1.heap.objs.size = some (seqObj "list" vs.toArray 0) := Heap.get?_push_size _ rfl
  have rows : ∀ q ∈ ks, IsT P w (s1.heap.push (seqObj "list" vs.toArray 0)) q.2 q.1 := fun q hq => isT_keep (R.tup q (pk.mem_iff.mpr hq)) fun b u e => Heap.get?_push_of_some _ (old b u e)
  have inv : ∀ v ∈ vs, ∃ q ∈ ks, v = .ref q.1 := fun v hv => by
    obtain ⟨q, hq, e⟩ := List.mem_map.mp (pv.mem_iff.mp hv)
    exact ⟨q, hq, e.symm⟩
  obtain ⟨fs, hfs⟩ := tupsOf_T (vs := vs) (h := s1.heap.push (seqObj "list" vs.toArray 0)) fun v hv => by
    obtain ⟨q, hq, rfl⟩ := inv v hv
    exact tupOf_T (rows q hq) (ne q hq)
  refine wpAny_bind (wpAny_holding (wpAny_call_entry slot_list_sort ⟨_, hoL, rfl⟩ entry_list_sort (G.list_sort_tups (s := { s1 with heap := s1.heap.push (seqObj "list" vs.toArray 0) }) hoL hfs (fun v hv => by
    obtain ⟨q, hq, rfl⟩ := inv v hv
    exact ⟨_, tupKey_T (rows q hq)⟩) (by rw [sizeLine_eq]; omega) fun st' hp hso _ => ⟨_, rfl, ?_⟩) (args_list_sort _)))
  have hp2 : (arrOf st').toList.Perm (vs.zip vs) := by
    have := hp
    rw [Array.perm_iff_toList_perm, pairsOf_toList] at this
    exact this
  have diag : ∀ p ∈ (arrOf st').toList, p.2 = p.1 ∧ p.1 ∈ vs := fun p hpm => by
    obtain ⟨e, m⟩ := mem_zip_self (hp2.mem_iff.mp hpm)
    exact ⟨e.symm, m⟩
  have hout : ((arrOf st').map (·.2)).toList.Perm vs := by
    rw [Array.toList_map]
    have := hp2.map (·.2)
    rwa [List.map_snd_zip (Nat.le_refl _)] at this
  have same : ((arrOf st').map (·.2)).toList = ks.map fun q => Value.ref q.1 := by
    let le : Value → Value → Prop := fun x y => ∀ k k', G.tupKeyC (s1.heap.push (seqObj "list" vs.toArray 0)) (fun _ => false) x = some k → G.tupKeyC (s1.heap.push (seqObj "list" vs.toArray 0)) (fun _ => false) y = some k' → ltK k' k = false
    refine List.Perm.eq_of_pairwise (le := le) (fun x y hx hy h1 h2 => ?_) ?_ ?_ (hout.trans pv)
    · obtain ⟨q, hq, rfl⟩ := inv x (hout.mem_iff.mp hx)
      obtain ⟨r, hr, rfl⟩ := List.mem_map.mp hy
      have e : kyI q.2 = kyI r.2 := ((listOrd itemOrd).total _ _ (h1 _ _ (tupKey_T (rows q hq)) (tupKey_T (rows r hr))) (h2 _ _ (tupKey_T (rows r hr)) (tupKey_T (rows q hq)))).symm
      have irr : ∀ k, ltK k k = false := fun k => (listOrd itemOrd).irrefl k
      have nd : ks.Pairwise fun p q => kyI p.2 ≠ kyI q.2 := rise.imp fun {p q} h z => by
        rw [z, irr] at h; cases h
      obtain ⟨i, hi, e1⟩ := List.getElem_of_mem hq
      obtain ⟨j, hj, e2⟩ := List.getElem_of_mem hr
      rw [List.pairwise_iff_getElem] at nd
      rcases Nat.lt_trichotomy i j with z | z | z
      · exact absurd (by rw [e1, e2]; exact e) (nd i j hi hj z)
      · subst z; rw [← e1, ← e2]
      · exact absurd (by rw [e1, e2]; exact e.symm) (nd j i hj hi z)
    · rw [List.pairwise_iff_getElem]
      intro i j hi hj hij k k' hk hk'
      have hsz : (pairsOf vs).size = ((arrOf st').map (·.2)).toList.length := by rw [hout.length_eq, pairsOf_size]
      have hle := hso i j (Nat.le_of_lt hij) (by rw [hsz]; exact hj)
      have at_ : ∀ (m : Nat) (hm : m < ((arrOf st').map (·.2)).toList.length) (z : TKey), G.tupKeyC (s1.heap.push (seqObj "list" vs.toArray 0)) (fun _ => false) ((arrOf st').map (·.2)).toList[m] = some z → KK (G.tupKindC (s1.heap.push (seqObj "list" vs.toArray 0)) (fun _ => false)) (arrOf st') m = z := by
        intro m hm z hz2
        have hm' : m < (arrOf st').size := by simpa using hm
        have e3 : ((arrOf st').map (·.2)).toList[m] = (arrOf st')[m].2 := by simp
        have hd := diag (arrOf st')[m] (by simp)
        unfold KK
        rw [Array.getElem?_eq_getElem hm']
        show (G.tupKeyC _ _ (arrOf st')[m].1).getD [] = z
        rw [e3, hd.1] at hz2
        rw [hz2]; rfl
      rw [at_ i hi k hk, at_ j hj k' hk'] at hle
      exact hle
    · rw [List.pairwise_map]
      refine rise.imp_of_mem fun {p q} hp hq h k k' h1 h2 => ?_
      rw [tupKey_T (rows p hp)] at h1
      rw [tupKey_T (rows q hq)] at h2
      cases h1; cases h2
      exact ltK_asymm h
  obtain ⟨c, hc⟩ := sortedHeap_at (vs := vs) (out := (arrOf st').map (·.2)) hoL
  rw [show (arrOf st').map (·.2) = (ks.map fun q => Value.ref q.1).toArray from by rw [← same]] at hc ⊢
  refine wpAny_pure ⟨_, rfl, hQ _ s1.heap.objs.size c (fun b u e => ?_) g1 o1 hz hc⟩
  have q := old b u e
  have hlt := Heap.lt_size q
  show (sortedHeap (s1.heap.push (seqObj "list" vs.toArray 0)) s1.heap.objs.size vs _).get? b = some u
  rw [sortedHeap_old (Nat.ne_of_lt hlt) (by rw [size_push']; exact Nat.lt_succ_of_lt hlt)]
  exact Heap.get?_push_of_some _ q
end
end FL
namespace FL
open PySem PySem.Spec PyProof.Rows L2
variable [TabCtx]
section
variable {X : Cx}
/-- set(t), t a tuple of tuples of ints -/
def rSetTT (K : PySem.W.Frag) (P : Program) (w : World) : List V → Hp → VK → Prop := fun xs H Q => ∃ (l : Addr) (ks : List (Addr × List Int)), xs = [V.ref l] ∧ SqT K H l (ks.map fun p => V.ref p.1) ∧ (∀ p ∈ ks, SqT K H p.1 (p.2.map V.int)) ∧ ks.length < 64 ∧
  ∀ a L, H a = none → (∀ p ∈ L, p ∈ ks) → (∀ p ∈ ks, p.2 ∈ L.map (·.2)) → (L.map (·.2)).Nodup → Q (.ref a) (upd H a (SetTO P w a L))
theorem cr_setTT (hc : X.calm = true) (hu : X.A.units + 64 < cLine) : CallR X (.type "set") (rSetTT X.K X.prog X.w) := by
  intro pins s σ H xs us Q I r h
  obtain ⟨l, ks, rfl, hl, hk, hf, q⟩ := h
  rw [Vals.ref1 r]
  obtain ⟨its, rv, pl, hz⟩ := I.tuple hl
  have hn : H s.heap.objs.size = none := I.hok.fresh (Nat.le_refl _)
  refine call_setTT (P := X.prog) (w := X.w) ks (I.ok.hd hc) (show s.heap.IsTuple l its.toArray from pl) (by simpa using refs_of_vals rv) (fun p hp => I.isT (hk p hp)) hf (by omega) fun h' tk L es ep t R g k => ?_
  refine ⟨.ref s.heap.objs.size, upd H s.heap.objs.size (SetTO X.prog X.w s.heap.objs.size L), I.laid (t' := tk) k (Nat.le_refl _) (setTO_new R.t0), rfl, q _ L hn (fun p hp => ?_) (fun p hp => ?_) R.nd⟩
  · exact List.mem_of_mem_take (g.sub p hp)
  · exact g.all p (by rw [List.take_length]; exact hp)
/-- sorted(set), its tuples those of ks, strictly rising -/
def rSortTT (K : PySem.W.Frag) (P : Program) (w : World) : List V → Hp → VK → Prop := fun vs H Q => ∃ (a : Addr) (L ks : List (Addr × List Int)), vs = [V.ref a] ∧ H a = some (SetTO P w a L) ∧ (∀ p ∈ L, SqT K H p.1 (p.2.map V.int)) ∧ L.Perm ks ∧
  (∀ p ∈ ks, p.2 ≠ []) ∧ (ks.Pairwise fun p q => ltK (kyI p.2) (kyI q.2) = true) ∧ ∀ (p : Addr), H p = none → Q (.ref p) (upd H p (.lst (ks.map fun q => V.ref q.1)))
theorem cr_sortTT (hc : X.calm = true) : CallR X (.builtin "sorted") (rSortTT X.K X.prog X.w) := by
  intro pins s σ H vs us Q I r h
  obtain ⟨a, L, ks, rfl, ha, hk, pk, ne, rise, q⟩ := h
  have R0 : SetT0 X.prog X.w s.heap a L := (I.hok a _ ha).1
  obtain ⟨es, ep, t, R⟩ := R0.full fun p hp => I.isT (hk p hp)
  rw [Vals.ref1 r]
  refine sorted_setTT R (I.ok.hd hc) pk ne rise fun s' p c k g o hp hg => ?_
  have hlen : (ks.map fun q => V.ref q.1).length ≤ sizeLine := by rw [List.length_map, ← pk.length_eq, sizeLine_eq]; have := R.few; omega
  have hv : Vals (ks.map fun q => V.ref q.1) (ks.map fun q => Value.ref q.1).toArray.toList := vals_of_refs ks
  have J : Inv X pins σ (upd H p (.lst (ks.map fun q => V.ref q.1))) { s with heap := s'.heap, gens := s'.gens, drawn := s'.drawn, toks := s'.toks } :=
    I.call (ch := []) (Un.laid k hp (I.hok.fresh hp)) (I.hok.laid k hp ⟨hlen, _, c, hv, hg⟩) (by rw [g]; exact I.bare) (fun _ z => nomatch z)
  have e : s' = { s with heap := s'.heap, gens := s'.gens, drawn := s'.drawn, toks := s'.toks } := by
    cases s'
    cases s
    cases o
    rfl
  rw [e]
  exact ⟨.ref p, _, J, rfl, q p (I.hok.fresh hp)⟩
end
/-- rows that rise -/
def risesB : List (List Int) → Bool
  | [] => true
  | k :: r => r.all (fun l => ltK (kyI k) (kyI l)) && risesB r
theorem risesB_eq : ∀ {r : List (List Int)}, risesB r = true → r.Pairwise fun k l => ltK (kyI k) (kyI l) = true
  | [], _ => .nil
  | k :: r, h => by
    unfold risesB at h
    rw [Bool.and_eq_true, List.all_eq_true] at h
    exact List.pairwise_cons.mpr ⟨h.1, risesB_eq h.2⟩
def sortSTB : List D → Sto → Res (List D)
  | [.tup es], st => match tupsD es with
    | some ks => if ks.length < 64 ∧ (ks.all fun k => !k.isEmpty) = true ∧ risesB ks = true then .ok es st else .bad
    | none => .bad
  | _, _ => .bad
section
variable {X : Cx} {W : WX} {es : List Expr} {e : Expr} {ms : Env → Sto → Res (List D)} {x y : Str} {p pos p2 pos2 : Pos}
theorem fn_sortSetT (hc : X.calm = true) (hu : X.A.units + 64 < cLine) (hg : Gl X x) (hm : X.mg x = none) (hv : bootBuiltins x = some (.builtin "sorted")) (gy : Gl X y) (my : X.mg y = none) (hy : bootBuiltins y = some (.type "set")) (ha : FA X W [e] ms)
    (hn : x ≠ "__name__" := by decide) (hdb : (x == ("__debug__" : Str)) = false := by decide) (ny : y ≠ "__name__" := by decide) (dy : (y == ("__debug__" : Str)) = false := by decide)
    (he : starEach [e] X.env = (false, eval e X.env) :: starEach [] X.env := by rfl) :
    FN X W (.Call (.Name x p) [.Call (.Name y p2) [e] [] pos2] [] pos) (nB sortSTB ms) := by
  have inner := pe_callTy (pos := pos2) (p := p2) (cr_setTT hc hu) gy my hy ha ny dy he (by rfl)
  refine PE.imp (pe_callB (pos := pos) (p := p) (cr_sortTT hc) hg hm hv (pa_cons inner pa_nil (by rfl)) hn hdb (by rfl) (by rfl)) fun σ H Q ⟨r, env, st, hE, hS, h⟩ => ?_
  refine ⟨r, env, st, hE, hS, RES.seq h fun ds st1 xs H1 r1 e1 s1 v1 h1 => ?_⟩
  unfold sortSTB at h1
  split at h1
  · rename_i es
    obtain ⟨z, rfl, w⟩ := vds1 v1
    obtain ⟨a, ys, rfl, k1, k2⟩ := w
    cases q2 : tupsD es with
    | none => simp only [q2] at h1; exact h1.elim
    | some ks =>
      simp only [q2] at h1
      split at h1
      · rename_i hok
        obtain ⟨o1, o2, o3⟩ := hok
        obtain ⟨ps, f1, f2, f3⟩ := tupsD_v s1 q2 k2
        have hpl : ps.length < 64 := by rw [← f2, List.length_map] at o1; exact o1
        have rise : ps.Pairwise fun p q => ltK (kyI p.2) (kyI q.2) = true := by
          have := risesB_eq o3
          rw [← f2, List.pairwise_map] at this
          exact this
        have irr : ∀ k, ltK k k = false := fun k => (listOrd itemOrd).irrefl k
        refine ⟨a, ps, rfl, by rw [← f1]; exact k1.sq, f3, hpl, fun b L hb g1 g2 nd => ?_⟩
        have nps : (ps.map (·.2)).Nodup := by
          rw [f2]
          exact (risesB_eq o3).imp fun {k l} h z => by rw [z, irr] at h; cases h
        have pk : L.Perm ps := by
          refine (List.perm_ext_iff_of_nodup (nodup_of_map nd) (nodup_of_map nps)).mpr fun q => ⟨g1 q, fun hq => ?_⟩
          obtain ⟨q', h1, h2⟩ := List.mem_map.mp (g2 q hq)
          have h3 := g1 q' h1
          have e : q' = q := by
            obtain ⟨i, hi, e1⟩ := List.getElem_of_mem h3
            obtain ⟨j, hj, e2⟩ := List.getElem_of_mem hq
            have := List.pairwise_iff_getElem.mp rise
            rcases Nat.lt_trichotomy i j with z | z | z
            · have h := this i j hi hj z
              rw [e1, e2, h2, irr] at h; cases h
            · subst z; rw [← e1, ← e2]
            · have h := this j i hj hi z
              rw [e1, e2, h2, irr] at h; cases h
          rw [← e]; exact h1
        refine ⟨b, L, ps, rfl, upd_same, fun p hp => sqT_fresh hb (f3 p (g1 p hp)), pk, fun p hp z => ?_, rise, fun c hc => ?_⟩
        · rw [List.all_eq_true] at o2
          have := o2 p.2 (by rw [← f2]; exact List.mem_map.mpr ⟨p, hp, rfl⟩)
          rw [z] at this; cases this
        · rw [← f1]
          exact RES.ok' h1 (Ext.fresh hb) (s1.fresh hb) (k2.ext (Ext.fresh hb)) c hc
      · exact h1.elim
  · exact h1.elim
end
end FL

namespace K54
open PySem PySem.Spec PyProof.Rows L2 FL
variable [TabCtx]

def topS (i : Nat) : Stmt := PySem.Challenge.pw_currentfloor_k54_all_rows_of_sizes.main.body.getD i (.Pass ⟨0, 0, 0, 0⟩)
def k_GREATEST : D := (.int 5)
def k_MOST : D := (.int 7)
/-! highest -/
abbrev s_highest : Stmt := topS 4
theorem sc_highest : FnScope ["border", "found", "number", "piece"] ["border"] (defScope s_highest) := ⟨rfl, rfl, rfl, by decide +kernel, rfl, by decide +kernel, by decide +kernel⟩
def b_highest : SM4 := sSeq (sSet 1 (eC (.int 0))) (sSeq (sFor (some [2, 3]) (iEnum (aCons (eV 0) (aNil))) (gTupM 2 (gsCons (gSet 2) (gsCons (gSet 3) (gsNil)))) (sIf (asB (eOp gtD (eOp ixD (eV 3) (eC (.int 2))) (eOp ixD (eOp ixD (eV 0) (eV 1)) (eC (.int 2))))) (sSet 1 (eV 2)) (sNext))) (sRet (eV 1)))
def m_highest : Fn := mFn true 4 b_highest
/-! joined -/
abbrev s_joined : Stmt := topS 5
theorem sc_joined : FnScope ["pieces", "border", "piece"] ["pieces"] (defScope s_joined) := ⟨rfl, rfl, rfl, by decide +kernel, rfl, by decide +kernel, by decide +kernel⟩
def b_joined : SM4 := sSeq (sSet 1 (eNew (nLst (aNil)))) (sSeq (sFor (some [2]) (iSeq (eV 0)) (gSet 2) (sIf (tAndM (asB (eOp neD (eV 1) (eFrz (nLst (aNil))))) (asB (eOp eqD (eOp ixD (eOp ixD (eV 1) (eUn negD (eC (.int 1)))) (eC (.int 2))) (eOp ixD (eV 2) (eC (.int 2)))))) (sPut (eTup (aCons (eOp ixD (eOp ixD (eV 1) (eUn negD (eC (.int 1)))) (eC (.int 0))) (aCons (eOp ixD (eV 2) (eC (.int 1))) (aCons (eOp ixD (eV 2) (eC (.int 2))) (aNil))))) (eV 1) (eUn negD (eC (.int 1)))) (sDrop (eMt isLst apD (eV 1) (aCons (eV 2) (aNil)))))) (sRet (eV 1)))
def m_joined : Fn := mFn true 3 b_joined
/-! hung -/
abbrev s_hung : Stmt := topS 6
theorem sc_hung : FnScope ["border", "size", "number", "left", "right", "level", "pieces"] ["border", "size"] (defScope s_hung) := ⟨rfl, rfl, rfl, by decide +kernel, rfl, by decide +kernel, by decide +kernel⟩
def b_hung : SM4 := sSeq (sSet 2 (eCall 1 m_highest (aCons (eV 0) (aNil)))) (sSeq (sAsg (eOp ixD (eV 0) (eV 2)) (gTupM 3 (gsCons (gSet 3) (gsCons (gSet 4) (gsCons (gSet 5) (gsNil)))))) (sSeq (sIf (tOrM (asB (eOp ltD (eV 1) (eC (.int 1)))) (tOrM (asB (eOp gtD (eV 1) (eOp subD (eV 4) (eV 3)))) (asB (eOp gtD (eV 1) (eV 5))))) (sRet (eC .non)) (sNext)) (sSeq (sSet 6 (eNew (nCat (eSl (eV 0) (oNo) (oSome (eV 2))) (eFrz (nLst (aCons (eTup (aCons (eV 3) (aCons (eOp addD (eV 3) (eV 1)) (aCons (eOp subD (eV 5) (eV 1)) (aNil))))) (aNil))))))) (sSeq (sIf (asB (eOp ltD (eOp addD (eV 3) (eV 1)) (eV 4))) (sDrop (eMt isLst apD (eV 6) (aCons (eTup (aCons (eOp addD (eV 3) (eV 1)) (aCons (eV 4) (aCons (eV 5) (aNil))))) (aNil)))) (sNext)) (sRet (eCall 1 m_joined (aCons (eOp addD (eV 6) (eSl (eV 0) (oSome (eOp addD (eV 2) (eC (.int 1)))) (oNo))) (aNil))))))))
def m_hung : Fn := mFn true 7 b_hung
/-! is_full -/
abbrev s_is_full : Stmt := topS 7
theorem sc_is_full : FnScope ["border"] ["border"] (defScope s_is_full) := ⟨rfl, rfl, rfl, by decide +kernel, rfl, by decide +kernel, by decide +kernel⟩
def b_is_full : SM4 := sRet (eAnd (eOp eqD (eB lenB (aCons (eV 0) (aNil))) (eC (.int 1))) (eOp eqD (eOp ixD (eOp ixD (eV 0) (eC (.int 0))) (eC (.int 2))) (eC (.int 0))))
def m_is_full : Fn := mFn true 1 b_is_full
/-! wanted -/
abbrev s_wanted : Stmt := topS 11
theorem sc_wanted : FnScope ["border", "many", "going", "left", "right", "level", "one"] ["border"] (defScope s_wanted) := ⟨rfl, rfl, rfl, by decide +kernel, rfl, by decide +kernel, by decide +kernel⟩
def b_wanted : SM4 := sSeq (sSet 1 (eC (.int 0))) (sSeq (sSet 2 (eNew (nLst (aNil)))) (sSeq (sFor (some [3, 4, 5]) (iSeq (eV 0)) (gTupM 3 (gsCons (gSet 3) (gsCons (gSet 4) (gsCons (gSet 5) (gsNil))))) (sSeq (sSet 2 (eNew (nComp [6] (iSeq (eV 2)) (gSet 6) (asB (eOp leD (eV 6) (eV 5))) (eV 6)))) (sIf (tAndM (asB (eOp gtD (eV 5) (eC (.int 0)))) (asB (eOp ninD (eV 5) (eV 2)))) (sSeq (sSet 1 (eOp addD (eV 1) (eOp fdivD (eOp subD (eOp addD (eOp subD (eV 4) (eV 3)) (eV 5)) (eC (.int 1))) (eV 5)))) (sDrop (eMt isLst apD (eV 2) (aCons (eV 5) (aNil))))) (sNext)))) (sRet (eV 1))))
def m_wanted : Fn := mFn true 7 b_wanted
/-! grow -/
abbrev s_grow : Stmt := topS 12
theorem sc_grow : FnScope ["border", "sizes", "most", "found", "left", "right", "level", "size"] ["border", "sizes", "most", "found"] (defScope s_grow) := ⟨rfl, rfl, rfl, by decide +kernel, rfl, by decide +kernel, by decide +kernel⟩
def b_grow (rec : Fn) : SM4 := sSeq (sIf (tTru (eCall 1 m_is_full (aCons (eV 0) (aNil)))) (sSeq (sDrop (eMt isLst apD (eV 3) (aCons (eV 1) (aNil)))) (sRetN)) (sNext)) (sSeq (sIf (asB (eOp gtD (eOp addD (eB lenB (aCons (eV 1) (aNil))) (eCall 1 m_wanted (aCons (eV 0) (aNil)))) (eV 2))) (sRetN) (sNext)) (sSeq (sAsg (eOp ixD (eV 0) (eCall 1 m_highest (aCons (eV 0) (aNil)))) (gTupM 3 (gsCons (gSet 4) (gsCons (gSet 5) (gsCons (gSet 6) (gsNil)))))) (sFor (some [7]) (iRange2 (aCons (eC (.int 1)) (aCons (eOp addD (eB minB (aCons (eOp subD (eV 5) (eV 4)) (aCons (eV 6) (aNil)))) (eC (.int 1))) (aNil)))) (gSet 7) (sDrop (eCall 4 rec (aCons (eCall 2 m_hung (aCons (eV 0) (aCons (eV 7) (aNil)))) (aCons (eOp addD (eV 1) (eTup (aCons (eV 7) (aNil)))) (aCons (eV 2) (aCons (eV 3) (aNil))))))))))
def m_grow : Nat → Fn
  | 0 => fun _ _ => .bad
  | n + 1 => mFn true 8 (b_grow (m_grow n))
/-! all_codes -/
abbrev s_all_codes : Stmt := topS 13
theorem sc_all_codes : FnScope ["width", "height", "most", "found"] ["width", "height", "most"] (defScope s_all_codes) := ⟨rfl, rfl, rfl, by decide +kernel, rfl, by decide +kernel, by decide +kernel⟩
def b_all_codes : SM4 := sSeq (sIf (tOrM (tNotM (asB (eChain leD leD (eC (.int 1)) (eV 0) (eC k_GREATEST)))) (tOrM (tNotM (asB (eChain leD leD (eC (.int 1)) (eV 1) (eC k_GREATEST)))) (tNotM (asB (eChain leD leD (eC (.int 0)) (eV 2) (eC k_MOST)))))) (sRaise "TooMany") (sNext)) (sSeq (sSet 3 (eNew (nLst (aNil)))) (sSeq (sDrop (eCall 4 (m_grow 12) (aCons (eFrz (nLst (aCons (eTup (aCons (eC (.int 0)) (aCons (eV 0) (aCons (eV 1) (aNil))))) (aNil)))) (aCons (eTup (aNil)) (aCons (eV 2) (aCons (eV 3) (aNil))))))) (sRet (eB tupB (aCons (eFrz (nB sortB2 (aCons (eV 3) (aNil)))) (aNil))))))
def m_all_codes : Fn := mFn true 4 b_all_codes
/-! l_beyond -/
abbrev s_l_beyond : Stmt := topS 19
theorem sc_l_beyond : FnScope ["_law_width", "_law_height", "_law_most", "_law_heard", "e"] ["_law_width", "_law_height", "_law_most"] (defScope s_l_beyond) := ⟨rfl, rfl, rfl, by decide +kernel, rfl, by decide +kernel, by decide +kernel⟩
def b_l_beyond : SM4 := sSeq (sSet 3 (eC (.bl false))) (sSeq (sTry (sDrop (eCall 3 m_all_codes (aCons (eV 0) (aCons (eV 1) (aCons (eV 2) (aNil)))))) 4 [("TooMany", true)] (sSet 3 (eAnd (eIsx [("TooMany", true)] (eV 4)) (eIsx [("TooMany", true)] (eV 4))))) (sRet (eV 3)))
def m_l_beyond : Fn := mFn true 5 b_l_beyond
/-! l_spot -/
abbrev s_l_spot : Stmt := topS 16
theorem sc_l_spot : FnScope ["_law_tops", "_law_most", "_law_left", "_law_wide"] ["_law_tops"] (defScope s_l_spot) := ⟨rfl, rfl, rfl, by decide +kernel, rfl, by decide +kernel, by decide +kernel⟩
def b_l_spot : SM4 := sSeq (sSet 1 (eB maxB (aCons (eV 0) (aNil)))) (sSeq (sSet 2 (eMt isLst idxD (eV 0) (aCons (eV 1) (aNil)))) (sSeq (sSet 3 (eC (.int 0))) (sSeq (sWhile 9000 (some []) (tAndM (asB (eOp ltD (eOp addD (eV 2) (eV 3)) (eB lenB (aCons (eV 0) (aNil))))) (asB (eOp eqD (eOp ixD (eV 0) (eOp addD (eV 2) (eV 3))) (eV 1)))) (sSet 3 (eOp addD (eV 3) (eC (.int 1))))) (sRet (eTup (aCons (eV 2) (aCons (eV 3) (aNil))))))))
def m_l_spot : Fn := mFn true 4 b_l_spot
/-! l_laid -/
abbrev s_l_laid : Stmt := topS 17
theorem sc_l_laid : FnScope ["_law_width", "_law_height", "_law_sizes", "_law_tops", "_law_squares", "_law_at", "_law_size", "_law_left", "_law_wide", "_law_k"] ["_law_width", "_law_height", "_law_sizes"] (defScope s_l_laid) := ⟨rfl, rfl, rfl, by decide +kernel, rfl, by decide +kernel, by decide +kernel⟩
def b_l_laid : SM4 := sSeq (sSet 3 (eNew (nComp [9] (iRange1 (aCons (eV 0) (aNil))) (gSet 9) (noTest) (eV 1)))) (sSeq (sSet 4 (eNew (nLst (aNil)))) (sSeq (sFor (some [5, 6, 7, 8, 9]) (iEnum (aCons (eV 2) (aNil))) (gTupM 2 (gsCons (gSet 5) (gsCons (gSet 6) (gsNil)))) (sSeq (sAsg (eCall 1 m_l_spot (aCons (eV 3) (aNil))) (gTupM 2 (gsCons (gSet 7) (gsCons (gSet 8) (gsNil))))) (sSeq (sIf (tOrM (asB (eOp ltD (eV 6) (eC (.int 1)))) (tOrM (asB (eOp gtD (eV 6) (eV 8))) (asB (eOp gtD (eV 6) (eOp ixD (eV 3) (eV 7)))))) (sRet (eTup (aCons (eC .non) (aCons (eV 5) (aNil))))) (sNext)) (sSeq (sDrop (eMt isLst apD (eV 4) (aCons (eTup (aCons (eV 7) (aCons (eOp subD (eOp ixD (eV 3) (eV 7)) (eV 6)) (aCons (eV 6) (aNil))))) (aNil)))) (sFor (some [9]) (iRange2 (aCons (eV 7) (aCons (eOp addD (eV 7) (eV 6)) (aNil)))) (gSet 9) (sPut (eOp subD (eOp ixD (eV 3) (eV 9)) (eV 6)) (eV 3) (eV 9))))))) (sSeq (sIf (asB (eOp gtD (eB maxB (aCons (eV 3) (aNil))) (eC (.int 0)))) (sRet (eTup (aCons (eC .non) (aCons (eB lenB (aCons (eV 2) (aNil))) (aNil))))) (sNext)) (sRet (eTup (aCons (eV 4) (aCons (eC .non) (aNil))))))))
def m_l_laid : Fn := mFn true 10 b_l_laid
/-! l_book -/
abbrev s_l_book : Stmt := topS 18
theorem sc_l_book : FnScope ["_law_width", "_law_height", "_law_most", "_law_some", "_law_found", "_law_sizes", "_law_squares", "_law_at", "_law_size"] ["_law_width", "_law_height", "_law_most"] (defScope s_l_book) := ⟨rfl, rfl, rfl, by decide +kernel, rfl, by decide +kernel, by decide +kernel⟩
def b_l_book : SM4 := sSeq (sSet 3 (eNew (nLst (aCons (eTup (aNil)) (aNil))))) (sSeq (sSet 4 (eNew (nLst (aNil)))) (sSeq (sWhile 9000 (some [5, 6, 7, 8]) (asB (eOp gtD (eB lenB (aCons (eV 3) (aNil))) (eC (.int 0)))) (sSeq (sSet 5 (eMt isLst popD (eV 3) aNil)) (sSeq (sAsg (eCall 3 m_l_laid (aCons (eV 0) (aCons (eV 1) (aCons (eV 5) (aNil))))) (gTupM 2 (gsCons (gSet 6) (gsCons (gSet 7) (gsNil))))) (sIf (asB (eOp isntD (eV 6) (eC .non))) (sDrop (eMt isLst apD (eV 4) (aCons (eV 5) (aNil)))) (sIf (tAndM (asB (eOp eqD (eV 7) (eB lenB (aCons (eV 5) (aNil))))) (asB (eOp ltD (eB lenB (aCons (eV 5) (aNil))) (eV 2)))) (sFor (some [8]) (iRange2 (aCons (eC (.int 1)) (aCons (eOp addD (eB minB (aCons (eV 0) (aCons (eV 1) (aNil)))) (eC (.int 1))) (aNil)))) (gSet 8) (sDrop (eMt isLst apD (eV 3) (aCons (eOp addD (eV 5) (eTup (aCons (eV 8) (aNil)))) (aNil))))) (sNext)))))) (sRet (eFrz (nB sortB2 (aCons (eV 4) (aNil)))))))
def m_l_book : Fn := mFn true 9 b_l_book
/-! l_cell_at -/
abbrev s_l_cell_at : Stmt := topS 15
theorem sc_l_cell_at : FnScope ["_law_script", "_law_k", "_law_cell"] ["_law_script", "_law_k"] (defScope s_l_cell_at) := ⟨rfl, rfl, rfl, by decide +kernel, rfl, by decide +kernel, by decide +kernel⟩
def b_l_cell_at : SM4 := sSeq (sSet 2 (eC (.int 0))) (sSeq (sIf (asB (eOp ltD (eV 1) (eB lenB (aCons (eV 0) (aNil))))) (sSet 2 (eOp modD (eOp ixD (eV 0) (eV 1)) (eOp powD (eC (.int 10)) (eC (.int 18))))) (sNext)) (sRet (eOp modD (eOp mulD (eOp modD (eOp addD (eOp mulD (eV 2) (eC (.int 48271))) (eOp mulD (eC (.int 16807)) (eV 1))) (eC (.int 2147483647))) (eC (.int 69621))) (eC (.int 2147483629)))))
def m_l_cell_at : Fn := mFn true 3 b_l_cell_at
/-! l_row -/
abbrev s_l_row : Stmt := topS 20
theorem sc_l_row : FnScope ["_law_sizes", "_law_width", "_law_height", "_law_most", "_law_size"] ["_law_sizes", "_law_width", "_law_height", "_law_most"] (defScope s_l_row) := ⟨rfl, rfl, rfl, by decide +kernel, rfl, by decide +kernel, by decide +kernel⟩
def b_l_row : SM4 := sSeq (sIf (tOrM (tNotM (tTru (eIsi .tup (eV 0)))) (asB (eOp gtD (eB lenB (aCons (eV 0) (aNil))) (eV 3)))) (sRet (eC (.bl false))) (sNext)) (sSeq (sIf (tTru (eB anyB (aCons (eFrz (nComp [4] (iSeq (eV 0)) (gSet 4) (noTest) (eOr (eNot (eIsi .int (eV 4))) (eIsi .bl (eV 4))))) (aNil)))) (sRet (eC (.bl false))) (sNext)) (sRet (eOp isntD (eOp ixD (eCall 3 m_l_laid (aCons (eV 1) (aCons (eV 2) (aCons (eV 0) (aNil))))) (eC (.int 0))) (eC .non))))
def m_l_row : Fn := mFn true 5 b_l_row
/-! law -/
abbrev s_law : Stmt := topS 21
theorem sc_law : FnScope ["_law_script", "_law_width", "_law_height", "_law_most", "_law_way", "_law_far", "_law_place", "_law_found", "_law_sizes"] ["_law_script"] (defScope s_law) := ⟨rfl, rfl, rfl, by decide +kernel, rfl, by decide +kernel, by decide +kernel⟩
def b_law : SM4 := sSeq (sSet 1 (eOp addD (eC (.int 1)) (eOp modD (eCall 2 m_l_cell_at (aCons (eV 0) (aCons (eC (.int 0)) (aNil)))) (eC (.int 4))))) (sSeq (sSet 2 (eOp addD (eC (.int 1)) (eOp modD (eCall 2 m_l_cell_at (aCons (eV 0) (aCons (eC (.int 1)) (aNil)))) (eC (.int 4))))) (sSeq (sSet 3 (eOp modD (eCall 2 m_l_cell_at (aCons (eV 0) (aCons (eC (.int 2)) (aNil)))) (eC (.int 7)))) (sSeq (sSet 4 (eOp modD (eCall 2 m_l_cell_at (aCons (eV 0) (aCons (eC (.int 3)) (aNil)))) (eC (.int 6)))) (sSeq (sSet 5 (eCall 2 m_l_cell_at (aCons (eV 0) (aCons (eC (.int 4)) (aNil))))) (sSeq (sIf (asB (eOp eqD (eV 4) (eC (.int 0)))) (sSeq (sSet 6 (eOp modD (eV 5) (eC (.int 3)))) (sSeq (sSet 1 (eOp ixD (eFrz (nLst (aCons (eV 1) (aCons (eC (.int 0)) (aCons (eC (.int 6)) (aCons (eC (.int 7)) (aCons (eUn negD (eC (.int 1))) (aCons (eUn negD (eC (.int 5))) (aNil))))))))) (eOp mulD (eOp addD (eC (.int 1)) (eOp modD (eOp fdivD (eV 5) (eC (.int 3))) (eC (.int 5)))) (eB intB (aCons (eOp eqD (eV 6) (eC (.int 0))) (aNil)))))) (sSeq (sSet 2 (eOp ixD (eFrz (nLst (aCons (eV 2) (aCons (eC (.int 0)) (aCons (eC (.int 6)) (aCons (eC (.int 7)) (aCons (eUn negD (eC (.int 1))) (aCons (eUn negD (eC (.int 5))) (aNil))))))))) (eOp mulD (eOp addD (eC (.int 1)) (eOp modD (eOp fdivD (eV 5) (eC (.int 3))) (eC (.int 5)))) (eB intB (aCons (eOp eqD (eV 6) (eC (.int 1))) (aNil)))))) (sSeq (sSet 3 (eOp ixD (eFrz (nLst (aCons (eV 3) (aCons (eC (.int 8)) (aCons (eC (.int 9)) (aCons (eUn negD (eC (.int 1))) (aCons (eC (.int 60)) (aCons (eUn negD (eC (.int 7))) (aNil))))))))) (eOp mulD (eOp addD (eC (.int 1)) (eOp modD (eOp fdivD (eV 5) (eC (.int 3))) (eC (.int 5)))) (eB intB (aCons (eOp eqD (eV 6) (eC (.int 2))) (aNil)))))) (sRet (eCall 3 m_l_beyond (aCons (eV 1) (aCons (eV 2) (aCons (eV 3) (aNil)))))))))) (sNext)) (sSeq (sIf (asB (eOp ltD (eV 4) (eC (.int 3)))) (sSeq (sSet 1 (eOp addD (eC (.int 1)) (eOp modD (eCall 2 m_l_cell_at (aCons (eV 0) (aCons (eC (.int 0)) (aNil)))) (eC (.int 5))))) (sSeq (sSet 2 (eOp addD (eC (.int 1)) (eOp modD (eCall 2 m_l_cell_at (aCons (eV 0) (aCons (eC (.int 1)) (aNil)))) (eC (.int 5))))) (sSet 3 (eOp modD (eCall 2 m_l_cell_at (aCons (eV 0) (aCons (eC (.int 2)) (aNil)))) (eC (.int 8)))))) (sNext)) (sSeq (sSet 7 (eCall 3 m_all_codes (aCons (eV 1) (aCons (eV 2) (aCons (eV 3) (aNil)))))) (sSeq (sIf (tOrM (tNotM (tTru (eIsi .tup (eV 7)))) (asB (eOp neD (eFrz (nB lstB (aCons (eV 7) (aNil)))) (eFrz (nB sortSTB (aCons (eV 7) (aNil))))))) (sRet (eC (.bl false))) (sNext)) (sSeq (sIf (tNotM (tTru (eB allB (aCons (eFrz (nComp [8] (iSeq (eV 7)) (gSet 8) (noTest) (eCall 4 m_l_row (aCons (eV 8) (aCons (eV 1) (aCons (eV 2) (aCons (eV 3) (aNil)))))))) (aNil))))) (sRet (eC (.bl false))) (sNext)) (sSeq (sIf (tAndM (asB (eOp gtD (eV 4) (eC (.int 2)))) (asB (eOp neD (eFrz (nB lstB (aCons (eV 7) (aNil)))) (eCall 3 m_l_book (aCons (eV 1) (aCons (eV 2) (aCons (eV 3) (aNil)))))))) (sRet (eC (.bl false))) (sNext)) (sRet (eOp eqD (eB lenB (aCons (eCall 3 m_all_codes (aCons (eV 2) (aCons (eV 1) (aCons (eV 3) (aNil))))) (aNil))) (eB lenB (aCons (eV 7) (aNil)))))))))))))))
def m_law : Fn := mFn true 9 b_law
structure Facts (K : PySem.W.Frag) (mg : Str → Option Value) : Prop where
  d_highest : DefAt K mg "highest" s_highest ["border"]
  d_joined : DefAt K mg "joined" s_joined ["pieces"]
  d_hung : DefAt K mg "hung" s_hung ["border", "size"]
  d_is_full : DefAt K mg "is_full" s_is_full ["border"]
  d_wanted : DefAt K mg "wanted" s_wanted ["border"]
  d_grow : DefAt K mg "grow" s_grow ["border", "sizes", "most", "found"]
  d_all_codes : DefAt K mg "all_codes" s_all_codes ["width", "height", "most"]
  d_l_beyond : DefAt K mg "_law_beyond" s_l_beyond ["_law_width", "_law_height", "_law_most"]
  d_l_spot : DefAt K mg "_law_spot" s_l_spot ["_law_tops"]
  d_l_laid : DefAt K mg "_law_laid" s_l_laid ["_law_width", "_law_height", "_law_sizes"]
  d_l_book : DefAt K mg "_law_book" s_l_book ["_law_width", "_law_height", "_law_most"]
  d_l_cell_at : DefAt K mg "_law_cell_at" s_l_cell_at ["_law_script", "_law_k"]
  d_l_row : DefAt K mg "_law_row" s_l_row ["_law_sizes", "_law_width", "_law_height", "_law_most"]
  d_law : DefAt K mg "law" s_law ["_law_script"]
  n_enumerate : mg "enumerate" = none
  n_len : mg "len" = none
  n_range : mg "range" = none
  n_min : mg "min" = none
  n_tuple : mg "tuple" = none
  n_sorted : mg "sorted" = none
  n_max : mg "max" = none
  n_isinstance : mg "isinstance" = none
  n_ValueError : mg "ValueError" = none
  n_any : mg "any" = none
  n_int : mg "int" = none
  n_bool : mg "bool" = none
  n_list : mg "list" = none
  n_set : mg "set" = none
  n_all : mg "all" = none
  c_GREATEST : ConstD K mg "GREATEST" k_GREATEST
  c_MOST : ConstD K mg "MOST" k_MOST
  e_TooMany : ClsAt K mg "TooMany"
  y_FloorError : NmAt K mg "FloorError"
  y_TooMany : NmAt K mg "TooMany"
  o_TooMany : NonAt K (.own "TooMany")
  o_ValueError : NonAt K .ve
  i_TooMany_TooMany : IsAt K "TooMany" (.own "TooMany") true
  i_TooMany_ValueError : IsAt K "TooMany" .ve true
  x_TooMany_FloorError : ExmAt K "TooMany" (.own "FloorError") true
section
variable {P : Program} {w : World} {K : PySem.W.Frag} {mg : Str → Option Value} {base : Heap}
theorem ok_highest (F : Facts K mg) : DefOk P w K mg base (L2.CX P w) 1 "highest" 1 m_highest := def_ok F.d_highest sc_highest rfl rfl fun f cdv A outer s H E hr =>
  (fb_cons (fs_set sc_highest.nd rfl (by first | exact .inl rfl | exact .inr rfl) (fe_int)) (fb_cons (fs_for hpD rfl (fi_enum (by rfl) F.n_enumerate (fa_cons (fe_var (pv 0)) (fa_nil))) (fg_tup rfl (fgs_cons (fg_name sc_highest.nd rfl (by first | exact .inl rfl | exact .inr rfl)) (fgs_cons (fg_name sc_highest.nd rfl (by first | exact .inl rfl | exact .inr rfl)) (fgs_nil)))) (fb_one (fs_if (ft_cmp (opf_gt) (fe_ix (hu_of hr) (fe_var (pv 3)) (fe_int)) (fe_ix (hu_of hr) (fe_ix (hu_of hr) (fe_var (pv 0)) (fe_var (pv 1))) (fe_int)) (by rfl)) (fb_one (fs_set sc_highest.nd rfl (by first | exact .inl rfl | exact .inr rfl) (fe_var (pv 2)))) (fb_nil)))) (fb_one (fs_ret (fe_var (pv 1))))))
theorem ok_joined (F : Facts K mg) : DefOk P w K mg base (L2.CX P w) 1 "joined" 1 m_joined := def_ok F.d_joined sc_joined rfl rfl fun f cdv A outer s H E hr =>
  (fb_cons (fs_set sc_joined.nd rfl (by first | exact .inl rfl | exact .inr rfl) (fe_new (fn_lst (fa_nil)))) (fb_cons (fs_for hpD rfl (fi_seq (fe_var (pv 0))) (fg_name sc_joined.nd rfl (by first | exact .inl rfl | exact .inr rfl)) (fb_one (fs_if (fw_pt (fw_and (ft_cmp (opf_ne hr.units) (fe_var (pv 1)) (fe_frz (fn_lst (fa_nil))) (by rfl)) (fw_and1 (ft_cmp (opf_eq hr.units) (fe_ix (hu_of hr) (fe_ix (hu_of hr) (fe_var (pv 1)) (fe_neg (fe_int))) (fe_int)) (fe_ix (hu_of hr) (fe_var (pv 2)) (fe_int)) (by rfl))))) (fb_one (sub_asg (hu_of hr) (fe_tup (fa_cons (fe_ix (hu_of hr) (fe_ix (hu_of hr) (fe_var (pv 1)) (fe_neg (fe_int))) (fe_int)) (fa_cons (fe_ix (hu_of hr) (fe_var (pv 2)) (fe_int)) (fa_cons (fe_ix (hu_of hr) (fe_var (pv 2)) (fe_int)) (fa_nil))))) (fe_var (pv 1)) (fe_neg (fe_int)))) (fb_one (fs_expr (fe_meth (me_append) PySem.F.plainAttrs_list PySem.F.slot_list_append PySem.F.type_list_append (fe_var (pv 1)) (fa_cons (fe_var (pv 2)) (fa_nil)))))))) (fb_one (fs_ret (fe_var (pv 1))))))
theorem ok_hung (F : Facts K mg) : DefOk P w K mg base (L2.CX P w) 2 "hung" 2 m_hung := def_ok F.d_hung sc_hung rfl rfl fun f cdv A outer s H E hr =>
  (fb_cons (fs_set sc_hung.nd rfl (by first | exact .inl rfl | exact .inr rfl) (fe_call (DefOk.mono (ok_highest F) (by first | decide | omega)) hr (by rfl) hxD (fa_cons (fe_var (pv 0)) (fa_nil)))) (fb_cons (fs_asg (fe_ix (hu_of hr) (fe_var (pv 0)) (fe_var (pv 2))) (fg_tup rfl (fgs_cons (fg_name sc_hung.nd rfl (by first | exact .inl rfl | exact .inr rfl)) (fgs_cons (fg_name sc_hung.nd rfl (by first | exact .inl rfl | exact .inr rfl)) (fgs_cons (fg_name sc_hung.nd rfl (by first | exact .inl rfl | exact .inr rfl)) (fgs_nil)))))) (fb_cons (fs_if (fw_pt (fw_or (ft_cmp (opf_lt) (fe_var (pv 1)) (fe_int) (by rfl)) (fw_or (ft_cmp (opf_gt) (fe_var (pv 1)) (fe_bin opf_sub (fe_var (pv 4)) (fe_var (pv 3))) (by rfl)) (fw_or1 (ft_cmp (opf_gt) (fe_var (pv 1)) (fe_var (pv 5)) (by rfl)))))) (fb_one (fs_ret (fe_non))) (fb_nil)) (fb_cons (fs_set sc_hung.nd rfl (by first | exact .inl rfl | exact .inr rfl) (fe_new (fn_cat (fe_slice (fe_var (pv 0)) (fo_none) (fo_some (fe_var (pv 2)))) (fe_frz (fn_lst (fa_cons (fe_tup (fa_cons (fe_var (pv 3)) (fa_cons (fe_bin opf_add (fe_var (pv 3)) (fe_var (pv 1))) (fa_cons (fe_bin opf_sub (fe_var (pv 5)) (fe_var (pv 1))) (fa_nil))))) (fa_nil))))))) (fb_cons (fs_if (ft_cmp (opf_lt) (fe_bin opf_add (fe_var (pv 3)) (fe_var (pv 1))) (fe_var (pv 4)) (by rfl)) (fb_one (fs_expr (fe_meth (me_append) PySem.F.plainAttrs_list PySem.F.slot_list_append PySem.F.type_list_append (fe_var (pv 6)) (fa_cons (fe_tup (fa_cons (fe_bin opf_add (fe_var (pv 3)) (fe_var (pv 1))) (fa_cons (fe_var (pv 4)) (fa_cons (fe_var (pv 5)) (fa_nil))))) (fa_nil))))) (fb_nil)) (fb_one (fs_ret (fe_call (DefOk.mono (ok_joined F) (by first | decide | omega)) hr (by rfl) hxD (fa_cons (fe_bin opf_add (fe_var (pv 6)) (fe_slice (fe_var (pv 0)) (fo_some (fe_bin opf_add (fe_var (pv 2)) (fe_int))) (fo_none))) (fa_nil))))))))))
theorem ok_is_full (F : Facts K mg) : DefOk P w K mg base (L2.CX P w) 1 "is_full" 1 m_is_full := def_ok F.d_is_full sc_is_full rfl rfl fun f cdv A outer s H E hr =>
  (fb_one (fs_ret (fe_and (fe_cmp (opf_eq hr.units) (fe_callB bi_len (by rfl) F.n_len (by decide +kernel) (fa_cons (fe_var (pv 0)) (fa_nil))) (fe_int) (by rfl)) (fe_one (fe_cmp (opf_eq hr.units) (fe_ix (hu_of hr) (fe_ix (hu_of hr) (fe_var (pv 0)) (fe_int)) (fe_int)) (fe_int) (by rfl))))))
theorem ok_wanted (F : Facts K mg) : DefOk P w K mg base (L2.CX P w) 1 "wanted" 1 m_wanted := def_ok F.d_wanted sc_wanted rfl rfl fun f cdv A outer s H E hr =>
  (fb_cons (fs_set sc_wanted.nd rfl (by first | exact .inl rfl | exact .inr rfl) (fe_int)) (fb_cons (fs_set sc_wanted.nd rfl (by first | exact .inl rfl | exact .inr rfl) (fe_new (fn_lst (fa_nil)))) (fb_cons (fs_for hpD rfl (fi_seq (fe_var (pv 0))) (fg_tup rfl (fgs_cons (fg_name sc_wanted.nd rfl (by first | exact .inl rfl | exact .inr rfl)) (fgs_cons (fg_name sc_wanted.nd rfl (by first | exact .inl rfl | exact .inr rfl)) (fgs_cons (fg_name sc_wanted.nd rfl (by first | exact .inl rfl | exact .inr rfl)) (fgs_nil))))) (fb_cons (fs_setCompN rfl sc_wanted.nd rfl rfl (sw_true rfl rfl (by rfl) (by decide +kernel)) (fi_seq (fe_var (pv 2))) (blk_in (N := ["border", "many", "going", "left", "right", "level", "one"]) (sc := defScope s_wanted) (own := [("one", 6)]) rfl rfl (by decide +kernel)) (fun _ _ _ _ _ => fg_name sc_wanted.nd rfl (by first | exact .inl rfl | exact .inr rfl)) (by decide) (fun _ _ _ _ _ => fts_one (ft_cmp (opf_le) (fe_var (pv 6)) (fe_var (pv 5)) (by rfl))) (fun _ _ _ _ _ => fe_var (pv 6))) (fb_one (fs_if (fw_pt (fw_and (ft_cmp (opf_gt) (fe_var (pv 5)) (fe_int) (by rfl)) (fw_and1 (ft_cmp (opf_nin hr.units) (fe_var (pv 5)) (fe_var (pv 2)) (by rfl))))) (fb_cons (fs_set sc_wanted.nd rfl (by first | exact .inl rfl | exact .inr rfl) (fe_bin opf_add (fe_var (pv 1)) (fe_bin opf_fdiv (fe_bin opf_sub (fe_bin opf_add (fe_bin opf_sub (fe_var (pv 4)) (fe_var (pv 3))) (fe_var (pv 5))) (fe_int)) (fe_var (pv 5))))) (fb_one (fs_expr (fe_meth (me_append) PySem.F.plainAttrs_list PySem.F.slot_list_append PySem.F.type_list_append (fe_var (pv 2)) (fa_cons (fe_var (pv 5)) (fa_nil)))))) (fb_nil))))) (fb_one (fs_ret (fe_var (pv 1)))))))
theorem ok_grow (F : Facts K mg) : ∀ n : Nat, DefOk P w K mg base (L2.CX P w) (2 + n + 1) "grow" 4 (m_grow n)
  | 0 => def_bad F.d_grow sc_grow rfl
  | n + 1 => by
    have R : DefOk P w K mg base (L2.CX P w) (2 + n + 1) "grow" 4 (m_grow n) := ok_grow F n
    exact def_ok F.d_grow sc_grow rfl rfl fun f cdv A outer s H E hr => (fb_cons (fs_if (ft_truth (fe_call (DefOk.mono (ok_is_full F) (by first | decide | omega)) hr (by rfl) hxD (fa_cons (fe_var (pv 0)) (fa_nil)))) (fb_cons (fs_expr (fe_meth (me_append) PySem.F.plainAttrs_list PySem.F.slot_list_append PySem.F.type_list_append (fe_var (pv 3)) (fa_cons (fe_var (pv 1)) (fa_nil)))) (fb_one (fs_retN))) (fb_nil)) (fb_cons (fs_if (ft_cmp (opf_gt) (fe_bin opf_add (fe_callB bi_len (by rfl) F.n_len (by decide +kernel) (fa_cons (fe_var (pv 1)) (fa_nil))) (fe_call (DefOk.mono (ok_wanted F) (by first | decide | omega)) hr (by rfl) hxD (fa_cons (fe_var (pv 0)) (fa_nil)))) (fe_var (pv 2)) (by rfl)) (fb_one (fs_retN)) (fb_nil)) (fb_cons (fs_asg (fe_ix (hu_of hr) (fe_var (pv 0)) (fe_call (DefOk.mono (ok_highest F) (by first | decide | omega)) hr (by rfl) hxD (fa_cons (fe_var (pv 0)) (fa_nil)))) (fg_tup rfl (fgs_cons (fg_name sc_grow.nd rfl (by first | exact .inl rfl | exact .inr rfl)) (fgs_cons (fg_name sc_grow.nd rfl (by first | exact .inl rfl | exact .inr rfl)) (fgs_cons (fg_name sc_grow.nd rfl (by first | exact .inl rfl | exact .inr rfl)) (fgs_nil)))))) (fb_one (fs_for hpD rfl (fi_range2 (by rfl) F.n_range (fa_cons (fe_int) (fa_cons (fe_bin opf_add (fe_callB (bi_min rfl) (by rfl) F.n_min (by decide +kernel) (fa_cons (fe_bin opf_sub (fe_var (pv 5)) (fe_var (pv 4))) (fa_cons (fe_var (pv 6)) (fa_nil)))) (fe_int)) (fa_nil)))) (fg_name sc_grow.nd rfl (by first | exact .inl rfl | exact .inr rfl)) (fb_one (fs_expr (fe_call R hr (by rfl) hxD (fa_cons (fe_call (DefOk.mono (ok_hung F) (by first | decide | omega)) hr (by rfl) hxD (fa_cons (fe_var (pv 0)) (fa_cons (fe_var (pv 7)) (fa_nil)))) (fa_cons (fe_bin opf_add (fe_var (pv 1)) (fe_tup (fa_cons (fe_var (pv 7)) (fa_nil)))) (fa_cons (fe_var (pv 2)) (fa_cons (fe_var (pv 3)) (fa_nil)))))))))))))
theorem ok_all_codes (F : Facts K mg) : DefOk P w K mg base (L2.CX P w) 16 "all_codes" 3 m_all_codes := def_ok F.d_all_codes sc_all_codes rfl rfl fun f cdv A outer s H E hr =>
  (fb_cons (fs_if (fw_pt (fw_or (ft_not (ft_chain (opf_le) (opf_le) (fe_int) (fe_var (pv 0)) (fe_glob (by rfl) F.c_GREATEST))) (fw_or (ft_not (ft_chain (opf_le) (opf_le) (fe_int) (fe_var (pv 1)) (fe_glob (by rfl) F.c_GREATEST))) (fw_or1 (ft_not (ft_chain (opf_le) (opf_le) (fe_int) (fe_var (pv 2)) (fe_glob (by rfl) F.c_MOST))))))) (fb_one (fs_raise rfl rfl tkD F.e_TooMany (by rfl))) (fb_nil)) (fb_cons (fs_set sc_all_codes.nd rfl (by first | exact .inl rfl | exact .inr rfl) (fe_new (fn_lst (fa_nil)))) (fb_cons (fs_expr (fe_call (DefOk.mono (ok_grow F 12) (by first | decide | omega)) hr (by rfl) hxD (fa_cons (fe_frz (fn_lst (fa_cons (fe_tup (fa_cons (fe_int) (fa_cons (fe_var (pv 0)) (fa_cons (fe_var (pv 1)) (fa_nil))))) (fa_nil)))) (fa_cons (fe_tup (fa_nil)) (fa_cons (fe_var (pv 2)) (fa_cons (fe_var (pv 3)) (fa_nil))))))) (fb_one (fs_ret (fe_callT bi_tuple (by rfl) F.n_tuple (by decide +kernel) (fa_cons (fe_frz (fn_callB (bn_sorted2 rfl) (by rfl) F.n_sorted (by decide +kernel) (fa_cons (fe_var (pv 3)) (fa_nil)))) (fa_nil))))))))
theorem ok_l_beyond (F : Facts K mg) : DefOk P w K mg base (L2.CX P w) 17 "_law_beyond" 3 m_l_beyond := def_ok F.d_l_beyond sc_l_beyond rfl rfl fun f cdv A outer s H E hr =>
  (fb_cons (fs_set sc_l_beyond.nd rfl (by first | exact .inl rfl | exact .inr rfl) (fe_bl)) (fb_cons (fs_try rfl rfl sc_l_beyond.nd rfl rfl (cv_own rfl F.y_FloorError (by rfl)) (by intro q hq; simp only [List.mem_cons, List.not_mem_nil, or_false] at hq; subst hq; exact F.x_TooMany_FloorError) tkD (fun W2 pn2 xe2 tk2 hp2 => fb_one (fs_expr (fe_call (DefOk.mono (ok_all_codes F) (by first | decide | omega)) hr (by rfl) (fun σ => passAt tk2 σ) (fa_cons (fe_var (pv 0)) (fa_cons (fe_var (pv 1)) (fa_cons (fe_var (pv 2)) (fa_nil))))))) (fun a2 pn2 => fb_one (fs_set sc_l_beyond.nd rfl (by first | exact .inl rfl | exact .inr rfl) (fe_and (fe_isx (cl_own rfl F.y_TooMany (by rfl)) (by intro q hq; simp only [List.mem_cons, List.not_mem_nil, or_false] at hq; subst hq; exact F.i_TooMany_TooMany) F.o_TooMany (by rfl) F.n_isinstance (fe_var (pv 4))) (fe_one (fe_isx (cl_ve (by rfl) F.n_ValueError) (by intro q hq; simp only [List.mem_cons, List.not_mem_nil, or_false] at hq; subst hq; exact F.i_TooMany_ValueError) F.o_ValueError (by rfl) F.n_isinstance (fe_var (pv 4)))))))) (fb_one (fs_ret (fe_var (pv 3))))))
theorem ok_l_spot (F : Facts K mg) : DefOk P w K mg base (L2.CX P w) 1 "_law_spot" 1 m_l_spot := def_ok F.d_l_spot sc_l_spot rfl rfl fun f cdv A outer s H E hr =>
  (fb_cons (fs_set sc_l_spot.nd rfl (by first | exact .inl rfl | exact .inr rfl) (fe_callB (bi_max rfl) (by rfl) F.n_max (by decide +kernel) (fa_cons (fe_var (pv 0)) (fa_nil)))) (fb_cons (fs_set sc_l_spot.nd rfl (by first | exact .inl rfl | exact .inr rfl) (fe_meth (me_index) PySem.F.plainAttrs_list PySem.F.slot_list_index PySem.F.type_list_index (fe_var (pv 0)) (fa_cons (fe_var (pv 1)) (fa_nil)))) (fb_cons (fs_set sc_l_spot.nd rfl (by first | exact .inl rfl | exact .inr rfl) (fe_int)) (fb_cons (fs_while hpD (fw_pt (fw_and (ft_cmp (opf_lt) (fe_bin opf_add (fe_var (pv 2)) (fe_var (pv 3))) (fe_callB bi_len (by rfl) F.n_len (by decide +kernel) (fa_cons (fe_var (pv 0)) (fa_nil))) (by rfl)) (fw_and1 (ft_cmp (opf_eq hr.units) (fe_ix (hu_of hr) (fe_var (pv 0)) (fe_bin opf_add (fe_var (pv 2)) (fe_var (pv 3)))) (fe_var (pv 1)) (by rfl))))) (fb_one (fs_set sc_l_spot.nd rfl (by first | exact .inl rfl | exact .inr rfl) (fe_bin opf_add (fe_var (pv 3)) (fe_int))))) (fb_one (fs_ret (fe_tup (fa_cons (fe_var (pv 2)) (fa_cons (fe_var (pv 3)) (fa_nil))))))))))
theorem ok_l_laid (F : Facts K mg) : DefOk P w K mg base (L2.CX P w) 2 "_law_laid" 3 m_l_laid := def_ok F.d_l_laid sc_l_laid rfl rfl fun f cdv A outer s H E hr =>
  (fb_cons (fs_setCompN rfl sc_l_laid.nd rfl rfl (sw_true rfl rfl (by rfl) (by decide +kernel)) (fi_range1 (by rfl) F.n_range (fa_cons (fe_var (pv 0)) (fa_nil))) (blk_in (N := ["_law_width", "_law_height", "_law_sizes", "_law_tops", "_law_squares", "_law_at", "_law_size", "_law_left", "_law_wide", "_law_k"]) (sc := defScope s_l_laid) (own := [("_law_k", 9)]) rfl rfl (by decide +kernel)) (fun _ _ _ _ _ => fg_name sc_l_laid.nd rfl (by first | exact .inl rfl | exact .inr rfl)) (by decide) (fun _ _ _ _ _ => fts_nil) (fun _ _ _ _ _ => fe_var (pv 1))) (fb_cons (fs_set sc_l_laid.nd rfl (by first | exact .inl rfl | exact .inr rfl) (fe_new (fn_lst (fa_nil)))) (fb_cons (fs_for hpD rfl (fi_enum (by rfl) F.n_enumerate (fa_cons (fe_var (pv 2)) (fa_nil))) (fg_tup rfl (fgs_cons (fg_name sc_l_laid.nd rfl (by first | exact .inl rfl | exact .inr rfl)) (fgs_cons (fg_name sc_l_laid.nd rfl (by first | exact .inl rfl | exact .inr rfl)) (fgs_nil)))) (fb_cons (fs_asg (fe_call (DefOk.mono (ok_l_spot F) (by first | decide | omega)) hr (by rfl) hxD (fa_cons (fe_var (pv 3)) (fa_nil))) (fg_tup rfl (fgs_cons (fg_name sc_l_laid.nd rfl (by first | exact .inl rfl | exact .inr rfl)) (fgs_cons (fg_name sc_l_laid.nd rfl (by first | exact .inl rfl | exact .inr rfl)) (fgs_nil))))) (fb_cons (fs_if (fw_pt (fw_or (ft_cmp (opf_lt) (fe_var (pv 6)) (fe_int) (by rfl)) (fw_or (ft_cmp (opf_gt) (fe_var (pv 6)) (fe_var (pv 8)) (by rfl)) (fw_or1 (ft_cmp (opf_gt) (fe_var (pv 6)) (fe_ix (hu_of hr) (fe_var (pv 3)) (fe_var (pv 7))) (by rfl)))))) (fb_one (fs_ret (fe_tup (fa_cons (fe_non) (fa_cons (fe_var (pv 5)) (fa_nil)))))) (fb_nil)) (fb_cons (fs_expr (fe_meth (me_append) PySem.F.plainAttrs_list PySem.F.slot_list_append PySem.F.type_list_append (fe_var (pv 4)) (fa_cons (fe_tup (fa_cons (fe_var (pv 7)) (fa_cons (fe_bin opf_sub (fe_ix (hu_of hr) (fe_var (pv 3)) (fe_var (pv 7))) (fe_var (pv 6))) (fa_cons (fe_var (pv 6)) (fa_nil))))) (fa_nil)))) (fb_one (fs_for hpD rfl (fi_range2 (by rfl) F.n_range (fa_cons (fe_var (pv 7)) (fa_cons (fe_bin opf_add (fe_var (pv 7)) (fe_var (pv 6))) (fa_nil)))) (fg_name sc_l_laid.nd rfl (by first | exact .inl rfl | exact .inr rfl)) (fb_one (sub_asg (hu_of hr) (fe_bin opf_sub (fe_ix (hu_of hr) (fe_var (pv 3)) (fe_var (pv 9))) (fe_var (pv 6))) (fe_var (pv 3)) (fe_var (pv 9)))))))))) (fb_cons (fs_if (ft_cmp (opf_gt) (fe_callB (bi_max rfl) (by rfl) F.n_max (by decide +kernel) (fa_cons (fe_var (pv 3)) (fa_nil))) (fe_int) (by rfl)) (fb_one (fs_ret (fe_tup (fa_cons (fe_non) (fa_cons (fe_callB bi_len (by rfl) F.n_len (by decide +kernel) (fa_cons (fe_var (pv 2)) (fa_nil))) (fa_nil)))))) (fb_nil)) (fb_one (fs_ret (fe_tup (fa_cons (fe_var (pv 4)) (fa_cons (fe_non) (fa_nil))))))))))
theorem ok_l_book (F : Facts K mg) : DefOk P w K mg base (L2.CX P w) 3 "_law_book" 3 m_l_book := def_ok F.d_l_book sc_l_book rfl rfl fun f cdv A outer s H E hr =>
  (fb_cons (fs_set sc_l_book.nd rfl (by first | exact .inl rfl | exact .inr rfl) (fe_new (fn_lst (fa_cons (fe_tup (fa_nil)) (fa_nil))))) (fb_cons (fs_set sc_l_book.nd rfl (by first | exact .inl rfl | exact .inr rfl) (fe_new (fn_lst (fa_nil)))) (fb_cons (fs_while hpD (ft_cmp (opf_gt) (fe_callB bi_len (by rfl) F.n_len (by decide +kernel) (fa_cons (fe_var (pv 3)) (fa_nil))) (fe_int) (by rfl)) (fb_cons (fs_set sc_l_book.nd rfl (by first | exact .inl rfl | exact .inr rfl) (fe_meth0 (me_pop) PySem.F.plainAttrs_list PySem.F.slot_list_pop PySem.F.type_list_pop (fe_var (pv 3)))) (fb_cons (fs_asg (fe_call (DefOk.mono (ok_l_laid F) (by first | decide | omega)) hr (by rfl) hxD (fa_cons (fe_var (pv 0)) (fa_cons (fe_var (pv 1)) (fa_cons (fe_var (pv 5)) (fa_nil))))) (fg_tup rfl (fgs_cons (fg_name sc_l_book.nd rfl (by first | exact .inl rfl | exact .inr rfl)) (fgs_cons (fg_name sc_l_book.nd rfl (by first | exact .inl rfl | exact .inr rfl)) (fgs_nil))))) (fb_one (fs_if (ft_cmp (opf_isnt) (fe_var (pv 6)) (fe_non) (by rfl)) (fb_one (fs_expr (fe_meth (me_append) PySem.F.plainAttrs_list PySem.F.slot_list_append PySem.F.type_list_append (fe_var (pv 4)) (fa_cons (fe_var (pv 5)) (fa_nil))))) (fb_one (fs_if (fw_pt (fw_and (ft_cmp (opf_eq hr.units) (fe_var (pv 7)) (fe_callB bi_len (by rfl) F.n_len (by decide +kernel) (fa_cons (fe_var (pv 5)) (fa_nil))) (by rfl)) (fw_and1 (ft_cmp (opf_lt) (fe_callB bi_len (by rfl) F.n_len (by decide +kernel) (fa_cons (fe_var (pv 5)) (fa_nil))) (fe_var (pv 2)) (by rfl))))) (fb_one (fs_for hpD rfl (fi_range2 (by rfl) F.n_range (fa_cons (fe_int) (fa_cons (fe_bin opf_add (fe_callB (bi_min rfl) (by rfl) F.n_min (by decide +kernel) (fa_cons (fe_var (pv 0)) (fa_cons (fe_var (pv 1)) (fa_nil)))) (fe_int)) (fa_nil)))) (fg_name sc_l_book.nd rfl (by first | exact .inl rfl | exact .inr rfl)) (fb_one (fs_expr (fe_meth (me_append) PySem.F.plainAttrs_list PySem.F.slot_list_append PySem.F.type_list_append (fe_var (pv 3)) (fa_cons (fe_bin opf_add (fe_var (pv 5)) (fe_tup (fa_cons (fe_var (pv 8)) (fa_nil)))) (fa_nil))))))) (fb_nil)))))))) (fb_one (fs_ret (fe_frz (fn_callB (bn_sorted2 rfl) (by rfl) F.n_sorted (by decide +kernel) (fa_cons (fe_var (pv 4)) (fa_nil)))))))))
theorem ok_l_cell_at (F : Facts K mg) : DefOk P w K mg base (L2.CX P w) 1 "_law_cell_at" 2 m_l_cell_at := def_ok F.d_l_cell_at sc_l_cell_at rfl rfl fun f cdv A outer s H E hr =>
  (fb_cons (fs_set sc_l_cell_at.nd rfl (by first | exact .inl rfl | exact .inr rfl) (fe_int)) (fb_cons (fs_if (ft_cmp (opf_lt) (fe_var (pv 1)) (fe_callB bi_len (by rfl) F.n_len (by decide +kernel) (fa_cons (fe_var (pv 0)) (fa_nil))) (by rfl)) (fb_one (fs_set sc_l_cell_at.nd rfl (by first | exact .inl rfl | exact .inr rfl) (fe_bin opf_mod (fe_ix (hu_of hr) (fe_var (pv 0)) (fe_var (pv 1))) (fe_bin opf_pow (fe_int) (fe_int))))) (fb_nil)) (fb_one (fs_ret (fe_bin opf_mod (fe_bin opf_mul (fe_bin opf_mod (fe_bin opf_add (fe_bin opf_mul (fe_var (pv 2)) (fe_int)) (fe_bin opf_mul (fe_int) (fe_var (pv 1)))) (fe_int)) (fe_int)) (fe_int))))))
theorem ok_l_row (F : Facts K mg) : DefOk P w K mg base (L2.CX P w) 3 "_law_row" 4 m_l_row := def_ok F.d_l_row sc_l_row rfl rfl fun f cdv A outer s H E hr =>
  (fb_cons (fs_if (fw_pt (fw_or (ft_not (ft_truth (fe_isi (by decide) (by rfl) F.n_isinstance (by rfl) F.n_tuple (by decide +kernel) (fe_var (pv 0))))) (fw_or1 (ft_cmp (opf_gt) (fe_callB bi_len (by rfl) F.n_len (by decide +kernel) (fa_cons (fe_var (pv 0)) (fa_nil))) (fe_var (pv 3)) (by rfl))))) (fb_one (fs_ret (fe_bl))) (fb_nil)) (fb_cons (fs_if (ft_truth (fe_callB (bi_any rfl) (by rfl) F.n_any (by decide +kernel) (fa_cons (fe_frz (fn_comp rfl sc_l_row.nd (fi_seq (fe_var (pv 0))) (blk_in (N := ["_law_sizes", "_law_width", "_law_height", "_law_most", "_law_size"]) (sc := defScope s_l_row) (own := [("_law_size", 4)]) rfl rfl (by decide +kernel)) (fun _ _ _ _ _ => fg_name sc_l_row.nd rfl (by first | exact .inl rfl | exact .inr rfl)) (by decide) (fun _ _ _ _ _ => fts_nil) (fun _ _ _ _ _ => fe_or (fe_not (fe_isi (by decide) (by rfl) F.n_isinstance (by rfl) F.n_int (by decide +kernel) (fe_var (pv 4)))) (fe_one (fe_isi (by decide) (by rfl) F.n_isinstance (by rfl) F.n_bool (by decide +kernel) (fe_var (pv 4))))))) (fa_nil)))) (fb_one (fs_ret (fe_bl))) (fb_nil)) (fb_one (fs_ret (fe_cmp (opf_isnt) (fe_ix (hu_of hr) (fe_call (DefOk.mono (ok_l_laid F) (by first | decide | omega)) hr (by rfl) hxD (fa_cons (fe_var (pv 1)) (fa_cons (fe_var (pv 2)) (fa_cons (fe_var (pv 0)) (fa_nil))))) (fe_int)) (fe_non) (by rfl))))))
theorem ok_law (F : Facts K mg) {f : Addr} {fd : FuncData} (F1 : L2.Fun K "law" "law" s_law f fd) : FnOk P w K mg base (L2.CX P w) 18 f fd ["_law_script"] (spM K mg 1 m_law) := fn_ok F1 sc_law fun cdv A outer s H E hr =>
  (fb_cons (fs_set sc_law.nd rfl (by first | exact .inl rfl | exact .inr rfl) (fe_bin opf_add (fe_int) (fe_bin opf_mod (fe_call (DefOk.mono (ok_l_cell_at F) (by first | decide | omega)) hr (by rfl) hxD (fa_cons (fe_var (pv 0)) (fa_cons (fe_int) (fa_nil)))) (fe_int)))) (fb_cons (fs_set sc_law.nd rfl (by first | exact .inl rfl | exact .inr rfl) (fe_bin opf_add (fe_int) (fe_bin opf_mod (fe_call (DefOk.mono (ok_l_cell_at F) (by first | decide | omega)) hr (by rfl) hxD (fa_cons (fe_var (pv 0)) (fa_cons (fe_int) (fa_nil)))) (fe_int)))) (fb_cons (fs_set sc_law.nd rfl (by first | exact .inl rfl | exact .inr rfl) (fe_bin opf_mod (fe_call (DefOk.mono (ok_l_cell_at F) (by first | decide | omega)) hr (by rfl) hxD (fa_cons (fe_var (pv 0)) (fa_cons (fe_int) (fa_nil)))) (fe_int))) (fb_cons (fs_set sc_law.nd rfl (by first | exact .inl rfl | exact .inr rfl) (fe_bin opf_mod (fe_call (DefOk.mono (ok_l_cell_at F) (by first | decide | omega)) hr (by rfl) hxD (fa_cons (fe_var (pv 0)) (fa_cons (fe_int) (fa_nil)))) (fe_int))) (fb_cons (fs_set sc_law.nd rfl (by first | exact .inl rfl | exact .inr rfl) (fe_call (DefOk.mono (ok_l_cell_at F) (by first | decide | omega)) hr (by rfl) hxD (fa_cons (fe_var (pv 0)) (fa_cons (fe_int) (fa_nil))))) (fb_cons (fs_if (ft_cmp (opf_eq hr.units) (fe_var (pv 4)) (fe_int) (by rfl)) (fb_cons (fs_set sc_law.nd rfl (by first | exact .inl rfl | exact .inr rfl) (fe_bin opf_mod (fe_var (pv 5)) (fe_int))) (fb_cons (fs_set sc_law.nd rfl (by first | exact .inl rfl | exact .inr rfl) (fe_ix (hu_of hr) (fe_frz (fn_lst (fa_cons (fe_var (pv 1)) (fa_cons (fe_int) (fa_cons (fe_int) (fa_cons (fe_int) (fa_cons (fe_neg (fe_int)) (fa_cons (fe_neg (fe_int)) (fa_nil))))))))) (fe_bin opf_mul (fe_bin opf_add (fe_int) (fe_bin opf_mod (fe_bin opf_fdiv (fe_var (pv 5)) (fe_int)) (fe_int))) (fe_callT bi_int (by rfl) F.n_int (by decide +kernel) (fa_cons (fe_cmp (opf_eq hr.units) (fe_var (pv 6)) (fe_int) (by rfl)) (fa_nil)))))) (fb_cons (fs_set sc_law.nd rfl (by first | exact .inl rfl | exact .inr rfl) (fe_ix (hu_of hr) (fe_frz (fn_lst (fa_cons (fe_var (pv 2)) (fa_cons (fe_int) (fa_cons (fe_int) (fa_cons (fe_int) (fa_cons (fe_neg (fe_int)) (fa_cons (fe_neg (fe_int)) (fa_nil))))))))) (fe_bin opf_mul (fe_bin opf_add (fe_int) (fe_bin opf_mod (fe_bin opf_fdiv (fe_var (pv 5)) (fe_int)) (fe_int))) (fe_callT bi_int (by rfl) F.n_int (by decide +kernel) (fa_cons (fe_cmp (opf_eq hr.units) (fe_var (pv 6)) (fe_int) (by rfl)) (fa_nil)))))) (fb_cons (fs_set sc_law.nd rfl (by first | exact .inl rfl | exact .inr rfl) (fe_ix (hu_of hr) (fe_frz (fn_lst (fa_cons (fe_var (pv 3)) (fa_cons (fe_int) (fa_cons (fe_int) (fa_cons (fe_neg (fe_int)) (fa_cons (fe_int) (fa_cons (fe_neg (fe_int)) (fa_nil))))))))) (fe_bin opf_mul (fe_bin opf_add (fe_int) (fe_bin opf_mod (fe_bin opf_fdiv (fe_var (pv 5)) (fe_int)) (fe_int))) (fe_callT bi_int (by rfl) F.n_int (by decide +kernel) (fa_cons (fe_cmp (opf_eq hr.units) (fe_var (pv 6)) (fe_int) (by rfl)) (fa_nil)))))) (fb_one (fs_ret (fe_call (DefOk.mono (ok_l_beyond F) (by first | decide | omega)) hr (by rfl) hxD (fa_cons (fe_var (pv 1)) (fa_cons (fe_var (pv 2)) (fa_cons (fe_var (pv 3)) (fa_nil))))))))))) (fb_nil)) (fb_cons (fs_if (ft_cmp (opf_lt) (fe_var (pv 4)) (fe_int) (by rfl)) (fb_cons (fs_set sc_law.nd rfl (by first | exact .inl rfl | exact .inr rfl) (fe_bin opf_add (fe_int) (fe_bin opf_mod (fe_call (DefOk.mono (ok_l_cell_at F) (by first | decide | omega)) hr (by rfl) hxD (fa_cons (fe_var (pv 0)) (fa_cons (fe_int) (fa_nil)))) (fe_int)))) (fb_cons (fs_set sc_law.nd rfl (by first | exact .inl rfl | exact .inr rfl) (fe_bin opf_add (fe_int) (fe_bin opf_mod (fe_call (DefOk.mono (ok_l_cell_at F) (by first | decide | omega)) hr (by rfl) hxD (fa_cons (fe_var (pv 0)) (fa_cons (fe_int) (fa_nil)))) (fe_int)))) (fb_one (fs_set sc_law.nd rfl (by first | exact .inl rfl | exact .inr rfl) (fe_bin opf_mod (fe_call (DefOk.mono (ok_l_cell_at F) (by first | decide | omega)) hr (by rfl) hxD (fa_cons (fe_var (pv 0)) (fa_cons (fe_int) (fa_nil)))) (fe_int)))))) (fb_nil)) (fb_cons (fs_set sc_law.nd rfl (by first | exact .inl rfl | exact .inr rfl) (fe_call (DefOk.mono (ok_all_codes F) (by first | decide | omega)) hr (by rfl) hxD (fa_cons (fe_var (pv 1)) (fa_cons (fe_var (pv 2)) (fa_cons (fe_var (pv 3)) (fa_nil)))))) (fb_cons (fs_if (fw_pt (fw_or (ft_not (ft_truth (fe_isi (by decide) (by rfl) F.n_isinstance (by rfl) F.n_tuple (by decide +kernel) (fe_var (pv 7))))) (fw_or1 (ft_cmp (opf_ne hr.units) (fe_frz (fn_callT bi_list (by rfl) F.n_list (by decide +kernel) (fa_cons (fe_var (pv 7)) (fa_nil)))) (fe_frz (fn_sortSetT rfl hr.units (by rfl) F.n_sorted (by decide +kernel) (by rfl) F.n_set (by decide +kernel) (fa_cons (fe_var (pv 7)) (fa_nil)))) (by rfl))))) (fb_one (fs_ret (fe_bl))) (fb_nil)) (fb_cons (fs_if (ft_not (ft_truth (fe_callB (bi_all rfl) (by rfl) F.n_all (by decide +kernel) (fa_cons (fe_frz (fn_comp rfl sc_law.nd (fi_seq (fe_var (pv 7))) (blk_in (N := ["_law_script", "_law_width", "_law_height", "_law_most", "_law_way", "_law_far", "_law_place", "_law_found", "_law_sizes"]) (sc := defScope s_law) (own := [("_law_sizes", 8)]) rfl rfl (by decide +kernel)) (fun _ _ _ _ _ => fg_name sc_law.nd rfl (by first | exact .inl rfl | exact .inr rfl)) (by decide) (fun _ _ _ _ _ => fts_nil) (fun _ _ _ _ _ => fe_call (DefOk.mono (ok_l_row F) (by first | decide | omega)) hr (by rfl) hx0 (fa_cons (fe_var (pv 8)) (fa_cons (fe_var (pv 1)) (fa_cons (fe_var (pv 2)) (fa_cons (fe_var (pv 3)) (fa_nil)))))))) (fa_nil))))) (fb_one (fs_ret (fe_bl))) (fb_nil)) (fb_cons (fs_if (fw_pt (fw_and (ft_cmp (opf_gt) (fe_var (pv 4)) (fe_int) (by rfl)) (fw_and1 (ft_cmp (opf_ne hr.units) (fe_frz (fn_callT bi_list (by rfl) F.n_list (by decide +kernel) (fa_cons (fe_var (pv 7)) (fa_nil)))) (fe_call (DefOk.mono (ok_l_book F) (by first | decide | omega)) hr (by rfl) hxD (fa_cons (fe_var (pv 1)) (fa_cons (fe_var (pv 2)) (fa_cons (fe_var (pv 3)) (fa_nil))))) (by rfl))))) (fb_one (fs_ret (fe_bl))) (fb_nil)) (fb_one (fs_ret (fe_cmp (opf_eq hr.units) (fe_callB bi_len (by rfl) F.n_len (by decide +kernel) (fa_cons (fe_call (DefOk.mono (ok_all_codes F) (by first | decide | omega)) hr (by rfl) hxD (fa_cons (fe_var (pv 2)) (fa_cons (fe_var (pv 1)) (fa_cons (fe_var (pv 3)) (fa_nil))))) (fa_nil))) (fe_callB bi_len (by rfl) F.n_len (by decide +kernel) (fa_cons (fe_var (pv 7)) (fa_nil))) (by rfl)))))))))))))))
end
end K54


namespace K54
open FL
def isTrue (r : Res D) : Bool := match r with
  | .ok (.bl true) [] => true
  | _ => false
theorem isTrue_eq {r : Res D} (h : isTrue r = true) : r = .ok (.bl true) [] := by
  unfold isTrue at h
  split at h
  · rfl
  · cases h
def isF (r : Res D) : Bool := match r with
  | .ok (.bl false) [] => true
  | _ => false
theorem isF_eq {r : Res D} (h : isF r = true) : r = .ok (.bl false) [] := by
  unfold isF at h
  split at h
  · rfl
  · cases h
def enc (s : List Int) : D := .tup (s.map .int)
def isBk (r : Res D) (l : List (List Int)) : Bool := match r with
  | .ok (.tup ds) [] => D.beqs ds (l.map enc)
  | _ => false
theorem isBk_eq {r : Res D} {l : List (List Int)} (h : isBk r l = true) : r = .ok (.tup (l.map enc)) [] := by
  unfold isBk at h
  split at h
  · rw [D.beqs_eq h]
  · cases h
def isBl (r : Res D) (l : List (List Int)) : Bool := match r with
  | .ok (.lst ds) [] => D.beqs ds (l.map enc)
  | _ => false
theorem isBl_eq {r : Res D} {l : List (List Int)} (h : isBl r l = true) : r = .ok (.lst (l.map enc)) [] := by
  unfold isBl at h
  split at h
  · rw [D.beqs_eq h]
  · cases h
def isBs (r : Res (List D)) (l : List (List Int)) : Bool := match r with
  | .ok ds [] => D.beqs ds (l.map enc)
  | _ => false
theorem isBs_eq {r : Res (List D)} {l : List (List Int)} (h : isBs r l = true) : r = .ok (l.map enc) [] := by
  unfold isBs at h
  split at h
  · rw [D.beqs_eq h]
  · cases h
def chkA (w h : Int) (m : Nat) (B C : List (List Int)) : Bool :=
  isBk (m_all_codes [.int w, .int h, .int m] []) B && isBs (sortSTB [.tup (B.map enc)] []) B && isF (neD (.lst (B.map enc)) (.lst (B.map enc)) []) && decide (B.length ≤ 60) && B.all (fun r => isTrue (m_l_row [enc r, .int w, .int h, .int m] [])) && decide (C.length = B.length)
def chkB (w h : Int) (m : Nat) (B : List (List Int)) : Bool := isBl (m_l_book [.int w, .int h, .int m] []) B
def bl_1_1 (m : Nat) : List (List Int) := ([[], [[1]], [[1]], [[1]], [[1]], [[1]], [[1]], [[1]]] : List (List (List Int))).getD m []
def bl_1_2 (m : Nat) : List (List Int) := ([[], [], [[1, 1]], [[1, 1]], [[1, 1]], [[1, 1]], [[1, 1]], [[1, 1]]] : List (List (List Int))).getD m []
def bl_1_3 (m : Nat) : List (List Int) := ([[], [], [], [[1, 1, 1]], [[1, 1, 1]], [[1, 1, 1]], [[1, 1, 1]], [[1, 1, 1]]] : List (List (List Int))).getD m []
def bl_1_4 (m : Nat) : List (List Int) := ([[], [], [], [], [[1, 1, 1, 1]], [[1, 1, 1, 1]], [[1, 1, 1, 1]], [[1, 1, 1, 1]]] : List (List (List Int))).getD m []
def bl_1_5 (m : Nat) : List (List Int) := ([[], [], [], [], [], [[1, 1, 1, 1, 1]], [[1, 1, 1, 1, 1]], [[1, 1, 1, 1, 1]]] : List (List (List Int))).getD m []
def bl_2_1 (m : Nat) : List (List Int) := ([[], [], [[1, 1]], [[1, 1]], [[1, 1]], [[1, 1]], [[1, 1]], [[1, 1]]] : List (List (List Int))).getD m []
def bl_2_2 (m : Nat) : List (List Int) := ([[], [[2]], [[2]], [[2]], [[1, 1, 1, 1], [2]], [[1, 1, 1, 1], [2]], [[1, 1, 1, 1], [2]], [[1, 1, 1, 1], [2]]] : List (List (List Int))).getD m []
def bl_2_3 (m : Nat) : List (List Int) := ([[], [], [], [[1, 1, 2], [2, 1, 1]], [[1, 1, 2], [2, 1, 1]], [[1, 1, 2], [2, 1, 1]], [[1, 1, 1, 1, 1, 1], [1, 1, 2], [2, 1, 1]], [[1, 1, 1, 1, 1, 1], [1, 1, 2], [2, 1, 1]]] : List (List (List Int))).getD m []
def bl_2_4 (m : Nat) : List (List Int) := ([[], [], [[2, 2]], [[2, 2]], [[2, 2]], [[1, 1, 1, 1, 2], [1, 1, 2, 1, 1], [2, 1, 1, 1, 1], [2, 2]], [[1, 1, 1, 1, 2], [1, 1, 2, 1, 1], [2, 1, 1, 1, 1], [2, 2]], [[1, 1, 1, 1, 2], [1, 1, 2, 1, 1], [2, 1, 1, 1, 1], [2, 2]]] : List (List (List Int))).getD m []
def bl_2_5 (m : Nat) : List (List Int) := ([[], [], [], [], [[1, 1, 2, 2], [2, 1, 1, 2], [2, 2, 1, 1]], [[1, 1, 2, 2], [2, 1, 1, 2], [2, 2, 1, 1]], [[1, 1, 2, 2], [2, 1, 1, 2], [2, 2, 1, 1]], [[1, 1, 1, 1, 1, 1, 2], [1, 1, 1, 1, 2, 1, 1], [1, 1, 2, 1, 1, 1, 1], [1, 1, 2, 2], [2, 1, 1, 1, 1, 1, 1], [2, 1, 1, 2], [2, 2, 1, 1]]] : List (List (List Int))).getD m []
def bl_3_1 (m : Nat) : List (List Int) := ([[], [], [], [[1, 1, 1]], [[1, 1, 1]], [[1, 1, 1]], [[1, 1, 1]], [[1, 1, 1]]] : List (List (List Int))).getD m []
def bl_3_2 (m : Nat) : List (List Int) := ([[], [], [], [[1, 2, 1], [2, 1, 1]], [[1, 2, 1], [2, 1, 1]], [[1, 2, 1], [2, 1, 1]], [[1, 1, 1, 1, 1, 1], [1, 2, 1], [2, 1, 1]], [[1, 1, 1, 1, 1, 1], [1, 2, 1], [2, 1, 1]]] : List (List (List Int))).getD m []
def bl_3_3 (m : Nat) : List (List Int) := ([[], [[3]], [[3]], [[3]], [[3]], [[3]], [[1, 1, 1, 1, 2, 1], [1, 1, 1, 2, 1, 1], [1, 2, 1, 1, 1, 1], [2, 1, 1, 1, 1, 1], [3]], [[1, 1, 1, 1, 2, 1], [1, 1, 1, 2, 1, 1], [1, 2, 1, 1, 1, 1], [2, 1, 1, 1, 1, 1], [3]]] : List (List (List Int))).getD m []
def bl_3_4 (m : Nat) : List (List Int) := ([[], [], [], [], [[1, 1, 1, 3], [3, 1, 1, 1]], [[1, 1, 1, 3], [3, 1, 1, 1]], [[1, 1, 1, 3], [1, 2, 1, 1, 2, 1], [1, 2, 1, 2, 1, 1], [2, 1, 1, 1, 2, 1], [2, 1, 1, 2, 1, 1], [3, 1, 1, 1]], [[1, 1, 1, 3], [1, 2, 1, 1, 2, 1], [1, 2, 1, 2, 1, 1], [2, 1, 1, 1, 2, 1], [2, 1, 1, 2, 1, 1], [3, 1, 1, 1]]] : List (List (List Int))).getD m []
def bl_3_5 (m : Nat) : List (List Int) := ([[], [], [], [], [[1, 2, 1, 3], [2, 1, 1, 3], [3, 1, 2, 1], [3, 2, 1, 1]], [[1, 2, 1, 3], [2, 1, 1, 3], [3, 1, 2, 1], [3, 2, 1, 1]], [[1, 2, 1, 3], [2, 1, 1, 3], [3, 1, 2, 1], [3, 2, 1, 1]], [[1, 1, 1, 1, 1, 1, 3], [1, 1, 1, 3, 1, 1, 1], [1, 2, 1, 3], [2, 1, 1, 3], [3, 1, 1, 1, 1, 1, 1], [3, 1, 2, 1], [3, 2, 1, 1]]] : List (List (List Int))).getD m []
def bl_4_1 (m : Nat) : List (List Int) := ([[], [], [], [], [[1, 1, 1, 1]], [[1, 1, 1, 1]], [[1, 1, 1, 1]], [[1, 1, 1, 1]]] : List (List (List Int))).getD m []
def bl_4_2 (m : Nat) : List (List Int) := ([[], [], [[2, 2]], [[2, 2]], [[2, 2]], [[1, 1, 2, 1, 1], [1, 2, 1, 1, 1], [2, 1, 1, 1, 1], [2, 2]], [[1, 1, 2, 1, 1], [1, 2, 1, 1, 1], [2, 1, 1, 1, 1], [2, 2]], [[1, 1, 2, 1, 1], [1, 2, 1, 1, 1], [2, 1, 1, 1, 1], [2, 2]]] : List (List (List Int))).getD m []
def bl_4_3 (m : Nat) : List (List Int) := ([[], [], [], [], [[1, 3, 1, 1], [3, 1, 1, 1]], [[1, 3, 1, 1], [3, 1, 1, 1]], [[1, 1, 1, 1, 2, 2], [1, 1, 2, 2, 1, 1], [1, 3, 1, 1], [2, 1, 1, 2, 1, 1], [2, 2, 1, 1, 1, 1], [3, 1, 1, 1]], [[1, 1, 1, 1, 2, 2], [1, 1, 2, 2, 1, 1], [1, 3, 1, 1], [2, 1, 1, 2, 1, 1], [2, 2, 1, 1, 1, 1], [3, 1, 1, 1]]] : List (List (List Int))).getD m []
def bl_4_4 (m : Nat) : List (List Int) := ([[], [[4]], [[4]], [[4]], [[2, 2, 2, 2], [4]], [[2, 2, 2, 2], [4]], [[2, 2, 2, 2], [4]], [[1, 1, 2, 1, 1, 2, 2], [1, 1, 2, 2, 2, 1, 1], [1, 2, 1, 1, 1, 2, 2], [2, 1, 1, 1, 1, 2, 2], [2, 1, 1, 2, 2, 1, 1], [2, 2, 1, 1, 2, 1, 1], [2, 2, 1, 2, 1, 1, 1], [2, 2, 2, 1, 1, 1, 1], [2, 2, 2, 2], [4]]] : List (List (List Int))).getD m []
def bl_4_5 (m : Nat) : List (List Int) := ([[], [], [], [], [], [[1, 1, 1, 1, 4], [4, 1, 1, 1, 1]], [[1, 1, 1, 1, 4], [1, 3, 1, 1, 2, 2], [2, 2, 1, 3, 1, 1], [2, 2, 3, 1, 1, 1], [3, 1, 1, 1, 2, 2], [4, 1, 1, 1, 1]], [[1, 1, 1, 1, 4], [1, 3, 1, 1, 2, 2], [2, 2, 1, 3, 1, 1], [2, 2, 3, 1, 1, 1], [3, 1, 1, 1, 2, 2], [4, 1, 1, 1, 1]]] : List (List (List Int))).getD m []
def bl_5_1 (m : Nat) : List (List Int) := ([[], [], [], [], [], [[1, 1, 1, 1, 1]], [[1, 1, 1, 1, 1]], [[1, 1, 1, 1, 1]]] : List (List (List Int))).getD m []
def bl_5_2 (m : Nat) : List (List Int) := ([[], [], [], [], [[1, 2, 2, 1], [2, 1, 2, 1], [2, 2, 1, 1]], [[1, 2, 2, 1], [2, 1, 2, 1], [2, 2, 1, 1]], [[1, 2, 2, 1], [2, 1, 2, 1], [2, 2, 1, 1]], [[1, 1, 1, 2, 1, 1, 1], [1, 1, 2, 1, 1, 1, 1], [1, 2, 1, 1, 1, 1, 1], [1, 2, 2, 1], [2, 1, 1, 1, 1, 1, 1], [2, 1, 2, 1], [2, 2, 1, 1]]] : List (List (List Int))).getD m []
def bl_5_3 (m : Nat) : List (List Int) := ([[], [], [], [], [[1, 1, 3, 2], [2, 3, 1, 1], [3, 1, 1, 2], [3, 2, 1, 1]], [[1, 1, 3, 2], [2, 3, 1, 1], [3, 1, 1, 2], [3, 2, 1, 1]], [[1, 1, 3, 2], [2, 3, 1, 1], [3, 1, 1, 2], [3, 2, 1, 1]], [[1, 1, 3, 1, 1, 1, 1], [1, 1, 3, 2], [1, 3, 1, 1, 1, 1, 1], [2, 3, 1, 1], [3, 1, 1, 1, 1, 1, 1], [3, 1, 1, 2], [3, 2, 1, 1]]] : List (List (List Int))).getD m []
def bl_5_4 (m : Nat) : List (List Int) := ([[], [], [], [], [], [[1, 4, 1, 1, 1], [4, 1, 1, 1, 1]], [[1, 1, 1, 2, 3, 2], [1, 4, 1, 1, 1], [2, 1, 1, 1, 3, 2], [2, 3, 2, 1, 1, 1], [3, 2, 2, 1, 1, 1], [4, 1, 1, 1, 1]], [[1, 1, 1, 2, 3, 2], [1, 4, 1, 1, 1], [2, 1, 1, 1, 3, 2], [2, 3, 2, 1, 1, 1], [3, 2, 2, 1, 1, 1], [4, 1, 1, 1, 1]]] : List (List (List Int))).getD m []
def bl_5_5 (m : Nat) : List (List Int) := ([[], [[5]], [[5]], [[5]], [[5]], [[5]], [[5]], [[5]]] : List (List (List Int))).getD m []
end K54

namespace K54
open FL
theorem ca_1_1_0 : chkA 1 1 0 (bl_1_1 0) (bl_1_1 0) = true := by decide +kernel
theorem ca_1_1_1 : chkA 1 1 1 (bl_1_1 1) (bl_1_1 1) = true := by decide +kernel
theorem ca_1_1_2 : chkA 1 1 2 (bl_1_1 2) (bl_1_1 2) = true := by decide +kernel
theorem ca_1_1_3 : chkA 1 1 3 (bl_1_1 3) (bl_1_1 3) = true := by decide +kernel
theorem ca_1_1_4 : chkA 1 1 4 (bl_1_1 4) (bl_1_1 4) = true := by decide +kernel
theorem ca_1_1_5 : chkA 1 1 5 (bl_1_1 5) (bl_1_1 5) = true := by decide +kernel
theorem ca_1_1_6 : chkA 1 1 6 (bl_1_1 6) (bl_1_1 6) = true := by decide +kernel
theorem ca_1_1_7 : chkA 1 1 7 (bl_1_1 7) (bl_1_1 7) = true := by decide +kernel
theorem ca_1_2_0 : chkA 1 2 0 (bl_1_2 0) (bl_2_1 0) = true := by decide +kernel
theorem ca_1_2_1 : chkA 1 2 1 (bl_1_2 1) (bl_2_1 1) = true := by decide +kernel
theorem ca_1_2_2 : chkA 1 2 2 (bl_1_2 2) (bl_2_1 2) = true := by decide +kernel
theorem ca_1_2_3 : chkA 1 2 3 (bl_1_2 3) (bl_2_1 3) = true := by decide +kernel
theorem ca_1_2_4 : chkA 1 2 4 (bl_1_2 4) (bl_2_1 4) = true := by decide +kernel
theorem ca_1_2_5 : chkA 1 2 5 (bl_1_2 5) (bl_2_1 5) = true := by decide +kernel
theorem ca_1_2_6 : chkA 1 2 6 (bl_1_2 6) (bl_2_1 6) = true := by decide +kernel
theorem ca_1_2_7 : chkA 1 2 7 (bl_1_2 7) (bl_2_1 7) = true := by decide +kernel
theorem ca_1_3_0 : chkA 1 3 0 (bl_1_3 0) (bl_3_1 0) = true := by decide +kernel
theorem ca_1_3_1 : chkA 1 3 1 (bl_1_3 1) (bl_3_1 1) = true := by decide +kernel
theorem ca_1_3_2 : chkA 1 3 2 (bl_1_3 2) (bl_3_1 2) = true := by decide +kernel
theorem ca_1_3_3 : chkA 1 3 3 (bl_1_3 3) (bl_3_1 3) = true := by decide +kernel
theorem ca_1_3_4 : chkA 1 3 4 (bl_1_3 4) (bl_3_1 4) = true := by decide +kernel
theorem ca_1_3_5 : chkA 1 3 5 (bl_1_3 5) (bl_3_1 5) = true := by decide +kernel
theorem ca_1_3_6 : chkA 1 3 6 (bl_1_3 6) (bl_3_1 6) = true := by decide +kernel
theorem ca_1_3_7 : chkA 1 3 7 (bl_1_3 7) (bl_3_1 7) = true := by decide +kernel
theorem ca_1_4_0 : chkA 1 4 0 (bl_1_4 0) (bl_4_1 0) = true := by decide +kernel
theorem ca_1_4_1 : chkA 1 4 1 (bl_1_4 1) (bl_4_1 1) = true := by decide +kernel
theorem ca_1_4_2 : chkA 1 4 2 (bl_1_4 2) (bl_4_1 2) = true := by decide +kernel
theorem ca_1_4_3 : chkA 1 4 3 (bl_1_4 3) (bl_4_1 3) = true := by decide +kernel
theorem ca_1_4_4 : chkA 1 4 4 (bl_1_4 4) (bl_4_1 4) = true := by decide +kernel
theorem ca_1_4_5 : chkA 1 4 5 (bl_1_4 5) (bl_4_1 5) = true := by decide +kernel
theorem ca_1_4_6 : chkA 1 4 6 (bl_1_4 6) (bl_4_1 6) = true := by decide +kernel
theorem ca_1_4_7 : chkA 1 4 7 (bl_1_4 7) (bl_4_1 7) = true := by decide +kernel
theorem ca_1_5_0 : chkA 1 5 0 (bl_1_5 0) (bl_5_1 0) = true := by decide +kernel
theorem ca_1_5_1 : chkA 1 5 1 (bl_1_5 1) (bl_5_1 1) = true := by decide +kernel
theorem ca_1_5_2 : chkA 1 5 2 (bl_1_5 2) (bl_5_1 2) = true := by decide +kernel
theorem ca_1_5_3 : chkA 1 5 3 (bl_1_5 3) (bl_5_1 3) = true := by decide +kernel
theorem ca_1_5_4 : chkA 1 5 4 (bl_1_5 4) (bl_5_1 4) = true := by decide +kernel
theorem ca_1_5_5 : chkA 1 5 5 (bl_1_5 5) (bl_5_1 5) = true := by decide +kernel
theorem ca_1_5_6 : chkA 1 5 6 (bl_1_5 6) (bl_5_1 6) = true := by decide +kernel
theorem ca_1_5_7 : chkA 1 5 7 (bl_1_5 7) (bl_5_1 7) = true := by decide +kernel
end K54

namespace K54
open FL
theorem ca_2_1_0 : chkA 2 1 0 (bl_2_1 0) (bl_1_2 0) = true := by decide +kernel
theorem ca_2_1_1 : chkA 2 1 1 (bl_2_1 1) (bl_1_2 1) = true := by decide +kernel
theorem ca_2_1_2 : chkA 2 1 2 (bl_2_1 2) (bl_1_2 2) = true := by decide +kernel
theorem ca_2_1_3 : chkA 2 1 3 (bl_2_1 3) (bl_1_2 3) = true := by decide +kernel
theorem ca_2_1_4 : chkA 2 1 4 (bl_2_1 4) (bl_1_2 4) = true := by decide +kernel
theorem ca_2_1_5 : chkA 2 1 5 (bl_2_1 5) (bl_1_2 5) = true := by decide +kernel
theorem ca_2_1_6 : chkA 2 1 6 (bl_2_1 6) (bl_1_2 6) = true := by decide +kernel
theorem ca_2_1_7 : chkA 2 1 7 (bl_2_1 7) (bl_1_2 7) = true := by decide +kernel
theorem ca_2_2_0 : chkA 2 2 0 (bl_2_2 0) (bl_2_2 0) = true := by decide +kernel
theorem ca_2_2_1 : chkA 2 2 1 (bl_2_2 1) (bl_2_2 1) = true := by decide +kernel
theorem ca_2_2_2 : chkA 2 2 2 (bl_2_2 2) (bl_2_2 2) = true := by decide +kernel
theorem ca_2_2_3 : chkA 2 2 3 (bl_2_2 3) (bl_2_2 3) = true := by decide +kernel
theorem ca_2_2_4 : chkA 2 2 4 (bl_2_2 4) (bl_2_2 4) = true := by decide +kernel
theorem ca_2_2_5 : chkA 2 2 5 (bl_2_2 5) (bl_2_2 5) = true := by decide +kernel
theorem ca_2_2_6 : chkA 2 2 6 (bl_2_2 6) (bl_2_2 6) = true := by decide +kernel
theorem ca_2_2_7 : chkA 2 2 7 (bl_2_2 7) (bl_2_2 7) = true := by decide +kernel
theorem ca_2_3_0 : chkA 2 3 0 (bl_2_3 0) (bl_3_2 0) = true := by decide +kernel
theorem ca_2_3_1 : chkA 2 3 1 (bl_2_3 1) (bl_3_2 1) = true := by decide +kernel
theorem ca_2_3_2 : chkA 2 3 2 (bl_2_3 2) (bl_3_2 2) = true := by decide +kernel
theorem ca_2_3_3 : chkA 2 3 3 (bl_2_3 3) (bl_3_2 3) = true := by decide +kernel
theorem ca_2_3_4 : chkA 2 3 4 (bl_2_3 4) (bl_3_2 4) = true := by decide +kernel
theorem ca_2_3_5 : chkA 2 3 5 (bl_2_3 5) (bl_3_2 5) = true := by decide +kernel
theorem ca_2_3_6 : chkA 2 3 6 (bl_2_3 6) (bl_3_2 6) = true := by decide +kernel
theorem ca_2_3_7 : chkA 2 3 7 (bl_2_3 7) (bl_3_2 7) = true := by decide +kernel
theorem ca_2_4_0 : chkA 2 4 0 (bl_2_4 0) (bl_4_2 0) = true := by decide +kernel
theorem ca_2_4_1 : chkA 2 4 1 (bl_2_4 1) (bl_4_2 1) = true := by decide +kernel
theorem ca_2_4_2 : chkA 2 4 2 (bl_2_4 2) (bl_4_2 2) = true := by decide +kernel
theorem ca_2_4_3 : chkA 2 4 3 (bl_2_4 3) (bl_4_2 3) = true := by decide +kernel
theorem ca_2_4_4 : chkA 2 4 4 (bl_2_4 4) (bl_4_2 4) = true := by decide +kernel
theorem ca_2_4_5 : chkA 2 4 5 (bl_2_4 5) (bl_4_2 5) = true := by decide +kernel
theorem ca_2_4_6 : chkA 2 4 6 (bl_2_4 6) (bl_4_2 6) = true := by decide +kernel
theorem ca_2_4_7 : chkA 2 4 7 (bl_2_4 7) (bl_4_2 7) = true := by decide +kernel
theorem ca_2_5_0 : chkA 2 5 0 (bl_2_5 0) (bl_5_2 0) = true := by decide +kernel
theorem ca_2_5_1 : chkA 2 5 1 (bl_2_5 1) (bl_5_2 1) = true := by decide +kernel
theorem ca_2_5_2 : chkA 2 5 2 (bl_2_5 2) (bl_5_2 2) = true := by decide +kernel
theorem ca_2_5_3 : chkA 2 5 3 (bl_2_5 3) (bl_5_2 3) = true := by decide +kernel
theorem ca_2_5_4 : chkA 2 5 4 (bl_2_5 4) (bl_5_2 4) = true := by decide +kernel
theorem ca_2_5_5 : chkA 2 5 5 (bl_2_5 5) (bl_5_2 5) = true := by decide +kernel
theorem ca_2_5_6 : chkA 2 5 6 (bl_2_5 6) (bl_5_2 6) = true := by decide +kernel
theorem ca_2_5_7 : chkA 2 5 7 (bl_2_5 7) (bl_5_2 7) = true := by decide +kernel
end K54

namespace K54
open FL
theorem ca_3_1_0 : chkA 3 1 0 (bl_3_1 0) (bl_1_3 0) = true := by decide +kernel
theorem ca_3_1_1 : chkA 3 1 1 (bl_3_1 1) (bl_1_3 1) = true := by decide +kernel
theorem ca_3_1_2 : chkA 3 1 2 (bl_3_1 2) (bl_1_3 2) = true := by decide +kernel
theorem ca_3_1_3 : chkA 3 1 3 (bl_3_1 3) (bl_1_3 3) = true := by decide +kernel
theorem ca_3_1_4 : chkA 3 1 4 (bl_3_1 4) (bl_1_3 4) = true := by decide +kernel
theorem ca_3_1_5 : chkA 3 1 5 (bl_3_1 5) (bl_1_3 5) = true := by decide +kernel
theorem ca_3_1_6 : chkA 3 1 6 (bl_3_1 6) (bl_1_3 6) = true := by decide +kernel
theorem ca_3_1_7 : chkA 3 1 7 (bl_3_1 7) (bl_1_3 7) = true := by decide +kernel
theorem ca_3_2_0 : chkA 3 2 0 (bl_3_2 0) (bl_2_3 0) = true := by decide +kernel
theorem ca_3_2_1 : chkA 3 2 1 (bl_3_2 1) (bl_2_3 1) = true := by decide +kernel
theorem ca_3_2_2 : chkA 3 2 2 (bl_3_2 2) (bl_2_3 2) = true := by decide +kernel
theorem ca_3_2_3 : chkA 3 2 3 (bl_3_2 3) (bl_2_3 3) = true := by decide +kernel
theorem ca_3_2_4 : chkA 3 2 4 (bl_3_2 4) (bl_2_3 4) = true := by decide +kernel
theorem ca_3_2_5 : chkA 3 2 5 (bl_3_2 5) (bl_2_3 5) = true := by decide +kernel
theorem ca_3_2_6 : chkA 3 2 6 (bl_3_2 6) (bl_2_3 6) = true := by decide +kernel
theorem ca_3_2_7 : chkA 3 2 7 (bl_3_2 7) (bl_2_3 7) = true := by decide +kernel
theorem ca_3_3_0 : chkA 3 3 0 (bl_3_3 0) (bl_3_3 0) = true := by decide +kernel
theorem ca_3_3_1 : chkA 3 3 1 (bl_3_3 1) (bl_3_3 1) = true := by decide +kernel
theorem ca_3_3_2 : chkA 3 3 2 (bl_3_3 2) (bl_3_3 2) = true := by decide +kernel
theorem ca_3_3_3 : chkA 3 3 3 (bl_3_3 3) (bl_3_3 3) = true := by decide +kernel
theorem ca_3_3_4 : chkA 3 3 4 (bl_3_3 4) (bl_3_3 4) = true := by decide +kernel
theorem ca_3_3_5 : chkA 3 3 5 (bl_3_3 5) (bl_3_3 5) = true := by decide +kernel
theorem ca_3_3_6 : chkA 3 3 6 (bl_3_3 6) (bl_3_3 6) = true := by decide +kernel
theorem ca_3_3_7 : chkA 3 3 7 (bl_3_3 7) (bl_3_3 7) = true := by decide +kernel
theorem ca_3_4_0 : chkA 3 4 0 (bl_3_4 0) (bl_4_3 0) = true := by decide +kernel
theorem ca_3_4_1 : chkA 3 4 1 (bl_3_4 1) (bl_4_3 1) = true := by decide +kernel
theorem ca_3_4_2 : chkA 3 4 2 (bl_3_4 2) (bl_4_3 2) = true := by decide +kernel
theorem ca_3_4_3 : chkA 3 4 3 (bl_3_4 3) (bl_4_3 3) = true := by decide +kernel
theorem ca_3_4_4 : chkA 3 4 4 (bl_3_4 4) (bl_4_3 4) = true := by decide +kernel
theorem ca_3_4_5 : chkA 3 4 5 (bl_3_4 5) (bl_4_3 5) = true := by decide +kernel
theorem ca_3_4_6 : chkA 3 4 6 (bl_3_4 6) (bl_4_3 6) = true := by decide +kernel
theorem ca_3_4_7 : chkA 3 4 7 (bl_3_4 7) (bl_4_3 7) = true := by decide +kernel
theorem ca_3_5_0 : chkA 3 5 0 (bl_3_5 0) (bl_5_3 0) = true := by decide +kernel
theorem ca_3_5_1 : chkA 3 5 1 (bl_3_5 1) (bl_5_3 1) = true := by decide +kernel
theorem ca_3_5_2 : chkA 3 5 2 (bl_3_5 2) (bl_5_3 2) = true := by decide +kernel
theorem ca_3_5_3 : chkA 3 5 3 (bl_3_5 3) (bl_5_3 3) = true := by decide +kernel
theorem ca_3_5_4 : chkA 3 5 4 (bl_3_5 4) (bl_5_3 4) = true := by decide +kernel
theorem ca_3_5_5 : chkA 3 5 5 (bl_3_5 5) (bl_5_3 5) = true := by decide +kernel
theorem ca_3_5_6 : chkA 3 5 6 (bl_3_5 6) (bl_5_3 6) = true := by decide +kernel
theorem ca_3_5_7 : chkA 3 5 7 (bl_3_5 7) (bl_5_3 7) = true := by decide +kernel
end K54

namespace K54
open FL
theorem ca_4_1_0 : chkA 4 1 0 (bl_4_1 0) (bl_1_4 0) = true := by decide +kernel
theorem ca_4_1_1 : chkA 4 1 1 (bl_4_1 1) (bl_1_4 1) = true := by decide +kernel
theorem ca_4_1_2 : chkA 4 1 2 (bl_4_1 2) (bl_1_4 2) = true := by decide +kernel
theorem ca_4_1_3 : chkA 4 1 3 (bl_4_1 3) (bl_1_4 3) = true := by decide +kernel
theorem ca_4_1_4 : chkA 4 1 4 (bl_4_1 4) (bl_1_4 4) = true := by decide +kernel
theorem ca_4_1_5 : chkA 4 1 5 (bl_4_1 5) (bl_1_4 5) = true := by decide +kernel
theorem ca_4_1_6 : chkA 4 1 6 (bl_4_1 6) (bl_1_4 6) = true := by decide +kernel
theorem ca_4_1_7 : chkA 4 1 7 (bl_4_1 7) (bl_1_4 7) = true := by decide +kernel
theorem ca_4_2_0 : chkA 4 2 0 (bl_4_2 0) (bl_2_4 0) = true := by decide +kernel
theorem ca_4_2_1 : chkA 4 2 1 (bl_4_2 1) (bl_2_4 1) = true := by decide +kernel
theorem ca_4_2_2 : chkA 4 2 2 (bl_4_2 2) (bl_2_4 2) = true := by decide +kernel
theorem ca_4_2_3 : chkA 4 2 3 (bl_4_2 3) (bl_2_4 3) = true := by decide +kernel
theorem ca_4_2_4 : chkA 4 2 4 (bl_4_2 4) (bl_2_4 4) = true := by decide +kernel
theorem ca_4_2_5 : chkA 4 2 5 (bl_4_2 5) (bl_2_4 5) = true := by decide +kernel
theorem ca_4_2_6 : chkA 4 2 6 (bl_4_2 6) (bl_2_4 6) = true := by decide +kernel
theorem ca_4_2_7 : chkA 4 2 7 (bl_4_2 7) (bl_2_4 7) = true := by decide +kernel
theorem ca_4_3_0 : chkA 4 3 0 (bl_4_3 0) (bl_3_4 0) = true := by decide +kernel
theorem ca_4_3_1 : chkA 4 3 1 (bl_4_3 1) (bl_3_4 1) = true := by decide +kernel
theorem ca_4_3_2 : chkA 4 3 2 (bl_4_3 2) (bl_3_4 2) = true := by decide +kernel
theorem ca_4_3_3 : chkA 4 3 3 (bl_4_3 3) (bl_3_4 3) = true := by decide +kernel
theorem ca_4_3_4 : chkA 4 3 4 (bl_4_3 4) (bl_3_4 4) = true := by decide +kernel
theorem ca_4_3_5 : chkA 4 3 5 (bl_4_3 5) (bl_3_4 5) = true := by decide +kernel
theorem ca_4_3_6 : chkA 4 3 6 (bl_4_3 6) (bl_3_4 6) = true := by decide +kernel
theorem ca_4_3_7 : chkA 4 3 7 (bl_4_3 7) (bl_3_4 7) = true := by decide +kernel
theorem ca_4_4_0 : chkA 4 4 0 (bl_4_4 0) (bl_4_4 0) = true := by decide +kernel
theorem ca_4_4_1 : chkA 4 4 1 (bl_4_4 1) (bl_4_4 1) = true := by decide +kernel
theorem ca_4_4_2 : chkA 4 4 2 (bl_4_4 2) (bl_4_4 2) = true := by decide +kernel
theorem ca_4_4_3 : chkA 4 4 3 (bl_4_4 3) (bl_4_4 3) = true := by decide +kernel
theorem ca_4_4_4 : chkA 4 4 4 (bl_4_4 4) (bl_4_4 4) = true := by decide +kernel
theorem ca_4_4_5 : chkA 4 4 5 (bl_4_4 5) (bl_4_4 5) = true := by decide +kernel
theorem ca_4_4_6 : chkA 4 4 6 (bl_4_4 6) (bl_4_4 6) = true := by decide +kernel
theorem ca_4_4_7 : chkA 4 4 7 (bl_4_4 7) (bl_4_4 7) = true := by decide +kernel
theorem ca_4_5_0 : chkA 4 5 0 (bl_4_5 0) (bl_5_4 0) = true := by decide +kernel
theorem ca_4_5_1 : chkA 4 5 1 (bl_4_5 1) (bl_5_4 1) = true := by decide +kernel
theorem ca_4_5_2 : chkA 4 5 2 (bl_4_5 2) (bl_5_4 2) = true := by decide +kernel
theorem ca_4_5_3 : chkA 4 5 3 (bl_4_5 3) (bl_5_4 3) = true := by decide +kernel
theorem ca_4_5_4 : chkA 4 5 4 (bl_4_5 4) (bl_5_4 4) = true := by decide +kernel
theorem ca_4_5_5 : chkA 4 5 5 (bl_4_5 5) (bl_5_4 5) = true := by decide +kernel
theorem ca_4_5_6 : chkA 4 5 6 (bl_4_5 6) (bl_5_4 6) = true := by decide +kernel
theorem ca_4_5_7 : chkA 4 5 7 (bl_4_5 7) (bl_5_4 7) = true := by decide +kernel
end K54

namespace K54
open FL
theorem ca_5_1_0 : chkA 5 1 0 (bl_5_1 0) (bl_1_5 0) = true := by decide +kernel
theorem ca_5_1_1 : chkA 5 1 1 (bl_5_1 1) (bl_1_5 1) = true := by decide +kernel
theorem ca_5_1_2 : chkA 5 1 2 (bl_5_1 2) (bl_1_5 2) = true := by decide +kernel
theorem ca_5_1_3 : chkA 5 1 3 (bl_5_1 3) (bl_1_5 3) = true := by decide +kernel
theorem ca_5_1_4 : chkA 5 1 4 (bl_5_1 4) (bl_1_5 4) = true := by decide +kernel
theorem ca_5_1_5 : chkA 5 1 5 (bl_5_1 5) (bl_1_5 5) = true := by decide +kernel
theorem ca_5_1_6 : chkA 5 1 6 (bl_5_1 6) (bl_1_5 6) = true := by decide +kernel
theorem ca_5_1_7 : chkA 5 1 7 (bl_5_1 7) (bl_1_5 7) = true := by decide +kernel
theorem ca_5_2_0 : chkA 5 2 0 (bl_5_2 0) (bl_2_5 0) = true := by decide +kernel
theorem ca_5_2_1 : chkA 5 2 1 (bl_5_2 1) (bl_2_5 1) = true := by decide +kernel
theorem ca_5_2_2 : chkA 5 2 2 (bl_5_2 2) (bl_2_5 2) = true := by decide +kernel
theorem ca_5_2_3 : chkA 5 2 3 (bl_5_2 3) (bl_2_5 3) = true := by decide +kernel
theorem ca_5_2_4 : chkA 5 2 4 (bl_5_2 4) (bl_2_5 4) = true := by decide +kernel
theorem ca_5_2_5 : chkA 5 2 5 (bl_5_2 5) (bl_2_5 5) = true := by decide +kernel
theorem ca_5_2_6 : chkA 5 2 6 (bl_5_2 6) (bl_2_5 6) = true := by decide +kernel
theorem ca_5_2_7 : chkA 5 2 7 (bl_5_2 7) (bl_2_5 7) = true := by decide +kernel
theorem ca_5_3_0 : chkA 5 3 0 (bl_5_3 0) (bl_3_5 0) = true := by decide +kernel
theorem ca_5_3_1 : chkA 5 3 1 (bl_5_3 1) (bl_3_5 1) = true := by decide +kernel
theorem ca_5_3_2 : chkA 5 3 2 (bl_5_3 2) (bl_3_5 2) = true := by decide +kernel
theorem ca_5_3_3 : chkA 5 3 3 (bl_5_3 3) (bl_3_5 3) = true := by decide +kernel
theorem ca_5_3_4 : chkA 5 3 4 (bl_5_3 4) (bl_3_5 4) = true := by decide +kernel
theorem ca_5_3_5 : chkA 5 3 5 (bl_5_3 5) (bl_3_5 5) = true := by decide +kernel
theorem ca_5_3_6 : chkA 5 3 6 (bl_5_3 6) (bl_3_5 6) = true := by decide +kernel
theorem ca_5_3_7 : chkA 5 3 7 (bl_5_3 7) (bl_3_5 7) = true := by decide +kernel
theorem ca_5_4_0 : chkA 5 4 0 (bl_5_4 0) (bl_4_5 0) = true := by decide +kernel
theorem ca_5_4_1 : chkA 5 4 1 (bl_5_4 1) (bl_4_5 1) = true := by decide +kernel
theorem ca_5_4_2 : chkA 5 4 2 (bl_5_4 2) (bl_4_5 2) = true := by decide +kernel
theorem ca_5_4_3 : chkA 5 4 3 (bl_5_4 3) (bl_4_5 3) = true := by decide +kernel
theorem ca_5_4_4 : chkA 5 4 4 (bl_5_4 4) (bl_4_5 4) = true := by decide +kernel
theorem ca_5_4_5 : chkA 5 4 5 (bl_5_4 5) (bl_4_5 5) = true := by decide +kernel
theorem ca_5_4_6 : chkA 5 4 6 (bl_5_4 6) (bl_4_5 6) = true := by decide +kernel
theorem ca_5_4_7 : chkA 5 4 7 (bl_5_4 7) (bl_4_5 7) = true := by decide +kernel
theorem ca_5_5_0 : chkA 5 5 0 (bl_5_5 0) (bl_5_5 0) = true := by decide +kernel
theorem ca_5_5_1 : chkA 5 5 1 (bl_5_5 1) (bl_5_5 1) = true := by decide +kernel
theorem ca_5_5_2 : chkA 5 5 2 (bl_5_5 2) (bl_5_5 2) = true := by decide +kernel
theorem ca_5_5_3 : chkA 5 5 3 (bl_5_5 3) (bl_5_5 3) = true := by decide +kernel
theorem ca_5_5_4 : chkA 5 5 4 (bl_5_5 4) (bl_5_5 4) = true := by decide +kernel
theorem ca_5_5_5 : chkA 5 5 5 (bl_5_5 5) (bl_5_5 5) = true := by decide +kernel
theorem ca_5_5_6 : chkA 5 5 6 (bl_5_5 6) (bl_5_5 6) = true := by decide +kernel
theorem ca_5_5_7 : chkA 5 5 7 (bl_5_5 7) (bl_5_5 7) = true := by decide +kernel
end K54

namespace K54
open FL
theorem cb_1_1_0 : chkB 1 1 0 (bl_1_1 0) = true := by decide +kernel
theorem cb_1_1_1 : chkB 1 1 1 (bl_1_1 1) = true := by decide +kernel
theorem cb_1_1_2 : chkB 1 1 2 (bl_1_1 2) = true := by decide +kernel
theorem cb_1_1_3 : chkB 1 1 3 (bl_1_1 3) = true := by decide +kernel
theorem cb_1_1_4 : chkB 1 1 4 (bl_1_1 4) = true := by decide +kernel
theorem cb_1_1_5 : chkB 1 1 5 (bl_1_1 5) = true := by decide +kernel
theorem cb_1_1_6 : chkB 1 1 6 (bl_1_1 6) = true := by decide +kernel
theorem cb_1_2_0 : chkB 1 2 0 (bl_1_2 0) = true := by decide +kernel
theorem cb_1_2_1 : chkB 1 2 1 (bl_1_2 1) = true := by decide +kernel
theorem cb_1_2_2 : chkB 1 2 2 (bl_1_2 2) = true := by decide +kernel
theorem cb_1_2_3 : chkB 1 2 3 (bl_1_2 3) = true := by decide +kernel
theorem cb_1_2_4 : chkB 1 2 4 (bl_1_2 4) = true := by decide +kernel
theorem cb_1_2_5 : chkB 1 2 5 (bl_1_2 5) = true := by decide +kernel
theorem cb_1_2_6 : chkB 1 2 6 (bl_1_2 6) = true := by decide +kernel
theorem cb_1_3_0 : chkB 1 3 0 (bl_1_3 0) = true := by decide +kernel
theorem cb_1_3_1 : chkB 1 3 1 (bl_1_3 1) = true := by decide +kernel
theorem cb_1_3_2 : chkB 1 3 2 (bl_1_3 2) = true := by decide +kernel
theorem cb_1_3_3 : chkB 1 3 3 (bl_1_3 3) = true := by decide +kernel
theorem cb_1_3_4 : chkB 1 3 4 (bl_1_3 4) = true := by decide +kernel
theorem cb_1_3_5 : chkB 1 3 5 (bl_1_3 5) = true := by decide +kernel
theorem cb_1_3_6 : chkB 1 3 6 (bl_1_3 6) = true := by decide +kernel
theorem cb_1_4_0 : chkB 1 4 0 (bl_1_4 0) = true := by decide +kernel
theorem cb_1_4_1 : chkB 1 4 1 (bl_1_4 1) = true := by decide +kernel
theorem cb_1_4_2 : chkB 1 4 2 (bl_1_4 2) = true := by decide +kernel
theorem cb_1_4_3 : chkB 1 4 3 (bl_1_4 3) = true := by decide +kernel
theorem cb_1_4_4 : chkB 1 4 4 (bl_1_4 4) = true := by decide +kernel
theorem cb_1_4_5 : chkB 1 4 5 (bl_1_4 5) = true := by decide +kernel
theorem cb_1_4_6 : chkB 1 4 6 (bl_1_4 6) = true := by decide +kernel
end K54

namespace K54
open FL
theorem cb_2_1_0 : chkB 2 1 0 (bl_2_1 0) = true := by decide +kernel
theorem cb_2_1_1 : chkB 2 1 1 (bl_2_1 1) = true := by decide +kernel
theorem cb_2_1_2 : chkB 2 1 2 (bl_2_1 2) = true := by decide +kernel
theorem cb_2_1_3 : chkB 2 1 3 (bl_2_1 3) = true := by decide +kernel
theorem cb_2_1_4 : chkB 2 1 4 (bl_2_1 4) = true := by decide +kernel
theorem cb_2_1_5 : chkB 2 1 5 (bl_2_1 5) = true := by decide +kernel
theorem cb_2_1_6 : chkB 2 1 6 (bl_2_1 6) = true := by decide +kernel
theorem cb_2_2_0 : chkB 2 2 0 (bl_2_2 0) = true := by decide +kernel
theorem cb_2_2_1 : chkB 2 2 1 (bl_2_2 1) = true := by decide +kernel
theorem cb_2_2_2 : chkB 2 2 2 (bl_2_2 2) = true := by decide +kernel
theorem cb_2_2_3 : chkB 2 2 3 (bl_2_2 3) = true := by decide +kernel
theorem cb_2_2_4 : chkB 2 2 4 (bl_2_2 4) = true := by decide +kernel
theorem cb_2_2_5 : chkB 2 2 5 (bl_2_2 5) = true := by decide +kernel
theorem cb_2_2_6 : chkB 2 2 6 (bl_2_2 6) = true := by decide +kernel
theorem cb_2_3_0 : chkB 2 3 0 (bl_2_3 0) = true := by decide +kernel
theorem cb_2_3_1 : chkB 2 3 1 (bl_2_3 1) = true := by decide +kernel
theorem cb_2_3_2 : chkB 2 3 2 (bl_2_3 2) = true := by decide +kernel
theorem cb_2_3_3 : chkB 2 3 3 (bl_2_3 3) = true := by decide +kernel
theorem cb_2_3_4 : chkB 2 3 4 (bl_2_3 4) = true := by decide +kernel
theorem cb_2_3_5 : chkB 2 3 5 (bl_2_3 5) = true := by decide +kernel
theorem cb_2_3_6 : chkB 2 3 6 (bl_2_3 6) = true := by decide +kernel
theorem cb_2_4_0 : chkB 2 4 0 (bl_2_4 0) = true := by decide +kernel
theorem cb_2_4_1 : chkB 2 4 1 (bl_2_4 1) = true := by decide +kernel
theorem cb_2_4_2 : chkB 2 4 2 (bl_2_4 2) = true := by decide +kernel
theorem cb_2_4_3 : chkB 2 4 3 (bl_2_4 3) = true := by decide +kernel
theorem cb_2_4_4 : chkB 2 4 4 (bl_2_4 4) = true := by decide +kernel
theorem cb_2_4_5 : chkB 2 4 5 (bl_2_4 5) = true := by decide +kernel
theorem cb_2_4_6 : chkB 2 4 6 (bl_2_4 6) = true := by decide +kernel
end K54

namespace K54
open FL
theorem cb_3_1_0 : chkB 3 1 0 (bl_3_1 0) = true := by decide +kernel
theorem cb_3_1_1 : chkB 3 1 1 (bl_3_1 1) = true := by decide +kernel
theorem cb_3_1_2 : chkB 3 1 2 (bl_3_1 2) = true := by decide +kernel
theorem cb_3_1_3 : chkB 3 1 3 (bl_3_1 3) = true := by decide +kernel
theorem cb_3_1_4 : chkB 3 1 4 (bl_3_1 4) = true := by decide +kernel
theorem cb_3_1_5 : chkB 3 1 5 (bl_3_1 5) = true := by decide +kernel
theorem cb_3_1_6 : chkB 3 1 6 (bl_3_1 6) = true := by decide +kernel
theorem cb_3_2_0 : chkB 3 2 0 (bl_3_2 0) = true := by decide +kernel
theorem cb_3_2_1 : chkB 3 2 1 (bl_3_2 1) = true := by decide +kernel
theorem cb_3_2_2 : chkB 3 2 2 (bl_3_2 2) = true := by decide +kernel
theorem cb_3_2_3 : chkB 3 2 3 (bl_3_2 3) = true := by decide +kernel
theorem cb_3_2_4 : chkB 3 2 4 (bl_3_2 4) = true := by decide +kernel
theorem cb_3_2_5 : chkB 3 2 5 (bl_3_2 5) = true := by decide +kernel
theorem cb_3_2_6 : chkB 3 2 6 (bl_3_2 6) = true := by decide +kernel
theorem cb_3_3_0 : chkB 3 3 0 (bl_3_3 0) = true := by decide +kernel
theorem cb_3_3_1 : chkB 3 3 1 (bl_3_3 1) = true := by decide +kernel
theorem cb_3_3_2 : chkB 3 3 2 (bl_3_3 2) = true := by decide +kernel
theorem cb_3_3_3 : chkB 3 3 3 (bl_3_3 3) = true := by decide +kernel
theorem cb_3_3_4 : chkB 3 3 4 (bl_3_3 4) = true := by decide +kernel
theorem cb_3_3_5 : chkB 3 3 5 (bl_3_3 5) = true := by decide +kernel
theorem cb_3_3_6 : chkB 3 3 6 (bl_3_3 6) = true := by decide +kernel
theorem cb_3_4_0 : chkB 3 4 0 (bl_3_4 0) = true := by decide +kernel
theorem cb_3_4_1 : chkB 3 4 1 (bl_3_4 1) = true := by decide +kernel
theorem cb_3_4_2 : chkB 3 4 2 (bl_3_4 2) = true := by decide +kernel
theorem cb_3_4_3 : chkB 3 4 3 (bl_3_4 3) = true := by decide +kernel
theorem cb_3_4_4 : chkB 3 4 4 (bl_3_4 4) = true := by decide +kernel
theorem cb_3_4_5 : chkB 3 4 5 (bl_3_4 5) = true := by decide +kernel
theorem cb_3_4_6 : chkB 3 4 6 (bl_3_4 6) = true := by decide +kernel
end K54

namespace K54
open FL
theorem cb_4_1_0 : chkB 4 1 0 (bl_4_1 0) = true := by decide +kernel
theorem cb_4_1_1 : chkB 4 1 1 (bl_4_1 1) = true := by decide +kernel
theorem cb_4_1_2 : chkB 4 1 2 (bl_4_1 2) = true := by decide +kernel
theorem cb_4_1_3 : chkB 4 1 3 (bl_4_1 3) = true := by decide +kernel
theorem cb_4_1_4 : chkB 4 1 4 (bl_4_1 4) = true := by decide +kernel
theorem cb_4_1_5 : chkB 4 1 5 (bl_4_1 5) = true := by decide +kernel
theorem cb_4_1_6 : chkB 4 1 6 (bl_4_1 6) = true := by decide +kernel
theorem cb_4_2_0 : chkB 4 2 0 (bl_4_2 0) = true := by decide +kernel
theorem cb_4_2_1 : chkB 4 2 1 (bl_4_2 1) = true := by decide +kernel
theorem cb_4_2_2 : chkB 4 2 2 (bl_4_2 2) = true := by decide +kernel
theorem cb_4_2_3 : chkB 4 2 3 (bl_4_2 3) = true := by decide +kernel
theorem cb_4_2_4 : chkB 4 2 4 (bl_4_2 4) = true := by decide +kernel
theorem cb_4_2_5 : chkB 4 2 5 (bl_4_2 5) = true := by decide +kernel
theorem cb_4_2_6 : chkB 4 2 6 (bl_4_2 6) = true := by decide +kernel
theorem cb_4_3_0 : chkB 4 3 0 (bl_4_3 0) = true := by decide +kernel
theorem cb_4_3_1 : chkB 4 3 1 (bl_4_3 1) = true := by decide +kernel
theorem cb_4_3_2 : chkB 4 3 2 (bl_4_3 2) = true := by decide +kernel
theorem cb_4_3_3 : chkB 4 3 3 (bl_4_3 3) = true := by decide +kernel
theorem cb_4_3_4 : chkB 4 3 4 (bl_4_3 4) = true := by decide +kernel
theorem cb_4_3_5 : chkB 4 3 5 (bl_4_3 5) = true := by decide +kernel
theorem cb_4_3_6 : chkB 4 3 6 (bl_4_3 6) = true := by decide +kernel
theorem cb_4_4_0 : chkB 4 4 0 (bl_4_4 0) = true := by decide +kernel
theorem cb_4_4_1 : chkB 4 4 1 (bl_4_4 1) = true := by decide +kernel
theorem cb_4_4_2 : chkB 4 4 2 (bl_4_4 2) = true := by decide +kernel
theorem cb_4_4_3 : chkB 4 4 3 (bl_4_4 3) = true := by decide +kernel
theorem cb_4_4_4 : chkB 4 4 4 (bl_4_4 4) = true := by decide +kernel
theorem cb_4_4_5 : chkB 4 4 5 (bl_4_4 5) = true := by decide +kernel
theorem cb_4_4_6 : chkB 4 4 6 (bl_4_4 6) = true := by decide +kernel
end K54

namespace K54
open FL
variable [TabCtx]
theorem tabs : ∀ (i j : Nat), i < 5 → j < 5 → ∃ B C : Nat → List (List Int), (∀ m, m < 8 → chkA (1 + (i : Nat)) (1 + (j : Nat)) m (B m) (C m) = true) ∧ (∀ m, m < 8 → chkA (1 + (j : Nat)) (1 + (i : Nat)) m (C m) (B m) = true) ∧ (i < 4 → j < 4 → ∀ m, m < 7 → chkB (1 + (i : Nat)) (1 + (j : Nat)) m (B m) = true)
  | 0, 0, _, _ => ⟨bl_1_1, bl_1_1, fun m hm => match m, hm with | 0, _ => ca_1_1_0 | 1, _ => ca_1_1_1 | 2, _ => ca_1_1_2 | 3, _ => ca_1_1_3 | 4, _ => ca_1_1_4 | 5, _ => ca_1_1_5 | 6, _ => ca_1_1_6 | 7, _ => ca_1_1_7 | n + 8, hm => absurd hm (by omega), fun m hm => match m, hm with | 0, _ => ca_1_1_0 | 1, _ => ca_1_1_1 | 2, _ => ca_1_1_2 | 3, _ => ca_1_1_3 | 4, _ => ca_1_1_4 | 5, _ => ca_1_1_5 | 6, _ => ca_1_1_6 | 7, _ => ca_1_1_7 | n + 8, hm => absurd hm (by omega), fun _ _ => fun m hm => match m, hm with | 0, _ => cb_1_1_0 | 1, _ => cb_1_1_1 | 2, _ => cb_1_1_2 | 3, _ => cb_1_1_3 | 4, _ => cb_1_1_4 | 5, _ => cb_1_1_5 | 6, _ => cb_1_1_6 | n + 7, hm => absurd hm (by omega)⟩
  | 0, 1, _, _ => ⟨bl_1_2, bl_2_1, fun m hm => match m, hm with | 0, _ => ca_1_2_0 | 1, _ => ca_1_2_1 | 2, _ => ca_1_2_2 | 3, _ => ca_1_2_3 | 4, _ => ca_1_2_4 | 5, _ => ca_1_2_5 | 6, _ => ca_1_2_6 | 7, _ => ca_1_2_7 | n + 8, hm => absurd hm (by omega), fun m hm => match m, hm with | 0, _ => ca_2_1_0 | 1, _ => ca_2_1_1 | 2, _ => ca_2_1_2 | 3, _ => ca_2_1_3 | 4, _ => ca_2_1_4 | 5, _ => ca_2_1_5 | 6, _ => ca_2_1_6 | 7, _ => ca_2_1_7 | n + 8, hm => absurd hm (by omega), fun _ _ => fun m hm => match m, hm with | 0, _ => cb_1_2_0 | 1, _ => cb_1_2_1 | 2, _ => cb_1_2_2 | 3, _ => cb_1_2_3 | 4, _ => cb_1_2_4 | 5, _ => cb_1_2_5 | 6, _ => cb_1_2_6 | n + 7, hm => absurd hm (by omega)⟩
  | 0, 2, _, _ => ⟨bl_1_3, bl_3_1, fun m hm => match m, hm with | 0, _ => ca_1_3_0 | 1, _ => ca_1_3_1 | 2, _ => ca_1_3_2 | 3, _ => ca_1_3_3 | 4, _ => ca_1_3_4 | 5, _ => ca_1_3_5 | 6, _ => ca_1_3_6 | 7, _ => ca_1_3_7 | n + 8, hm => absurd hm (by omega), fun m hm => match m, hm with | 0, _ => ca_3_1_0 | 1, _ => ca_3_1_1 | 2, _ => ca_3_1_2 | 3, _ => ca_3_1_3 | 4, _ => ca_3_1_4 | 5, _ => ca_3_1_5 | 6, _ => ca_3_1_6 | 7, _ => ca_3_1_7 | n + 8, hm => absurd hm (by omega), fun _ _ => fun m hm => match m, hm with | 0, _ => cb_1_3_0 | 1, _ => cb_1_3_1 | 2, _ => cb_1_3_2 | 3, _ => cb_1_3_3 | 4, _ => cb_1_3_4 | 5, _ => cb_1_3_5 | 6, _ => cb_1_3_6 | n + 7, hm => absurd hm (by omega)⟩
  | 0, 3, _, _ => ⟨bl_1_4, bl_4_1, fun m hm => match m, hm with | 0, _ => ca_1_4_0 | 1, _ => ca_1_4_1 | 2, _ => ca_1_4_2 | 3, _ => ca_1_4_3 | 4, _ => ca_1_4_4 | 5, _ => ca_1_4_5 | 6, _ => ca_1_4_6 | 7, _ => ca_1_4_7 | n + 8, hm => absurd hm (by omega), fun m hm => match m, hm with | 0, _ => ca_4_1_0 | 1, _ => ca_4_1_1 | 2, _ => ca_4_1_2 | 3, _ => ca_4_1_3 | 4, _ => ca_4_1_4 | 5, _ => ca_4_1_5 | 6, _ => ca_4_1_6 | 7, _ => ca_4_1_7 | n + 8, hm => absurd hm (by omega), fun _ _ => fun m hm => match m, hm with | 0, _ => cb_1_4_0 | 1, _ => cb_1_4_1 | 2, _ => cb_1_4_2 | 3, _ => cb_1_4_3 | 4, _ => cb_1_4_4 | 5, _ => cb_1_4_5 | 6, _ => cb_1_4_6 | n + 7, hm => absurd hm (by omega)⟩
  | 0, 4, _, _ => ⟨bl_1_5, bl_5_1, fun m hm => match m, hm with | 0, _ => ca_1_5_0 | 1, _ => ca_1_5_1 | 2, _ => ca_1_5_2 | 3, _ => ca_1_5_3 | 4, _ => ca_1_5_4 | 5, _ => ca_1_5_5 | 6, _ => ca_1_5_6 | 7, _ => ca_1_5_7 | n + 8, hm => absurd hm (by omega), fun m hm => match m, hm with | 0, _ => ca_5_1_0 | 1, _ => ca_5_1_1 | 2, _ => ca_5_1_2 | 3, _ => ca_5_1_3 | 4, _ => ca_5_1_4 | 5, _ => ca_5_1_5 | 6, _ => ca_5_1_6 | 7, _ => ca_5_1_7 | n + 8, hm => absurd hm (by omega), fun _ h => absurd h (by omega)⟩
  | 1, 0, _, _ => ⟨bl_2_1, bl_1_2, fun m hm => match m, hm with | 0, _ => ca_2_1_0 | 1, _ => ca_2_1_1 | 2, _ => ca_2_1_2 | 3, _ => ca_2_1_3 | 4, _ => ca_2_1_4 | 5, _ => ca_2_1_5 | 6, _ => ca_2_1_6 | 7, _ => ca_2_1_7 | n + 8, hm => absurd hm (by omega), fun m hm => match m, hm with | 0, _ => ca_1_2_0 | 1, _ => ca_1_2_1 | 2, _ => ca_1_2_2 | 3, _ => ca_1_2_3 | 4, _ => ca_1_2_4 | 5, _ => ca_1_2_5 | 6, _ => ca_1_2_6 | 7, _ => ca_1_2_7 | n + 8, hm => absurd hm (by omega), fun _ _ => fun m hm => match m, hm with | 0, _ => cb_2_1_0 | 1, _ => cb_2_1_1 | 2, _ => cb_2_1_2 | 3, _ => cb_2_1_3 | 4, _ => cb_2_1_4 | 5, _ => cb_2_1_5 | 6, _ => cb_2_1_6 | n + 7, hm => absurd hm (by omega)⟩
  | 1, 1, _, _ => ⟨bl_2_2, bl_2_2, fun m hm => match m, hm with | 0, _ => ca_2_2_0 | 1, _ => ca_2_2_1 | 2, _ => ca_2_2_2 | 3, _ => ca_2_2_3 | 4, _ => ca_2_2_4 | 5, _ => ca_2_2_5 | 6, _ => ca_2_2_6 | 7, _ => ca_2_2_7 | n + 8, hm => absurd hm (by omega), fun m hm => match m, hm with | 0, _ => ca_2_2_0 | 1, _ => ca_2_2_1 | 2, _ => ca_2_2_2 | 3, _ => ca_2_2_3 | 4, _ => ca_2_2_4 | 5, _ => ca_2_2_5 | 6, _ => ca_2_2_6 | 7, _ => ca_2_2_7 | n + 8, hm => absurd hm (by omega), fun _ _ => fun m hm => match m, hm with | 0, _ => cb_2_2_0 | 1, _ => cb_2_2_1 | 2, _ => cb_2_2_2 | 3, _ => cb_2_2_3 | 4, _ => cb_2_2_4 | 5, _ => cb_2_2_5 | 6, _ => cb_2_2_6 | n + 7, hm => absurd hm (by omega)⟩
  | 1, 2, _, _ => ⟨bl_2_3, bl_3_2, fun m hm => match m, hm with | 0, _ => ca_2_3_0 | 1, _ => ca_2_3_1 | 2, _ => ca_2_3_2 | 3, _ => ca_2_3_3 | 4, _ => ca_2_3_4 | 5, _ => ca_2_3_5 | 6, _ => ca_2_3_6 | 7, _ => ca_2_3_7 | n + 8, hm => absurd hm (by omega), fun m hm => match m, hm with | 0, _ => ca_3_2_0 | 1, _ => ca_3_2_1 | 2, _ => ca_3_2_2 | 3, _ => ca_3_2_3 | 4, _ => ca_3_2_4 | 5, _ => ca_3_2_5 | 6, _ => ca_3_2_6 | 7, _ => ca_3_2_7 | n + 8, hm => absurd hm (by omega), fun _ _ => fun m hm => match m, hm with | 0, _ => cb_2_3_0 | 1, _ => cb_2_3_1 | 2, _ => cb_2_3_2 | 3, _ => cb_2_3_3 | 4, _ => cb_2_3_4 | 5, _ => cb_2_3_5 | 6, _ => cb_2_3_6 | n + 7, hm => absurd hm (by omega)⟩
  | 1, 3, _, _ => ⟨bl_2_4, bl_4_2, fun m hm => match m, hm with | 0, _ => ca_2_4_0 | 1, _ => ca_2_4_1 | 2, _ => ca_2_4_2 | 3, _ => ca_2_4_3 | 4, _ => ca_2_4_4 | 5, _ => ca_2_4_5 | 6, _ => ca_2_4_6 | 7, _ => ca_2_4_7 | n + 8, hm => absurd hm (by omega), fun m hm => match m, hm with | 0, _ => ca_4_2_0 | 1, _ => ca_4_2_1 | 2, _ => ca_4_2_2 | 3, _ => ca_4_2_3 | 4, _ => ca_4_2_4 | 5, _ => ca_4_2_5 | 6, _ => ca_4_2_6 | 7, _ => ca_4_2_7 | n + 8, hm => absurd hm (by omega), fun _ _ => fun m hm => match m, hm with | 0, _ => cb_2_4_0 | 1, _ => cb_2_4_1 | 2, _ => cb_2_4_2 | 3, _ => cb_2_4_3 | 4, _ => cb_2_4_4 | 5, _ => cb_2_4_5 | 6, _ => cb_2_4_6 | n + 7, hm => absurd hm (by omega)⟩
  | 1, 4, _, _ => ⟨bl_2_5, bl_5_2, fun m hm => match m, hm with | 0, _ => ca_2_5_0 | 1, _ => ca_2_5_1 | 2, _ => ca_2_5_2 | 3, _ => ca_2_5_3 | 4, _ => ca_2_5_4 | 5, _ => ca_2_5_5 | 6, _ => ca_2_5_6 | 7, _ => ca_2_5_7 | n + 8, hm => absurd hm (by omega), fun m hm => match m, hm with | 0, _ => ca_5_2_0 | 1, _ => ca_5_2_1 | 2, _ => ca_5_2_2 | 3, _ => ca_5_2_3 | 4, _ => ca_5_2_4 | 5, _ => ca_5_2_5 | 6, _ => ca_5_2_6 | 7, _ => ca_5_2_7 | n + 8, hm => absurd hm (by omega), fun _ h => absurd h (by omega)⟩
  | 2, 0, _, _ => ⟨bl_3_1, bl_1_3, fun m hm => match m, hm with | 0, _ => ca_3_1_0 | 1, _ => ca_3_1_1 | 2, _ => ca_3_1_2 | 3, _ => ca_3_1_3 | 4, _ => ca_3_1_4 | 5, _ => ca_3_1_5 | 6, _ => ca_3_1_6 | 7, _ => ca_3_1_7 | n + 8, hm => absurd hm (by omega), fun m hm => match m, hm with | 0, _ => ca_1_3_0 | 1, _ => ca_1_3_1 | 2, _ => ca_1_3_2 | 3, _ => ca_1_3_3 | 4, _ => ca_1_3_4 | 5, _ => ca_1_3_5 | 6, _ => ca_1_3_6 | 7, _ => ca_1_3_7 | n + 8, hm => absurd hm (by omega), fun _ _ => fun m hm => match m, hm with | 0, _ => cb_3_1_0 | 1, _ => cb_3_1_1 | 2, _ => cb_3_1_2 | 3, _ => cb_3_1_3 | 4, _ => cb_3_1_4 | 5, _ => cb_3_1_5 | 6, _ => cb_3_1_6 | n + 7, hm => absurd hm (by omega)⟩
  | 2, 1, _, _ => ⟨bl_3_2, bl_2_3, fun m hm => match m, hm with | 0, _ => ca_3_2_0 | 1, _ => ca_3_2_1 | 2, _ => ca_3_2_2 | 3, _ => ca_3_2_3 | 4, _ => ca_3_2_4 | 5, _ => ca_3_2_5 | 6, _ => ca_3_2_6 | 7, _ => ca_3_2_7 | n + 8, hm => absurd hm (by omega), fun m hm => match m, hm with | 0, _ => ca_2_3_0 | 1, _ => ca_2_3_1 | 2, _ => ca_2_3_2 | 3, _ => ca_2_3_3 | 4, _ => ca_2_3_4 | 5, _ => ca_2_3_5 | 6, _ => ca_2_3_6 | 7, _ => ca_2_3_7 | n + 8, hm => absurd hm (by omega), fun _ _ => fun m hm => match m, hm with | 0, _ => cb_3_2_0 | 1, _ => cb_3_2_1 | 2, _ => cb_3_2_2 | 3, _ => cb_3_2_3 | 4, _ => cb_3_2_4 | 5, _ => cb_3_2_5 | 6, _ => cb_3_2_6 | n + 7, hm => absurd hm (by omega)⟩
  | 2, 2, _, _ => ⟨bl_3_3, bl_3_3, fun m hm => match m, hm with | 0, _ => ca_3_3_0 | 1, _ => ca_3_3_1 | 2, _ => ca_3_3_2 | 3, _ => ca_3_3_3 | 4, _ => ca_3_3_4 | 5, _ => ca_3_3_5 | 6, _ => ca_3_3_6 | 7, _ => ca_3_3_7 | n + 8, hm => absurd hm (by omega), fun m hm => match m, hm with | 0, _ => ca_3_3_0 | 1, _ => ca_3_3_1 | 2, _ => ca_3_3_2 | 3, _ => ca_3_3_3 | 4, _ => ca_3_3_4 | 5, _ => ca_3_3_5 | 6, _ => ca_3_3_6 | 7, _ => ca_3_3_7 | n + 8, hm => absurd hm (by omega), fun _ _ => fun m hm => match m, hm with | 0, _ => cb_3_3_0 | 1, _ => cb_3_3_1 | 2, _ => cb_3_3_2 | 3, _ => cb_3_3_3 | 4, _ => cb_3_3_4 | 5, _ => cb_3_3_5 | 6, _ => cb_3_3_6 | n + 7, hm => absurd hm (by omega)⟩
  | 2, 3, _, _ => ⟨bl_3_4, bl_4_3, fun m hm => match m, hm with | 0, _ => ca_3_4_0 | 1, _ => ca_3_4_1 | 2, _ => ca_3_4_2 | 3, _ => ca_3_4_3 | 4, _ => ca_3_4_4 | 5, _ => ca_3_4_5 | 6, _ => ca_3_4_6 | 7, _ => ca_3_4_7 | n + 8, hm => absurd hm (by omega), fun m hm => match m, hm with | 0, _ => ca_4_3_0 | 1, _ => ca_4_3_1 | 2, _ => ca_4_3_2 | 3, _ => ca_4_3_3 | 4, _ => ca_4_3_4 | 5, _ => ca_4_3_5 | 6, _ => ca_4_3_6 | 7, _ => ca_4_3_7 | n + 8, hm => absurd hm (by omega), fun _ _ => fun m hm => match m, hm with | 0, _ => cb_3_4_0 | 1, _ => cb_3_4_1 | 2, _ => cb_3_4_2 | 3, _ => cb_3_4_3 | 4, _ => cb_3_4_4 | 5, _ => cb_3_4_5 | 6, _ => cb_3_4_6 | n + 7, hm => absurd hm (by omega)⟩
  | 2, 4, _, _ => ⟨bl_3_5, bl_5_3, fun m hm => match m, hm with | 0, _ => ca_3_5_0 | 1, _ => ca_3_5_1 | 2, _ => ca_3_5_2 | 3, _ => ca_3_5_3 | 4, _ => ca_3_5_4 | 5, _ => ca_3_5_5 | 6, _ => ca_3_5_6 | 7, _ => ca_3_5_7 | n + 8, hm => absurd hm (by omega), fun m hm => match m, hm with | 0, _ => ca_5_3_0 | 1, _ => ca_5_3_1 | 2, _ => ca_5_3_2 | 3, _ => ca_5_3_3 | 4, _ => ca_5_3_4 | 5, _ => ca_5_3_5 | 6, _ => ca_5_3_6 | 7, _ => ca_5_3_7 | n + 8, hm => absurd hm (by omega), fun _ h => absurd h (by omega)⟩
  | 3, 0, _, _ => ⟨bl_4_1, bl_1_4, fun m hm => match m, hm with | 0, _ => ca_4_1_0 | 1, _ => ca_4_1_1 | 2, _ => ca_4_1_2 | 3, _ => ca_4_1_3 | 4, _ => ca_4_1_4 | 5, _ => ca_4_1_5 | 6, _ => ca_4_1_6 | 7, _ => ca_4_1_7 | n + 8, hm => absurd hm (by omega), fun m hm => match m, hm with | 0, _ => ca_1_4_0 | 1, _ => ca_1_4_1 | 2, _ => ca_1_4_2 | 3, _ => ca_1_4_3 | 4, _ => ca_1_4_4 | 5, _ => ca_1_4_5 | 6, _ => ca_1_4_6 | 7, _ => ca_1_4_7 | n + 8, hm => absurd hm (by omega), fun _ _ => fun m hm => match m, hm with | 0, _ => cb_4_1_0 | 1, _ => cb_4_1_1 | 2, _ => cb_4_1_2 | 3, _ => cb_4_1_3 | 4, _ => cb_4_1_4 | 5, _ => cb_4_1_5 | 6, _ => cb_4_1_6 | n + 7, hm => absurd hm (by omega)⟩
  | 3, 1, _, _ => ⟨bl_4_2, bl_2_4, fun m hm => match m, hm with | 0, _ => ca_4_2_0 | 1, _ => ca_4_2_1 | 2, _ => ca_4_2_2 | 3, _ => ca_4_2_3 | 4, _ => ca_4_2_4 | 5, _ => ca_4_2_5 | 6, _ => ca_4_2_6 | 7, _ => ca_4_2_7 | n + 8, hm => absurd hm (by omega), fun m hm => match m, hm with | 0, _ => ca_2_4_0 | 1, _ => ca_2_4_1 | 2, _ => ca_2_4_2 | 3, _ => ca_2_4_3 | 4, _ => ca_2_4_4 | 5, _ => ca_2_4_5 | 6, _ => ca_2_4_6 | 7, _ => ca_2_4_7 | n + 8, hm => absurd hm (by omega), fun _ _ => fun m hm => match m, hm with | 0, _ => cb_4_2_0 | 1, _ => cb_4_2_1 | 2, _ => cb_4_2_2 | 3, _ => cb_4_2_3 | 4, _ => cb_4_2_4 | 5, _ => cb_4_2_5 | 6, _ => cb_4_2_6 | n + 7, hm => absurd hm (by omega)⟩
  | 3, 2, _, _ => ⟨bl_4_3, bl_3_4, fun m hm => match m, hm with | 0, _ => ca_4_3_0 | 1, _ => ca_4_3_1 | 2, _ => ca_4_3_2 | 3, _ => ca_4_3_3 | 4, _ => ca_4_3_4 | 5, _ => ca_4_3_5 | 6, _ => ca_4_3_6 | 7, _ => ca_4_3_7 | n + 8, hm => absurd hm (by omega), fun m hm => match m, hm with | 0, _ => ca_3_4_0 | 1, _ => ca_3_4_1 | 2, _ => ca_3_4_2 | 3, _ => ca_3_4_3 | 4, _ => ca_3_4_4 | 5, _ => ca_3_4_5 | 6, _ => ca_3_4_6 | 7, _ => ca_3_4_7 | n + 8, hm => absurd hm (by omega), fun _ _ => fun m hm => match m, hm with | 0, _ => cb_4_3_0 | 1, _ => cb_4_3_1 | 2, _ => cb_4_3_2 | 3, _ => cb_4_3_3 | 4, _ => cb_4_3_4 | 5, _ => cb_4_3_5 | 6, _ => cb_4_3_6 | n + 7, hm => absurd hm (by omega)⟩
  | 3, 3, _, _ => ⟨bl_4_4, bl_4_4, fun m hm => match m, hm with | 0, _ => ca_4_4_0 | 1, _ => ca_4_4_1 | 2, _ => ca_4_4_2 | 3, _ => ca_4_4_3 | 4, _ => ca_4_4_4 | 5, _ => ca_4_4_5 | 6, _ => ca_4_4_6 | 7, _ => ca_4_4_7 | n + 8, hm => absurd hm (by omega), fun m hm => match m, hm with | 0, _ => ca_4_4_0 | 1, _ => ca_4_4_1 | 2, _ => ca_4_4_2 | 3, _ => ca_4_4_3 | 4, _ => ca_4_4_4 | 5, _ => ca_4_4_5 | 6, _ => ca_4_4_6 | 7, _ => ca_4_4_7 | n + 8, hm => absurd hm (by omega), fun _ _ => fun m hm => match m, hm with | 0, _ => cb_4_4_0 | 1, _ => cb_4_4_1 | 2, _ => cb_4_4_2 | 3, _ => cb_4_4_3 | 4, _ => cb_4_4_4 | 5, _ => cb_4_4_5 | 6, _ => cb_4_4_6 | n + 7, hm => absurd hm (by omega)⟩
  | 3, 4, _, _ => ⟨bl_4_5, bl_5_4, fun m hm => match m, hm with | 0, _ => ca_4_5_0 | 1, _ => ca_4_5_1 | 2, _ => ca_4_5_2 | 3, _ => ca_4_5_3 | 4, _ => ca_4_5_4 | 5, _ => ca_4_5_5 | 6, _ => ca_4_5_6 | 7, _ => ca_4_5_7 | n + 8, hm => absurd hm (by omega), fun m hm => match m, hm with | 0, _ => ca_5_4_0 | 1, _ => ca_5_4_1 | 2, _ => ca_5_4_2 | 3, _ => ca_5_4_3 | 4, _ => ca_5_4_4 | 5, _ => ca_5_4_5 | 6, _ => ca_5_4_6 | 7, _ => ca_5_4_7 | n + 8, hm => absurd hm (by omega), fun _ h => absurd h (by omega)⟩
  | 4, 0, _, _ => ⟨bl_5_1, bl_1_5, fun m hm => match m, hm with | 0, _ => ca_5_1_0 | 1, _ => ca_5_1_1 | 2, _ => ca_5_1_2 | 3, _ => ca_5_1_3 | 4, _ => ca_5_1_4 | 5, _ => ca_5_1_5 | 6, _ => ca_5_1_6 | 7, _ => ca_5_1_7 | n + 8, hm => absurd hm (by omega), fun m hm => match m, hm with | 0, _ => ca_1_5_0 | 1, _ => ca_1_5_1 | 2, _ => ca_1_5_2 | 3, _ => ca_1_5_3 | 4, _ => ca_1_5_4 | 5, _ => ca_1_5_5 | 6, _ => ca_1_5_6 | 7, _ => ca_1_5_7 | n + 8, hm => absurd hm (by omega), fun h _ => absurd h (by omega)⟩
  | 4, 1, _, _ => ⟨bl_5_2, bl_2_5, fun m hm => match m, hm with | 0, _ => ca_5_2_0 | 1, _ => ca_5_2_1 | 2, _ => ca_5_2_2 | 3, _ => ca_5_2_3 | 4, _ => ca_5_2_4 | 5, _ => ca_5_2_5 | 6, _ => ca_5_2_6 | 7, _ => ca_5_2_7 | n + 8, hm => absurd hm (by omega), fun m hm => match m, hm with | 0, _ => ca_2_5_0 | 1, _ => ca_2_5_1 | 2, _ => ca_2_5_2 | 3, _ => ca_2_5_3 | 4, _ => ca_2_5_4 | 5, _ => ca_2_5_5 | 6, _ => ca_2_5_6 | 7, _ => ca_2_5_7 | n + 8, hm => absurd hm (by omega), fun h _ => absurd h (by omega)⟩
  | 4, 2, _, _ => ⟨bl_5_3, bl_3_5, fun m hm => match m, hm with | 0, _ => ca_5_3_0 | 1, _ => ca_5_3_1 | 2, _ => ca_5_3_2 | 3, _ => ca_5_3_3 | 4, _ => ca_5_3_4 | 5, _ => ca_5_3_5 | 6, _ => ca_5_3_6 | 7, _ => ca_5_3_7 | n + 8, hm => absurd hm (by omega), fun m hm => match m, hm with | 0, _ => ca_3_5_0 | 1, _ => ca_3_5_1 | 2, _ => ca_3_5_2 | 3, _ => ca_3_5_3 | 4, _ => ca_3_5_4 | 5, _ => ca_3_5_5 | 6, _ => ca_3_5_6 | 7, _ => ca_3_5_7 | n + 8, hm => absurd hm (by omega), fun h _ => absurd h (by omega)⟩
  | 4, 3, _, _ => ⟨bl_5_4, bl_4_5, fun m hm => match m, hm with | 0, _ => ca_5_4_0 | 1, _ => ca_5_4_1 | 2, _ => ca_5_4_2 | 3, _ => ca_5_4_3 | 4, _ => ca_5_4_4 | 5, _ => ca_5_4_5 | 6, _ => ca_5_4_6 | 7, _ => ca_5_4_7 | n + 8, hm => absurd hm (by omega), fun m hm => match m, hm with | 0, _ => ca_4_5_0 | 1, _ => ca_4_5_1 | 2, _ => ca_4_5_2 | 3, _ => ca_4_5_3 | 4, _ => ca_4_5_4 | 5, _ => ca_4_5_5 | 6, _ => ca_4_5_6 | 7, _ => ca_4_5_7 | n + 8, hm => absurd hm (by omega), fun h _ => absurd h (by omega)⟩
  | 4, 4, _, _ => ⟨bl_5_5, bl_5_5, fun m hm => match m, hm with | 0, _ => ca_5_5_0 | 1, _ => ca_5_5_1 | 2, _ => ca_5_5_2 | 3, _ => ca_5_5_3 | 4, _ => ca_5_5_4 | 5, _ => ca_5_5_5 | 6, _ => ca_5_5_6 | 7, _ => ca_5_5_7 | n + 8, hm => absurd hm (by omega), fun m hm => match m, hm with | 0, _ => ca_5_5_0 | 1, _ => ca_5_5_1 | 2, _ => ca_5_5_2 | 3, _ => ca_5_5_3 | 4, _ => ca_5_5_4 | 5, _ => ca_5_5_5 | 6, _ => ca_5_5_6 | 7, _ => ca_5_5_7 | n + 8, hm => absurd hm (by omega), fun h _ => absurd h (by omega)⟩
  | n + 5, _, h, _ => absurd h (by omega)
  | _, n + 5, _, h => absurd h (by omega)
def restC : SM4 := sSeq (sSet 7 (eCall 3 m_all_codes (aCons (eV 1) (aCons (eV 2) (aCons (eV 3) (aNil)))))) (sSeq (sIf (tOrM (tNotM (tTru (eIsi .tup (eV 7)))) (asB (eOp neD (eFrz (nB lstB (aCons (eV 7) (aNil)))) (eFrz (nB sortSTB (aCons (eV 7) (aNil))))))) (sRet (eC (.bl false))) (sNext)) (sSeq (sIf (tNotM (tTru (eB allB (aCons (eFrz (nComp [8] (iSeq (eV 7)) (gSet 8) (noTest) (eCall 4 m_l_row (aCons (eV 8) (aCons (eV 1) (aCons (eV 2) (aCons (eV 3) (aNil)))))))) (aNil))))) (sRet (eC (.bl false))) (sNext)) (sSeq (sIf (tAndM (asB (eOp gtD (eV 4) (eC (.int 2)))) (asB (eOp neD (eFrz (nB lstB (aCons (eV 7) (aNil)))) (eCall 3 m_l_book (aCons (eV 1) (aCons (eV 2) (aCons (eV 3) (aNil)))))))) (sRet (eC (.bl false))) (sNext)) (sRet (eOp eqD (eB lenB (aCons (eCall 3 m_all_codes (aCons (eV 2) (aCons (eV 1) (aCons (eV 3) (aNil))))) (aNil))) (eB lenB (aCons (eV 7) (aNil))))))))
def restB : SM4 := sSeq (sIf (asB (eOp ltD (eV 4) (eC (.int 3)))) (sSeq (sSet 1 (eOp addD (eC (.int 1)) (eOp modD (eCall 2 m_l_cell_at (aCons (eV 0) (aCons (eC (.int 0)) (aNil)))) (eC (.int 5))))) (sSeq (sSet 2 (eOp addD (eC (.int 1)) (eOp modD (eCall 2 m_l_cell_at (aCons (eV 0) (aCons (eC (.int 1)) (aNil)))) (eC (.int 5))))) (sSet 3 (eOp modD (eCall 2 m_l_cell_at (aCons (eV 0) (aCons (eC (.int 2)) (aNil)))) (eC (.int 8)))))) (sNext)) restC
def restA : SM4 := sSeq (sIf (asB (eOp eqD (eV 4) (eC (.int 0)))) (sSeq (sSet 6 (eOp modD (eV 5) (eC (.int 3)))) (sSeq (sSet 1 (eOp ixD (eFrz (nLst (aCons (eV 1) (aCons (eC (.int 0)) (aCons (eC (.int 6)) (aCons (eC (.int 7)) (aCons (eUn negD (eC (.int 1))) (aCons (eUn negD (eC (.int 5))) (aNil))))))))) (eOp mulD (eOp addD (eC (.int 1)) (eOp modD (eOp fdivD (eV 5) (eC (.int 3))) (eC (.int 5)))) (eB intB (aCons (eOp eqD (eV 6) (eC (.int 0))) (aNil)))))) (sSeq (sSet 2 (eOp ixD (eFrz (nLst (aCons (eV 2) (aCons (eC (.int 0)) (aCons (eC (.int 6)) (aCons (eC (.int 7)) (aCons (eUn negD (eC (.int 1))) (aCons (eUn negD (eC (.int 5))) (aNil))))))))) (eOp mulD (eOp addD (eC (.int 1)) (eOp modD (eOp fdivD (eV 5) (eC (.int 3))) (eC (.int 5)))) (eB intB (aCons (eOp eqD (eV 6) (eC (.int 1))) (aNil)))))) (sSeq (sSet 3 (eOp ixD (eFrz (nLst (aCons (eV 3) (aCons (eC (.int 8)) (aCons (eC (.int 9)) (aCons (eUn negD (eC (.int 1))) (aCons (eC (.int 60)) (aCons (eUn negD (eC (.int 7))) (aNil))))))))) (eOp mulD (eOp addD (eC (.int 1)) (eOp modD (eOp fdivD (eV 5) (eC (.int 3))) (eC (.int 5)))) (eB intB (aCons (eOp eqD (eV 6) (eC (.int 2))) (aNil)))))) (sRet (eCall 3 m_l_beyond (aCons (eV 1) (aCons (eV 2) (aCons (eV 3) (aNil)))))))))) (sNext)) restB
theorem b_law_eq : b_law = sSeq (sSet 1 (eOp addD (eC (.int 1)) (eOp modD (eCall 2 m_l_cell_at (aCons (eV 0) (aCons (eC (.int 0)) (aNil)))) (eC (.int 4))))) (sSeq (sSet 2 (eOp addD (eC (.int 1)) (eOp modD (eCall 2 m_l_cell_at (aCons (eV 0) (aCons (eC (.int 1)) (aNil)))) (eC (.int 4))))) (sSeq (sSet 3 (eOp modD (eCall 2 m_l_cell_at (aCons (eV 0) (aCons (eC (.int 2)) (aNil)))) (eC (.int 7)))) (sSeq (sSet 4 (eOp modD (eCall 2 m_l_cell_at (aCons (eV 0) (aCons (eC (.int 3)) (aNil)))) (eC (.int 6)))) (sSeq (sSet 5 (eCall 2 m_l_cell_at (aCons (eV 0) (aCons (eC (.int 4)) (aNil))))) (restA))))) := rfl
def cellv (ns : List Int) (k : Nat) : Int := ((if k < ns.length then ns.getD k 0 % 1000000000000000000 else 0) * 48271 + 16807 * k) % 2147483647 * 69621 % 2147483629
theorem cellv_nn (ns : List Int) (k : Nat) : 0 ≤ cellv ns k := by
  unfold cellv
  omega
theorem cellv_lt (ns : List Int) (k : Nat) : cellv ns k < 2147483629 := by
  unfold cellv
  omega
theorem get_D {ns : List Int} {k : Nat} (h : k < ns.length) : ns[k]? = some (ns.getD k 0) := by
  rw [List.getD_eq_getElem?_getD, List.getElem?_eq_getElem h]; rfl
def c3 : SM4 := sRet (eOp modD (eOp mulD (eOp modD (eOp addD (eOp mulD (eV 2) (eC (.int 48271))) (eOp mulD (eC (.int 16807)) (eV 1))) (eC (.int 2147483647))) (eC (.int 69621))) (eC (.int 2147483629)))
theorem cell_eq {ns : List Int} {k : Nat} {i : Int} {st : Sto} (hi : i = (k : Int)) (hk : k < 1000) : m_l_cell_at [.scr ns, .int i] st = .ok (.int (cellv ns k)) st := by
  subst hi
  have hb : b_l_cell_at = sSeq (sSet 2 (eC (.int 0))) (sSeq (sIf (asB (eOp ltD (eV 1) (eB lenB (aCons (eV 0) (aNil))))) (sSet 2 (eOp modD (eOp ixD (eV 0) (eV 1)) (eOp powD (eC (.int 10)) (eC (.int 18))))) (sNext)) c3) := rfl
  show fin true st (b_l_cell_at [some (.scr ns), some (.int k), none] st) = _
  rw [hb]
  have p18 : powD (.int 10) (.int 18) st = .ok (.int 1000000000000000000) st := rfl
  have tail : ∀ c : Int, 0 ≤ c → c < 1000000000000000000 → fin true st (c3 [some (.scr ns), some (.int k), some (.int c)] st) =
      .ok (.int ((c * 48271 + 16807 * k) % 2147483647 * 69621 % 2147483629)) st := by
    intro c c0 c1
    unfold c3
    simp only [aCons_o2, aCons_o1, aCons_ap, eTup_o1, eTup_ap, nLst_o1, nLst_ap, eFrz_o1, eFrz_ap, eNew_o1, eNew_ap, eOp_o2, eOp_o1, eOp_ap, tNotM_o1, tNotM_ap, sDrop_o1, sDrop_ap, sRet_o1, sRet_ap, sSet_o1, sSet_ap, sPut_o3, sPut_o2, sPut_o1, sPut_ap, nSl_o3, nSl_o2, nSl_o1, nSl_ap, eSl_o3, eSl_o2, eSl_o1, eSl_ap, nCat_o2, nCat_o1, nCat_ap, nRep_o2, nRep_o1, nRep_ap, sFor_o1, sFor_ap, nComp_o1, nComp_ap, eCall_o1, eCall_ap, rOne_o1, rOne_ap, rTwo_o2, rTwo_o1, rTwo_ap, iRevR_o1, iRevR_ap, nRng_o1, nRng_ap, iSeq_o1, iSeq_ap, iRev_o1, iRev_ap, eIsi_o1, eIsi_ap, eC_ap, aNil_ap, sNext_ap, sSeq_ap, sRetN_ap, tTru_ap, eUn_ap, eB_ap, nB_ap, noTest_ap, eDNew_ap, oNo_ap, gSet_ap, gsNil_ap, gsCons_ap, gsCons_o, gTupM_ap, sAsg_ap, sAsg_o1, sAsg_o2, sWhile_ap, asB_ap, asB_o, tAndM_ap, tAndM_t, tAndM_f, tOrM_ap, tOrM_t, tOrM_f, sIf_ap, sIf_t, sIf_f, eIf_ap, eIf_t, eIf_f, eAnd_ap, eAnd_o, eAnd_t, eAnd_f, eOr_ap, eOr_o, eOr_t, eOr_f, eNot_ap, eNot_o1, eNot_o2, oSome_ap, oSome_o, eChain_ap, eChain_o1, eChain_o2, eChain_t, eChain_f, eChain_o4, eChain3_ap, eChain3_o1, eChain3_o2, eChain3_t, eChain3_f, eChain3_o4, iEnum_ap, iZip_ap, eMt_ap, eMt_o2, isLst_lst, eTupRg_ap, eTupRg_o, ixt0, ixt1, ixt2, ixt3, ixt4, negD_i, slD_lst, eV_0, eV_s, Res.bind_ok, Res.bind_ex, Res.bind_bad, Res.on_ok, Res.on_ex, Res.on_bad, SRes.bind_nx, SRes.bind_rt, SRes.bind_ex, SRes.bind_bad, List.set_cons_zero, List.set_cons_succ, addD_i, subD_i, ltD_i, leD_i, gtD_i, geD_i, eqD_i, neD_i, lenB_scr, lenB_lst, lenB_tup, truD, tyD, Ty.le, isD, isntD, isNon, killE, List.foldl_cons, List.foldl_nil, List.length_cons, List.length_nil, Nat.reduceAdd, Nat.zero_add, Nat.reduceLeDiff, if_true, if_false, Bool.false_eq_true, Bool.not_true, Bool.not_false]
    rw [mulD_s ⟨by omega, by omega⟩ ⟨by omega, by omega⟩]
    simp only [aCons_o2, aCons_o1, aCons_ap, eTup_o1, eTup_ap, nLst_o1, nLst_ap, eFrz_o1, eFrz_ap, eNew_o1, eNew_ap, eOp_o2, eOp_o1, eOp_ap, tNotM_o1, tNotM_ap, sDrop_o1, sDrop_ap, sRet_o1, sRet_ap, sSet_o1, sSet_ap, sPut_o3, sPut_o2, sPut_o1, sPut_ap, nSl_o3, nSl_o2, nSl_o1, nSl_ap, eSl_o3, eSl_o2, eSl_o1, eSl_ap, nCat_o2, nCat_o1, nCat_ap, nRep_o2, nRep_o1, nRep_ap, sFor_o1, sFor_ap, nComp_o1, nComp_ap, eCall_o1, eCall_ap, rOne_o1, rOne_ap, rTwo_o2, rTwo_o1, rTwo_ap, iRevR_o1, iRevR_ap, nRng_o1, nRng_ap, iSeq_o1, iSeq_ap, iRev_o1, iRev_ap, eIsi_o1, eIsi_ap, eC_ap, aNil_ap, sNext_ap, sSeq_ap, sRetN_ap, tTru_ap, eUn_ap, eB_ap, nB_ap, noTest_ap, eDNew_ap, oNo_ap, gSet_ap, gsNil_ap, gsCons_ap, gsCons_o, gTupM_ap, sAsg_ap, sAsg_o1, sAsg_o2, sWhile_ap, asB_ap, asB_o, tAndM_ap, tAndM_t, tAndM_f, tOrM_ap, tOrM_t, tOrM_f, sIf_ap, sIf_t, sIf_f, eIf_ap, eIf_t, eIf_f, eAnd_ap, eAnd_o, eAnd_t, eAnd_f, eOr_ap, eOr_o, eOr_t, eOr_f, eNot_ap, eNot_o1, eNot_o2, oSome_ap, oSome_o, eChain_ap, eChain_o1, eChain_o2, eChain_t, eChain_f, eChain_o4, eChain3_ap, eChain3_o1, eChain3_o2, eChain3_t, eChain3_f, eChain3_o4, iEnum_ap, iZip_ap, eMt_ap, eMt_o2, isLst_lst, eTupRg_ap, eTupRg_o, ixt0, ixt1, ixt2, ixt3, ixt4, negD_i, slD_lst, eV_0, eV_s, Res.bind_ok, Res.bind_ex, Res.bind_bad, Res.on_ok, Res.on_ex, Res.on_bad, SRes.bind_nx, SRes.bind_rt, SRes.bind_ex, SRes.bind_bad, List.set_cons_zero, List.set_cons_succ, addD_i, subD_i, ltD_i, leD_i, gtD_i, geD_i, eqD_i, neD_i, lenB_scr, lenB_lst, lenB_tup, truD, tyD, Ty.le, isD, isntD, isNon, killE, List.foldl_cons, List.foldl_nil, List.length_cons, List.length_nil, Nat.reduceAdd, Nat.zero_add, Nat.reduceLeDiff, if_true, if_false, Bool.false_eq_true, Bool.not_true, Bool.not_false]
    rw [mulD_s ⟨by omega, by omega⟩ ⟨by omega, by omega⟩]
    simp only [aCons_o2, aCons_o1, aCons_ap, eTup_o1, eTup_ap, nLst_o1, nLst_ap, eFrz_o1, eFrz_ap, eNew_o1, eNew_ap, eOp_o2, eOp_o1, eOp_ap, tNotM_o1, tNotM_ap, sDrop_o1, sDrop_ap, sRet_o1, sRet_ap, sSet_o1, sSet_ap, sPut_o3, sPut_o2, sPut_o1, sPut_ap, nSl_o3, nSl_o2, nSl_o1, nSl_ap, eSl_o3, eSl_o2, eSl_o1, eSl_ap, nCat_o2, nCat_o1, nCat_ap, nRep_o2, nRep_o1, nRep_ap, sFor_o1, sFor_ap, nComp_o1, nComp_ap, eCall_o1, eCall_ap, rOne_o1, rOne_ap, rTwo_o2, rTwo_o1, rTwo_ap, iRevR_o1, iRevR_ap, nRng_o1, nRng_ap, iSeq_o1, iSeq_ap, iRev_o1, iRev_ap, eIsi_o1, eIsi_ap, eC_ap, aNil_ap, sNext_ap, sSeq_ap, sRetN_ap, tTru_ap, eUn_ap, eB_ap, nB_ap, noTest_ap, eDNew_ap, oNo_ap, gSet_ap, gsNil_ap, gsCons_ap, gsCons_o, gTupM_ap, sAsg_ap, sAsg_o1, sAsg_o2, sWhile_ap, asB_ap, asB_o, tAndM_ap, tAndM_t, tAndM_f, tOrM_ap, tOrM_t, tOrM_f, sIf_ap, sIf_t, sIf_f, eIf_ap, eIf_t, eIf_f, eAnd_ap, eAnd_o, eAnd_t, eAnd_f, eOr_ap, eOr_o, eOr_t, eOr_f, eNot_ap, eNot_o1, eNot_o2, oSome_ap, oSome_o, eChain_ap, eChain_o1, eChain_o2, eChain_t, eChain_f, eChain_o4, eChain3_ap, eChain3_o1, eChain3_o2, eChain3_t, eChain3_f, eChain3_o4, iEnum_ap, iZip_ap, eMt_ap, eMt_o2, isLst_lst, eTupRg_ap, eTupRg_o, ixt0, ixt1, ixt2, ixt3, ixt4, negD_i, slD_lst, eV_0, eV_s, Res.bind_ok, Res.bind_ex, Res.bind_bad, Res.on_ok, Res.on_ex, Res.on_bad, SRes.bind_nx, SRes.bind_rt, SRes.bind_ex, SRes.bind_bad, List.set_cons_zero, List.set_cons_succ, addD_i, subD_i, ltD_i, leD_i, gtD_i, geD_i, eqD_i, neD_i, lenB_scr, lenB_lst, lenB_tup, truD, tyD, Ty.le, isD, isntD, isNon, killE, List.foldl_cons, List.foldl_nil, List.length_cons, List.length_nil, Nat.reduceAdd, Nat.zero_add, Nat.reduceLeDiff, if_true, if_false, Bool.false_eq_true, Bool.not_true, Bool.not_false]
    rw [modD_i (by omega)]
    simp only [aCons_o2, aCons_o1, aCons_ap, eTup_o1, eTup_ap, nLst_o1, nLst_ap, eFrz_o1, eFrz_ap, eNew_o1, eNew_ap, eOp_o2, eOp_o1, eOp_ap, tNotM_o1, tNotM_ap, sDrop_o1, sDrop_ap, sRet_o1, sRet_ap, sSet_o1, sSet_ap, sPut_o3, sPut_o2, sPut_o1, sPut_ap, nSl_o3, nSl_o2, nSl_o1, nSl_ap, eSl_o3, eSl_o2, eSl_o1, eSl_ap, nCat_o2, nCat_o1, nCat_ap, nRep_o2, nRep_o1, nRep_ap, sFor_o1, sFor_ap, nComp_o1, nComp_ap, eCall_o1, eCall_ap, rOne_o1, rOne_ap, rTwo_o2, rTwo_o1, rTwo_ap, iRevR_o1, iRevR_ap, nRng_o1, nRng_ap, iSeq_o1, iSeq_ap, iRev_o1, iRev_ap, eIsi_o1, eIsi_ap, eC_ap, aNil_ap, sNext_ap, sSeq_ap, sRetN_ap, tTru_ap, eUn_ap, eB_ap, nB_ap, noTest_ap, eDNew_ap, oNo_ap, gSet_ap, gsNil_ap, gsCons_ap, gsCons_o, gTupM_ap, sAsg_ap, sAsg_o1, sAsg_o2, sWhile_ap, asB_ap, asB_o, tAndM_ap, tAndM_t, tAndM_f, tOrM_ap, tOrM_t, tOrM_f, sIf_ap, sIf_t, sIf_f, eIf_ap, eIf_t, eIf_f, eAnd_ap, eAnd_o, eAnd_t, eAnd_f, eOr_ap, eOr_o, eOr_t, eOr_f, eNot_ap, eNot_o1, eNot_o2, oSome_ap, oSome_o, eChain_ap, eChain_o1, eChain_o2, eChain_t, eChain_f, eChain_o4, eChain3_ap, eChain3_o1, eChain3_o2, eChain3_t, eChain3_f, eChain3_o4, iEnum_ap, iZip_ap, eMt_ap, eMt_o2, isLst_lst, eTupRg_ap, eTupRg_o, ixt0, ixt1, ixt2, ixt3, ixt4, negD_i, slD_lst, eV_0, eV_s, Res.bind_ok, Res.bind_ex, Res.bind_bad, Res.on_ok, Res.on_ex, Res.on_bad, SRes.bind_nx, SRes.bind_rt, SRes.bind_ex, SRes.bind_bad, List.set_cons_zero, List.set_cons_succ, addD_i, subD_i, ltD_i, leD_i, gtD_i, geD_i, eqD_i, neD_i, lenB_scr, lenB_lst, lenB_tup, truD, tyD, Ty.le, isD, isntD, isNon, killE, List.foldl_cons, List.foldl_nil, List.length_cons, List.length_nil, Nat.reduceAdd, Nat.zero_add, Nat.reduceLeDiff, if_true, if_false, Bool.false_eq_true, Bool.not_true, Bool.not_false]
    rw [mulD_s ⟨by omega, by omega⟩ ⟨by omega, by omega⟩]
    simp only [aCons_o2, aCons_o1, aCons_ap, eTup_o1, eTup_ap, nLst_o1, nLst_ap, eFrz_o1, eFrz_ap, eNew_o1, eNew_ap, eOp_o2, eOp_o1, eOp_ap, tNotM_o1, tNotM_ap, sDrop_o1, sDrop_ap, sRet_o1, sRet_ap, sSet_o1, sSet_ap, sPut_o3, sPut_o2, sPut_o1, sPut_ap, nSl_o3, nSl_o2, nSl_o1, nSl_ap, eSl_o3, eSl_o2, eSl_o1, eSl_ap, nCat_o2, nCat_o1, nCat_ap, nRep_o2, nRep_o1, nRep_ap, sFor_o1, sFor_ap, nComp_o1, nComp_ap, eCall_o1, eCall_ap, rOne_o1, rOne_ap, rTwo_o2, rTwo_o1, rTwo_ap, iRevR_o1, iRevR_ap, nRng_o1, nRng_ap, iSeq_o1, iSeq_ap, iRev_o1, iRev_ap, eIsi_o1, eIsi_ap, eC_ap, aNil_ap, sNext_ap, sSeq_ap, sRetN_ap, tTru_ap, eUn_ap, eB_ap, nB_ap, noTest_ap, eDNew_ap, oNo_ap, gSet_ap, gsNil_ap, gsCons_ap, gsCons_o, gTupM_ap, sAsg_ap, sAsg_o1, sAsg_o2, sWhile_ap, asB_ap, asB_o, tAndM_ap, tAndM_t, tAndM_f, tOrM_ap, tOrM_t, tOrM_f, sIf_ap, sIf_t, sIf_f, eIf_ap, eIf_t, eIf_f, eAnd_ap, eAnd_o, eAnd_t, eAnd_f, eOr_ap, eOr_o, eOr_t, eOr_f, eNot_ap, eNot_o1, eNot_o2, oSome_ap, oSome_o, eChain_ap, eChain_o1, eChain_o2, eChain_t, eChain_f, eChain_o4, eChain3_ap, eChain3_o1, eChain3_o2, eChain3_t, eChain3_f, eChain3_o4, iEnum_ap, iZip_ap, eMt_ap, eMt_o2, isLst_lst, eTupRg_ap, eTupRg_o, ixt0, ixt1, ixt2, ixt3, ixt4, negD_i, slD_lst, eV_0, eV_s, Res.bind_ok, Res.bind_ex, Res.bind_bad, Res.on_ok, Res.on_ex, Res.on_bad, SRes.bind_nx, SRes.bind_rt, SRes.bind_ex, SRes.bind_bad, List.set_cons_zero, List.set_cons_succ, addD_i, subD_i, ltD_i, leD_i, gtD_i, geD_i, eqD_i, neD_i, lenB_scr, lenB_lst, lenB_tup, truD, tyD, Ty.le, isD, isntD, isNon, killE, List.foldl_cons, List.foldl_nil, List.length_cons, List.length_nil, Nat.reduceAdd, Nat.zero_add, Nat.reduceLeDiff, if_true, if_false, Bool.false_eq_true, Bool.not_true, Bool.not_false]
    rw [modD_i (by omega)]
    simp only [aCons_o2, aCons_o1, aCons_ap, eTup_o1, eTup_ap, nLst_o1, nLst_ap, eFrz_o1, eFrz_ap, eNew_o1, eNew_ap, eOp_o2, eOp_o1, eOp_ap, tNotM_o1, tNotM_ap, sDrop_o1, sDrop_ap, sRet_o1, sRet_ap, sSet_o1, sSet_ap, sPut_o3, sPut_o2, sPut_o1, sPut_ap, nSl_o3, nSl_o2, nSl_o1, nSl_ap, eSl_o3, eSl_o2, eSl_o1, eSl_ap, nCat_o2, nCat_o1, nCat_ap, nRep_o2, nRep_o1, nRep_ap, sFor_o1, sFor_ap, nComp_o1, nComp_ap, eCall_o1, eCall_ap, rOne_o1, rOne_ap, rTwo_o2, rTwo_o1, rTwo_ap, iRevR_o1, iRevR_ap, nRng_o1, nRng_ap, iSeq_o1, iSeq_ap, iRev_o1, iRev_ap, eIsi_o1, eIsi_ap, eC_ap, aNil_ap, sNext_ap, sSeq_ap, sRetN_ap, tTru_ap, eUn_ap, eB_ap, nB_ap, noTest_ap, eDNew_ap, oNo_ap, gSet_ap, gsNil_ap, gsCons_ap, gsCons_o, gTupM_ap, sAsg_ap, sAsg_o1, sAsg_o2, sWhile_ap, asB_ap, asB_o, tAndM_ap, tAndM_t, tAndM_f, tOrM_ap, tOrM_t, tOrM_f, sIf_ap, sIf_t, sIf_f, eIf_ap, eIf_t, eIf_f, eAnd_ap, eAnd_o, eAnd_t, eAnd_f, eOr_ap, eOr_o, eOr_t, eOr_f, eNot_ap, eNot_o1, eNot_o2, oSome_ap, oSome_o, eChain_ap, eChain_o1, eChain_o2, eChain_t, eChain_f, eChain_o4, eChain3_ap, eChain3_o1, eChain3_o2, eChain3_t, eChain3_f, eChain3_o4, iEnum_ap, iZip_ap, eMt_ap, eMt_o2, isLst_lst, eTupRg_ap, eTupRg_o, ixt0, ixt1, ixt2, ixt3, ixt4, negD_i, slD_lst, eV_0, eV_s, Res.bind_ok, Res.bind_ex, Res.bind_bad, Res.on_ok, Res.on_ex, Res.on_bad, SRes.bind_nx, SRes.bind_rt, SRes.bind_ex, SRes.bind_bad, List.set_cons_zero, List.set_cons_succ, addD_i, subD_i, ltD_i, leD_i, gtD_i, geD_i, eqD_i, neD_i, lenB_scr, lenB_lst, lenB_tup, truD, tyD, Ty.le, isD, isntD, isNon, killE, List.foldl_cons, List.foldl_nil, List.length_cons, List.length_nil, Nat.reduceAdd, Nat.zero_add, Nat.reduceLeDiff, if_true, if_false, Bool.false_eq_true, Bool.not_true, Bool.not_false]
    exact fin_rt rfl
  unfold cellv
  simp only [aCons_o2, aCons_o1, aCons_ap, eTup_o1, eTup_ap, nLst_o1, nLst_ap, eFrz_o1, eFrz_ap, eNew_o1, eNew_ap, eOp_o2, eOp_o1, eOp_ap, tNotM_o1, tNotM_ap, sDrop_o1, sDrop_ap, sRet_o1, sRet_ap, sSet_o1, sSet_ap, sPut_o3, sPut_o2, sPut_o1, sPut_ap, nSl_o3, nSl_o2, nSl_o1, nSl_ap, eSl_o3, eSl_o2, eSl_o1, eSl_ap, nCat_o2, nCat_o1, nCat_ap, nRep_o2, nRep_o1, nRep_ap, sFor_o1, sFor_ap, nComp_o1, nComp_ap, eCall_o1, eCall_ap, rOne_o1, rOne_ap, rTwo_o2, rTwo_o1, rTwo_ap, iRevR_o1, iRevR_ap, nRng_o1, nRng_ap, iSeq_o1, iSeq_ap, iRev_o1, iRev_ap, eIsi_o1, eIsi_ap, eC_ap, aNil_ap, sNext_ap, sSeq_ap, sRetN_ap, tTru_ap, eUn_ap, eB_ap, nB_ap, noTest_ap, eDNew_ap, oNo_ap, gSet_ap, gsNil_ap, gsCons_ap, gsCons_o, gTupM_ap, sAsg_ap, sAsg_o1, sAsg_o2, sWhile_ap, asB_ap, asB_o, tAndM_ap, tAndM_t, tAndM_f, tOrM_ap, tOrM_t, tOrM_f, sIf_ap, sIf_t, sIf_f, eIf_ap, eIf_t, eIf_f, eAnd_ap, eAnd_o, eAnd_t, eAnd_f, eOr_ap, eOr_o, eOr_t, eOr_f, eNot_ap, eNot_o1, eNot_o2, oSome_ap, oSome_o, eChain_ap, eChain_o1, eChain_o2, eChain_t, eChain_f, eChain_o4, eChain3_ap, eChain3_o1, eChain3_o2, eChain3_t, eChain3_f, eChain3_o4, iEnum_ap, iZip_ap, eMt_ap, eMt_o2, isLst_lst, eTupRg_ap, eTupRg_o, ixt0, ixt1, ixt2, ixt3, ixt4, negD_i, slD_lst, eV_0, eV_s, Res.bind_ok, Res.bind_ex, Res.bind_bad, Res.on_ok, Res.on_ex, Res.on_bad, SRes.bind_nx, SRes.bind_rt, SRes.bind_ex, SRes.bind_bad, List.set_cons_zero, List.set_cons_succ, addD_i, subD_i, ltD_i, leD_i, gtD_i, geD_i, eqD_i, neD_i, lenB_scr, lenB_lst, lenB_tup, truD, tyD, Ty.le, isD, isntD, isNon, killE, List.foldl_cons, List.foldl_nil, List.length_cons, List.length_nil, Nat.reduceAdd, Nat.zero_add, Nat.reduceLeDiff, if_true, if_false, Bool.false_eq_true, Bool.not_true, Bool.not_false]
  by_cases hk2 : k < ns.length
  · have e0 : decide ((k : Int) < (ns.length : Int)) = true := decide_eq_true (by omega)
    simp only [e0, if_pos hk2, aCons_o2, aCons_o1, aCons_ap, eTup_o1, eTup_ap, nLst_o1, nLst_ap, eFrz_o1, eFrz_ap, eNew_o1, eNew_ap, eOp_o2, eOp_o1, eOp_ap, tNotM_o1, tNotM_ap, sDrop_o1, sDrop_ap, sRet_o1, sRet_ap, sSet_o1, sSet_ap, sPut_o3, sPut_o2, sPut_o1, sPut_ap, nSl_o3, nSl_o2, nSl_o1, nSl_ap, eSl_o3, eSl_o2, eSl_o1, eSl_ap, nCat_o2, nCat_o1, nCat_ap, nRep_o2, nRep_o1, nRep_ap, sFor_o1, sFor_ap, nComp_o1, nComp_ap, eCall_o1, eCall_ap, rOne_o1, rOne_ap, rTwo_o2, rTwo_o1, rTwo_ap, iRevR_o1, iRevR_ap, nRng_o1, nRng_ap, iSeq_o1, iSeq_ap, iRev_o1, iRev_ap, eIsi_o1, eIsi_ap, eC_ap, aNil_ap, sNext_ap, sSeq_ap, sRetN_ap, tTru_ap, eUn_ap, eB_ap, nB_ap, noTest_ap, eDNew_ap, oNo_ap, gSet_ap, gsNil_ap, gsCons_ap, gsCons_o, gTupM_ap, sAsg_ap, sAsg_o1, sAsg_o2, sWhile_ap, asB_ap, asB_o, tAndM_ap, tAndM_t, tAndM_f, tOrM_ap, tOrM_t, tOrM_f, sIf_ap, sIf_t, sIf_f, eIf_ap, eIf_t, eIf_f, eAnd_ap, eAnd_o, eAnd_t, eAnd_f, eOr_ap, eOr_o, eOr_t, eOr_f, eNot_ap, eNot_o1, eNot_o2, oSome_ap, oSome_o, eChain_ap, eChain_o1, eChain_o2, eChain_t, eChain_f, eChain_o4, eChain3_ap, eChain3_o1, eChain3_o2, eChain3_t, eChain3_f, eChain3_o4, iEnum_ap, iZip_ap, eMt_ap, eMt_o2, isLst_lst, eTupRg_ap, eTupRg_o, ixt0, ixt1, ixt2, ixt3, ixt4, negD_i, slD_lst, eV_0, eV_s, Res.bind_ok, Res.bind_ex, Res.bind_bad, Res.on_ok, Res.on_ex, Res.on_bad, SRes.bind_nx, SRes.bind_rt, SRes.bind_ex, SRes.bind_bad, List.set_cons_zero, List.set_cons_succ, addD_i, subD_i, ltD_i, leD_i, gtD_i, geD_i, eqD_i, neD_i, lenB_scr, lenB_lst, lenB_tup, truD, tyD, Ty.le, isD, isntD, isNon, killE, List.foldl_cons, List.foldl_nil, List.length_cons, List.length_nil, Nat.reduceAdd, Nat.zero_add, Nat.reduceLeDiff, if_true, if_false, Bool.false_eq_true, Bool.not_true, Bool.not_false]
    rw [ixD_scr (by omega) (show ns[(k : Int).toNat]? = some (ns.getD k 0) by simpa using get_D hk2)]
    simp only [p18, aCons_o2, aCons_o1, aCons_ap, eTup_o1, eTup_ap, nLst_o1, nLst_ap, eFrz_o1, eFrz_ap, eNew_o1, eNew_ap, eOp_o2, eOp_o1, eOp_ap, tNotM_o1, tNotM_ap, sDrop_o1, sDrop_ap, sRet_o1, sRet_ap, sSet_o1, sSet_ap, sPut_o3, sPut_o2, sPut_o1, sPut_ap, nSl_o3, nSl_o2, nSl_o1, nSl_ap, eSl_o3, eSl_o2, eSl_o1, eSl_ap, nCat_o2, nCat_o1, nCat_ap, nRep_o2, nRep_o1, nRep_ap, sFor_o1, sFor_ap, nComp_o1, nComp_ap, eCall_o1, eCall_ap, rOne_o1, rOne_ap, rTwo_o2, rTwo_o1, rTwo_ap, iRevR_o1, iRevR_ap, nRng_o1, nRng_ap, iSeq_o1, iSeq_ap, iRev_o1, iRev_ap, eIsi_o1, eIsi_ap, eC_ap, aNil_ap, sNext_ap, sSeq_ap, sRetN_ap, tTru_ap, eUn_ap, eB_ap, nB_ap, noTest_ap, eDNew_ap, oNo_ap, gSet_ap, gsNil_ap, gsCons_ap, gsCons_o, gTupM_ap, sAsg_ap, sAsg_o1, sAsg_o2, sWhile_ap, asB_ap, asB_o, tAndM_ap, tAndM_t, tAndM_f, tOrM_ap, tOrM_t, tOrM_f, sIf_ap, sIf_t, sIf_f, eIf_ap, eIf_t, eIf_f, eAnd_ap, eAnd_o, eAnd_t, eAnd_f, eOr_ap, eOr_o, eOr_t, eOr_f, eNot_ap, eNot_o1, eNot_o2, oSome_ap, oSome_o, eChain_ap, eChain_o1, eChain_o2, eChain_t, eChain_f, eChain_o4, eChain3_ap, eChain3_o1, eChain3_o2, eChain3_t, eChain3_f, eChain3_o4, iEnum_ap, iZip_ap, eMt_ap, eMt_o2, isLst_lst, eTupRg_ap, eTupRg_o, ixt0, ixt1, ixt2, ixt3, ixt4, negD_i, slD_lst, eV_0, eV_s, Res.bind_ok, Res.bind_ex, Res.bind_bad, Res.on_ok, Res.on_ex, Res.on_bad, SRes.bind_nx, SRes.bind_rt, SRes.bind_ex, SRes.bind_bad, List.set_cons_zero, List.set_cons_succ, addD_i, subD_i, ltD_i, leD_i, gtD_i, geD_i, eqD_i, neD_i, lenB_scr, lenB_lst, lenB_tup, truD, tyD, Ty.le, isD, isntD, isNon, killE, List.foldl_cons, List.foldl_nil, List.length_cons, List.length_nil, Nat.reduceAdd, Nat.zero_add, Nat.reduceLeDiff, if_true, if_false, Bool.false_eq_true, Bool.not_true, Bool.not_false]
    rw [modD_i (by omega)]
    simp only [aCons_o2, aCons_o1, aCons_ap, eTup_o1, eTup_ap, nLst_o1, nLst_ap, eFrz_o1, eFrz_ap, eNew_o1, eNew_ap, eOp_o2, eOp_o1, eOp_ap, tNotM_o1, tNotM_ap, sDrop_o1, sDrop_ap, sRet_o1, sRet_ap, sSet_o1, sSet_ap, sPut_o3, sPut_o2, sPut_o1, sPut_ap, nSl_o3, nSl_o2, nSl_o1, nSl_ap, eSl_o3, eSl_o2, eSl_o1, eSl_ap, nCat_o2, nCat_o1, nCat_ap, nRep_o2, nRep_o1, nRep_ap, sFor_o1, sFor_ap, nComp_o1, nComp_ap, eCall_o1, eCall_ap, rOne_o1, rOne_ap, rTwo_o2, rTwo_o1, rTwo_ap, iRevR_o1, iRevR_ap, nRng_o1, nRng_ap, iSeq_o1, iSeq_ap, iRev_o1, iRev_ap, eIsi_o1, eIsi_ap, eC_ap, aNil_ap, sNext_ap, sSeq_ap, sRetN_ap, tTru_ap, eUn_ap, eB_ap, nB_ap, noTest_ap, eDNew_ap, oNo_ap, gSet_ap, gsNil_ap, gsCons_ap, gsCons_o, gTupM_ap, sAsg_ap, sAsg_o1, sAsg_o2, sWhile_ap, asB_ap, asB_o, tAndM_ap, tAndM_t, tAndM_f, tOrM_ap, tOrM_t, tOrM_f, sIf_ap, sIf_t, sIf_f, eIf_ap, eIf_t, eIf_f, eAnd_ap, eAnd_o, eAnd_t, eAnd_f, eOr_ap, eOr_o, eOr_t, eOr_f, eNot_ap, eNot_o1, eNot_o2, oSome_ap, oSome_o, eChain_ap, eChain_o1, eChain_o2, eChain_t, eChain_f, eChain_o4, eChain3_ap, eChain3_o1, eChain3_o2, eChain3_t, eChain3_f, eChain3_o4, iEnum_ap, iZip_ap, eMt_ap, eMt_o2, isLst_lst, eTupRg_ap, eTupRg_o, ixt0, ixt1, ixt2, ixt3, ixt4, negD_i, slD_lst, eV_0, eV_s, Res.bind_ok, Res.bind_ex, Res.bind_bad, Res.on_ok, Res.on_ex, Res.on_bad, SRes.bind_nx, SRes.bind_rt, SRes.bind_ex, SRes.bind_bad, List.set_cons_zero, List.set_cons_succ, addD_i, subD_i, ltD_i, leD_i, gtD_i, geD_i, eqD_i, neD_i, lenB_scr, lenB_lst, lenB_tup, truD, tyD, Ty.le, isD, isntD, isNon, killE, List.foldl_cons, List.foldl_nil, List.length_cons, List.length_nil, Nat.reduceAdd, Nat.zero_add, Nat.reduceLeDiff, if_true, if_false, Bool.false_eq_true, Bool.not_true, Bool.not_false]
    exact tail _ (by omega) (by omega)
  · have e0 : decide ((k : Int) < (ns.length : Int)) = false := decide_eq_false (by omega)
    simp only [e0, if_neg hk2, aCons_o2, aCons_o1, aCons_ap, eTup_o1, eTup_ap, nLst_o1, nLst_ap, eFrz_o1, eFrz_ap, eNew_o1, eNew_ap, eOp_o2, eOp_o1, eOp_ap, tNotM_o1, tNotM_ap, sDrop_o1, sDrop_ap, sRet_o1, sRet_ap, sSet_o1, sSet_ap, sPut_o3, sPut_o2, sPut_o1, sPut_ap, nSl_o3, nSl_o2, nSl_o1, nSl_ap, eSl_o3, eSl_o2, eSl_o1, eSl_ap, nCat_o2, nCat_o1, nCat_ap, nRep_o2, nRep_o1, nRep_ap, sFor_o1, sFor_ap, nComp_o1, nComp_ap, eCall_o1, eCall_ap, rOne_o1, rOne_ap, rTwo_o2, rTwo_o1, rTwo_ap, iRevR_o1, iRevR_ap, nRng_o1, nRng_ap, iSeq_o1, iSeq_ap, iRev_o1, iRev_ap, eIsi_o1, eIsi_ap, eC_ap, aNil_ap, sNext_ap, sSeq_ap, sRetN_ap, tTru_ap, eUn_ap, eB_ap, nB_ap, noTest_ap, eDNew_ap, oNo_ap, gSet_ap, gsNil_ap, gsCons_ap, gsCons_o, gTupM_ap, sAsg_ap, sAsg_o1, sAsg_o2, sWhile_ap, asB_ap, asB_o, tAndM_ap, tAndM_t, tAndM_f, tOrM_ap, tOrM_t, tOrM_f, sIf_ap, sIf_t, sIf_f, eIf_ap, eIf_t, eIf_f, eAnd_ap, eAnd_o, eAnd_t, eAnd_f, eOr_ap, eOr_o, eOr_t, eOr_f, eNot_ap, eNot_o1, eNot_o2, oSome_ap, oSome_o, eChain_ap, eChain_o1, eChain_o2, eChain_t, eChain_f, eChain_o4, eChain3_ap, eChain3_o1, eChain3_o2, eChain3_t, eChain3_f, eChain3_o4, iEnum_ap, iZip_ap, eMt_ap, eMt_o2, isLst_lst, eTupRg_ap, eTupRg_o, ixt0, ixt1, ixt2, ixt3, ixt4, negD_i, slD_lst, eV_0, eV_s, Res.bind_ok, Res.bind_ex, Res.bind_bad, Res.on_ok, Res.on_ex, Res.on_bad, SRes.bind_nx, SRes.bind_rt, SRes.bind_ex, SRes.bind_bad, List.set_cons_zero, List.set_cons_succ, addD_i, subD_i, ltD_i, leD_i, gtD_i, geD_i, eqD_i, neD_i, lenB_scr, lenB_lst, lenB_tup, truD, tyD, Ty.le, isD, isntD, isNon, killE, List.foldl_cons, List.foldl_nil, List.length_cons, List.length_nil, Nat.reduceAdd, Nat.zero_add, Nat.reduceLeDiff, if_true, if_false, Bool.false_eq_true, Bool.not_true, Bool.not_false]
    exact tail 0 (by omega) (by omega)
def okA (w h m : Int) (ds : List D) : Prop := ∃ cs, m_all_codes [.int w, .int h, .int m] [] = .ok (.tup ds) [] ∧ sortSTB [.tup ds] [] = .ok ds [] ∧ neD (.lst ds) (.lst ds) [] = .ok (.bl false) [] ∧ ds.length ≤ 60 ∧
    (∀ d ∈ ds, m_l_row [d, .int w, .int h, .int m] [] = .ok (.bl true) []) ∧ m_all_codes [.int h, .int w, .int m] [] = .ok (.tup cs) [] ∧ cs.length = ds.length
theorem okA_of {w h : Int} {m : Nat} {B C : List (List Int)} (q : chkA w h m B C = true) (q' : chkA h w m C B = true) : okA w h m (B.map enc) := by
  unfold chkA at q q'
  simp only [Bool.and_eq_true] at q q'
  obtain ⟨⟨⟨⟨⟨q1, q2⟩, q3⟩, q4⟩, q5⟩, q6⟩ := q
  obtain ⟨⟨⟨⟨⟨p1, _⟩, _⟩, _⟩, _⟩, _⟩ := q'
  refine ⟨C.map enc, isBk_eq q1, isBs_eq q2, isF_eq q3, by rw [List.length_map]; exact of_decide_eq_true q4, fun d hd => ?_, isBk_eq p1, by rw [List.length_map, List.length_map]; exact of_decide_eq_true q6⟩
  obtain ⟨r, hr, rfl⟩ := List.mem_map.mp hd
  exact isTrue_eq (List.all_eq_true.mp q5 r hr)
theorem bls_true : ∀ l : List D, blsD (l.map fun _ => D.bl true) = some (l.map fun _ => true)
  | [] => rfl
  | d :: l => by
    show (match blsD (l.map fun _ => D.bl true) with | some ns => some (true :: ns) | none => none) = _
    rw [bls_true l]; rfl
theorem all_true : ∀ l : List D, ((l.map fun _ => true).all _root_.id) = true
  | [] => rfl
  | d :: l => by simp [all_true l]
theorem tailC {sc : D} {w h m way far : Int} {e6 : Option D} {ds : List D} (A : okA w h m ds) (B : 2 < way → m_l_book [.int w, .int h, .int m] [] = .ok (.lst ds) []) :
    ∃ st, fin true [] (restC [some sc, some (.int w), some (.int h), some (.int m), some (.int way), some (.int far), e6, none, none] []) = .ok (.bl true) st := by
  obtain ⟨cs, a1, a2, a3, a4, a5, a6, a7⟩ := A
  have l1 : lstB [.tup ds] [] = .ok ds [] := rfl
  unfold restC
  simp only [a1, aCons_o2, aCons_o1, aCons_ap, eTup_o1, eTup_ap, nLst_o1, nLst_ap, eFrz_o1, eFrz_ap, eNew_o1, eNew_ap, eOp_o2, eOp_o1, eOp_ap, tNotM_o1, tNotM_ap, sDrop_o1, sDrop_ap, sRet_o1, sRet_ap, sSet_o1, sSet_ap, sPut_o3, sPut_o2, sPut_o1, sPut_ap, nSl_o3, nSl_o2, nSl_o1, nSl_ap, eSl_o3, eSl_o2, eSl_o1, eSl_ap, nCat_o2, nCat_o1, nCat_ap, nRep_o2, nRep_o1, nRep_ap, eCall_o1, eCall_ap, rOne_o1, rOne_ap, rTwo_o2, rTwo_o1, rTwo_ap, iRevR_o1, iRevR_ap, nRng_o1, nRng_ap, eIsi_o1, eIsi_ap, eC_ap, aNil_ap, sNext_ap, sSeq_ap, sRetN_ap, tTru_ap, eUn_ap, eB_ap, nB_ap, noTest_ap, eDNew_ap, oNo_ap, gSet_ap, gsNil_ap, gsCons_ap, gsCons_o, gTupM_ap, sAsg_ap, sAsg_o1, sAsg_o2, asB_ap, asB_o, tAndM_ap, tAndM_t, tAndM_f, tOrM_ap, tOrM_t, tOrM_f, sIf_ap, sIf_t, sIf_f, eIf_ap, eIf_t, eIf_f, eAnd_ap, eAnd_o, eAnd_t, eAnd_f, eOr_ap, eOr_o, eOr_t, eOr_f, eNot_ap, eNot_o1, eNot_o2, oSome_ap, oSome_o, eChain_ap, eChain_o1, eChain_o2, eChain_t, eChain_f, eChain_o4, eChain3_ap, eChain3_o1, eChain3_o2, eChain3_t, eChain3_f, eChain3_o4, eMt_ap, eMt_o2, isLst_lst, eTupRg_ap, eTupRg_o, ixt0, ixt1, ixt2, ixt3, ixt4, negD_i, slD_lst, eV_0, eV_s, Res.bind_ok, Res.bind_ex, Res.bind_bad, Res.on_ok, Res.on_ex, Res.on_bad, SRes.bind_nx, SRes.bind_rt, SRes.bind_ex, SRes.bind_bad, List.set_cons_zero, List.set_cons_succ, addD_i, subD_i, ltD_i, leD_i, gtD_i, geD_i, eqD_i, neD_i, lenB_scr, lenB_lst, lenB_tup, truD, tyD, Ty.le, isD, isntD, isNon, killE, List.foldl_cons, List.foldl_nil, List.length_cons, List.length_nil, Nat.reduceAdd, Nat.zero_add, Nat.reduceLeDiff, if_true, if_false, Bool.false_eq_true, Bool.not_true, Bool.not_false]
  simp only [l1, a2, a3, aCons_o2, aCons_o1, aCons_ap, eTup_o1, eTup_ap, nLst_o1, nLst_ap, eFrz_o1, eFrz_ap, eNew_o1, eNew_ap, eOp_o2, eOp_o1, eOp_ap, tNotM_o1, tNotM_ap, sDrop_o1, sDrop_ap, sRet_o1, sRet_ap, sSet_o1, sSet_ap, sPut_o3, sPut_o2, sPut_o1, sPut_ap, nSl_o3, nSl_o2, nSl_o1, nSl_ap, eSl_o3, eSl_o2, eSl_o1, eSl_ap, nCat_o2, nCat_o1, nCat_ap, nRep_o2, nRep_o1, nRep_ap, eCall_o1, eCall_ap, rOne_o1, rOne_ap, rTwo_o2, rTwo_o1, rTwo_ap, iRevR_o1, iRevR_ap, nRng_o1, nRng_ap, eIsi_o1, eIsi_ap, eC_ap, aNil_ap, sNext_ap, sSeq_ap, sRetN_ap, tTru_ap, eUn_ap, eB_ap, nB_ap, noTest_ap, eDNew_ap, oNo_ap, gSet_ap, gsNil_ap, gsCons_ap, gsCons_o, gTupM_ap, sAsg_ap, sAsg_o1, sAsg_o2, asB_ap, asB_o, tAndM_ap, tAndM_t, tAndM_f, tOrM_ap, tOrM_t, tOrM_f, sIf_ap, sIf_t, sIf_f, eIf_ap, eIf_t, eIf_f, eAnd_ap, eAnd_o, eAnd_t, eAnd_f, eOr_ap, eOr_o, eOr_t, eOr_f, eNot_ap, eNot_o1, eNot_o2, oSome_ap, oSome_o, eChain_ap, eChain_o1, eChain_o2, eChain_t, eChain_f, eChain_o4, eChain3_ap, eChain3_o1, eChain3_o2, eChain3_t, eChain3_f, eChain3_o4, eMt_ap, eMt_o2, isLst_lst, eTupRg_ap, eTupRg_o, ixt0, ixt1, ixt2, ixt3, ixt4, negD_i, slD_lst, eV_0, eV_s, Res.bind_ok, Res.bind_ex, Res.bind_bad, Res.on_ok, Res.on_ex, Res.on_bad, SRes.bind_nx, SRes.bind_rt, SRes.bind_ex, SRes.bind_bad, List.set_cons_zero, List.set_cons_succ, addD_i, subD_i, ltD_i, leD_i, gtD_i, geD_i, eqD_i, neD_i, lenB_scr, lenB_lst, lenB_tup, truD, tyD, Ty.le, isD, isntD, isNon, killE, List.foldl_cons, List.foldl_nil, List.length_cons, List.length_nil, Nat.reduceAdd, Nat.zero_add, Nat.reduceLeDiff, if_true, if_false, Bool.false_eq_true, Bool.not_true, Bool.not_false]
  have cmp : (nComp [8] (iSeq (eV 7)) (gSet 8) noTest (eCall 4 m_l_row (aCons (eV 8) (aCons (eV 1) (aCons (eV 2) (aCons (eV 3) aNil)))))) [some sc, some (.int w), some (.int h), some (.int m), some (.int way), some (.int far), e6, some (.tup ds), none] [] = .ok (ds.map fun _ => .bl true) [] := by
    show compL [] (gSet 8) noTest _ _ ds [] [] = _
    rw [comp_run (g := gSet 8) (f := fun _ => .bl true) (fun d hd => ⟨_, rfl, ?hc⟩) ?hl]
    · rfl
    case hl =>
      rw [List.length_nil, Nat.zero_add]
      omega
    case hc =>
      simp only [wipeE, a5 d hd, aCons_o2, aCons_o1, aCons_ap, eTup_o1, eTup_ap, nLst_o1, nLst_ap, eFrz_o1, eFrz_ap, eNew_o1, eNew_ap, eOp_o2, eOp_o1, eOp_ap, tNotM_o1, tNotM_ap, sDrop_o1, sDrop_ap, sRet_o1, sRet_ap, sSet_o1, sSet_ap, sPut_o3, sPut_o2, sPut_o1, sPut_ap, nSl_o3, nSl_o2, nSl_o1, nSl_ap, eSl_o3, eSl_o2, eSl_o1, eSl_ap, nCat_o2, nCat_o1, nCat_ap, nRep_o2, nRep_o1, nRep_ap, eCall_o1, eCall_ap, rOne_o1, rOne_ap, rTwo_o2, rTwo_o1, rTwo_ap, iRevR_o1, iRevR_ap, nRng_o1, nRng_ap, eIsi_o1, eIsi_ap, eC_ap, aNil_ap, sNext_ap, sSeq_ap, sRetN_ap, tTru_ap, eUn_ap, eB_ap, nB_ap, noTest_ap, eDNew_ap, oNo_ap, gSet_ap, gsNil_ap, gsCons_ap, gsCons_o, gTupM_ap, sAsg_ap, sAsg_o1, sAsg_o2, asB_ap, asB_o, tAndM_ap, tAndM_t, tAndM_f, tOrM_ap, tOrM_t, tOrM_f, sIf_ap, sIf_t, sIf_f, eIf_ap, eIf_t, eIf_f, eAnd_ap, eAnd_o, eAnd_t, eAnd_f, eOr_ap, eOr_o, eOr_t, eOr_f, eNot_ap, eNot_o1, eNot_o2, oSome_ap, oSome_o, eChain_ap, eChain_o1, eChain_o2, eChain_t, eChain_f, eChain_o4, eChain3_ap, eChain3_o1, eChain3_o2, eChain3_t, eChain3_f, eChain3_o4, eMt_ap, eMt_o2, isLst_lst, eTupRg_ap, eTupRg_o, ixt0, ixt1, ixt2, ixt3, ixt4, negD_i, slD_lst, eV_0, eV_s, Res.bind_ok, Res.bind_ex, Res.bind_bad, Res.on_ok, Res.on_ex, Res.on_bad, SRes.bind_nx, SRes.bind_rt, SRes.bind_ex, SRes.bind_bad, List.set_cons_zero, List.set_cons_succ, addD_i, subD_i, ltD_i, leD_i, gtD_i, geD_i, eqD_i, neD_i, lenB_scr, lenB_lst, lenB_tup, truD, tyD, Ty.le, isD, isntD, isNon, killE, List.foldl_cons, List.foldl_nil, List.length_cons, List.length_nil, Nat.reduceAdd, Nat.zero_add, Nat.reduceLeDiff, if_true, if_false, Bool.false_eq_true, Bool.not_true, Bool.not_false]
  rw [cmp]
  have ea : allB [.lst (ds.map fun _ => D.bl true)] [] = .ok (.bl true) [] := by
    show (match blsD (ds.map fun _ => D.bl true) with
      | some bs => Res.ok (D.bl (bs.all _root_.id)) []
      | none => .bad) = _
    rw [bls_true]
    simp only [all_true]
  simp only [ea, aCons_o2, aCons_o1, aCons_ap, eTup_o1, eTup_ap, nLst_o1, nLst_ap, eFrz_o1, eFrz_ap, eNew_o1, eNew_ap, eOp_o2, eOp_o1, eOp_ap, tNotM_o1, tNotM_ap, sDrop_o1, sDrop_ap, sRet_o1, sRet_ap, sSet_o1, sSet_ap, sPut_o3, sPut_o2, sPut_o1, sPut_ap, nSl_o3, nSl_o2, nSl_o1, nSl_ap, eSl_o3, eSl_o2, eSl_o1, eSl_ap, nCat_o2, nCat_o1, nCat_ap, nRep_o2, nRep_o1, nRep_ap, eCall_o1, eCall_ap, rOne_o1, rOne_ap, rTwo_o2, rTwo_o1, rTwo_ap, iRevR_o1, iRevR_ap, nRng_o1, nRng_ap, eIsi_o1, eIsi_ap, eC_ap, aNil_ap, sNext_ap, sSeq_ap, sRetN_ap, tTru_ap, eUn_ap, eB_ap, nB_ap, noTest_ap, eDNew_ap, oNo_ap, gSet_ap, gsNil_ap, gsCons_ap, gsCons_o, gTupM_ap, sAsg_ap, sAsg_o1, sAsg_o2, asB_ap, asB_o, tAndM_ap, tAndM_t, tAndM_f, tOrM_ap, tOrM_t, tOrM_f, sIf_ap, sIf_t, sIf_f, eIf_ap, eIf_t, eIf_f, eAnd_ap, eAnd_o, eAnd_t, eAnd_f, eOr_ap, eOr_o, eOr_t, eOr_f, eNot_ap, eNot_o1, eNot_o2, oSome_ap, oSome_o, eChain_ap, eChain_o1, eChain_o2, eChain_t, eChain_f, eChain_o4, eChain3_ap, eChain3_o1, eChain3_o2, eChain3_t, eChain3_f, eChain3_o4, eMt_ap, eMt_o2, isLst_lst, eTupRg_ap, eTupRg_o, ixt0, ixt1, ixt2, ixt3, ixt4, negD_i, slD_lst, eV_0, eV_s, Res.bind_ok, Res.bind_ex, Res.bind_bad, Res.on_ok, Res.on_ex, Res.on_bad, SRes.bind_nx, SRes.bind_rt, SRes.bind_ex, SRes.bind_bad, List.set_cons_zero, List.set_cons_succ, addD_i, subD_i, ltD_i, leD_i, gtD_i, geD_i, eqD_i, neD_i, lenB_scr, lenB_lst, lenB_tup, truD, tyD, Ty.le, isD, isntD, isNon, killE, List.foldl_cons, List.foldl_nil, List.length_cons, List.length_nil, Nat.reduceAdd, Nat.zero_add, Nat.reduceLeDiff, if_true, if_false, Bool.false_eq_true, Bool.not_true, Bool.not_false]
  have last : ∃ st, fin true [] ((sRet (eOp eqD (eB lenB (aCons (eCall 3 m_all_codes (aCons (eV 2) (aCons (eV 1) (aCons (eV 3) aNil)))) aNil)) (eB lenB (aCons (eV 7) aNil)))) [some sc, some (.int w), some (.int h), some (.int m), some (.int way), some (.int far), e6, some (.tup ds), none] []) = .ok (.bl true) st := by
    simp only [a6, a7, aCons_o2, aCons_o1, aCons_ap, eTup_o1, eTup_ap, nLst_o1, nLst_ap, eFrz_o1, eFrz_ap, eNew_o1, eNew_ap, eOp_o2, eOp_o1, eOp_ap, tNotM_o1, tNotM_ap, sDrop_o1, sDrop_ap, sRet_o1, sRet_ap, sSet_o1, sSet_ap, sPut_o3, sPut_o2, sPut_o1, sPut_ap, nSl_o3, nSl_o2, nSl_o1, nSl_ap, eSl_o3, eSl_o2, eSl_o1, eSl_ap, nCat_o2, nCat_o1, nCat_ap, nRep_o2, nRep_o1, nRep_ap, eCall_o1, eCall_ap, rOne_o1, rOne_ap, rTwo_o2, rTwo_o1, rTwo_ap, iRevR_o1, iRevR_ap, nRng_o1, nRng_ap, eIsi_o1, eIsi_ap, eC_ap, aNil_ap, sNext_ap, sSeq_ap, sRetN_ap, tTru_ap, eUn_ap, eB_ap, nB_ap, noTest_ap, eDNew_ap, oNo_ap, gSet_ap, gsNil_ap, gsCons_ap, gsCons_o, gTupM_ap, sAsg_ap, sAsg_o1, sAsg_o2, asB_ap, asB_o, tAndM_ap, tAndM_t, tAndM_f, tOrM_ap, tOrM_t, tOrM_f, sIf_ap, sIf_t, sIf_f, eIf_ap, eIf_t, eIf_f, eAnd_ap, eAnd_o, eAnd_t, eAnd_f, eOr_ap, eOr_o, eOr_t, eOr_f, eNot_ap, eNot_o1, eNot_o2, oSome_ap, oSome_o, eChain_ap, eChain_o1, eChain_o2, eChain_t, eChain_f, eChain_o4, eChain3_ap, eChain3_o1, eChain3_o2, eChain3_t, eChain3_f, eChain3_o4, eMt_ap, eMt_o2, isLst_lst, eTupRg_ap, eTupRg_o, ixt0, ixt1, ixt2, ixt3, ixt4, negD_i, slD_lst, eV_0, eV_s, Res.bind_ok, Res.bind_ex, Res.bind_bad, Res.on_ok, Res.on_ex, Res.on_bad, SRes.bind_nx, SRes.bind_rt, SRes.bind_ex, SRes.bind_bad, List.set_cons_zero, List.set_cons_succ, addD_i, subD_i, ltD_i, leD_i, gtD_i, geD_i, eqD_i, neD_i, lenB_scr, lenB_lst, lenB_tup, truD, tyD, Ty.le, isD, isntD, isNon, killE, List.foldl_cons, List.foldl_nil, List.length_cons, List.length_nil, Nat.reduceAdd, Nat.zero_add, Nat.reduceLeDiff, if_true, if_false, Bool.false_eq_true, Bool.not_true, Bool.not_false]
    refine ⟨[], ?_⟩
    simp only [BEq.rfl]
    exact fin_rt rfl
  by_cases hw : 2 < way
  · have b1 := B hw
    have d1 : decide (2 < way) = true := decide_eq_true hw
    simp only [d1, b1, l1, a3, aCons_o2, aCons_o1, aCons_ap, eTup_o1, eTup_ap, nLst_o1, nLst_ap, eFrz_o1, eFrz_ap, eNew_o1, eNew_ap, eOp_o2, eOp_o1, eOp_ap, tNotM_o1, tNotM_ap, sDrop_o1, sDrop_ap, sRet_o1, sRet_ap, sSet_o1, sSet_ap, sPut_o3, sPut_o2, sPut_o1, sPut_ap, nSl_o3, nSl_o2, nSl_o1, nSl_ap, eSl_o3, eSl_o2, eSl_o1, eSl_ap, nCat_o2, nCat_o1, nCat_ap, nRep_o2, nRep_o1, nRep_ap, eCall_o1, eCall_ap, rOne_o1, rOne_ap, rTwo_o2, rTwo_o1, rTwo_ap, iRevR_o1, iRevR_ap, nRng_o1, nRng_ap, eIsi_o1, eIsi_ap, eC_ap, aNil_ap, sNext_ap, sSeq_ap, sRetN_ap, tTru_ap, eUn_ap, eB_ap, nB_ap, noTest_ap, eDNew_ap, oNo_ap, gSet_ap, gsNil_ap, gsCons_ap, gsCons_o, gTupM_ap, sAsg_ap, sAsg_o1, sAsg_o2, asB_ap, asB_o, tAndM_ap, tAndM_t, tAndM_f, tOrM_ap, tOrM_t, tOrM_f, sIf_ap, sIf_t, sIf_f, eIf_ap, eIf_t, eIf_f, eAnd_ap, eAnd_o, eAnd_t, eAnd_f, eOr_ap, eOr_o, eOr_t, eOr_f, eNot_ap, eNot_o1, eNot_o2, oSome_ap, oSome_o, eChain_ap, eChain_o1, eChain_o2, eChain_t, eChain_f, eChain_o4, eChain3_ap, eChain3_o1, eChain3_o2, eChain3_t, eChain3_f, eChain3_o4, eMt_ap, eMt_o2, isLst_lst, eTupRg_ap, eTupRg_o, ixt0, ixt1, ixt2, ixt3, ixt4, negD_i, slD_lst, eV_0, eV_s, Res.bind_ok, Res.bind_ex, Res.bind_bad, Res.on_ok, Res.on_ex, Res.on_bad, SRes.bind_nx, SRes.bind_rt, SRes.bind_ex, SRes.bind_bad, List.set_cons_zero, List.set_cons_succ, addD_i, subD_i, ltD_i, leD_i, gtD_i, geD_i, eqD_i, neD_i, lenB_scr, lenB_lst, lenB_tup, truD, tyD, Ty.le, isD, isntD, isNon, killE, List.foldl_cons, List.foldl_nil, List.length_cons, List.length_nil, Nat.reduceAdd, Nat.zero_add, Nat.reduceLeDiff, if_true, if_false, Bool.false_eq_true, Bool.not_true, Bool.not_false]
    exact last
  · have d1 : decide (2 < way) = false := decide_eq_false hw
    simp only [d1, aCons_o2, aCons_o1, aCons_ap, eTup_o1, eTup_ap, nLst_o1, nLst_ap, eFrz_o1, eFrz_ap, eNew_o1, eNew_ap, eOp_o2, eOp_o1, eOp_ap, tNotM_o1, tNotM_ap, sDrop_o1, sDrop_ap, sRet_o1, sRet_ap, sSet_o1, sSet_ap, sPut_o3, sPut_o2, sPut_o1, sPut_ap, nSl_o3, nSl_o2, nSl_o1, nSl_ap, eSl_o3, eSl_o2, eSl_o1, eSl_ap, nCat_o2, nCat_o1, nCat_ap, nRep_o2, nRep_o1, nRep_ap, eCall_o1, eCall_ap, rOne_o1, rOne_ap, rTwo_o2, rTwo_o1, rTwo_ap, iRevR_o1, iRevR_ap, nRng_o1, nRng_ap, eIsi_o1, eIsi_ap, eC_ap, aNil_ap, sNext_ap, sSeq_ap, sRetN_ap, tTru_ap, eUn_ap, eB_ap, nB_ap, noTest_ap, eDNew_ap, oNo_ap, gSet_ap, gsNil_ap, gsCons_ap, gsCons_o, gTupM_ap, sAsg_ap, sAsg_o1, sAsg_o2, asB_ap, asB_o, tAndM_ap, tAndM_t, tAndM_f, tOrM_ap, tOrM_t, tOrM_f, sIf_ap, sIf_t, sIf_f, eIf_ap, eIf_t, eIf_f, eAnd_ap, eAnd_o, eAnd_t, eAnd_f, eOr_ap, eOr_o, eOr_t, eOr_f, eNot_ap, eNot_o1, eNot_o2, oSome_ap, oSome_o, eChain_ap, eChain_o1, eChain_o2, eChain_t, eChain_f, eChain_o4, eChain3_ap, eChain3_o1, eChain3_o2, eChain3_t, eChain3_f, eChain3_o4, eMt_ap, eMt_o2, isLst_lst, eTupRg_ap, eTupRg_o, ixt0, ixt1, ixt2, ixt3, ixt4, negD_i, slD_lst, eV_0, eV_s, Res.bind_ok, Res.bind_ex, Res.bind_bad, Res.on_ok, Res.on_ex, Res.on_bad, SRes.bind_nx, SRes.bind_rt, SRes.bind_ex, SRes.bind_bad, List.set_cons_zero, List.set_cons_succ, addD_i, subD_i, ltD_i, leD_i, gtD_i, geD_i, eqD_i, neD_i, lenB_scr, lenB_lst, lenB_tup, truD, tyD, Ty.le, isD, isntD, isNon, killE, List.foldl_cons, List.foldl_nil, List.length_cons, List.length_nil, Nat.reduceAdd, Nat.zero_add, Nat.reduceLeDiff, if_true, if_false, Bool.false_eq_true, Bool.not_true, Bool.not_false]
    exact last
def badW (x : Nat) : Int := [0, 6, 7, -1, -5].getD x 0
def badM (x : Nat) : Int := [8, 9, -1, 60, -7].getD x 0
theorem bx : ((List.range 4).all fun i => (List.range 4).all fun j => (List.range 7).all fun m => (List.range 5).all fun x =>
    isTrue (m_l_beyond [.int (badW x), .int (1 + i), .int m] []) && isTrue (m_l_beyond [.int (1 + i), .int (badW x), .int m] []) && isTrue (m_l_beyond [.int (1 + i), .int (1 + j), .int (badM x)] [])) = true := by decide +kernel
theorem bx_get {i j m x : Nat} (hi : i < 4) (hj : j < 4) (hm : m < 7) (hx : x < 5) : m_l_beyond [.int (badW x), .int (1 + i), .int m] [] = .ok (.bl true) [] ∧ m_l_beyond [.int (1 + i), .int (badW x), .int m] [] = .ok (.bl true) [] ∧
    m_l_beyond [.int (1 + i), .int (1 + j), .int (badM x)] [] = .ok (.bl true) [] := by
  have h := List.all_eq_true.mp (List.all_eq_true.mp (List.all_eq_true.mp (List.all_eq_true.mp bx i (List.mem_range.mpr hi)) j (List.mem_range.mpr hj)) m (List.mem_range.mpr hm)) x (List.mem_range.mpr hx)
  rw [Bool.and_eq_true, Bool.and_eq_true] at h
  exact ⟨isTrue_eq h.1.1, isTrue_eq h.1.2, isTrue_eq h.2⟩
theorem ixW {a : Int} : ∀ {x : Nat}, x < 5 → ixD (.lst [.int a, .int 0, .int 6, .int 7, .int (-1), .int (-5)]) (.int (1 + (x : Int))) [] = .ok (.int (badW x)) []
  | 0, _ => rfl | 1, _ => rfl | 2, _ => rfl | 3, _ => rfl | 4, _ => rfl | n + 5, h => absurd h (by omega)
theorem ixM {a : Int} : ∀ {x : Nat}, x < 5 → ixD (.lst [.int a, .int 8, .int 9, .int (-1), .int 60, .int (-7)]) (.int (1 + (x : Int))) [] = .ok (.int (badM x)) []
  | 0, _ => rfl | 1, _ => rfl | 2, _ => rfl | 3, _ => rfl | 4, _ => rfl | n + 5, h => absurd h (by omega)
theorem ixO {a b c d e f : D} : ixD (.lst [a, b, c, d, e, f]) (.int 0) [] = .ok a [] := rfl
theorem way0 {sc : D} {far : Int} {i j m : Nat} (hi : i < 4) (hj : j < 4) (hm : m < 7) :
    ∃ st, fin true [] (restA [some sc, some (.int (1 + i)), some (.int (1 + j)), some (.int m), some (.int 0), some (.int far), none, none, none] []) = .ok (.bl true) st := by
  have f1 : fdivD (.int far) (.int 3) [] = .ok (.int (far / 3)) [] := fdivD_i (by omega) (by decide)
  have f2 : modD (.int (far / 3)) (.int 5) [] = .ok (.int (far / 3 % 5)) [] := modD_i (by omega)
  have f3 : modD (.int far) (.int 3) [] = .ok (.int (far % 3)) [] := modD_i (by omega)
  obtain ⟨x, hx⟩ : ∃ x : Nat, far / 3 % 5 = x := ⟨(far / 3 % 5).toNat, by omega⟩
  have x5 : x < 5 := by omega
  rw [hx] at f2
  obtain ⟨b1, b2, b3⟩ := bx_get (x := x) hi hj hm x5
  have b1' := (bx_get (x := x) hj hj hm x5).1
  have w0 : eqD (.int 0) (.int 0) [] = .ok (.bl true) [] := rfl
  have iT : intB [.bl true] [] = .ok (.int 1) [] := rfl
  have iF : intB [.bl false] [] = .ok (.int 0) [] := rfl
  have m1 : mulD (.int (1 + (x : Int))) (.int 1) [] = .ok (.int (1 + (x : Int))) [] := by rw [mulD_s ⟨by omega, by omega⟩ ⟨by omega, by omega⟩, Int.mul_one]
  have m0 : mulD (.int (1 + (x : Int))) (.int 0) [] = .ok (.int 0) [] := by rw [mulD_s ⟨by omega, by omega⟩ ⟨by omega, by omega⟩, Int.mul_zero]
  have e00 : ((0 : Int) == 0) = true := rfl
  have e01 : ((0 : Int) == 1) = false := rfl
  have e02 : ((0 : Int) == 2) = false := rfl
  have e10 : ((1 : Int) == 0) = false := rfl
  have e11 : ((1 : Int) == 1) = true := rfl
  have e12 : ((1 : Int) == 2) = false := rfl
  have e20 : ((2 : Int) == 0) = false := rfl
  have e21 : ((2 : Int) == 1) = false := rfl
  have e22 : ((2 : Int) == 2) = true := rfl
  unfold restA
  rcases (show far % 3 = 0 ∨ far % 3 = 1 ∨ far % 3 = 2 by omega) with hp | hp | hp
  · rw [hp] at f3
    simp only [w0, f1, f2, f3, iT, iF, m1, m0, e00, e01, e02, ixO, ixW x5, b1', aCons_o2, aCons_o1, aCons_ap, eTup_o1, eTup_ap, nLst_o1, nLst_ap, eFrz_o1, eFrz_ap, eNew_o1, eNew_ap, eOp_o2, eOp_o1, eOp_ap, tNotM_o1, tNotM_ap, sDrop_o1, sDrop_ap, sRet_o1, sRet_ap, sSet_o1, sSet_ap, sPut_o3, sPut_o2, sPut_o1, sPut_ap, nSl_o3, nSl_o2, nSl_o1, nSl_ap, eSl_o3, eSl_o2, eSl_o1, eSl_ap, nCat_o2, nCat_o1, nCat_ap, nRep_o2, nRep_o1, nRep_ap, eCall_o1, eCall_ap, rOne_o1, rOne_ap, rTwo_o2, rTwo_o1, rTwo_ap, iRevR_o1, iRevR_ap, nRng_o1, nRng_ap, eIsi_o1, eIsi_ap, eC_ap, aNil_ap, sNext_ap, sSeq_ap, sRetN_ap, tTru_ap, eUn_ap, eB_ap, nB_ap, noTest_ap, eDNew_ap, oNo_ap, gSet_ap, gsNil_ap, gsCons_ap, gsCons_o, gTupM_ap, sAsg_ap, sAsg_o1, sAsg_o2, asB_ap, asB_o, tAndM_ap, tAndM_t, tAndM_f, tOrM_ap, tOrM_t, tOrM_f, sIf_ap, sIf_t, sIf_f, eIf_ap, eIf_t, eIf_f, eAnd_ap, eAnd_o, eAnd_t, eAnd_f, eOr_ap, eOr_o, eOr_t, eOr_f, eNot_ap, eNot_o1, eNot_o2, oSome_ap, oSome_o, eChain_ap, eChain_o1, eChain_o2, eChain_t, eChain_f, eChain_o4, eChain3_ap, eChain3_o1, eChain3_o2, eChain3_t, eChain3_f, eChain3_o4, eMt_ap, eMt_o2, isLst_lst, eTupRg_ap, eTupRg_o, ixt0, ixt1, ixt2, ixt3, ixt4, negD_i, slD_lst, eV_0, eV_s, Res.bind_ok, Res.bind_ex, Res.bind_bad, Res.on_ok, Res.on_ex, Res.on_bad, SRes.bind_nx, SRes.bind_rt, SRes.bind_ex, SRes.bind_bad, List.set_cons_zero, List.set_cons_succ, addD_i, subD_i, ltD_i, leD_i, gtD_i, geD_i, eqD_i, neD_i, lenB_scr, lenB_lst, lenB_tup, truD, tyD, Ty.le, isD, isntD, isNon, killE, List.foldl_cons, List.foldl_nil, List.length_cons, List.length_nil, Nat.reduceAdd, Nat.zero_add, Nat.reduceLeDiff, if_true, if_false, Bool.false_eq_true, Bool.not_true, Bool.not_false]
    exact ⟨[], fin_rt rfl⟩
  · rw [hp] at f3
    simp only [w0, f1, f2, f3, iT, iF, m1, m0, e10, e11, e12, ixO, ixW x5, b2, aCons_o2, aCons_o1, aCons_ap, eTup_o1, eTup_ap, nLst_o1, nLst_ap, eFrz_o1, eFrz_ap, eNew_o1, eNew_ap, eOp_o2, eOp_o1, eOp_ap, tNotM_o1, tNotM_ap, sDrop_o1, sDrop_ap, sRet_o1, sRet_ap, sSet_o1, sSet_ap, sPut_o3, sPut_o2, sPut_o1, sPut_ap, nSl_o3, nSl_o2, nSl_o1, nSl_ap, eSl_o3, eSl_o2, eSl_o1, eSl_ap, nCat_o2, nCat_o1, nCat_ap, nRep_o2, nRep_o1, nRep_ap, eCall_o1, eCall_ap, rOne_o1, rOne_ap, rTwo_o2, rTwo_o1, rTwo_ap, iRevR_o1, iRevR_ap, nRng_o1, nRng_ap, eIsi_o1, eIsi_ap, eC_ap, aNil_ap, sNext_ap, sSeq_ap, sRetN_ap, tTru_ap, eUn_ap, eB_ap, nB_ap, noTest_ap, eDNew_ap, oNo_ap, gSet_ap, gsNil_ap, gsCons_ap, gsCons_o, gTupM_ap, sAsg_ap, sAsg_o1, sAsg_o2, asB_ap, asB_o, tAndM_ap, tAndM_t, tAndM_f, tOrM_ap, tOrM_t, tOrM_f, sIf_ap, sIf_t, sIf_f, eIf_ap, eIf_t, eIf_f, eAnd_ap, eAnd_o, eAnd_t, eAnd_f, eOr_ap, eOr_o, eOr_t, eOr_f, eNot_ap, eNot_o1, eNot_o2, oSome_ap, oSome_o, eChain_ap, eChain_o1, eChain_o2, eChain_t, eChain_f, eChain_o4, eChain3_ap, eChain3_o1, eChain3_o2, eChain3_t, eChain3_f, eChain3_o4, eMt_ap, eMt_o2, isLst_lst, eTupRg_ap, eTupRg_o, ixt0, ixt1, ixt2, ixt3, ixt4, negD_i, slD_lst, eV_0, eV_s, Res.bind_ok, Res.bind_ex, Res.bind_bad, Res.on_ok, Res.on_ex, Res.on_bad, SRes.bind_nx, SRes.bind_rt, SRes.bind_ex, SRes.bind_bad, List.set_cons_zero, List.set_cons_succ, addD_i, subD_i, ltD_i, leD_i, gtD_i, geD_i, eqD_i, neD_i, lenB_scr, lenB_lst, lenB_tup, truD, tyD, Ty.le, isD, isntD, isNon, killE, List.foldl_cons, List.foldl_nil, List.length_cons, List.length_nil, Nat.reduceAdd, Nat.zero_add, Nat.reduceLeDiff, if_true, if_false, Bool.false_eq_true, Bool.not_true, Bool.not_false]
    exact ⟨[], fin_rt rfl⟩
  · rw [hp] at f3
    simp only [w0, f1, f2, f3, iT, iF, m1, m0, e20, e21, e22, ixO, ixM x5, b3, aCons_o2, aCons_o1, aCons_ap, eTup_o1, eTup_ap, nLst_o1, nLst_ap, eFrz_o1, eFrz_ap, eNew_o1, eNew_ap, eOp_o2, eOp_o1, eOp_ap, tNotM_o1, tNotM_ap, sDrop_o1, sDrop_ap, sRet_o1, sRet_ap, sSet_o1, sSet_ap, sPut_o3, sPut_o2, sPut_o1, sPut_ap, nSl_o3, nSl_o2, nSl_o1, nSl_ap, eSl_o3, eSl_o2, eSl_o1, eSl_ap, nCat_o2, nCat_o1, nCat_ap, nRep_o2, nRep_o1, nRep_ap, eCall_o1, eCall_ap, rOne_o1, rOne_ap, rTwo_o2, rTwo_o1, rTwo_ap, iRevR_o1, iRevR_ap, nRng_o1, nRng_ap, eIsi_o1, eIsi_ap, eC_ap, aNil_ap, sNext_ap, sSeq_ap, sRetN_ap, tTru_ap, eUn_ap, eB_ap, nB_ap, noTest_ap, eDNew_ap, oNo_ap, gSet_ap, gsNil_ap, gsCons_ap, gsCons_o, gTupM_ap, sAsg_ap, sAsg_o1, sAsg_o2, asB_ap, asB_o, tAndM_ap, tAndM_t, tAndM_f, tOrM_ap, tOrM_t, tOrM_f, sIf_ap, sIf_t, sIf_f, eIf_ap, eIf_t, eIf_f, eAnd_ap, eAnd_o, eAnd_t, eAnd_f, eOr_ap, eOr_o, eOr_t, eOr_f, eNot_ap, eNot_o1, eNot_o2, oSome_ap, oSome_o, eChain_ap, eChain_o1, eChain_o2, eChain_t, eChain_f, eChain_o4, eChain3_ap, eChain3_o1, eChain3_o2, eChain3_t, eChain3_f, eChain3_o4, eMt_ap, eMt_o2, isLst_lst, eTupRg_ap, eTupRg_o, ixt0, ixt1, ixt2, ixt3, ixt4, negD_i, slD_lst, eV_0, eV_s, Res.bind_ok, Res.bind_ex, Res.bind_bad, Res.on_ok, Res.on_ex, Res.on_bad, SRes.bind_nx, SRes.bind_rt, SRes.bind_ex, SRes.bind_bad, List.set_cons_zero, List.set_cons_succ, addD_i, subD_i, ltD_i, leD_i, gtD_i, geD_i, eqD_i, neD_i, lenB_scr, lenB_lst, lenB_tup, truD, tyD, Ty.le, isD, isntD, isNon, killE, List.foldl_cons, List.foldl_nil, List.length_cons, List.length_nil, Nat.reduceAdd, Nat.zero_add, Nat.reduceLeDiff, if_true, if_false, Bool.false_eq_true, Bool.not_true, Bool.not_false]
    exact ⟨[], fin_rt rfl⟩
theorem law_true (ns : List Int) (_ : ns.length ≤ 63) : ∃ st, m_law [.scr ns] [] = .ok (.bl true) st := by
  show ∃ st, fin true [] (b_law [some (.scr ns), none, none, none, none, none, none, none, none] []) = .ok (.bl true) st
  rw [b_law_eq]
  simp only [aCons_o2, aCons_o1, aCons_ap, eTup_o1, eTup_ap, nLst_o1, nLst_ap, eFrz_o1, eFrz_ap, eNew_o1, eNew_ap, eOp_o2, eOp_o1, eOp_ap, tNotM_o1, tNotM_ap, sDrop_o1, sDrop_ap, sRet_o1, sRet_ap, sSet_o1, sSet_ap, sPut_o3, sPut_o2, sPut_o1, sPut_ap, nSl_o3, nSl_o2, nSl_o1, nSl_ap, eSl_o3, eSl_o2, eSl_o1, eSl_ap, nCat_o2, nCat_o1, nCat_ap, nRep_o2, nRep_o1, nRep_ap, eCall_o1, eCall_ap, rOne_o1, rOne_ap, rTwo_o2, rTwo_o1, rTwo_ap, iRevR_o1, iRevR_ap, nRng_o1, nRng_ap, eIsi_o1, eIsi_ap, eC_ap, aNil_ap, sNext_ap, sSeq_ap, sRetN_ap, tTru_ap, eUn_ap, eB_ap, nB_ap, noTest_ap, eDNew_ap, oNo_ap, gSet_ap, gsNil_ap, gsCons_ap, gsCons_o, gTupM_ap, sAsg_ap, sAsg_o1, sAsg_o2, asB_ap, asB_o, tAndM_ap, tAndM_t, tAndM_f, tOrM_ap, tOrM_t, tOrM_f, sIf_ap, sIf_t, sIf_f, eIf_ap, eIf_t, eIf_f, eAnd_ap, eAnd_o, eAnd_t, eAnd_f, eOr_ap, eOr_o, eOr_t, eOr_f, eNot_ap, eNot_o1, eNot_o2, oSome_ap, oSome_o, eChain_ap, eChain_o1, eChain_o2, eChain_t, eChain_f, eChain_o4, eChain3_ap, eChain3_o1, eChain3_o2, eChain3_t, eChain3_f, eChain3_o4, eMt_ap, eMt_o2, isLst_lst, eTupRg_ap, eTupRg_o, ixt0, ixt1, ixt2, ixt3, ixt4, negD_i, slD_lst, eV_0, eV_s, Res.bind_ok, Res.bind_ex, Res.bind_bad, Res.on_ok, Res.on_ex, Res.on_bad, SRes.bind_nx, SRes.bind_rt, SRes.bind_ex, SRes.bind_bad, List.set_cons_zero, List.set_cons_succ, addD_i, subD_i, ltD_i, leD_i, gtD_i, geD_i, eqD_i, neD_i, lenB_scr, lenB_lst, lenB_tup, truD, tyD, Ty.le, isD, isntD, isNon, killE, List.foldl_cons, List.foldl_nil, List.length_cons, List.length_nil, Nat.reduceAdd, Nat.zero_add, Nat.reduceLeDiff, if_true, if_false, Bool.false_eq_true, Bool.not_true, Bool.not_false]
  rw [cell_eq (i := 0) (k := 0) rfl (by omega)]
  simp only [aCons_o2, aCons_o1, aCons_ap, eTup_o1, eTup_ap, nLst_o1, nLst_ap, eFrz_o1, eFrz_ap, eNew_o1, eNew_ap, eOp_o2, eOp_o1, eOp_ap, tNotM_o1, tNotM_ap, sDrop_o1, sDrop_ap, sRet_o1, sRet_ap, sSet_o1, sSet_ap, sPut_o3, sPut_o2, sPut_o1, sPut_ap, nSl_o3, nSl_o2, nSl_o1, nSl_ap, eSl_o3, eSl_o2, eSl_o1, eSl_ap, nCat_o2, nCat_o1, nCat_ap, nRep_o2, nRep_o1, nRep_ap, eCall_o1, eCall_ap, rOne_o1, rOne_ap, rTwo_o2, rTwo_o1, rTwo_ap, iRevR_o1, iRevR_ap, nRng_o1, nRng_ap, eIsi_o1, eIsi_ap, eC_ap, aNil_ap, sNext_ap, sSeq_ap, sRetN_ap, tTru_ap, eUn_ap, eB_ap, nB_ap, noTest_ap, eDNew_ap, oNo_ap, gSet_ap, gsNil_ap, gsCons_ap, gsCons_o, gTupM_ap, sAsg_ap, sAsg_o1, sAsg_o2, asB_ap, asB_o, tAndM_ap, tAndM_t, tAndM_f, tOrM_ap, tOrM_t, tOrM_f, sIf_ap, sIf_t, sIf_f, eIf_ap, eIf_t, eIf_f, eAnd_ap, eAnd_o, eAnd_t, eAnd_f, eOr_ap, eOr_o, eOr_t, eOr_f, eNot_ap, eNot_o1, eNot_o2, oSome_ap, oSome_o, eChain_ap, eChain_o1, eChain_o2, eChain_t, eChain_f, eChain_o4, eChain3_ap, eChain3_o1, eChain3_o2, eChain3_t, eChain3_f, eChain3_o4, eMt_ap, eMt_o2, isLst_lst, eTupRg_ap, eTupRg_o, ixt0, ixt1, ixt2, ixt3, ixt4, negD_i, slD_lst, eV_0, eV_s, Res.bind_ok, Res.bind_ex, Res.bind_bad, Res.on_ok, Res.on_ex, Res.on_bad, SRes.bind_nx, SRes.bind_rt, SRes.bind_ex, SRes.bind_bad, List.set_cons_zero, List.set_cons_succ, addD_i, subD_i, ltD_i, leD_i, gtD_i, geD_i, eqD_i, neD_i, lenB_scr, lenB_lst, lenB_tup, truD, tyD, Ty.le, isD, isntD, isNon, killE, List.foldl_cons, List.foldl_nil, List.length_cons, List.length_nil, Nat.reduceAdd, Nat.zero_add, Nat.reduceLeDiff, if_true, if_false, Bool.false_eq_true, Bool.not_true, Bool.not_false]
  rw [modD_i (by omega)]
  simp only [aCons_o2, aCons_o1, aCons_ap, eTup_o1, eTup_ap, nLst_o1, nLst_ap, eFrz_o1, eFrz_ap, eNew_o1, eNew_ap, eOp_o2, eOp_o1, eOp_ap, tNotM_o1, tNotM_ap, sDrop_o1, sDrop_ap, sRet_o1, sRet_ap, sSet_o1, sSet_ap, sPut_o3, sPut_o2, sPut_o1, sPut_ap, nSl_o3, nSl_o2, nSl_o1, nSl_ap, eSl_o3, eSl_o2, eSl_o1, eSl_ap, nCat_o2, nCat_o1, nCat_ap, nRep_o2, nRep_o1, nRep_ap, eCall_o1, eCall_ap, rOne_o1, rOne_ap, rTwo_o2, rTwo_o1, rTwo_ap, iRevR_o1, iRevR_ap, nRng_o1, nRng_ap, eIsi_o1, eIsi_ap, eC_ap, aNil_ap, sNext_ap, sSeq_ap, sRetN_ap, tTru_ap, eUn_ap, eB_ap, nB_ap, noTest_ap, eDNew_ap, oNo_ap, gSet_ap, gsNil_ap, gsCons_ap, gsCons_o, gTupM_ap, sAsg_ap, sAsg_o1, sAsg_o2, asB_ap, asB_o, tAndM_ap, tAndM_t, tAndM_f, tOrM_ap, tOrM_t, tOrM_f, sIf_ap, sIf_t, sIf_f, eIf_ap, eIf_t, eIf_f, eAnd_ap, eAnd_o, eAnd_t, eAnd_f, eOr_ap, eOr_o, eOr_t, eOr_f, eNot_ap, eNot_o1, eNot_o2, oSome_ap, oSome_o, eChain_ap, eChain_o1, eChain_o2, eChain_t, eChain_f, eChain_o4, eChain3_ap, eChain3_o1, eChain3_o2, eChain3_t, eChain3_f, eChain3_o4, eMt_ap, eMt_o2, isLst_lst, eTupRg_ap, eTupRg_o, ixt0, ixt1, ixt2, ixt3, ixt4, negD_i, slD_lst, eV_0, eV_s, Res.bind_ok, Res.bind_ex, Res.bind_bad, Res.on_ok, Res.on_ex, Res.on_bad, SRes.bind_nx, SRes.bind_rt, SRes.bind_ex, SRes.bind_bad, List.set_cons_zero, List.set_cons_succ, addD_i, subD_i, ltD_i, leD_i, gtD_i, geD_i, eqD_i, neD_i, lenB_scr, lenB_lst, lenB_tup, truD, tyD, Ty.le, isD, isntD, isNon, killE, List.foldl_cons, List.foldl_nil, List.length_cons, List.length_nil, Nat.reduceAdd, Nat.zero_add, Nat.reduceLeDiff, if_true, if_false, Bool.false_eq_true, Bool.not_true, Bool.not_false]
  rw [cell_eq (i := 1) (k := 1) rfl (by omega)]
  simp only [aCons_o2, aCons_o1, aCons_ap, eTup_o1, eTup_ap, nLst_o1, nLst_ap, eFrz_o1, eFrz_ap, eNew_o1, eNew_ap, eOp_o2, eOp_o1, eOp_ap, tNotM_o1, tNotM_ap, sDrop_o1, sDrop_ap, sRet_o1, sRet_ap, sSet_o1, sSet_ap, sPut_o3, sPut_o2, sPut_o1, sPut_ap, nSl_o3, nSl_o2, nSl_o1, nSl_ap, eSl_o3, eSl_o2, eSl_o1, eSl_ap, nCat_o2, nCat_o1, nCat_ap, nRep_o2, nRep_o1, nRep_ap, eCall_o1, eCall_ap, rOne_o1, rOne_ap, rTwo_o2, rTwo_o1, rTwo_ap, iRevR_o1, iRevR_ap, nRng_o1, nRng_ap, eIsi_o1, eIsi_ap, eC_ap, aNil_ap, sNext_ap, sSeq_ap, sRetN_ap, tTru_ap, eUn_ap, eB_ap, nB_ap, noTest_ap, eDNew_ap, oNo_ap, gSet_ap, gsNil_ap, gsCons_ap, gsCons_o, gTupM_ap, sAsg_ap, sAsg_o1, sAsg_o2, asB_ap, asB_o, tAndM_ap, tAndM_t, tAndM_f, tOrM_ap, tOrM_t, tOrM_f, sIf_ap, sIf_t, sIf_f, eIf_ap, eIf_t, eIf_f, eAnd_ap, eAnd_o, eAnd_t, eAnd_f, eOr_ap, eOr_o, eOr_t, eOr_f, eNot_ap, eNot_o1, eNot_o2, oSome_ap, oSome_o, eChain_ap, eChain_o1, eChain_o2, eChain_t, eChain_f, eChain_o4, eChain3_ap, eChain3_o1, eChain3_o2, eChain3_t, eChain3_f, eChain3_o4, eMt_ap, eMt_o2, isLst_lst, eTupRg_ap, eTupRg_o, ixt0, ixt1, ixt2, ixt3, ixt4, negD_i, slD_lst, eV_0, eV_s, Res.bind_ok, Res.bind_ex, Res.bind_bad, Res.on_ok, Res.on_ex, Res.on_bad, SRes.bind_nx, SRes.bind_rt, SRes.bind_ex, SRes.bind_bad, List.set_cons_zero, List.set_cons_succ, addD_i, subD_i, ltD_i, leD_i, gtD_i, geD_i, eqD_i, neD_i, lenB_scr, lenB_lst, lenB_tup, truD, tyD, Ty.le, isD, isntD, isNon, killE, List.foldl_cons, List.foldl_nil, List.length_cons, List.length_nil, Nat.reduceAdd, Nat.zero_add, Nat.reduceLeDiff, if_true, if_false, Bool.false_eq_true, Bool.not_true, Bool.not_false]
  rw [modD_i (by omega)]
  simp only [aCons_o2, aCons_o1, aCons_ap, eTup_o1, eTup_ap, nLst_o1, nLst_ap, eFrz_o1, eFrz_ap, eNew_o1, eNew_ap, eOp_o2, eOp_o1, eOp_ap, tNotM_o1, tNotM_ap, sDrop_o1, sDrop_ap, sRet_o1, sRet_ap, sSet_o1, sSet_ap, sPut_o3, sPut_o2, sPut_o1, sPut_ap, nSl_o3, nSl_o2, nSl_o1, nSl_ap, eSl_o3, eSl_o2, eSl_o1, eSl_ap, nCat_o2, nCat_o1, nCat_ap, nRep_o2, nRep_o1, nRep_ap, eCall_o1, eCall_ap, rOne_o1, rOne_ap, rTwo_o2, rTwo_o1, rTwo_ap, iRevR_o1, iRevR_ap, nRng_o1, nRng_ap, eIsi_o1, eIsi_ap, eC_ap, aNil_ap, sNext_ap, sSeq_ap, sRetN_ap, tTru_ap, eUn_ap, eB_ap, nB_ap, noTest_ap, eDNew_ap, oNo_ap, gSet_ap, gsNil_ap, gsCons_ap, gsCons_o, gTupM_ap, sAsg_ap, sAsg_o1, sAsg_o2, asB_ap, asB_o, tAndM_ap, tAndM_t, tAndM_f, tOrM_ap, tOrM_t, tOrM_f, sIf_ap, sIf_t, sIf_f, eIf_ap, eIf_t, eIf_f, eAnd_ap, eAnd_o, eAnd_t, eAnd_f, eOr_ap, eOr_o, eOr_t, eOr_f, eNot_ap, eNot_o1, eNot_o2, oSome_ap, oSome_o, eChain_ap, eChain_o1, eChain_o2, eChain_t, eChain_f, eChain_o4, eChain3_ap, eChain3_o1, eChain3_o2, eChain3_t, eChain3_f, eChain3_o4, eMt_ap, eMt_o2, isLst_lst, eTupRg_ap, eTupRg_o, ixt0, ixt1, ixt2, ixt3, ixt4, negD_i, slD_lst, eV_0, eV_s, Res.bind_ok, Res.bind_ex, Res.bind_bad, Res.on_ok, Res.on_ex, Res.on_bad, SRes.bind_nx, SRes.bind_rt, SRes.bind_ex, SRes.bind_bad, List.set_cons_zero, List.set_cons_succ, addD_i, subD_i, ltD_i, leD_i, gtD_i, geD_i, eqD_i, neD_i, lenB_scr, lenB_lst, lenB_tup, truD, tyD, Ty.le, isD, isntD, isNon, killE, List.foldl_cons, List.foldl_nil, List.length_cons, List.length_nil, Nat.reduceAdd, Nat.zero_add, Nat.reduceLeDiff, if_true, if_false, Bool.false_eq_true, Bool.not_true, Bool.not_false]
  rw [cell_eq (i := 2) (k := 2) rfl (by omega)]
  simp only [aCons_o2, aCons_o1, aCons_ap, eTup_o1, eTup_ap, nLst_o1, nLst_ap, eFrz_o1, eFrz_ap, eNew_o1, eNew_ap, eOp_o2, eOp_o1, eOp_ap, tNotM_o1, tNotM_ap, sDrop_o1, sDrop_ap, sRet_o1, sRet_ap, sSet_o1, sSet_ap, sPut_o3, sPut_o2, sPut_o1, sPut_ap, nSl_o3, nSl_o2, nSl_o1, nSl_ap, eSl_o3, eSl_o2, eSl_o1, eSl_ap, nCat_o2, nCat_o1, nCat_ap, nRep_o2, nRep_o1, nRep_ap, eCall_o1, eCall_ap, rOne_o1, rOne_ap, rTwo_o2, rTwo_o1, rTwo_ap, iRevR_o1, iRevR_ap, nRng_o1, nRng_ap, eIsi_o1, eIsi_ap, eC_ap, aNil_ap, sNext_ap, sSeq_ap, sRetN_ap, tTru_ap, eUn_ap, eB_ap, nB_ap, noTest_ap, eDNew_ap, oNo_ap, gSet_ap, gsNil_ap, gsCons_ap, gsCons_o, gTupM_ap, sAsg_ap, sAsg_o1, sAsg_o2, asB_ap, asB_o, tAndM_ap, tAndM_t, tAndM_f, tOrM_ap, tOrM_t, tOrM_f, sIf_ap, sIf_t, sIf_f, eIf_ap, eIf_t, eIf_f, eAnd_ap, eAnd_o, eAnd_t, eAnd_f, eOr_ap, eOr_o, eOr_t, eOr_f, eNot_ap, eNot_o1, eNot_o2, oSome_ap, oSome_o, eChain_ap, eChain_o1, eChain_o2, eChain_t, eChain_f, eChain_o4, eChain3_ap, eChain3_o1, eChain3_o2, eChain3_t, eChain3_f, eChain3_o4, eMt_ap, eMt_o2, isLst_lst, eTupRg_ap, eTupRg_o, ixt0, ixt1, ixt2, ixt3, ixt4, negD_i, slD_lst, eV_0, eV_s, Res.bind_ok, Res.bind_ex, Res.bind_bad, Res.on_ok, Res.on_ex, Res.on_bad, SRes.bind_nx, SRes.bind_rt, SRes.bind_ex, SRes.bind_bad, List.set_cons_zero, List.set_cons_succ, addD_i, subD_i, ltD_i, leD_i, gtD_i, geD_i, eqD_i, neD_i, lenB_scr, lenB_lst, lenB_tup, truD, tyD, Ty.le, isD, isntD, isNon, killE, List.foldl_cons, List.foldl_nil, List.length_cons, List.length_nil, Nat.reduceAdd, Nat.zero_add, Nat.reduceLeDiff, if_true, if_false, Bool.false_eq_true, Bool.not_true, Bool.not_false]
  rw [modD_i (by omega)]
  simp only [aCons_o2, aCons_o1, aCons_ap, eTup_o1, eTup_ap, nLst_o1, nLst_ap, eFrz_o1, eFrz_ap, eNew_o1, eNew_ap, eOp_o2, eOp_o1, eOp_ap, tNotM_o1, tNotM_ap, sDrop_o1, sDrop_ap, sRet_o1, sRet_ap, sSet_o1, sSet_ap, sPut_o3, sPut_o2, sPut_o1, sPut_ap, nSl_o3, nSl_o2, nSl_o1, nSl_ap, eSl_o3, eSl_o2, eSl_o1, eSl_ap, nCat_o2, nCat_o1, nCat_ap, nRep_o2, nRep_o1, nRep_ap, eCall_o1, eCall_ap, rOne_o1, rOne_ap, rTwo_o2, rTwo_o1, rTwo_ap, iRevR_o1, iRevR_ap, nRng_o1, nRng_ap, eIsi_o1, eIsi_ap, eC_ap, aNil_ap, sNext_ap, sSeq_ap, sRetN_ap, tTru_ap, eUn_ap, eB_ap, nB_ap, noTest_ap, eDNew_ap, oNo_ap, gSet_ap, gsNil_ap, gsCons_ap, gsCons_o, gTupM_ap, sAsg_ap, sAsg_o1, sAsg_o2, asB_ap, asB_o, tAndM_ap, tAndM_t, tAndM_f, tOrM_ap, tOrM_t, tOrM_f, sIf_ap, sIf_t, sIf_f, eIf_ap, eIf_t, eIf_f, eAnd_ap, eAnd_o, eAnd_t, eAnd_f, eOr_ap, eOr_o, eOr_t, eOr_f, eNot_ap, eNot_o1, eNot_o2, oSome_ap, oSome_o, eChain_ap, eChain_o1, eChain_o2, eChain_t, eChain_f, eChain_o4, eChain3_ap, eChain3_o1, eChain3_o2, eChain3_t, eChain3_f, eChain3_o4, eMt_ap, eMt_o2, isLst_lst, eTupRg_ap, eTupRg_o, ixt0, ixt1, ixt2, ixt3, ixt4, negD_i, slD_lst, eV_0, eV_s, Res.bind_ok, Res.bind_ex, Res.bind_bad, Res.on_ok, Res.on_ex, Res.on_bad, SRes.bind_nx, SRes.bind_rt, SRes.bind_ex, SRes.bind_bad, List.set_cons_zero, List.set_cons_succ, addD_i, subD_i, ltD_i, leD_i, gtD_i, geD_i, eqD_i, neD_i, lenB_scr, lenB_lst, lenB_tup, truD, tyD, Ty.le, isD, isntD, isNon, killE, List.foldl_cons, List.foldl_nil, List.length_cons, List.length_nil, Nat.reduceAdd, Nat.zero_add, Nat.reduceLeDiff, if_true, if_false, Bool.false_eq_true, Bool.not_true, Bool.not_false]
  rw [cell_eq (i := 3) (k := 3) rfl (by omega)]
  simp only [aCons_o2, aCons_o1, aCons_ap, eTup_o1, eTup_ap, nLst_o1, nLst_ap, eFrz_o1, eFrz_ap, eNew_o1, eNew_ap, eOp_o2, eOp_o1, eOp_ap, tNotM_o1, tNotM_ap, sDrop_o1, sDrop_ap, sRet_o1, sRet_ap, sSet_o1, sSet_ap, sPut_o3, sPut_o2, sPut_o1, sPut_ap, nSl_o3, nSl_o2, nSl_o1, nSl_ap, eSl_o3, eSl_o2, eSl_o1, eSl_ap, nCat_o2, nCat_o1, nCat_ap, nRep_o2, nRep_o1, nRep_ap, eCall_o1, eCall_ap, rOne_o1, rOne_ap, rTwo_o2, rTwo_o1, rTwo_ap, iRevR_o1, iRevR_ap, nRng_o1, nRng_ap, eIsi_o1, eIsi_ap, eC_ap, aNil_ap, sNext_ap, sSeq_ap, sRetN_ap, tTru_ap, eUn_ap, eB_ap, nB_ap, noTest_ap, eDNew_ap, oNo_ap, gSet_ap, gsNil_ap, gsCons_ap, gsCons_o, gTupM_ap, sAsg_ap, sAsg_o1, sAsg_o2, asB_ap, asB_o, tAndM_ap, tAndM_t, tAndM_f, tOrM_ap, tOrM_t, tOrM_f, sIf_ap, sIf_t, sIf_f, eIf_ap, eIf_t, eIf_f, eAnd_ap, eAnd_o, eAnd_t, eAnd_f, eOr_ap, eOr_o, eOr_t, eOr_f, eNot_ap, eNot_o1, eNot_o2, oSome_ap, oSome_o, eChain_ap, eChain_o1, eChain_o2, eChain_t, eChain_f, eChain_o4, eChain3_ap, eChain3_o1, eChain3_o2, eChain3_t, eChain3_f, eChain3_o4, eMt_ap, eMt_o2, isLst_lst, eTupRg_ap, eTupRg_o, ixt0, ixt1, ixt2, ixt3, ixt4, negD_i, slD_lst, eV_0, eV_s, Res.bind_ok, Res.bind_ex, Res.bind_bad, Res.on_ok, Res.on_ex, Res.on_bad, SRes.bind_nx, SRes.bind_rt, SRes.bind_ex, SRes.bind_bad, List.set_cons_zero, List.set_cons_succ, addD_i, subD_i, ltD_i, leD_i, gtD_i, geD_i, eqD_i, neD_i, lenB_scr, lenB_lst, lenB_tup, truD, tyD, Ty.le, isD, isntD, isNon, killE, List.foldl_cons, List.foldl_nil, List.length_cons, List.length_nil, Nat.reduceAdd, Nat.zero_add, Nat.reduceLeDiff, if_true, if_false, Bool.false_eq_true, Bool.not_true, Bool.not_false]
  rw [modD_i (by omega)]
  simp only [aCons_o2, aCons_o1, aCons_ap, eTup_o1, eTup_ap, nLst_o1, nLst_ap, eFrz_o1, eFrz_ap, eNew_o1, eNew_ap, eOp_o2, eOp_o1, eOp_ap, tNotM_o1, tNotM_ap, sDrop_o1, sDrop_ap, sRet_o1, sRet_ap, sSet_o1, sSet_ap, sPut_o3, sPut_o2, sPut_o1, sPut_ap, nSl_o3, nSl_o2, nSl_o1, nSl_ap, eSl_o3, eSl_o2, eSl_o1, eSl_ap, nCat_o2, nCat_o1, nCat_ap, nRep_o2, nRep_o1, nRep_ap, eCall_o1, eCall_ap, rOne_o1, rOne_ap, rTwo_o2, rTwo_o1, rTwo_ap, iRevR_o1, iRevR_ap, nRng_o1, nRng_ap, eIsi_o1, eIsi_ap, eC_ap, aNil_ap, sNext_ap, sSeq_ap, sRetN_ap, tTru_ap, eUn_ap, eB_ap, nB_ap, noTest_ap, eDNew_ap, oNo_ap, gSet_ap, gsNil_ap, gsCons_ap, gsCons_o, gTupM_ap, sAsg_ap, sAsg_o1, sAsg_o2, asB_ap, asB_o, tAndM_ap, tAndM_t, tAndM_f, tOrM_ap, tOrM_t, tOrM_f, sIf_ap, sIf_t, sIf_f, eIf_ap, eIf_t, eIf_f, eAnd_ap, eAnd_o, eAnd_t, eAnd_f, eOr_ap, eOr_o, eOr_t, eOr_f, eNot_ap, eNot_o1, eNot_o2, oSome_ap, oSome_o, eChain_ap, eChain_o1, eChain_o2, eChain_t, eChain_f, eChain_o4, eChain3_ap, eChain3_o1, eChain3_o2, eChain3_t, eChain3_f, eChain3_o4, eMt_ap, eMt_o2, isLst_lst, eTupRg_ap, eTupRg_o, ixt0, ixt1, ixt2, ixt3, ixt4, negD_i, slD_lst, eV_0, eV_s, Res.bind_ok, Res.bind_ex, Res.bind_bad, Res.on_ok, Res.on_ex, Res.on_bad, SRes.bind_nx, SRes.bind_rt, SRes.bind_ex, SRes.bind_bad, List.set_cons_zero, List.set_cons_succ, addD_i, subD_i, ltD_i, leD_i, gtD_i, geD_i, eqD_i, neD_i, lenB_scr, lenB_lst, lenB_tup, truD, tyD, Ty.le, isD, isntD, isNon, killE, List.foldl_cons, List.foldl_nil, List.length_cons, List.length_nil, Nat.reduceAdd, Nat.zero_add, Nat.reduceLeDiff, if_true, if_false, Bool.false_eq_true, Bool.not_true, Bool.not_false]
  rw [cell_eq (i := 4) (k := 4) rfl (by omega)]
  simp only [aCons_o2, aCons_o1, aCons_ap, eTup_o1, eTup_ap, nLst_o1, nLst_ap, eFrz_o1, eFrz_ap, eNew_o1, eNew_ap, eOp_o2, eOp_o1, eOp_ap, tNotM_o1, tNotM_ap, sDrop_o1, sDrop_ap, sRet_o1, sRet_ap, sSet_o1, sSet_ap, sPut_o3, sPut_o2, sPut_o1, sPut_ap, nSl_o3, nSl_o2, nSl_o1, nSl_ap, eSl_o3, eSl_o2, eSl_o1, eSl_ap, nCat_o2, nCat_o1, nCat_ap, nRep_o2, nRep_o1, nRep_ap, eCall_o1, eCall_ap, rOne_o1, rOne_ap, rTwo_o2, rTwo_o1, rTwo_ap, iRevR_o1, iRevR_ap, nRng_o1, nRng_ap, eIsi_o1, eIsi_ap, eC_ap, aNil_ap, sNext_ap, sSeq_ap, sRetN_ap, tTru_ap, eUn_ap, eB_ap, nB_ap, noTest_ap, eDNew_ap, oNo_ap, gSet_ap, gsNil_ap, gsCons_ap, gsCons_o, gTupM_ap, sAsg_ap, sAsg_o1, sAsg_o2, asB_ap, asB_o, tAndM_ap, tAndM_t, tAndM_f, tOrM_ap, tOrM_t, tOrM_f, sIf_ap, sIf_t, sIf_f, eIf_ap, eIf_t, eIf_f, eAnd_ap, eAnd_o, eAnd_t, eAnd_f, eOr_ap, eOr_o, eOr_t, eOr_f, eNot_ap, eNot_o1, eNot_o2, oSome_ap, oSome_o, eChain_ap, eChain_o1, eChain_o2, eChain_t, eChain_f, eChain_o4, eChain3_ap, eChain3_o1, eChain3_o2, eChain3_t, eChain3_f, eChain3_o4, eMt_ap, eMt_o2, isLst_lst, eTupRg_ap, eTupRg_o, ixt0, ixt1, ixt2, ixt3, ixt4, negD_i, slD_lst, eV_0, eV_s, Res.bind_ok, Res.bind_ex, Res.bind_bad, Res.on_ok, Res.on_ex, Res.on_bad, SRes.bind_nx, SRes.bind_rt, SRes.bind_ex, SRes.bind_bad, List.set_cons_zero, List.set_cons_succ, addD_i, subD_i, ltD_i, leD_i, gtD_i, geD_i, eqD_i, neD_i, lenB_scr, lenB_lst, lenB_tup, truD, tyD, Ty.le, isD, isntD, isNon, killE, List.foldl_cons, List.foldl_nil, List.length_cons, List.length_nil, Nat.reduceAdd, Nat.zero_add, Nat.reduceLeDiff, if_true, if_false, Bool.false_eq_true, Bool.not_true, Bool.not_false]
  obtain ⟨i, hi⟩ : ∃ i : Nat, cellv ns 0 % 4 = i := ⟨(cellv ns 0 % 4).toNat, by omega⟩
  obtain ⟨j, hj⟩ : ∃ j : Nat, cellv ns 1 % 4 = j := ⟨(cellv ns 1 % 4).toNat, by omega⟩
  obtain ⟨m, hm⟩ : ∃ m : Nat, cellv ns 2 % 7 = m := ⟨(cellv ns 2 % 7).toNat, by omega⟩
  obtain ⟨i', hi'⟩ : ∃ i : Nat, cellv ns 0 % 5 = i := ⟨(cellv ns 0 % 5).toNat, by omega⟩
  obtain ⟨j', hj'⟩ : ∃ j : Nat, cellv ns 1 % 5 = j := ⟨(cellv ns 1 % 5).toNat, by omega⟩
  obtain ⟨m', hm'⟩ : ∃ m : Nat, cellv ns 2 % 8 = m := ⟨(cellv ns 2 % 8).toNat, by omega⟩
  obtain ⟨y, hy⟩ : ∃ y : Int, cellv ns 3 % 6 = y := ⟨_, rfl⟩
  rw [hi, hj, hm, hy]
  have hi4 : i < 4 := by omega
  have hj4 : j < 4 := by omega
  have hm7 : m < 7 := by omega
  by_cases y0 : y = 0
  · subst y0
    exact way0 hi4 hj4 hm7
  · have d0 : (y == 0) = false := by simpa using y0
    unfold restA
    simp only [d0, aCons_o2, aCons_o1, aCons_ap, eTup_o1, eTup_ap, nLst_o1, nLst_ap, eFrz_o1, eFrz_ap, eNew_o1, eNew_ap, eOp_o2, eOp_o1, eOp_ap, tNotM_o1, tNotM_ap, sDrop_o1, sDrop_ap, sRet_o1, sRet_ap, sSet_o1, sSet_ap, sPut_o3, sPut_o2, sPut_o1, sPut_ap, nSl_o3, nSl_o2, nSl_o1, nSl_ap, eSl_o3, eSl_o2, eSl_o1, eSl_ap, nCat_o2, nCat_o1, nCat_ap, nRep_o2, nRep_o1, nRep_ap, eCall_o1, eCall_ap, rOne_o1, rOne_ap, rTwo_o2, rTwo_o1, rTwo_ap, iRevR_o1, iRevR_ap, nRng_o1, nRng_ap, eIsi_o1, eIsi_ap, eC_ap, aNil_ap, sNext_ap, sSeq_ap, sRetN_ap, tTru_ap, eUn_ap, eB_ap, nB_ap, noTest_ap, eDNew_ap, oNo_ap, gSet_ap, gsNil_ap, gsCons_ap, gsCons_o, gTupM_ap, sAsg_ap, sAsg_o1, sAsg_o2, asB_ap, asB_o, tAndM_ap, tAndM_t, tAndM_f, tOrM_ap, tOrM_t, tOrM_f, sIf_ap, sIf_t, sIf_f, eIf_ap, eIf_t, eIf_f, eAnd_ap, eAnd_o, eAnd_t, eAnd_f, eOr_ap, eOr_o, eOr_t, eOr_f, eNot_ap, eNot_o1, eNot_o2, oSome_ap, oSome_o, eChain_ap, eChain_o1, eChain_o2, eChain_t, eChain_f, eChain_o4, eChain3_ap, eChain3_o1, eChain3_o2, eChain3_t, eChain3_f, eChain3_o4, eMt_ap, eMt_o2, isLst_lst, eTupRg_ap, eTupRg_o, ixt0, ixt1, ixt2, ixt3, ixt4, negD_i, slD_lst, eV_0, eV_s, Res.bind_ok, Res.bind_ex, Res.bind_bad, Res.on_ok, Res.on_ex, Res.on_bad, SRes.bind_nx, SRes.bind_rt, SRes.bind_ex, SRes.bind_bad, List.set_cons_zero, List.set_cons_succ, addD_i, subD_i, ltD_i, leD_i, gtD_i, geD_i, eqD_i, neD_i, lenB_scr, lenB_lst, lenB_tup, truD, tyD, Ty.le, isD, isntD, isNon, killE, List.foldl_cons, List.foldl_nil, List.length_cons, List.length_nil, Nat.reduceAdd, Nat.zero_add, Nat.reduceLeDiff, if_true, if_false, Bool.false_eq_true, Bool.not_true, Bool.not_false]
    unfold restB
    by_cases y3 : y < 3
    · have d1 : decide (y < 3) = true := decide_eq_true y3
      simp only [d1, aCons_o2, aCons_o1, aCons_ap, eTup_o1, eTup_ap, nLst_o1, nLst_ap, eFrz_o1, eFrz_ap, eNew_o1, eNew_ap, eOp_o2, eOp_o1, eOp_ap, tNotM_o1, tNotM_ap, sDrop_o1, sDrop_ap, sRet_o1, sRet_ap, sSet_o1, sSet_ap, sPut_o3, sPut_o2, sPut_o1, sPut_ap, nSl_o3, nSl_o2, nSl_o1, nSl_ap, eSl_o3, eSl_o2, eSl_o1, eSl_ap, nCat_o2, nCat_o1, nCat_ap, nRep_o2, nRep_o1, nRep_ap, eCall_o1, eCall_ap, rOne_o1, rOne_ap, rTwo_o2, rTwo_o1, rTwo_ap, iRevR_o1, iRevR_ap, nRng_o1, nRng_ap, eIsi_o1, eIsi_ap, eC_ap, aNil_ap, sNext_ap, sSeq_ap, sRetN_ap, tTru_ap, eUn_ap, eB_ap, nB_ap, noTest_ap, eDNew_ap, oNo_ap, gSet_ap, gsNil_ap, gsCons_ap, gsCons_o, gTupM_ap, sAsg_ap, sAsg_o1, sAsg_o2, asB_ap, asB_o, tAndM_ap, tAndM_t, tAndM_f, tOrM_ap, tOrM_t, tOrM_f, sIf_ap, sIf_t, sIf_f, eIf_ap, eIf_t, eIf_f, eAnd_ap, eAnd_o, eAnd_t, eAnd_f, eOr_ap, eOr_o, eOr_t, eOr_f, eNot_ap, eNot_o1, eNot_o2, oSome_ap, oSome_o, eChain_ap, eChain_o1, eChain_o2, eChain_t, eChain_f, eChain_o4, eChain3_ap, eChain3_o1, eChain3_o2, eChain3_t, eChain3_f, eChain3_o4, eMt_ap, eMt_o2, isLst_lst, eTupRg_ap, eTupRg_o, ixt0, ixt1, ixt2, ixt3, ixt4, negD_i, slD_lst, eV_0, eV_s, Res.bind_ok, Res.bind_ex, Res.bind_bad, Res.on_ok, Res.on_ex, Res.on_bad, SRes.bind_nx, SRes.bind_rt, SRes.bind_ex, SRes.bind_bad, List.set_cons_zero, List.set_cons_succ, addD_i, subD_i, ltD_i, leD_i, gtD_i, geD_i, eqD_i, neD_i, lenB_scr, lenB_lst, lenB_tup, truD, tyD, Ty.le, isD, isntD, isNon, killE, List.foldl_cons, List.foldl_nil, List.length_cons, List.length_nil, Nat.reduceAdd, Nat.zero_add, Nat.reduceLeDiff, if_true, if_false, Bool.false_eq_true, Bool.not_true, Bool.not_false]
      rw [cell_eq (i := 0) (k := 0) rfl (by omega)]
      simp only [aCons_o2, aCons_o1, aCons_ap, eTup_o1, eTup_ap, nLst_o1, nLst_ap, eFrz_o1, eFrz_ap, eNew_o1, eNew_ap, eOp_o2, eOp_o1, eOp_ap, tNotM_o1, tNotM_ap, sDrop_o1, sDrop_ap, sRet_o1, sRet_ap, sSet_o1, sSet_ap, sPut_o3, sPut_o2, sPut_o1, sPut_ap, nSl_o3, nSl_o2, nSl_o1, nSl_ap, eSl_o3, eSl_o2, eSl_o1, eSl_ap, nCat_o2, nCat_o1, nCat_ap, nRep_o2, nRep_o1, nRep_ap, eCall_o1, eCall_ap, rOne_o1, rOne_ap, rTwo_o2, rTwo_o1, rTwo_ap, iRevR_o1, iRevR_ap, nRng_o1, nRng_ap, eIsi_o1, eIsi_ap, eC_ap, aNil_ap, sNext_ap, sSeq_ap, sRetN_ap, tTru_ap, eUn_ap, eB_ap, nB_ap, noTest_ap, eDNew_ap, oNo_ap, gSet_ap, gsNil_ap, gsCons_ap, gsCons_o, gTupM_ap, sAsg_ap, sAsg_o1, sAsg_o2, asB_ap, asB_o, tAndM_ap, tAndM_t, tAndM_f, tOrM_ap, tOrM_t, tOrM_f, sIf_ap, sIf_t, sIf_f, eIf_ap, eIf_t, eIf_f, eAnd_ap, eAnd_o, eAnd_t, eAnd_f, eOr_ap, eOr_o, eOr_t, eOr_f, eNot_ap, eNot_o1, eNot_o2, oSome_ap, oSome_o, eChain_ap, eChain_o1, eChain_o2, eChain_t, eChain_f, eChain_o4, eChain3_ap, eChain3_o1, eChain3_o2, eChain3_t, eChain3_f, eChain3_o4, eMt_ap, eMt_o2, isLst_lst, eTupRg_ap, eTupRg_o, ixt0, ixt1, ixt2, ixt3, ixt4, negD_i, slD_lst, eV_0, eV_s, Res.bind_ok, Res.bind_ex, Res.bind_bad, Res.on_ok, Res.on_ex, Res.on_bad, SRes.bind_nx, SRes.bind_rt, SRes.bind_ex, SRes.bind_bad, List.set_cons_zero, List.set_cons_succ, addD_i, subD_i, ltD_i, leD_i, gtD_i, geD_i, eqD_i, neD_i, lenB_scr, lenB_lst, lenB_tup, truD, tyD, Ty.le, isD, isntD, isNon, killE, List.foldl_cons, List.foldl_nil, List.length_cons, List.length_nil, Nat.reduceAdd, Nat.zero_add, Nat.reduceLeDiff, if_true, if_false, Bool.false_eq_true, Bool.not_true, Bool.not_false]
      rw [modD_i (by omega)]
      simp only [aCons_o2, aCons_o1, aCons_ap, eTup_o1, eTup_ap, nLst_o1, nLst_ap, eFrz_o1, eFrz_ap, eNew_o1, eNew_ap, eOp_o2, eOp_o1, eOp_ap, tNotM_o1, tNotM_ap, sDrop_o1, sDrop_ap, sRet_o1, sRet_ap, sSet_o1, sSet_ap, sPut_o3, sPut_o2, sPut_o1, sPut_ap, nSl_o3, nSl_o2, nSl_o1, nSl_ap, eSl_o3, eSl_o2, eSl_o1, eSl_ap, nCat_o2, nCat_o1, nCat_ap, nRep_o2, nRep_o1, nRep_ap, eCall_o1, eCall_ap, rOne_o1, rOne_ap, rTwo_o2, rTwo_o1, rTwo_ap, iRevR_o1, iRevR_ap, nRng_o1, nRng_ap, eIsi_o1, eIsi_ap, eC_ap, aNil_ap, sNext_ap, sSeq_ap, sRetN_ap, tTru_ap, eUn_ap, eB_ap, nB_ap, noTest_ap, eDNew_ap, oNo_ap, gSet_ap, gsNil_ap, gsCons_ap, gsCons_o, gTupM_ap, sAsg_ap, sAsg_o1, sAsg_o2, asB_ap, asB_o, tAndM_ap, tAndM_t, tAndM_f, tOrM_ap, tOrM_t, tOrM_f, sIf_ap, sIf_t, sIf_f, eIf_ap, eIf_t, eIf_f, eAnd_ap, eAnd_o, eAnd_t, eAnd_f, eOr_ap, eOr_o, eOr_t, eOr_f, eNot_ap, eNot_o1, eNot_o2, oSome_ap, oSome_o, eChain_ap, eChain_o1, eChain_o2, eChain_t, eChain_f, eChain_o4, eChain3_ap, eChain3_o1, eChain3_o2, eChain3_t, eChain3_f, eChain3_o4, eMt_ap, eMt_o2, isLst_lst, eTupRg_ap, eTupRg_o, ixt0, ixt1, ixt2, ixt3, ixt4, negD_i, slD_lst, eV_0, eV_s, Res.bind_ok, Res.bind_ex, Res.bind_bad, Res.on_ok, Res.on_ex, Res.on_bad, SRes.bind_nx, SRes.bind_rt, SRes.bind_ex, SRes.bind_bad, List.set_cons_zero, List.set_cons_succ, addD_i, subD_i, ltD_i, leD_i, gtD_i, geD_i, eqD_i, neD_i, lenB_scr, lenB_lst, lenB_tup, truD, tyD, Ty.le, isD, isntD, isNon, killE, List.foldl_cons, List.foldl_nil, List.length_cons, List.length_nil, Nat.reduceAdd, Nat.zero_add, Nat.reduceLeDiff, if_true, if_false, Bool.false_eq_true, Bool.not_true, Bool.not_false]
      rw [cell_eq (i := 1) (k := 1) rfl (by omega)]
      simp only [aCons_o2, aCons_o1, aCons_ap, eTup_o1, eTup_ap, nLst_o1, nLst_ap, eFrz_o1, eFrz_ap, eNew_o1, eNew_ap, eOp_o2, eOp_o1, eOp_ap, tNotM_o1, tNotM_ap, sDrop_o1, sDrop_ap, sRet_o1, sRet_ap, sSet_o1, sSet_ap, sPut_o3, sPut_o2, sPut_o1, sPut_ap, nSl_o3, nSl_o2, nSl_o1, nSl_ap, eSl_o3, eSl_o2, eSl_o1, eSl_ap, nCat_o2, nCat_o1, nCat_ap, nRep_o2, nRep_o1, nRep_ap, eCall_o1, eCall_ap, rOne_o1, rOne_ap, rTwo_o2, rTwo_o1, rTwo_ap, iRevR_o1, iRevR_ap, nRng_o1, nRng_ap, eIsi_o1, eIsi_ap, eC_ap, aNil_ap, sNext_ap, sSeq_ap, sRetN_ap, tTru_ap, eUn_ap, eB_ap, nB_ap, noTest_ap, eDNew_ap, oNo_ap, gSet_ap, gsNil_ap, gsCons_ap, gsCons_o, gTupM_ap, sAsg_ap, sAsg_o1, sAsg_o2, asB_ap, asB_o, tAndM_ap, tAndM_t, tAndM_f, tOrM_ap, tOrM_t, tOrM_f, sIf_ap, sIf_t, sIf_f, eIf_ap, eIf_t, eIf_f, eAnd_ap, eAnd_o, eAnd_t, eAnd_f, eOr_ap, eOr_o, eOr_t, eOr_f, eNot_ap, eNot_o1, eNot_o2, oSome_ap, oSome_o, eChain_ap, eChain_o1, eChain_o2, eChain_t, eChain_f, eChain_o4, eChain3_ap, eChain3_o1, eChain3_o2, eChain3_t, eChain3_f, eChain3_o4, eMt_ap, eMt_o2, isLst_lst, eTupRg_ap, eTupRg_o, ixt0, ixt1, ixt2, ixt3, ixt4, negD_i, slD_lst, eV_0, eV_s, Res.bind_ok, Res.bind_ex, Res.bind_bad, Res.on_ok, Res.on_ex, Res.on_bad, SRes.bind_nx, SRes.bind_rt, SRes.bind_ex, SRes.bind_bad, List.set_cons_zero, List.set_cons_succ, addD_i, subD_i, ltD_i, leD_i, gtD_i, geD_i, eqD_i, neD_i, lenB_scr, lenB_lst, lenB_tup, truD, tyD, Ty.le, isD, isntD, isNon, killE, List.foldl_cons, List.foldl_nil, List.length_cons, List.length_nil, Nat.reduceAdd, Nat.zero_add, Nat.reduceLeDiff, if_true, if_false, Bool.false_eq_true, Bool.not_true, Bool.not_false]
      rw [modD_i (by omega)]
      simp only [aCons_o2, aCons_o1, aCons_ap, eTup_o1, eTup_ap, nLst_o1, nLst_ap, eFrz_o1, eFrz_ap, eNew_o1, eNew_ap, eOp_o2, eOp_o1, eOp_ap, tNotM_o1, tNotM_ap, sDrop_o1, sDrop_ap, sRet_o1, sRet_ap, sSet_o1, sSet_ap, sPut_o3, sPut_o2, sPut_o1, sPut_ap, nSl_o3, nSl_o2, nSl_o1, nSl_ap, eSl_o3, eSl_o2, eSl_o1, eSl_ap, nCat_o2, nCat_o1, nCat_ap, nRep_o2, nRep_o1, nRep_ap, eCall_o1, eCall_ap, rOne_o1, rOne_ap, rTwo_o2, rTwo_o1, rTwo_ap, iRevR_o1, iRevR_ap, nRng_o1, nRng_ap, eIsi_o1, eIsi_ap, eC_ap, aNil_ap, sNext_ap, sSeq_ap, sRetN_ap, tTru_ap, eUn_ap, eB_ap, nB_ap, noTest_ap, eDNew_ap, oNo_ap, gSet_ap, gsNil_ap, gsCons_ap, gsCons_o, gTupM_ap, sAsg_ap, sAsg_o1, sAsg_o2, asB_ap, asB_o, tAndM_ap, tAndM_t, tAndM_f, tOrM_ap, tOrM_t, tOrM_f, sIf_ap, sIf_t, sIf_f, eIf_ap, eIf_t, eIf_f, eAnd_ap, eAnd_o, eAnd_t, eAnd_f, eOr_ap, eOr_o, eOr_t, eOr_f, eNot_ap, eNot_o1, eNot_o2, oSome_ap, oSome_o, eChain_ap, eChain_o1, eChain_o2, eChain_t, eChain_f, eChain_o4, eChain3_ap, eChain3_o1, eChain3_o2, eChain3_t, eChain3_f, eChain3_o4, eMt_ap, eMt_o2, isLst_lst, eTupRg_ap, eTupRg_o, ixt0, ixt1, ixt2, ixt3, ixt4, negD_i, slD_lst, eV_0, eV_s, Res.bind_ok, Res.bind_ex, Res.bind_bad, Res.on_ok, Res.on_ex, Res.on_bad, SRes.bind_nx, SRes.bind_rt, SRes.bind_ex, SRes.bind_bad, List.set_cons_zero, List.set_cons_succ, addD_i, subD_i, ltD_i, leD_i, gtD_i, geD_i, eqD_i, neD_i, lenB_scr, lenB_lst, lenB_tup, truD, tyD, Ty.le, isD, isntD, isNon, killE, List.foldl_cons, List.foldl_nil, List.length_cons, List.length_nil, Nat.reduceAdd, Nat.zero_add, Nat.reduceLeDiff, if_true, if_false, Bool.false_eq_true, Bool.not_true, Bool.not_false]
      rw [cell_eq (i := 2) (k := 2) rfl (by omega)]
      simp only [aCons_o2, aCons_o1, aCons_ap, eTup_o1, eTup_ap, nLst_o1, nLst_ap, eFrz_o1, eFrz_ap, eNew_o1, eNew_ap, eOp_o2, eOp_o1, eOp_ap, tNotM_o1, tNotM_ap, sDrop_o1, sDrop_ap, sRet_o1, sRet_ap, sSet_o1, sSet_ap, sPut_o3, sPut_o2, sPut_o1, sPut_ap, nSl_o3, nSl_o2, nSl_o1, nSl_ap, eSl_o3, eSl_o2, eSl_o1, eSl_ap, nCat_o2, nCat_o1, nCat_ap, nRep_o2, nRep_o1, nRep_ap, eCall_o1, eCall_ap, rOne_o1, rOne_ap, rTwo_o2, rTwo_o1, rTwo_ap, iRevR_o1, iRevR_ap, nRng_o1, nRng_ap, eIsi_o1, eIsi_ap, eC_ap, aNil_ap, sNext_ap, sSeq_ap, sRetN_ap, tTru_ap, eUn_ap, eB_ap, nB_ap, noTest_ap, eDNew_ap, oNo_ap, gSet_ap, gsNil_ap, gsCons_ap, gsCons_o, gTupM_ap, sAsg_ap, sAsg_o1, sAsg_o2, asB_ap, asB_o, tAndM_ap, tAndM_t, tAndM_f, tOrM_ap, tOrM_t, tOrM_f, sIf_ap, sIf_t, sIf_f, eIf_ap, eIf_t, eIf_f, eAnd_ap, eAnd_o, eAnd_t, eAnd_f, eOr_ap, eOr_o, eOr_t, eOr_f, eNot_ap, eNot_o1, eNot_o2, oSome_ap, oSome_o, eChain_ap, eChain_o1, eChain_o2, eChain_t, eChain_f, eChain_o4, eChain3_ap, eChain3_o1, eChain3_o2, eChain3_t, eChain3_f, eChain3_o4, eMt_ap, eMt_o2, isLst_lst, eTupRg_ap, eTupRg_o, ixt0, ixt1, ixt2, ixt3, ixt4, negD_i, slD_lst, eV_0, eV_s, Res.bind_ok, Res.bind_ex, Res.bind_bad, Res.on_ok, Res.on_ex, Res.on_bad, SRes.bind_nx, SRes.bind_rt, SRes.bind_ex, SRes.bind_bad, List.set_cons_zero, List.set_cons_succ, addD_i, subD_i, ltD_i, leD_i, gtD_i, geD_i, eqD_i, neD_i, lenB_scr, lenB_lst, lenB_tup, truD, tyD, Ty.le, isD, isntD, isNon, killE, List.foldl_cons, List.foldl_nil, List.length_cons, List.length_nil, Nat.reduceAdd, Nat.zero_add, Nat.reduceLeDiff, if_true, if_false, Bool.false_eq_true, Bool.not_true, Bool.not_false]
      rw [modD_i (by omega)]
      simp only [aCons_o2, aCons_o1, aCons_ap, eTup_o1, eTup_ap, nLst_o1, nLst_ap, eFrz_o1, eFrz_ap, eNew_o1, eNew_ap, eOp_o2, eOp_o1, eOp_ap, tNotM_o1, tNotM_ap, sDrop_o1, sDrop_ap, sRet_o1, sRet_ap, sSet_o1, sSet_ap, sPut_o3, sPut_o2, sPut_o1, sPut_ap, nSl_o3, nSl_o2, nSl_o1, nSl_ap, eSl_o3, eSl_o2, eSl_o1, eSl_ap, nCat_o2, nCat_o1, nCat_ap, nRep_o2, nRep_o1, nRep_ap, eCall_o1, eCall_ap, rOne_o1, rOne_ap, rTwo_o2, rTwo_o1, rTwo_ap, iRevR_o1, iRevR_ap, nRng_o1, nRng_ap, eIsi_o1, eIsi_ap, eC_ap, aNil_ap, sNext_ap, sSeq_ap, sRetN_ap, tTru_ap, eUn_ap, eB_ap, nB_ap, noTest_ap, eDNew_ap, oNo_ap, gSet_ap, gsNil_ap, gsCons_ap, gsCons_o, gTupM_ap, sAsg_ap, sAsg_o1, sAsg_o2, asB_ap, asB_o, tAndM_ap, tAndM_t, tAndM_f, tOrM_ap, tOrM_t, tOrM_f, sIf_ap, sIf_t, sIf_f, eIf_ap, eIf_t, eIf_f, eAnd_ap, eAnd_o, eAnd_t, eAnd_f, eOr_ap, eOr_o, eOr_t, eOr_f, eNot_ap, eNot_o1, eNot_o2, oSome_ap, oSome_o, eChain_ap, eChain_o1, eChain_o2, eChain_t, eChain_f, eChain_o4, eChain3_ap, eChain3_o1, eChain3_o2, eChain3_t, eChain3_f, eChain3_o4, eMt_ap, eMt_o2, isLst_lst, eTupRg_ap, eTupRg_o, ixt0, ixt1, ixt2, ixt3, ixt4, negD_i, slD_lst, eV_0, eV_s, Res.bind_ok, Res.bind_ex, Res.bind_bad, Res.on_ok, Res.on_ex, Res.on_bad, SRes.bind_nx, SRes.bind_rt, SRes.bind_ex, SRes.bind_bad, List.set_cons_zero, List.set_cons_succ, addD_i, subD_i, ltD_i, leD_i, gtD_i, geD_i, eqD_i, neD_i, lenB_scr, lenB_lst, lenB_tup, truD, tyD, Ty.le, isD, isntD, isNon, killE, List.foldl_cons, List.foldl_nil, List.length_cons, List.length_nil, Nat.reduceAdd, Nat.zero_add, Nat.reduceLeDiff, if_true, if_false, Bool.false_eq_true, Bool.not_true, Bool.not_false]
      rw [hi', hj', hm']
      obtain ⟨B, C, h1, h2, _⟩ := tabs i' j' (by omega) (by omega)
      exact tailC (okA_of (h1 m' (by omega)) (h2 m' (by omega))) (fun h => absurd h (by omega))
    · have d1 : decide (y < 3) = false := decide_eq_false y3
      simp only [d1, aCons_o2, aCons_o1, aCons_ap, eTup_o1, eTup_ap, nLst_o1, nLst_ap, eFrz_o1, eFrz_ap, eNew_o1, eNew_ap, eOp_o2, eOp_o1, eOp_ap, tNotM_o1, tNotM_ap, sDrop_o1, sDrop_ap, sRet_o1, sRet_ap, sSet_o1, sSet_ap, sPut_o3, sPut_o2, sPut_o1, sPut_ap, nSl_o3, nSl_o2, nSl_o1, nSl_ap, eSl_o3, eSl_o2, eSl_o1, eSl_ap, nCat_o2, nCat_o1, nCat_ap, nRep_o2, nRep_o1, nRep_ap, eCall_o1, eCall_ap, rOne_o1, rOne_ap, rTwo_o2, rTwo_o1, rTwo_ap, iRevR_o1, iRevR_ap, nRng_o1, nRng_ap, eIsi_o1, eIsi_ap, eC_ap, aNil_ap, sNext_ap, sSeq_ap, sRetN_ap, tTru_ap, eUn_ap, eB_ap, nB_ap, noTest_ap, eDNew_ap, oNo_ap, gSet_ap, gsNil_ap, gsCons_ap, gsCons_o, gTupM_ap, sAsg_ap, sAsg_o1, sAsg_o2, asB_ap, asB_o, tAndM_ap, tAndM_t, tAndM_f, tOrM_ap, tOrM_t, tOrM_f, sIf_ap, sIf_t, sIf_f, eIf_ap, eIf_t, eIf_f, eAnd_ap, eAnd_o, eAnd_t, eAnd_f, eOr_ap, eOr_o, eOr_t, eOr_f, eNot_ap, eNot_o1, eNot_o2, oSome_ap, oSome_o, eChain_ap, eChain_o1, eChain_o2, eChain_t, eChain_f, eChain_o4, eChain3_ap, eChain3_o1, eChain3_o2, eChain3_t, eChain3_f, eChain3_o4, eMt_ap, eMt_o2, isLst_lst, eTupRg_ap, eTupRg_o, ixt0, ixt1, ixt2, ixt3, ixt4, negD_i, slD_lst, eV_0, eV_s, Res.bind_ok, Res.bind_ex, Res.bind_bad, Res.on_ok, Res.on_ex, Res.on_bad, SRes.bind_nx, SRes.bind_rt, SRes.bind_ex, SRes.bind_bad, List.set_cons_zero, List.set_cons_succ, addD_i, subD_i, ltD_i, leD_i, gtD_i, geD_i, eqD_i, neD_i, lenB_scr, lenB_lst, lenB_tup, truD, tyD, Ty.le, isD, isntD, isNon, killE, List.foldl_cons, List.foldl_nil, List.length_cons, List.length_nil, Nat.reduceAdd, Nat.zero_add, Nat.reduceLeDiff, if_true, if_false, Bool.false_eq_true, Bool.not_true, Bool.not_false]
      obtain ⟨B, C, h1, h2, h3⟩ := tabs i j (by omega) (by omega)
      exact tailC (okA_of (h1 m (by omega)) (h2 m (by omega))) (fun _ => isBl_eq (h3 hi4 hj4 m hm7))
end K54

namespace K54
open PySem PySem.Spec PyProof.Rows L2 FL
instance : TabCtx := ⟨[]⟩
def spLaw (K : PySem.W.Frag) : Sp := fun vs H Q _ => ∃ (a : Addr) (ns : List Int), vs = [.ref a] ∧ SqL K H a (ns.map V.int) ∧ ns.length ≤ 63 ∧ LamX.Tabs TabCtx.tabs H ∧ ∀ H', Q (.bl true) H'
theorem all_mk {l : PySem.W.OpenLaw} {w : World} {K : PySem.W.Frag} {h : Heap} {mg : Str → Option Value} {fa f0 f1 f2 f3 f4 f5 f6 f7 f8 f9 f10 f11 f12 f13 : Addr} (X : K.In h) (G : h.Ns mainGlobals mg) (hfa : mg "law" = some (.ref fa))
    {od0 an0 od1 an1 od2 an2 od3 an3 od4 an4 od5 an5 od6 an6 od7 an7 od8 an8 od9 an9 od10 an10 od11 an11 od12 an12 od13 an13 : Option Addr} {sl0 sl1 sl2 sl3 sl4 sl5 sl6 sl7 sl8 sl9 sl10 sl11 sl12 sl13 : Array (Option Value)} {oc0 kV0 dc0 pm0 cd0 ct0 oc1 kV1 dc1 pm1 cd1 ct1 oc2 kV2 dc2 pm2 cd2 ct2 oc3 kV3 dc3 pm3 cd3 ct3 oc4 kV4 dc4 pm4 cd4 ct4 oc5 kV5 dc5 pm5 cd5 ct5 oc6 kV6 dc6 pm6 cd6 ct6 oc7 kV7 dc7 pm7 cd7 ct7 oc8 kV8 dc8 pm8 cd8 ct8 oc9 kV9 dc9 pm9 cd9 ct9 oc10 kV10 dc10 pm10 cd10 ct10 oc11 kV11 dc11 pm11 cd11 ct11 oc12 kV12 dc12 pm12 cd12 ct12 oc13 kV13 dc13 pm13 cd13 ct13 : Value} {t_GREATEST : Tok} {t_MOST : Tok} {C_TooMany C_FloorError : Addr}
    (a0 : PySem.W.nsIn K mainGlobals "highest" = some (some (.ref f0))) (l0 : K.lookup f0 = some ⟨oc0, od0, .func (PySem.W.fnOf "highest" "highest" (defArgs s_highest) (defBody s_highest) (defScope s_highest) .none kV0 dc0 pm0 an0 cd0 ct0), sl0⟩) (c0 : PySem.W.codeIn K cd0 "highest" = true) (k0 : PySem.W.keepIn K (.ref f0) = true)
    (a1 : PySem.W.nsIn K mainGlobals "joined" = some (some (.ref f1))) (l1 : K.lookup f1 = some ⟨oc1, od1, .func (PySem.W.fnOf "joined" "joined" (defArgs s_joined) (defBody s_joined) (defScope s_joined) .none kV1 dc1 pm1 an1 cd1 ct1), sl1⟩) (c1 : PySem.W.codeIn K cd1 "joined" = true) (k1 : PySem.W.keepIn K (.ref f1) = true)
    (a2 : PySem.W.nsIn K mainGlobals "hung" = some (some (.ref f2))) (l2 : K.lookup f2 = some ⟨oc2, od2, .func (PySem.W.fnOf "hung" "hung" (defArgs s_hung) (defBody s_hung) (defScope s_hung) .none kV2 dc2 pm2 an2 cd2 ct2), sl2⟩) (c2 : PySem.W.codeIn K cd2 "hung" = true) (k2 : PySem.W.keepIn K (.ref f2) = true)
    (a3 : PySem.W.nsIn K mainGlobals "is_full" = some (some (.ref f3))) (l3 : K.lookup f3 = some ⟨oc3, od3, .func (PySem.W.fnOf "is_full" "is_full" (defArgs s_is_full) (defBody s_is_full) (defScope s_is_full) .none kV3 dc3 pm3 an3 cd3 ct3), sl3⟩) (c3 : PySem.W.codeIn K cd3 "is_full" = true) (k3 : PySem.W.keepIn K (.ref f3) = true)
    (a4 : PySem.W.nsIn K mainGlobals "wanted" = some (some (.ref f4))) (l4 : K.lookup f4 = some ⟨oc4, od4, .func (PySem.W.fnOf "wanted" "wanted" (defArgs s_wanted) (defBody s_wanted) (defScope s_wanted) .none kV4 dc4 pm4 an4 cd4 ct4), sl4⟩) (c4 : PySem.W.codeIn K cd4 "wanted" = true) (k4 : PySem.W.keepIn K (.ref f4) = true)
    (a5 : PySem.W.nsIn K mainGlobals "grow" = some (some (.ref f5))) (l5 : K.lookup f5 = some ⟨oc5, od5, .func (PySem.W.fnOf "grow" "grow" (defArgs s_grow) (defBody s_grow) (defScope s_grow) .none kV5 dc5 pm5 an5 cd5 ct5), sl5⟩) (c5 : PySem.W.codeIn K cd5 "grow" = true) (k5 : PySem.W.keepIn K (.ref f5) = true)
    (a6 : PySem.W.nsIn K mainGlobals "all_codes" = some (some (.ref f6))) (l6 : K.lookup f6 = some ⟨oc6, od6, .func (PySem.W.fnOf "all_codes" "all_codes" (defArgs s_all_codes) (defBody s_all_codes) (defScope s_all_codes) .none kV6 dc6 pm6 an6 cd6 ct6), sl6⟩) (c6 : PySem.W.codeIn K cd6 "all_codes" = true) (k6 : PySem.W.keepIn K (.ref f6) = true)
    (a7 : PySem.W.nsIn K mainGlobals "_law_beyond" = some (some (.ref f7))) (l7 : K.lookup f7 = some ⟨oc7, od7, .func (PySem.W.fnOf "_law_beyond" "_law_beyond" (defArgs s_l_beyond) (defBody s_l_beyond) (defScope s_l_beyond) .none kV7 dc7 pm7 an7 cd7 ct7), sl7⟩) (c7 : PySem.W.codeIn K cd7 "_law_beyond" = true) (k7 : PySem.W.keepIn K (.ref f7) = true)
    (a8 : PySem.W.nsIn K mainGlobals "_law_spot" = some (some (.ref f8))) (l8 : K.lookup f8 = some ⟨oc8, od8, .func (PySem.W.fnOf "_law_spot" "_law_spot" (defArgs s_l_spot) (defBody s_l_spot) (defScope s_l_spot) .none kV8 dc8 pm8 an8 cd8 ct8), sl8⟩) (c8 : PySem.W.codeIn K cd8 "_law_spot" = true) (k8 : PySem.W.keepIn K (.ref f8) = true)
    (a9 : PySem.W.nsIn K mainGlobals "_law_laid" = some (some (.ref f9))) (l9 : K.lookup f9 = some ⟨oc9, od9, .func (PySem.W.fnOf "_law_laid" "_law_laid" (defArgs s_l_laid) (defBody s_l_laid) (defScope s_l_laid) .none kV9 dc9 pm9 an9 cd9 ct9), sl9⟩) (c9 : PySem.W.codeIn K cd9 "_law_laid" = true) (k9 : PySem.W.keepIn K (.ref f9) = true)
    (a10 : PySem.W.nsIn K mainGlobals "_law_book" = some (some (.ref f10))) (l10 : K.lookup f10 = some ⟨oc10, od10, .func (PySem.W.fnOf "_law_book" "_law_book" (defArgs s_l_book) (defBody s_l_book) (defScope s_l_book) .none kV10 dc10 pm10 an10 cd10 ct10), sl10⟩) (c10 : PySem.W.codeIn K cd10 "_law_book" = true) (k10 : PySem.W.keepIn K (.ref f10) = true)
    (a11 : PySem.W.nsIn K mainGlobals "_law_cell_at" = some (some (.ref f11))) (l11 : K.lookup f11 = some ⟨oc11, od11, .func (PySem.W.fnOf "_law_cell_at" "_law_cell_at" (defArgs s_l_cell_at) (defBody s_l_cell_at) (defScope s_l_cell_at) .none kV11 dc11 pm11 an11 cd11 ct11), sl11⟩) (c11 : PySem.W.codeIn K cd11 "_law_cell_at" = true) (k11 : PySem.W.keepIn K (.ref f11) = true)
    (a12 : PySem.W.nsIn K mainGlobals "_law_row" = some (some (.ref f12))) (l12 : K.lookup f12 = some ⟨oc12, od12, .func (PySem.W.fnOf "_law_row" "_law_row" (defArgs s_l_row) (defBody s_l_row) (defScope s_l_row) .none kV12 dc12 pm12 an12 cd12 ct12), sl12⟩) (c12 : PySem.W.codeIn K cd12 "_law_row" = true) (k12 : PySem.W.keepIn K (.ref f12) = true)
    (a13 : PySem.W.nsIn K mainGlobals "law" = some (some (.ref f13))) (l13 : K.lookup f13 = some ⟨oc13, od13, .func (PySem.W.fnOf "law" "law" (defArgs s_law) (defBody s_law) (defScope s_law) .none kV13 dc13 pm13 an13 cd13 ct13), sl13⟩) (c13 : PySem.W.codeIn K cd13 "law" = true) (k13 : PySem.W.keepIn K (.ref f13) = true)
    (z_enumerate : PySem.W.nsIn K mainGlobals "enumerate" = some none)
    (z_len : PySem.W.nsIn K mainGlobals "len" = some none)
    (z_range : PySem.W.nsIn K mainGlobals "range" = some none)
    (z_min : PySem.W.nsIn K mainGlobals "min" = some none)
    (z_tuple : PySem.W.nsIn K mainGlobals "tuple" = some none)
    (z_sorted : PySem.W.nsIn K mainGlobals "sorted" = some none)
    (z_max : PySem.W.nsIn K mainGlobals "max" = some none)
    (z_isinstance : PySem.W.nsIn K mainGlobals "isinstance" = some none)
    (z_ValueError : PySem.W.nsIn K mainGlobals "ValueError" = some none)
    (z_any : PySem.W.nsIn K mainGlobals "any" = some none)
    (z_int : PySem.W.nsIn K mainGlobals "int" = some none)
    (z_bool : PySem.W.nsIn K mainGlobals "bool" = some none)
    (z_list : PySem.W.nsIn K mainGlobals "list" = some none)
    (z_set : PySem.W.nsIn K mainGlobals "set" = some none)
    (z_all : PySem.W.nsIn K mainGlobals "all" = some none)
    (v_GREATEST : PySem.W.nsIn K mainGlobals "GREATEST" = some (some (.int 5 t_GREATEST)))
    (v_MOST : PySem.W.nsIn K mainGlobals "MOST" = some (some (.int 7 t_MOST)))
    (ac_TooMany : PySem.W.nsIn K mainGlobals (Str.ofString "TooMany") = some (some (.ref C_TooMany)))
    (ac_FloorError : PySem.W.nsIn K mainGlobals (Str.ofString "FloorError") = some (some (.ref C_FloorError)))
    (kc_TooMany : PySem.W.keepIn K (.ref C_TooMany) = true) (bc_TooMany : PySem.W.subIn K (.ref C_TooMany) (.type "BaseException") = some true) (tc_TooMany : PySem.W.typeIn K (.ref C_TooMany) = some (.type "type")) (qc_TooMany : PySem.W.excIn K C_TooMany [.type "ValueError", .type "Exception", .type "BaseException", .type "object"] "ValueError.__new__" = true)
    (on_TooMany : PySem.W.kitOne K (.type "NoneType") (.ref C_TooMany) = some false)
    (on_ValueError : PySem.W.kitOne K (.type "NoneType") (.type "ValueError") = some false)
    (e1_TooMany : PySem.W.findIn K (.ref C_TooMany) "__getattribute__" = some (some (.builtin "BaseException.__getattribute__"))) (e2_TooMany : PySem.W.findIn K (.ref C_TooMany) "__getattr__" = some none) (e3_TooMany : PySem.W.subIn K (.ref C_TooMany) (.type "BaseException") = some true) (e4_TooMany : PySem.W.hasDictIn K C_TooMany = true) (e5_TooMany : PySem.W.findIn K (.ref C_TooMany) "__class__" = some (some (.builtin "object.__class__"))) (e6_TooMany : PySem.W.specialIn K (.builtin "object.__class__") "__get__" = some (some (.builtin "getset_descriptor.__get__"))) (e7_TooMany : PySem.W.takesIn K (.builtin "object.__class__") = some true) (e8_TooMany : PySem.W.mroIn K C_TooMany (.type "object") = some true)
    (pi_TooMany_TooMany : PySem.W.kitOne K (.ref C_TooMany) (.ref C_TooMany) = some true)
    (pi_TooMany_ValueError : PySem.W.kitOne K (.ref C_TooMany) (.type "ValueError") = some true)
    (px_TooMany_FloorError : PySem.W.exmOne K (.ref C_TooMany) (.ref C_FloorError) = some true) :
    ∃ fd : FuncData, (∀ (s : Shared) (v : Value), BindsTo s fd ⟨[v], []⟩ [("_law_script", v)]) ∧ ∀ base : Heap, K.In base → base.Ns mainGlobals mg → FnOk l.prog w K mg base (L2.CX l.prog w) 18 fa fd ["_law_script"] (spLaw K) := by
  have e := hfa.symm.trans (PySem.W.mg_of X G a13)
  cases e
  have d0 : DefAt K mg "highest" s_highest ["border"] := defAt_mk X G a0 l0 c0 k0 fun F => F.binds (ps := ["border"]) fun _ _ _ _ _ _ us hl => match us, hl with | [_], _ => rfl
  have d1 : DefAt K mg "joined" s_joined ["pieces"] := defAt_mk X G a1 l1 c1 k1 fun F => F.binds (ps := ["pieces"]) fun _ _ _ _ _ _ us hl => match us, hl with | [_], _ => rfl
  have d2 : DefAt K mg "hung" s_hung ["border", "size"] := defAt_mk X G a2 l2 c2 k2 fun F => F.binds (ps := ["border", "size"]) fun _ _ _ _ _ _ us hl => match us, hl with | [_, _], _ => rfl
  have d3 : DefAt K mg "is_full" s_is_full ["border"] := defAt_mk X G a3 l3 c3 k3 fun F => F.binds (ps := ["border"]) fun _ _ _ _ _ _ us hl => match us, hl with | [_], _ => rfl
  have d4 : DefAt K mg "wanted" s_wanted ["border"] := defAt_mk X G a4 l4 c4 k4 fun F => F.binds (ps := ["border"]) fun _ _ _ _ _ _ us hl => match us, hl with | [_], _ => rfl
  have d5 : DefAt K mg "grow" s_grow ["border", "sizes", "most", "found"] := defAt_mk X G a5 l5 c5 k5 fun F => F.binds (ps := ["border", "sizes", "most", "found"]) fun _ _ _ _ _ _ us hl => match us, hl with | [_, _, _, _], _ => rfl
  have d6 : DefAt K mg "all_codes" s_all_codes ["width", "height", "most"] := defAt_mk X G a6 l6 c6 k6 fun F => F.binds (ps := ["width", "height", "most"]) fun _ _ _ _ _ _ us hl => match us, hl with | [_, _, _], _ => rfl
  have d7 : DefAt K mg "_law_beyond" s_l_beyond ["_law_width", "_law_height", "_law_most"] := defAt_mk X G a7 l7 c7 k7 fun F => F.binds (ps := ["_law_width", "_law_height", "_law_most"]) fun _ _ _ _ _ _ us hl => match us, hl with | [_, _, _], _ => rfl
  have d8 : DefAt K mg "_law_spot" s_l_spot ["_law_tops"] := defAt_mk X G a8 l8 c8 k8 fun F => F.binds (ps := ["_law_tops"]) fun _ _ _ _ _ _ us hl => match us, hl with | [_], _ => rfl
  have d9 : DefAt K mg "_law_laid" s_l_laid ["_law_width", "_law_height", "_law_sizes"] := defAt_mk X G a9 l9 c9 k9 fun F => F.binds (ps := ["_law_width", "_law_height", "_law_sizes"]) fun _ _ _ _ _ _ us hl => match us, hl with | [_, _, _], _ => rfl
  have d10 : DefAt K mg "_law_book" s_l_book ["_law_width", "_law_height", "_law_most"] := defAt_mk X G a10 l10 c10 k10 fun F => F.binds (ps := ["_law_width", "_law_height", "_law_most"]) fun _ _ _ _ _ _ us hl => match us, hl with | [_, _, _], _ => rfl
  have d11 : DefAt K mg "_law_cell_at" s_l_cell_at ["_law_script", "_law_k"] := defAt_mk X G a11 l11 c11 k11 fun F => F.binds (ps := ["_law_script", "_law_k"]) fun _ _ _ _ _ _ us hl => match us, hl with | [_, _], _ => rfl
  have d12 : DefAt K mg "_law_row" s_l_row ["_law_sizes", "_law_width", "_law_height", "_law_most"] := defAt_mk X G a12 l12 c12 k12 fun F => F.binds (ps := ["_law_sizes", "_law_width", "_law_height", "_law_most"]) fun _ _ _ _ _ _ us hl => match us, hl with | [_, _, _, _], _ => rfl
  have d13 : DefAt K mg "law" s_law ["_law_script"] := defAt_mk X G a13 l13 c13 k13 fun F => F.binds (ps := ["_law_script"]) fun _ _ _ _ _ _ us hl => match us, hl with | [_], _ => rfl
  have F : Facts K mg := ⟨d0, d1, d2, d3, d4, d5, d6, d7, d8, d9, d10, d11, d12, d13, PySem.W.mg_none_of X G z_enumerate, PySem.W.mg_none_of X G z_len, PySem.W.mg_none_of X G z_range, PySem.W.mg_none_of X G z_min, PySem.W.mg_none_of X G z_tuple, PySem.W.mg_none_of X G z_sorted, PySem.W.mg_none_of X G z_max, PySem.W.mg_none_of X G z_isinstance, PySem.W.mg_none_of X G z_ValueError, PySem.W.mg_none_of X G z_any, PySem.W.mg_none_of X G z_int, PySem.W.mg_none_of X G z_bool, PySem.W.mg_none_of X G z_list, PySem.W.mg_none_of X G z_set, PySem.W.mg_none_of X G z_all, const_int X G v_GREATEST, const_int X G v_MOST, ⟨C_TooMany, ac_TooMany, PySem.W.mg_of X G ac_TooMany, kc_TooMany, bc_TooMany, tc_TooMany, qc_TooMany⟩, ⟨C_FloorError, ac_FloorError, PySem.W.mg_of X G ac_FloorError⟩, ⟨C_TooMany, ac_TooMany, PySem.W.mg_of X G ac_TooMany⟩, ⟨_, ⟨_, ac_TooMany, rfl⟩, on_TooMany⟩, ⟨_, rfl, on_ValueError⟩, ⟨_, _, ac_TooMany, ⟨e1_TooMany, e2_TooMany, e3_TooMany, e4_TooMany, e5_TooMany, e6_TooMany, e7_TooMany, e8_TooMany⟩, ⟨_, ac_TooMany, rfl⟩, pi_TooMany_TooMany⟩, ⟨_, _, ac_TooMany, ⟨e1_TooMany, e2_TooMany, e3_TooMany, e4_TooMany, e5_TooMany, e6_TooMany, e7_TooMany, e8_TooMany⟩, rfl, pi_TooMany_ValueError⟩, ⟨_, _, ac_TooMany, ⟨_, ac_FloorError, rfl⟩, px_TooMany_FloorError⟩⟩
  refine ⟨PySem.W.fnOf "law" "law" (defArgs s_law) (defBody s_law) (defScope s_law) .none kV13 dc13 pm13 an13 cd13 ct13, fun s v => .of_eq rfl, fun base _ _ => ?_⟩
  exact (ok_law F (fun_mk l13 c13 k13)).imp (law_sp law_true)
end K54
open PySem PySem.W PyProof.Rows
set_option maxHeartbeats 0 in
theorem PySem.Challenge.cw_currentfloor_k54_all_rows_of_sizes_holds : PySem.Challenge.rw_currentfloor_k54_all_rows_of_sizes.Holds := by
  w_on; o_law; k_head; (case hw => w_witness2)
  k_fill
  refine L2.walk_of (l := PySem.Challenge.rw_currentfloor_k54_all_rows_of_sizes) (n := 63) (k := 18) (x := "_law_script") (CX := fun w => L2.CX PySem.Challenge.rw_currentfloor_k54_all_rows_of_sizes.prog w) (sp := fun w => K54.spLaw _) rfl (by decide) rfl ⟨rfl, by decide, by decide⟩ (fun w h Y => by first | exact PySem.W.kIn_of Y | exact PySem.W.km_in_of Y) ?F (fun _ _ a ns hl _ hS => ⟨a, ns, rfl, hS, hl, (fun p hp => nomatch hp), fun _ => rfl⟩) (fun _ _ _ _ _ h => FL.cx_false h)
  case F =>
    intro w mg fa h KX G hmg
    refine' K54.all_mk KX G hmg ?a0 ?l0 ?c0 ?k0 ?a1 ?l1 ?c1 ?k1 ?a2 ?l2 ?c2 ?k2 ?a3 ?l3 ?c3 ?k3 ?a4 ?l4 ?c4 ?k4 ?a5 ?l5 ?c5 ?k5 ?a6 ?l6 ?c6 ?k6 ?a7 ?l7 ?c7 ?k7 ?a8 ?l8 ?c8 ?k8 ?a9 ?l9 ?c9 ?k9 ?a10 ?l10 ?c10 ?k10 ?a11 ?l11 ?c11 ?k11 ?a12 ?l12 ?c12 ?k12 ?a13 ?l13 ?c13 ?k13 ?z_enumerate ?z_len ?z_range ?z_min ?z_tuple ?z_sorted ?z_max ?z_isinstance ?z_ValueError ?z_any ?z_int ?z_bool ?z_list ?z_set ?z_all ?v_GREATEST ?v_MOST ?ac_TooMany ?ac_FloorError ?kc_TooMany ?bc_TooMany ?tc_TooMany ?qc_TooMany ?on_TooMany ?on_ValueError ?e1_TooMany ?e2_TooMany ?e3_TooMany ?e4_TooMany ?e5_TooMany ?e6_TooMany ?e7_TooMany ?e8_TooMany ?pi_TooMany_TooMany ?pi_TooMany_ValueError ?px_TooMany_FloorError
    (case a0 => k_is); (case l0 => k_is); (case c0 => k_is); (case k0 => k_is); (case a1 => k_is); (case l1 => k_is); (case c1 => k_is); (case k1 => k_is); (case a2 => k_is); (case l2 => k_is); (case c2 => k_is); (case k2 => k_is); (case a3 => k_is); (case l3 => k_is); (case c3 => k_is); (case k3 => k_is); (case a4 => k_is); (case l4 => k_is); (case c4 => k_is); (case k4 => k_is); (case a5 => k_is); (case l5 => k_is); (case c5 => k_is); (case k5 => k_is); (case a6 => k_is); (case l6 => k_is); (case c6 => k_is); (case k6 => k_is); (case a7 => k_is); (case l7 => k_is); (case c7 => k_is); (case k7 => k_is); (case a8 => k_is); (case l8 => k_is); (case c8 => k_is); (case k8 => k_is); (case a9 => k_is); (case l9 => k_is); (case c9 => k_is); (case k9 => k_is); (case a10 => k_is); (case l10 => k_is); (case c10 => k_is); (case k10 => k_is); (case a11 => k_is); (case l11 => k_is); (case c11 => k_is); (case k11 => k_is); (case a12 => k_is); (case l12 => k_is); (case c12 => k_is); (case k12 => k_is); (case a13 => k_is); (case l13 => k_is); (case c13 => k_is); (case k13 => k_is); (case z_enumerate => k_is); (case z_len => k_is); (case z_range => k_is); (case z_min => k_is); (case z_tuple => k_is); (case z_sorted => k_is); (case z_max => k_is); (case z_isinstance => k_is); (case z_ValueError => k_is); (case z_any => k_is); (case z_int => k_is); (case z_bool => k_is); (case z_list => k_is); (case z_set => k_is); (case z_all => k_is); (case v_GREATEST => k_is); (case v_MOST => k_is); (case ac_TooMany => k_is); (case ac_FloorError => k_is); (case kc_TooMany => k_is); (case bc_TooMany => k_is); (case tc_TooMany => k_is); (case qc_TooMany => k_exc); (case on_TooMany => first | k_is | rfl); (case on_ValueError => first | k_is | rfl); (case e1_TooMany => k_is); (case e2_TooMany => k_is); (case e3_TooMany => k_is); (case e4_TooMany => k_is); (case e5_TooMany => k_is); (case e6_TooMany => k_is); (case e7_TooMany => k_is); (case e8_TooMany => k_is); (case pi_TooMany_TooMany => first | k_is | rfl); (case pi_TooMany_ValueError => first | k_is | rfl); (case px_TooMany_FloorError => first | k_is | rfl)
