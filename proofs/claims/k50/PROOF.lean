import PyProof.Rows.All
import Wide.All
import OpenK.AllK
import Wide.FinOn
import HandS.ForMost
import HandS.ForExc
import HandS.Wide
import KE.DataEq
import HandS.Flow
import HandS.TupAny
import HandS.More
import HandS.Zip
import HandS.Rev
import HandS.RevRange
import KE.GoesEnum
import KE.GoesMore
import HandS.IsInst
import HandS.Text
import HandS.WordsDict
import HandS.Deep
import HandS.SortInts
import HandS.WordsExc
import HandS.Words
import HandS.TupSets
import KE.KSortTupG
import HandS.Conv
import HandS.ExcIs
import HandS.ExcOwn
import HandS.ExcValue
import HandS.TupLe
import PySem.Challenge.RW_currentfloor_k50_brought
set_option Elab.async false
set_option linter.all false
set_option maxRecDepth 100000
set_option maxHeartbeats 4000000
set_option exponentiation.threshold 3000
/-! Values as data over a store of mutable objects. -/
namespace FL
open PySem PySem.Spec PyProof.Rows L2

inductive D where
  | non | bl (b : Bool) | int (i : Int) | str (x : Str) | tup (ds : List D) | lst (ds : List D) | loc (l : Nat) | scr (ns : List Int) | exc (cls : String) (ns : List Str) (ds : List D)
  deriving Inhabited

/-- what stands in the store -/
inductive SO where
  | lst (ds : List D)
  | dic (kvs : List (Key × D))
  deriving Inhabited
mutual
def D.beq : D → D → Bool
  | .non, .non => true
  | .bl a, .bl b => a == b
  | .int a, .int b => decide (a = b)
  | .str a, .str b => decide (a = b)
  | .tup a, .tup b => D.beqs a b
  | .lst a, .lst b => D.beqs a b
  | .loc a, .loc b => decide (a = b)
  | .scr a, .scr b => decide (a = b)
  | .exc c n a, .exc c' n' b => decide (c = c') && decide (n = n') && D.beqs a b
  | _, _ => false
def D.beqs : List D → List D → Bool
  | [], [] => true
  | a :: as, b :: bs => D.beq a b && D.beqs as bs
  | _, _ => false
end
mutual
theorem D.beq_eq : ∀ {a b : D}, D.beq a b = true → a = b
  | .non, b, h => by cases b <;> simp_all [D.beq]
  | .bl _, b, h => by cases b <;> simp_all [D.beq]
  | .int _, b, h => by cases b <;> simp_all [D.beq]
  | .str _, b, h => by cases b <;> simp_all [D.beq]
  | .tup as, b, h => by
    cases b with
    | tup bs => rw [D.beqs_eq (show D.beqs as bs = true by simpa [D.beq] using h)]
    | _ => simp [D.beq] at h
  | .lst as, b, h => by
    cases b with
    | lst bs => rw [D.beqs_eq (show D.beqs as bs = true by simpa [D.beq] using h)]
    | _ => simp [D.beq] at h
  | .loc _, b, h => by cases b <;> simp_all [D.beq]
  | .scr _, b, h => by cases b <;> simp_all [D.beq]
  | .exc c n as, b, h => by
    cases b with
    | exc c' n' bs =>
      have h' : (decide (c = c') && decide (n = n') && D.beqs as bs) = true := by simpa [D.beq] using h
      simp only [Bool.and_eq_true, decide_eq_true_eq] at h'
      rw [h'.1.1, h'.1.2, D.beqs_eq h'.2]
    | _ => simp [D.beq] at h
theorem D.beqs_eq : ∀ {as bs : List D}, D.beqs as bs = true → as = bs
  | [], bs, h => by cases bs <;> simp_all [D.beqs]
  | a :: as, bs, h => by
    cases bs with
    | nil => simp [D.beqs] at h
    | cons b bs =>
      simp only [D.beqs, Bool.and_eq_true] at h
      rw [D.beq_eq h.1, D.beqs_eq h.2]
end
mutual
theorem D.beq_refl : ∀ a : D, D.beq a a = true
  | .non => rfl
  | .bl _ => by simp [D.beq]
  | .int _ => by simp [D.beq]
  | .str _ => by simp [D.beq]
  | .tup as => by simpa [D.beq] using D.beqs_refl as
  | .lst as => by simpa [D.beq] using D.beqs_refl as
  | .loc _ => by simp [D.beq]
  | .scr _ => by simp [D.beq]
  | .exc _ _ as => by simpa [D.beq] using D.beqs_refl as
theorem D.beqs_refl : ∀ as : List D, D.beqs as as = true
  | [] => rfl
  | a :: as => by simp [D.beqs, D.beq_refl a, D.beqs_refl as]
end
def kvsB : List (Key × D) → List (Key × D) → Bool
  | [], [] => true
  | a :: as, b :: bs => decide (a.1 = b.1) && D.beq a.2 b.2 && kvsB as bs
  | _, _ => false
theorem kvsB_eq : ∀ {as bs : List (Key × D)}, kvsB as bs = true → as = bs
  | [], [], _ => rfl
  | [], _ :: _, h => by simp [kvsB] at h
  | _ :: _, [], h => by simp [kvsB] at h
  | a :: as, b :: bs, h => by
    unfold kvsB at h
    simp only [Bool.and_eq_true, decide_eq_true_eq] at h
    rw [kvsB_eq h.2, Prod.ext h.1.1 (D.beq_eq h.1.2)]
theorem kvsB_refl : ∀ as : List (Key × D), kvsB as as = true
  | [] => rfl
  | a :: as => by simp [kvsB, D.beq_refl, kvsB_refl as]
def SO.beq : SO → SO → Bool
  | .lst a, .lst b => D.beqs a b
  | .dic a, .dic b => kvsB a b
  | _, _ => false
theorem SO.beq_eq {a b : SO} (h : SO.beq a b = true) : a = b := by
  cases a with
  | lst as =>
    cases b with
    | lst bs => rw [D.beqs_eq (show D.beqs as bs = true from h)]
    | dic _ => cases h
  | dic as =>
    cases b with
    | dic bs => rw [kvsB_eq (show kvsB as bs = true from h)]
    | lst _ => cases h
theorem SO.beq_refl (a : SO) : SO.beq a a = true := by
  cases a with
  | lst as => exact D.beqs_refl as
  | dic as => exact kvsB_refl as
abbrev Sto := List SO
abbrev Env := List (Option D)

/-- where the store's objects stand; what is kept apart -/
structure Rho where
  ad : List Addr
  pv : List Addr := []
def Rho.out (r : Rho) (a : Addr) : Prop := a ∉ r.ad ∧ a ∉ r.pv
def Rho.app (r : Rho) (t q : List Addr) : Rho := ⟨r.ad ++ t, q ++ r.pv⟩
@[simp] theorem Rho.app_ad (r : Rho) (t q : List Addr) : (r.app t q).ad = r.ad ++ t := rfl
@[simp] theorem Rho.app_pv (r : Rho) (t q : List Addr) : (r.app t q).pv = q ++ r.pv := rfl
@[simp] theorem Rho.app_nil (r : Rho) : r.app [] [] = r := by cases r; simp [Rho.app]
theorem Rho.app_app (r : Rho) (t u q p : List Addr) : (r.app t q).app u p = r.app (t ++ u) (p ++ q) := by simp [Rho.app]
/-- a tuple, a list that nobody may change any more -/
def TupAt (K : PySem.W.Frag) (H : Hp) (r : Rho) (a : Addr) (xs : List V) : Prop :=
  (r.out a ∧ Rd H a (.tup xs)) ∨
    ∃ (o : Obj) (its : Array Value) (n : Nat), K.lookup a = some o ∧ o.cls = .type "tuple" ∧ o.data = .seq its n ∧ its.size ≤ sizeLine ∧ Vals xs its.toList
def LstAt (H : Hp) (r : Rho) (a : Addr) (xs : List V) : Prop := r.out a ∧ H a = some (.lst xs)
/-- the script -/
def ScrAt (K : PySem.W.Frag) (H : Hp) (r : Rho) (a : Addr) (xs : List V) : Prop :=
  (r.out a ∧ Rd H a (.lst xs)) ∨
    ∃ (o : Obj) (its : Array Value) (n : Nat), K.lookup a = some o ∧ o.cls = .type "list" ∧ o.dict = none ∧ o.data = .seq its n ∧ its.size ≤ sizeLine ∧ Vals xs its.toList
theorem TupAt.sq {K H r a xs} (h : TupAt K H r a xs) : SqT K H a xs := by
  rcases h with ⟨_, h⟩ | h
  · exact .inl h
  · exact .inr h
theorem LstAt.sq {K H r a xs} (h : LstAt H r a xs) : SqL K H a xs := .inl (.inl h.2)
theorem ScrAt.sq {K H r a xs} (h : ScrAt K H r a xs) : SqL K H a xs := by
  rcases h with ⟨_, h⟩ | h
  · exact .inl h
  · exact .inr h

/-- an exception that was caught: it stays as it is -/
def ExE (cls : Value) (d : Option Addr) (a : Addr) : HO := .ext fun h => ∃ (oe : Obj) (vs : Array Value), h.get? a = some oe ∧ Zc cls d oe ∧ oe.data = .fields vs
theorem exE_ok {P : Program} {w : World} {H : Hp} {h : Heap} {a : Addr} {cls : Value} {d : Option Addr} {oe : Obj} {vs : Array Value} (e : h.get? a = some oe) (z : Zc cls d oe) (hd : oe.data = .fields vs) : ObjOk P w H h a (ExE cls d a) :=
  ⟨⟨oe, vs, e, z, hd⟩, ⟨oe, e⟩, fun _ _ ⟨o, v, q, r⟩ k => ⟨o, v, k o q, r⟩⟩
def ExcAt (K : PySem.W.Frag) (H : Hp) (r : Rho) (cls : String) (ns : List Str) (a : Addr) (vs : List V) : Prop :=
  ∃ (C : Addr) (d : Option Addr), r.out a ∧ PySem.W.nsIn K mainGlobals (Str.ofString cls) = some (some (.ref C)) ∧ H a = some (ExE (.ref C) d a) ∧
    ((ns = [] ∧ vs = [] ∧ d = none) ∨ ∃ dd, d = some dd ∧ r.out dd ∧ H dd = some (.xd (ns.zip vs)) ∧ ns ≠ [])
mutual
def VD (K : PySem.W.Frag) (H : Hp) (r : Rho) : D → V → Prop
  | .non, v => v = .non
  | .bl b, v => v = .bl b
  | .int i, v => v = .int i
  | .str x, v => v = .str x
  | .tup ds, v => ∃ a xs, v = .ref a ∧ TupAt K H r a xs ∧ VDs K H r ds xs
  | .lst ds, v => ∃ a xs, v = .ref a ∧ LstAt H r a xs ∧ VDs K H r ds xs
  | .loc l, v => ∃ a, v = .ref a ∧ r.ad[l]? = some a
  | .scr ns, v => ∃ a, v = .ref a ∧ ScrAt K H r a (ns.map V.int)
  | .exc cls ns ds, v => ∃ a vs, v = .ref a ∧ ExcAt K H r cls ns a vs ∧ VDs K H r ds vs
def VDs (K : PySem.W.Frag) (H : Hp) (r : Rho) : List D → List V → Prop
  | [], xs => xs = []
  | d :: ds, xs => ∃ x t, xs = x :: t ∧ VD K H r d x ∧ VDs K H r ds t
end

def OD (K : PySem.W.Frag) (H : Hp) (r : Rho) : SO → HO → Prop
  | .lst ds, o => ∃ xs, o = .lst xs ∧ VDs K H r ds xs
  | .dic kvs, o => ∃ kxs : List (Key × V), o = .dK kxs ∧ Paired (fun p q => p.1 = q.1 ∧ VD K H r p.2 q.2) kvs kxs

structure SR (K : PySem.W.Frag) (H : Hp) (r : Rho) (st : Sto) : Prop where
  len : r.ad.length = st.length
  nd : r.ad.Nodup
  obj : ∀ (l : Nat) o, st[l]? = some o → ∃ a h, r.ad[l]? = some a ∧ H a = some h ∧ OD K H r o h
  apart : ∀ a ∈ r.pv, a ∉ r.ad ∧ ∃ o, H a = some o

structure Ext (H : Hp) (r : Rho) (H' : Hp) (r' : Rho) : Prop where
  pre : ∃ t q, r' = r.app t q ∧ (∀ a ∈ t, H a = none) ∧ ∀ a ∈ q, H a = none
  keep : ∀ a o, a ∉ r.ad → H a = some o → H' a = some o

theorem Ext.refl (H : Hp) (r : Rho) : Ext H r H r := ⟨⟨[], [], by simp, by simp, by simp⟩, fun _ _ _ h => h⟩
theorem Ext.newad {H r H' r'} (e : Ext H r H' r') {a : Addr} (h1 : a ∉ r.ad) {o : HO} (h2 : H a = some o) : a ∉ r'.ad := by
  obtain ⟨t, q, rfl, ht, _⟩ := e.pre
  intro h
  rcases List.mem_append.mp h with h | h
  · exact h1 h
  · rw [ht a h] at h2; cases h2
theorem Ext.new {H r H' r'} (e : Ext H r H' r') {a : Addr} (h1 : r.out a) {o : HO} (h2 : H a = some o) : r'.out a := by
  refine ⟨e.newad h1.1 h2, ?_⟩
  obtain ⟨t, q, rfl, _, hq⟩ := e.pre
  intro h
  rcases List.mem_append.mp h with h | h
  · rw [hq a h] at h2; cases h2
  · exact h1.2 h
theorem SR.there {K H r st} (s : SR K H r st) {a : Addr} (h : a ∈ r.ad) : ∃ o, H a = some o := by
  obtain ⟨l, hl, e⟩ := List.getElem_of_mem h
  have hl2 : l < st.length := by rw [← s.len]; exact hl
  obtain ⟨b, o, h1, h2, _⟩ := s.obj l st[l] (List.getElem?_eq_getElem hl2)
  rw [List.getElem?_eq_getElem hl, e] at h1
  cases h1
  exact ⟨o, h2⟩
theorem Ext.back {K H r H1 r1 st} (e : Ext H r H1 r1) (s : SR K H1 r1 st) {a : Addr} (h : H1 a = none) : H a = none := by
  cases q : H a with
  | none => rfl
  | some o =>
    by_cases hr : a ∈ r.ad
    · obtain ⟨t, p, rfl, _⟩ := e.pre
      obtain ⟨o', ho'⟩ := s.there (List.mem_append_left t hr)
      rw [h] at ho'; cases ho'
    · have := e.keep a o hr q
      rw [h] at this; cases this
theorem Ext.trans {K H r H1 r1 H2 r2 st} (e : Ext H r H1 r1) (s : SR K H1 r1 st) (f : Ext H1 r1 H2 r2) : Ext H r H2 r2 := by
  obtain ⟨t, q, e1, ht, hq⟩ := id e.pre
  obtain ⟨u, p, e2, hu, hp⟩ := id f.pre
  refine ⟨⟨t ++ u, p ++ q, by rw [e2, e1, Rho.app_app], fun a ha => ?_, fun a ha => ?_⟩, fun a o h1 h2 => f.keep a o (e.newad h1 h2) (e.keep a o h1 h2)⟩
  · rcases List.mem_append.mp ha with h | h
    · exact ht a h
    · exact e.back s (hu a h)
  · rcases List.mem_append.mp ha with h | h
    · exact e.back s (hp a h)
    · exact hq a h
theorem Rd.ext {H r H' r'} (e : Ext H r H' r') {a : Addr} {u : HO} (h1 : r.out a) (h : Rd H a u) : r'.out a ∧ Rd H' a u := by
  rcases h with h | ⟨o, h⟩
  · exact ⟨e.new h1 h, .inl (e.keep _ _ h1.1 h)⟩
  · exact ⟨e.new h1 h, .inr ⟨o, e.keep _ _ h1.1 h⟩⟩
theorem TupAt.ext {K H r H' r' a xs} (e : Ext H r H' r') (h : TupAt K H r a xs) : TupAt K H' r' a xs := by
  rcases h with ⟨h1, h⟩ | h
  · exact .inl (Rd.ext e h1 h)
  · exact .inr h
theorem LstAt.ext {H r H' r' a xs} (e : Ext H r H' r') (h : LstAt H r a xs) : LstAt H' r' a xs := ⟨e.new h.1 h.2, e.keep _ _ h.1.1 h.2⟩
theorem ScrAt.ext {K H r H' r' a xs} (e : Ext H r H' r') (h : ScrAt K H r a xs) : ScrAt K H' r' a xs := by
  rcases h with ⟨h1, h⟩ | h
  · exact .inl (Rd.ext e h1 h)
  · exact .inr h
theorem ExcAt.ext {K H r H' r' cls ns a vs} (e : Ext H r H' r') (h : ExcAt K H r cls ns a vs) : ExcAt K H' r' cls ns a vs := by
  obtain ⟨C, d, h1, h2, h3, h4⟩ := h
  refine ⟨C, d, e.new h1 h3, h2, e.keep _ _ h1.1 h3, ?_⟩
  rcases h4 with h4 | ⟨dd, h5, h6, h7, h8⟩
  · exact .inl h4
  · exact .inr ⟨dd, h5, e.new h6 h7, e.keep _ _ h6.1 h7, h8⟩
theorem Ext.get {H r H' r'} (e : Ext H r H' r') {l : Nat} {a : Addr} (h : r.ad[l]? = some a) : r'.ad[l]? = some a := by
  obtain ⟨t, q, rfl, _⟩ := e.pre
  rw [Rho.app_ad, List.getElem?_append_left (List.getElem?_eq_some_iff.mp h).1]
  exact h
mutual
theorem VD.ext {K H r H' r'} (e : Ext H r H' r') : ∀ (d : D) (v : V), VD K H r d v → VD K H' r' d v
  | .non, _, h => h
  | .bl _, _, h => h
  | .int _, _, h => h
  | .str _, _, h => h
  | .tup ds, v, h => by
    obtain ⟨a, xs, h1, h2, h3⟩ := h
    exact ⟨a, xs, h1, h2.ext e, VDs.ext e ds xs h3⟩
  | .lst ds, v, h => by
    obtain ⟨a, xs, h1, h2, h3⟩ := h
    exact ⟨a, xs, h1, h2.ext e, VDs.ext e ds xs h3⟩
  | .loc l, v, h => by
    obtain ⟨a, h1, h2⟩ := h
    exact ⟨a, h1, e.get h2⟩
  | .scr ns, v, h => by
    obtain ⟨a, h1, h2⟩ := h
    exact ⟨a, h1, h2.ext e⟩
  | .exc cls ns ds, v, h => by
    obtain ⟨a, vs, h1, h2, h3⟩ := h
    exact ⟨a, vs, h1, h2.ext e, VDs.ext e ds vs h3⟩
theorem VDs.ext {K H r H' r'} (e : Ext H r H' r') : ∀ (ds : List D) (xs : List V), VDs K H r ds xs → VDs K H' r' ds xs
  | [], _, h => h
  | d :: ds, xs, h => by
    obtain ⟨x, t, h1, h2, h3⟩ := h
    exact ⟨x, t, h1, VD.ext e d x h2, VDs.ext e ds t h3⟩
end
theorem VDs.len {K H r} : ∀ {ds : List D} {xs : List V}, VDs K H r ds xs → ds.length = xs.length
  | [], _, h => by cases h; rfl
  | d :: ds, xs, h => by
    obtain ⟨x, t, rfl, h2, h3⟩ := h
    simp [VDs.len h3]
theorem VDs.get {K H r} : ∀ {ds : List D} {xs : List V} {i : Nat} {d : D}, VDs K H r ds xs → ds[i]? = some d → ∃ x, xs[i]? = some x ∧ VD K H r d x
  | [], _, i, d, h, e => by simp at e
  | d' :: ds, xs, 0, d, h, e => by
    obtain ⟨x, t, rfl, h2, h3⟩ := h
    simp at e; subst e
    exact ⟨x, rfl, h2⟩
  | d' :: ds, xs, i + 1, d, h, e => by
    obtain ⟨x, t, rfl, h2, h3⟩ := h
    obtain ⟨y, h4, h5⟩ := VDs.get (i := i) h3 (by simpa using e)
    exact ⟨y, by simpa using h4, h5⟩
theorem VDs.getD {K H r} {ds : List D} {xs : List V} (h : VDs K H r ds xs) {i : Nat} {x : V} (e : xs[i]? = some x) : ∃ d, ds[i]? = some d ∧ VD K H r d x := by
  have hl := h.len
  have hi : i < ds.length := by rw [hl]; exact (List.getElem?_eq_some_iff.mp e).1
  obtain ⟨y, h1, h2⟩ := h.get (List.getElem?_eq_getElem hi)
  rw [e] at h1; cases h1
  exact ⟨_, List.getElem?_eq_getElem hi, h2⟩
theorem VDs.app {K H r} : ∀ {ds : List D} {xs : List V} {es : List D} {ys : List V}, VDs K H r ds xs → VDs K H r es ys → VDs K H r (ds ++ es) (xs ++ ys)
  | [], _, _, _, h, g => by cases h; exact g
  | d :: ds, _, _, _, h, g => by
    obtain ⟨x, t, rfl, h2, h3⟩ := h
    exact ⟨x, t ++ _, rfl, h2, VDs.app h3 g⟩
theorem VDs.take {K H r} : ∀ {ds : List D} {xs : List V} (n : Nat), VDs K H r ds xs → VDs K H r (ds.take n) (xs.take n)
  | _, _, 0, h => by simp [VDs]
  | [], _, n + 1, h => by cases h; simp [VDs]
  | d :: ds, _, n + 1, h => by
    obtain ⟨x, t, rfl, h2, h3⟩ := h
    exact ⟨x, t.take n, rfl, h2, VDs.take n h3⟩
theorem VDs.drop {K H r} : ∀ {ds : List D} {xs : List V} (n : Nat), VDs K H r ds xs → VDs K H r (ds.drop n) (xs.drop n)
  | _, _, 0, h => by simpa using h
  | [], _, n + 1, h => by cases h; simp [VDs]
  | d :: ds, _, n + 1, h => by
    obtain ⟨x, t, rfl, h2, h3⟩ := h
    simpa using VDs.drop n h3
theorem VDs.set {K H r} {d : D} {x : V} (hd : VD K H r d x) : ∀ {ds : List D} {xs : List V} (i : Nat), VDs K H r ds xs → VDs K H r (ds.set i d) (xs.set i x)
  | [], _, i, h => by cases h; simp [VDs]
  | d' :: ds, _, 0, h => by
    obtain ⟨y, t, rfl, h2, h3⟩ := h
    exact ⟨x, t, rfl, hd, h3⟩
  | d' :: ds, _, i + 1, h => by
    obtain ⟨y, t, rfl, h2, h3⟩ := h
    exact ⟨y, t.set i x, rfl, h2, VDs.set hd i h3⟩
theorem VDs.rev {K H r} {ds : List D} {xs : List V} (h : VDs K H r ds xs) : VDs K H r ds.reverse xs.reverse := by
  induction ds generalizing xs with
  | nil => cases h; simp [VDs]
  | cons d ds ih =>
    obtain ⟨x, t, rfl, h2, h3⟩ := h
    rw [List.reverse_cons, List.reverse_cons]
    exact VDs.app (ih h3) ⟨x, [], rfl, h2, rfl⟩
theorem VDs.one {K H r d x} (h : VD K H r d x) : VDs K H r [d] [x] := ⟨x, [], rfl, h, rfl⟩
theorem VDs.ints {K H r} : ∀ (ns : List Int), VDs K H r (ns.map D.int) (ns.map V.int)
  | [] => rfl
  | n :: ns => ⟨_, _, rfl, rfl, VDs.ints ns⟩

/-! ### results -/
/-- an exception: its class, its fields -/
structure Exc where
  cls : String
  fs : List (Str × D) := []
inductive Res (α : Type) where
  | ok (a : α) (st : Sto)
  | ex (x : Exc) (st : Sto)
  | bad
def Res.bind {α β : Type} (r : Res α) (k : α → Sto → Res β) : Res β :=
  match r with
  | .ok a st => k a st
  | .ex x st => .ex x st
  | .bad => .bad
@[simp] theorem Res.bind_ok {α β : Type} (a : α) (st : Sto) (k : α → Sto → Res β) : (Res.ok a st).bind k = k a st := rfl
@[simp] theorem Res.bind_ex {α β : Type} (x : Exc) (st : Sto) (k : α → Sto → Res β) : (Res.ex x st).bind k = .ex x st := rfl
@[simp] theorem Res.bind_bad {α β : Type} (k : α → Sto → Res β) : (Res.bad : Res α).bind k = .bad := rfl

abbrev EM := Env → Sto → Res D
abbrev Fn := List D → Sto → Res D

/-- the end of a statement -/
inductive Out where
  | nx (env : Env) | rt (d : D)
abbrev SM := Env → Sto → Res Out

end FL

namespace FL
open PySem PySem.Spec PyProof.Rows L2

/-! ### the store kept over a growing heap -/
theorem paired_imp {α β : Type} {F G : α → β → Prop} (f : ∀ a b, F a b → G a b) : ∀ {l₁ : List α} {l₂ : List β}, Paired F l₁ l₂ → Paired G l₁ l₂
  | _, _, .nil => .nil
  | _, _, .cons r t => .cons (f _ _ r) (paired_imp f t)
theorem OD.ext {K H r H' r'} (e : Ext H r H' r') : ∀ (o : SO) (h : HO), OD K H r o h → OD K H' r' o h
  | .lst ds, h, ⟨xs, h1, h2⟩ => ⟨xs, h1, h2.ext e⟩
  | .dic kvs, h, ⟨xs, h1, h2⟩ => ⟨xs, h1, paired_imp (fun _ _ q => ⟨q.1, q.2.ext e⟩) h2⟩
theorem SR.notad {K H r st} (s : SR K H r st) {p : Addr} (h : H p = none) : p ∉ r.ad := fun q => by
  obtain ⟨o, e⟩ := s.there q
  rw [h] at e; cases e
theorem SR.notin {K H r st} (s : SR K H r st) {p : Addr} (h : H p = none) : r.out p := ⟨s.notad h, fun q => by
  obtain ⟨_, o, e⟩ := s.apart p q
  rw [h] at e; cases e⟩
theorem Ext.fresh {H : Hp} {r : Rho} {p : Addr} {o : HO} (h : H p = none) : Ext H r (upd H p o) r :=
  ⟨⟨[], [], by simp, by simp, by simp⟩, fun a o' _ e => by rw [upd_ne (ne_of_none e h)]; exact e⟩
theorem SR.apart_ext {K H r st H' t} (s : SR K H r st) (e : Ext H r H' (r.app t [])) : ∀ a ∈ (r.app t []).pv, a ∉ (r.app t []).ad ∧ ∃ o, H' a = some o := fun a ha => by
  obtain ⟨h1, o, h2⟩ := s.apart a ha
  exact ⟨e.newad h1 h2, o, e.keep a o h1 h2⟩
theorem SR.fresh {K H r st} (s : SR K H r st) {p : Addr} {o : HO} (h : H p = none) : SR K (upd H p o) r st := by
  refine ⟨s.len, s.nd, fun l so e => ?_, fun a ha => ?_⟩
  · obtain ⟨a, x, h1, h2, h3⟩ := s.obj l so e
    exact ⟨a, x, h1, by rw [upd_ne (ne_of_none h2 h)]; exact h2, h3.ext (Ext.fresh h)⟩
  · obtain ⟨h1, o', h2⟩ := s.apart a ha
    exact ⟨h1, o', by rw [upd_ne (ne_of_none h2 h)]; exact h2⟩
/-- a new object of the store -/
theorem Ext.grown {K H r st} (s : SR K H r st) {p : Addr} {o : HO} (h : H p = none) : Ext H r (upd H p o) (r.app [p] []) :=
  ⟨⟨[p], [], rfl, (fun a ha => by rw [List.mem_singleton.mp ha]; exact h), by simp⟩, fun a o' _ e => by rw [upd_ne (ne_of_none e h)]; exact e⟩
theorem SR.grown {K H r st} (s : SR K H r st) {p : Addr} {o : HO} {so : SO} (h : H p = none) (ho : OD K H r so o) : SR K (upd H p o) (r.app [p] []) (st ++ [so]) := by
  have e := Ext.grown s (o := o) h
  refine ⟨by simp [s.len], ?_, fun l so' q => ?_, s.apart_ext e⟩
  · rw [Rho.app_ad, List.nodup_append]
    refine ⟨s.nd, by simp, fun a ha b hb => ?_⟩
    rw [List.mem_singleton.mp hb]
    rintro rfl
    exact s.notad h ha
  · by_cases hl : l < st.length
    · rw [List.getElem?_append_left hl] at q
      obtain ⟨a, x, h1, h2, h3⟩ := s.obj l so' q
      exact ⟨a, x, e.get h1, by rw [upd_ne (ne_of_none h2 h)]; exact h2, h3.ext e⟩
    · have hl2 : l = st.length := by
        have := (List.getElem?_eq_some_iff.mp q).1
        simp at this; omega
      subst hl2
      simp at q; subst q
      refine ⟨p, o, by rw [← s.len]; simp, upd_same, ho.ext e⟩
/-- an object of the store is changed -/
theorem Ext.set {H : Hp} {r : Rho} {l : Nat} {a : Addr} {o : HO} (h : r.ad[l]? = some a) : Ext H r (upd H a o) r :=
  ⟨⟨[], [], by simp, by simp, by simp⟩, fun b o' hb e => by
    rw [upd_ne]
    · exact e
    · rintro rfl
      exact hb (List.mem_of_getElem? h)⟩
theorem SR.set {K H r st} (s : SR K H r st) {l : Nat} {a : Addr} {o : HO} {so : SO} (h : r.ad[l]? = some a) (ho : OD K H r so o) : SR K (upd H a o) r (st.set l so) := by
  have e := Ext.set (H := H) (o := o) h
  refine ⟨by simp [s.len], s.nd, fun k so' q => ?_, by have := s.apart_ext (t := []) (by simpa using e); simpa using this⟩
  by_cases hk : k = l
  · subst hk
    have hk2 : k < st.length := by
      have := (List.getElem?_eq_some_iff.mp h).1
      rw [s.len] at this; exact this
    rw [List.getElem?_set_self hk2] at q
    cases q
    exact ⟨a, o, h, upd_same, ho.ext e⟩
  · rw [List.getElem?_set_ne (Ne.symm hk)] at q
    obtain ⟨b, x, h1, h2, h3⟩ := s.obj k so' q
    refine ⟨b, x, h1, ?_, h3.ext e⟩
    rw [upd_ne]
    · exact h2
    · rintro rfl
      obtain ⟨h4, h5⟩ := List.getElem?_eq_some_iff.mp h1
      obtain ⟨h6, h7⟩ := List.getElem?_eq_some_iff.mp h
      exact hk ((List.getElem_inj s.nd).mp (h5.trans h7.symm))

/-! ### slots -/
structure ER (K : PySem.W.Frag) (H : Hp) (r : Rho) (env : Env) (σ : L2.St) : Prop where
  len : env.length = σ.length
  get : ∀ (i : Nat) (d : D), env[i]? = some (some d) → ∃ v, σ[i]? = some (some v) ∧ VD K H r d v
theorem ER.ext {K H r H' r' env σ} (x : ER K H r env σ) (e : Ext H r H' r') : ER K H' r' env σ := ⟨x.len, fun i d h => by
  obtain ⟨v, h1, h2⟩ := x.get i d h
  exact ⟨v, h1, h2.ext e⟩⟩
theorem ER.set {K H r env σ} (x : ER K H r env σ) (i : Nat) {d : D} {v : V} (h : VD K H r d v) : ER K H r (env.set i (some d)) (σ.set i (some v)) := by
  refine ⟨by simp [x.len], fun j e q => ?_⟩
  by_cases hj : j = i
  · subst hj
    have hl : j < env.length := by
      have := (List.getElem?_eq_some_iff.mp q).1
      simpa using this
    rw [List.getElem?_set_self hl] at q
    cases q
    exact ⟨v, by rw [List.getElem?_set_self (by rw [← x.len]; exact hl)], h⟩
  · rw [List.getElem?_set_ne (Ne.symm hj)] at q
    obtain ⟨w, h1, h2⟩ := x.get j e q
    exact ⟨w, by rw [List.getElem?_set_ne (Ne.symm hj)]; exact h1, h2⟩

/-! ### what is wanted of a result -/
/-- how an exception lies -/
def XR (K : PySem.W.Frag) (mg : Str → Option Value) (H : Hp) (r : Rho) (x : Exc) (cls : Value) (d : Option Addr) : Prop :=
  (∃ C, PySem.W.nsIn K mainGlobals (Str.ofString x.cls) = some (some (.ref C)) ∧ cls = .ref C) ∧
    (match x.fs with
      | [] => d = none
      | _ => ∃ dd vs, d = some dd ∧ r.out dd ∧ H dd = some (.xd vs) ∧ Paired (fun (p : Str × D) (q : Str × V) => p.1 = q.1 ∧ VD K H r p.2 q.2) x.fs vs)
def RES {α β : Type} (K : PySem.W.Frag) (mg : Str → Option Value) (R : Hp → Rho → α → β → Prop) (E : XK) (H : Hp) (r : Rho) (m : Res α) (Q : β → Hp → Prop) : Prop :=
  match m with
  | .ok a st => ∀ b H' r', Ext H r H' r' → SR K H' r' st → R H' r' a b → Q b H'
  | .ex x st => ∀ cls d H' r', Ext H r H' r' → SR K H' r' st → XR K mg H' r' x cls d → E cls d H'
  | .bad => False
/-- one step, then the rest -/
theorem RES.seq {α β γ δ : Type} {K mg} {R : Hp → Rho → α → β → Prop} {R2 : Hp → Rho → γ → δ → Prop} {E : XK} {H r} {m : Res α} {k : α → Sto → Res γ} {Q : δ → Hp → Prop} {Q1 : β → Hp → Prop}
    (h : RES K mg R2 E H r (m.bind k) Q)
    (hk : ∀ a st b H1 r1, Ext H r H1 r1 → SR K H1 r1 st → R H1 r1 a b → RES K mg R2 E H1 r1 (k a st) Q → Q1 b H1) : RES K mg R E H r m Q1 := by
  cases m with
  | ok a st =>
    intro b H1 r1 e s hr
    refine hk a st b H1 r1 e s hr ?_
    have h' : RES K mg R2 E H r (k a st) Q := h
    revert h'
    cases k a st with
    | ok c st2 => exact fun h' d H2 r2 e2 s2 q => h' d H2 r2 (e.trans s e2) s2 q
    | ex x st2 => exact fun h' cls dd H2 r2 e2 s2 q => h' cls dd H2 r2 (e.trans s e2) s2 q
    | bad => exact fun h' => h'
  | ex x st => exact h
  | bad => exact h
/-- .. known at once -/
theorem RES.ok {α β : Type} {K mg} {R : Hp → Rho → α → β → Prop} {E : XK} {H r st} {a : α} {Q : β → Hp → Prop} (h : RES K mg R E H r (.ok a st) Q) {b : β} (s : SR K H r st) (q : R H r a b) : Q b H :=
  h b H r (Ext.refl H r) s q
theorem RES.ok' {α β : Type} {K mg} {R : Hp → Rho → α → β → Prop} {E : XK} {H r st H' r'} {a : α} {Q : β → Hp → Prop} (h : RES K mg R E H r (.ok a st) Q) {b : β} (e : Ext H r H' r') (s : SR K H' r' st) (q : R H' r' a b) : Q b H' :=
  h b H' r' e s q

abbrev RV (K : PySem.W.Frag) : Hp → Rho → D → V → Prop := fun H r d v => VD K H r d v
abbrev RVs (K : PySem.W.Frag) : Hp → Rho → List D → List V → Prop := fun H r ds vs => VDs K H r ds vs
abbrev RB : Hp → Rho → Bool → Bool → Prop := fun _ _ a b => a = b

/-- the readings -/
def tM (K : PySem.W.Frag) (mg : Str → Option Value) (W : WX) (m : EM) : TE := fun σ H Q => ∃ r env st, ER K H r env σ ∧ SR K H r st ∧ RES K mg (RV K) (WE W σ) H r (m env st) Q
def tT (K : PySem.W.Frag) (mg : Str → Option Value) (W : WX) (m : Env → Sto → Res Bool) : TT := fun σ H Q => ∃ r env st, ER K H r env σ ∧ SR K H r st ∧ RES K mg RB (WE W σ) H r (m env st) Q
def tA (K : PySem.W.Frag) (mg : Str → Option Value) (W : WX) (m : Env → Sto → Res (List D)) : TA := fun σ H Q => ∃ r env st, ER K H r env σ ∧ SR K H r st ∧ RES K mg (RVs K) (WE W σ) H r (m env st) Q
/-- a new list -/
def tN (K : PySem.W.Frag) (mg : Str → Option Value) (W : WX) (m : Env → Sto → Res (List D)) : TE := fun σ H Q =>
  ∃ r env st, ER K H r env σ ∧ SR K H r st ∧ RES K mg (RVs K) (WE W σ) H r (m env st) (fun xs H1 => ∀ p, H1 p = none → Q (.ref p) (upd H1 p (.lst xs)))

abbrev FE (X : Cx) (W : WX) (e : Expr) (m : EM) : Prop := PE X e (tM X.K X.mg W m)
abbrev FT (X : Cx) (W : WX) (e : Expr) (m : Env → Sto → Res Bool) : Prop := PT X e (tT X.K X.mg W m)
abbrev FA (X : Cx) (W : WX) (es : List Expr) (m : Env → Sto → Res (List D)) : Prop := PA X es (tA X.K X.mg W m)
abbrev FN (X : Cx) (W : WX) (e : Expr) (m : Env → Sto → Res (List D)) : Prop := PE X e (tN X.K X.mg W m)

theorem PE.imp {X : Cx} {e : Expr} {t t' : TE} (h : PE X e t) (i : ∀ σ H Q, t' σ H Q → t σ H Q) : PE X e t' := ⟨fun pins s σ H Q I q => h.run pins s σ H Q I (i σ H Q q)⟩
theorem PT.imp {X : Cx} {e : Expr} {t t' : TT} (h : PT X e t) (i : ∀ σ H Q, t' σ H Q → t σ H Q) : PT X e t' := ⟨fun pins s σ H Q I q => h.run pins s σ H Q I (i σ H Q q)⟩
theorem PA.imp {X : Cx} {es : List Expr} {t t' : TA} (h : PA X es t) (i : ∀ σ H Q, t' σ H Q → t σ H Q) : PA X es t' := ⟨fun pos pins s σ H Q I q => h.run pos pins s σ H Q I (i σ H Q q)⟩

section
variable {X : Cx} {W : WX} {e a b : Expr} {es : List Expr} {m ma mb : EM} {ms : Env → Sto → Res (List D)} {pos : Pos}

/-! ### names, constants -/
def eV (i : Nat) : EM := fun env st => match env[i]? with
  | some (some d) => .ok d st
  | _ => .bad
theorem fe_var {i : Nat} (h : PE X e (tVar i)) : FE X W e (eV i) := PE.imp h fun σ H Q ⟨r, env, st, hE, hS, h⟩ => by
  unfold eV at h
  cases q : env[i]? with
  | none => rw [q] at h; exact h.elim
  | some o =>
    cases o with
    | none => rw [q] at h; exact h.elim
    | some d =>
      rw [q] at h
      obtain ⟨v, h1, h2⟩ := hE.get i d q
      exact ⟨v, h1, RES.ok h hS h2⟩
def eC (d : D) : EM := fun _ st => .ok d st
theorem fe_int {i j} : FE X W (.Constant (.int i) j pos) (eC (.int i)) := PE.imp pe_int fun σ H Q ⟨r, env, st, hE, hS, h⟩ => RES.ok h hS rfl
theorem fe_bl {i j} : FE X W (.Constant (.bool i) j pos) (eC (.bl i)) := PE.imp pe_bl fun σ H Q ⟨r, env, st, hE, hS, h⟩ => RES.ok h hS rfl
theorem fe_non {j} : FE X W (.Constant .none j pos) (eC .non) := PE.imp pe_non fun σ H Q ⟨r, env, st, hE, hS, h⟩ => RES.ok h hS rfl
theorem fe_str {i j} : FE X W (.Constant (.str i) j pos) (eC (.str i)) := PE.imp pe_str fun σ H Q ⟨r, env, st, hE, hS, h⟩ => RES.ok h hS rfl
/-- a constant of the module -/
def ConstD (K : PySem.W.Frag) (mg : Str → Option Value) (x : Str) (d : D) : Prop := ∃ u v, mg x = some u ∧ RelV v u ∧ ∀ H r, VD K H r d v
theorem fe_glob {x : Str} {d : D} (hg : Gl X x) (h : ConstD X.K X.mg x d) (hd : (x == ("__debug__" : Str)) = false := by decide) : FE X W (.Name x pos) (eC d) := by
  obtain ⟨u, v, h1, h2, h3⟩ := h
  exact PE.imp (pe_glob hg h1 h2 hd) fun σ H Q ⟨r, env, st, hE, hS, h⟩ => RES.ok h hS (h3 H r)

/-! ### argument lists, tuples, lists -/
def aNil : Env → Sto → Res (List D) := fun _ st => .ok [] st
def aCons (ma : EM) (mr : Env → Sto → Res (List D)) : Env → Sto → Res (List D) := fun env st => (ma env st).bind fun d st1 => (mr env st1).bind fun ds st2 => .ok (d :: ds) st2
theorem fa_nil : FA X W [] aNil := PA.imp pa_nil fun σ H Q ⟨r, env, st, hE, hS, h⟩ => RES.ok h hS rfl
theorem fa_cons (ha : FE X W e ma) (hr : FA X W es ms) (hs : starEach (e :: es) X.env = (false, eval e X.env) :: starEach es X.env := by rfl) : FA X W (e :: es) (aCons ma ms) :=
  PA.imp (pa_cons ha hr hs) fun σ H Q ⟨r, env, st, hE, hS, h⟩ => by
    refine ⟨r, env, st, hE, hS, RES.seq h fun d st1 x H1 r1 e1 s1 v1 h1 => ?_⟩
    refine ⟨r1, env, st1, hE.ext e1, s1, RES.seq h1 fun ds st2 xs H2 r2 e2 s2 v2 h2 => ?_⟩
    exact RES.ok h2 s2 ⟨x, xs, rfl, v1.ext e2, v2⟩
def eTup (ms : Env → Sto → Res (List D)) : EM := fun env st => (ms env st).bind fun ds st1 => if ds.length ≤ 1000 then .ok (.tup ds) st1 else .bad
theorem fe_tup {x1} (h : FA X W es ms) : FE X W (.Tuple es x1 pos) (eTup ms) := PE.imp (pe_tup h) fun σ H Q ⟨r, env, st, hE, hS, h⟩ => by
  refine ⟨r, env, st, hE, hS, RES.seq h fun ds st1 xs H1 r1 e1 s1 v1 h1 => ?_⟩
  by_cases hl : ds.length ≤ 1000
  · rw [if_pos hl] at h1
    refine ⟨by rw [← v1.len]; exact Nat.le_of_lt (small1000 hl), fun p hp => ?_⟩
    refine RES.ok' h1 (Ext.fresh hp) (s1.fresh hp) ⟨p, xs, rfl, .inl ⟨s1.notin hp, .inl upd_same⟩, v1.ext (Ext.fresh hp)⟩
  · rw [if_neg hl] at h1; exact h1.elim
def nLst (ms : Env → Sto → Res (List D)) : Env → Sto → Res (List D) := fun env st => (ms env st).bind fun ds st1 => if ds.length ≤ 1000 then .ok ds st1 else .bad
theorem fn_lst (h : FA X W es ms) : FN X W (.List es pos) (nLst ms) := PE.imp (pe_lst h) fun σ H Q ⟨r, env, st, hE, hS, h⟩ => by
  refine ⟨r, env, st, hE, hS, RES.seq h fun ds st1 xs H1 r1 e1 s1 v1 h1 => ?_⟩
  by_cases hl : ds.length ≤ 1000
  · rw [if_pos hl] at h1
    exact ⟨by rw [← v1.len]; exact Nat.le_of_lt (small1000 hl), fun p hp => RES.ok h1 s1 v1 p hp⟩
  · rw [if_neg hl] at h1; exact h1.elim
/-- a new list that nobody changes -/
def eFrz (ms : Env → Sto → Res (List D)) : EM := fun env st => (ms env st).bind fun ds st1 => .ok (.lst ds) st1
theorem fe_frz (h : FN X W e ms) : FE X W e (eFrz ms) := PE.imp h fun σ H Q ⟨r, env, st, hE, hS, h⟩ => by
  refine ⟨r, env, st, hE, hS, RES.seq h fun ds st1 xs H1 r1 e1 s1 v1 h1 p hp => ?_⟩
  exact RES.ok' h1 (Ext.fresh hp) (s1.fresh hp) ⟨p, xs, rfl, ⟨s1.notin hp, upd_same⟩, v1.ext (Ext.fresh hp)⟩
/-- .. that is laid into the store -/
def eNew (ms : Env → Sto → Res (List D)) : EM := fun env st => (ms env st).bind fun ds st1 => .ok (.loc st1.length) (st1 ++ [.lst ds])
theorem fe_new (h : FN X W e ms) : FE X W e (eNew ms) := PE.imp h fun σ H Q ⟨r, env, st, hE, hS, h⟩ => by
  refine ⟨r, env, st, hE, hS, RES.seq h fun ds st1 xs H1 r1 e1 s1 v1 h1 p hp => ?_⟩
  exact RES.ok' h1 (Ext.grown s1 hp) (s1.grown hp ⟨xs, rfl, v1⟩) ⟨p, rfl, by rw [← s1.len]; simp⟩

/-! ### operations on two values -/
/-- an operation f by values keeps g -/
def OpF (X : Cx) (f : Value → Value → Sem Value) (g : D → D → Sto → Res D) : Prop :=
  ∃ rr : R2, OpR X f rr ∧ ∀ (E : XK) H r st d e x y Q, SR X.K H r st → VD X.K H r d x → VD X.K H r e y → RES X.K X.mg (RV X.K) E H r (g d e st) Q → rr x y H Q
def eOp (g : D → D → Sto → Res D) (ma mb : EM) : EM := fun env st => (ma env st).bind fun d st1 => (mb env st1).bind fun e st2 => g d e st2
theorem sim_op {g : D → D → Sto → Res D} {rr : R2} (hr : ∀ (E : XK) H r st d e x y Q, SR X.K H r st → VD X.K H r d x → VD X.K H r e y → RES X.K X.mg (RV X.K) E H r (g d e st) Q → rr x y H Q)
    {σ : L2.St} {H : Hp} {Q : VK} (q : tM X.K X.mg W (eOp g ma mb) σ H Q) : tOp rr (tM X.K X.mg W ma) (tM X.K X.mg W mb) σ H Q := by
  obtain ⟨r, env, st, hE, hS, h⟩ := q
  refine ⟨r, env, st, hE, hS, RES.seq h fun d st1 x H1 r1 e1 s1 v1 h1 => ?_⟩
  refine ⟨r1, env, st1, hE.ext e1, s1, RES.seq h1 fun e st2 y H2 r2 e2 s2 v2 h2 => ?_⟩
  exact hr _ H2 r2 st2 d e x y Q s2 (v1.ext e2) v2 h2
theorem fe_bin {op : Operator} {g : D → D → Sto → Res D} (ho : OpF X (binaryOp op) g) (ha : FE X W a ma) (hb : FE X W b mb) : FE X W (.BinOp a op b pos) (eOp g ma mb) := by
  obtain ⟨rr, h1, h2⟩ := ho
  exact PE.imp (pe_op h1 ha hb) fun σ H Q q => sim_op h2 q
theorem fe_cmp {op : CmpOp} {g : D → D → Sto → Res D} (ho : OpF X (compareOp op) g) (ha : FE X W a ma) (hb : FE X W b mb) (hm : behindInMarks op b = false) : FE X W (.Compare a [op] [b] pos) (eOp g ma mb) := by
  obtain ⟨rr, h1, h2⟩ := ho
  exact PE.imp (pe_cmpR h1 ha hb hm) fun σ H Q q => sim_op h2 q
/-- a value that must be a truth -/
def asB (m : EM) : Env → Sto → Res Bool := fun env st => (m env st).bind fun d st1 => match d with
  | .bl k => .ok k st1
  | _ => .bad
theorem ft_cmp {op : CmpOp} {g : D → D → Sto → Res D} (ho : OpF X (compareOp op) g) (ha : FE X W a ma) (hb : FE X W b mb) (hm : behindInMarks op b = false) : FT X W (.Compare a [op] [b] pos) (asB (eOp g ma mb)) := by
  obtain ⟨rr, h1, h2⟩ := ho
  refine PT.imp (pt_cmpR h1 ha hb hm) fun σ H Q ⟨r, env, st, hE, hS, h⟩ => ?_
  refine sim_op (W := W) h2 ⟨r, env, st, hE, hS, RES.seq h fun d st1 x H1 r1 e1 s1 v1 q1 => ?_⟩
  cases d with
  | bl k => cases v1; exact ⟨k, rfl, RES.ok q1 s1 rfl⟩
  | _ => exact q1.elim
end
end FL

namespace FL
open PySem PySem.Spec PyProof.Rows L2

/-! ### truth -/
def truD : D → Sto → Res Bool
  | .non, st => .ok false st
  | .bl b, st => .ok b st
  | .int i, st => .ok (i != 0) st
  | .str y, st => if y.length ≤ sizeLine then .ok ((y.length : Int) != 0) st else .bad
  | .tup ds, st => .ok (!ds.isEmpty) st
  | .lst ds, st => .ok (!ds.isEmpty) st
  | .scr ns, st => .ok (!ns.isEmpty) st
  | .loc l, st => match st[l]? with
    | some (.lst ds) => .ok (!ds.isEmpty) st
    | some (.dic kvs) => .ok (!kvs.isEmpty) st
    | none => .bad
  | .exc _ _ _, _ => .bad
theorem VDs.emp {K H r ds xs} (h : VDs K H r ds xs) : ds.isEmpty = xs.isEmpty := by
  cases ds with
  | nil => cases h; rfl
  | cons d ds => obtain ⟨x, t, rfl, _⟩ := h; rfl
theorem paired_len {α β : Type} {F : α → β → Prop} : ∀ {l₁ : List α} {l₂ : List β}, Paired F l₁ l₂ → l₁.length = l₂.length
  | _, _, .nil => rfl
  | _, _, .cons _ t => by simp [paired_len t]
theorem paired_emp {α β : Type} {F : α → β → Prop} {l₁ : List α} {l₂ : List β} (h : Paired F l₁ l₂) : l₁.isEmpty = l₂.isEmpty := by
  cases h <;> rfl
theorem sim_tru {K mg} {E : XK} {H r st} {d : D} {x : V} {Q : Bool → Hp → Prop} (s : SR K H r st) (v : VD K H r d x) (h : RES K mg RB E H r (truD d st) Q) : ∃ k, TruV K x H k ∧ Q k H := by
  cases d with
  | non => cases v; exact ⟨false, rfl, RES.ok h s rfl⟩
  | bl b => cases v; exact ⟨b, rfl, RES.ok h s rfl⟩
  | int i => cases v; exact ⟨_, rfl, RES.ok h s rfl⟩
  | str y =>
    cases v
    unfold truD at h
    by_cases hl : y.length ≤ sizeLine
    · simp only [if_pos hl] at h
      exact ⟨_, ⟨hl, rfl⟩, RES.ok h s rfl⟩
    · simp only [if_neg hl] at h
      exact h.elim
  | tup ds =>
    obtain ⟨a, xs, rfl, h1, h2⟩ := v
    exact ⟨!ds.isEmpty, .inr (.inl ⟨xs, h1.sq, by rw [h2.emp]⟩), RES.ok h s rfl⟩
  | lst ds =>
    obtain ⟨a, xs, rfl, h1, h2⟩ := v
    exact ⟨!ds.isEmpty, .inl ⟨xs, h1.sq, by rw [h2.emp]⟩, RES.ok h s rfl⟩
  | scr ns =>
    obtain ⟨a, rfl, h1⟩ := v
    refine ⟨!ns.isEmpty, .inl ⟨_, h1.sq, ?_⟩, RES.ok h s rfl⟩
    cases ns <;> rfl
  | exc _ _ _ => exact h.elim
  | loc l =>
    obtain ⟨a, rfl, h1⟩ := v
    unfold truD at h
    cases q : st[l]? with
    | none => simp only [q] at h; exact h.elim
    | some o =>
      obtain ⟨b, ho, e1, e2, e3⟩ := s.obj l o q
      rw [h1] at e1; cases e1
      cases o with
      | lst ds =>
        obtain ⟨xs, rfl, e3⟩ := e3
        simp only [q] at h
        exact ⟨!ds.isEmpty, .inl ⟨xs, .inl (.inl e2), by rw [e3.emp]⟩, RES.ok h s rfl⟩
      | dic kvs =>
        obtain ⟨xs, rfl, e3⟩ := e3
        simp only [q] at h
        exact ⟨!kvs.isEmpty, .inr (.inr ⟨xs, e2, by rw [paired_emp e3]⟩), RES.ok h s rfl⟩
section
variable {X : Cx} {W : WX} {e a b c : Expr} {rest : List Expr} {m ma mb : EM} {ta tb : Env → Sto → Res Bool} {pos : Pos}
def tTru (m : EM) : Env → Sto → Res Bool := fun env st => (m env st).bind truD
theorem ft_truth (h : FE X W e m) (he : ∀ whole, isTrue e X.env whole = (do let v ← whole; standAt e.pos; holding [v] (truthy v)) := by intro _; rfl) : FT X W e (tTru m) :=
  PT.imp (pt_truth h he) fun σ H Q ⟨r, env, st, hE, hS, h⟩ => ⟨r, env, st, hE, hS, RES.seq h fun d st1 x H1 r1 e1 s1 v1 h1 => sim_tru s1 v1 h1⟩

/-! ### and, or, not in tests -/
def tAndM (ta tb : Env → Sto → Res Bool) : Env → Sto → Res Bool := fun env st => (ta env st).bind fun k st1 => if k = true then tb env st1 else .ok false st1
def tOrM (ta tb : Env → Sto → Res Bool) : Env → Sto → Res Bool := fun env st => (ta env st).bind fun k st1 => if k = true then .ok true st1 else tb env st1
def tNotM (ta : Env → Sto → Res Bool) : Env → Sto → Res Bool := fun env st => (ta env st).bind fun k st1 => .ok (!k) st1
abbrev FW (X : Cx) (W : WX) (e : Expr) (m : Env → Sto → Res Bool) : Prop := PW X e (tT X.K X.mg W m)
theorem PW.imp {X : Cx} {e : Expr} {t t' : TT} (h : PW X e t) (i : ∀ σ H Q, t' σ H Q → t σ H Q) : PW X e t' := ⟨fun wh pins s σ H Q I q => h.run wh pins s σ H Q I (i σ H Q q)⟩
theorem fw_and1 (ha : FT X W a ta) : FW X W (.BoolOp .And [a] pos) ta := pw_and1 ha
theorem fw_or1 (ha : FT X W a ta) : FW X W (.BoolOp .Or [a] pos) ta := pw_or1 ha
theorem fw_and (ha : FT X W a ta) (hb : FW X W (.BoolOp .And (b :: rest) pos) tb) : FW X W (.BoolOp .And (a :: b :: rest) pos) (tAndM ta tb) :=
  PW.imp (pw_and ha hb) fun σ H Q ⟨r, env, st, hE, hS, h⟩ => ⟨r, env, st, hE, hS, RES.seq h fun k st1 k' H1 r1 e1 s1 v1 h1 => by
    cases v1
    cases k with
    | true => exact ⟨r1, env, st1, hE.ext e1, s1, h1⟩
    | false => exact RES.ok h1 s1 rfl⟩
theorem fw_or (ha : FT X W a ta) (hb : FW X W (.BoolOp .Or (b :: rest) pos) tb) : FW X W (.BoolOp .Or (a :: b :: rest) pos) (tOrM ta tb) :=
  PW.imp (pw_or ha hb) fun σ H Q ⟨r, env, st, hE, hS, h⟩ => ⟨r, env, st, hE, hS, RES.seq h fun k st1 k' H1 r1 e1 s1 v1 h1 => by
    cases v1
    cases k with
    | false => exact ⟨r1, env, st1, hE.ext e1, s1, h1⟩
    | true => exact RES.ok h1 s1 rfl⟩
theorem fw_pt (h : FW X W e ta) : FT X W e ta := PW.pt h
theorem ft_not (ha : FT X W a ta) : FT X W (.UnaryOp .Not a pos) (tNotM ta) :=
  PT.imp (pt_not ha) fun σ H Q ⟨r, env, st, hE, hS, h⟩ => ⟨r, env, st, hE, hS, RES.seq h fun k st1 k' H1 r1 e1 s1 v1 h1 => by
    cases v1
    exact RES.ok h1 s1 rfl⟩

/-! ### as values -/
def eAnd (ma mb : EM) : EM := fun env st => (ma env st).bind fun d st1 => (truD d st1).bind fun k st2 => if k = true then mb env st2 else .ok d st2
def eOr (ma mb : EM) : EM := fun env st => (ma env st).bind fun d st1 => (truD d st1).bind fun k st2 => if k = true then .ok d st2 else mb env st2
def eNot (ma : EM) : EM := fun env st => (ma env st).bind fun d st1 => (truD d st1).bind fun k st2 => .ok (.bl (!k)) st2
theorem truD_st {d : D} {st st2 : Sto} {k : Bool} (h : truD d st = .ok k st2) : st2 = st := by
  unfold truD at h
  split at h <;> first | (cases h; rfl) | (cases h; done) | skip
  · split at h
    · cases h; rfl
    · cases h
  · split at h <;> first | (cases h; rfl) | cases h
theorem sim_tru2 {K mg} {E : XK} {H r st} {d : D} {x : V} {k : Bool → Sto → Res D} {Q : VK} (s : SR K H r st) (v : VD K H r d x) (h : RES K mg (RV K) E H r ((truD d st).bind k) Q) :
    ∃ c, TruV K x H c ∧ RES K mg (RV K) E H r (k c st) Q := by
  cases q : truD d st with
  | bad => rw [q] at h; exact h.elim
  | ex x st2 =>
    exfalso
    unfold truD at q
    split at q <;> first | cases q | skip
    · split at q <;> cases q
    · split at q <;> cases q
  | ok c st2 =>
    have e := truD_st q
    subst e
    rw [q] at h
    obtain ⟨c', t1, t2⟩ := sim_tru (Q := fun c' _ => c' = c) (mg := mg) (E := E) s v (by rw [q]; intro b H' r' _ _ hb; exact hb.symm)
    subst t2
    exact ⟨_, t1, h⟩
theorem fe_one {op} (h : FE X W a ma) : FE X W (.BoolOp op [a] pos) ma := pe_one h
theorem fe_and (ha : FE X W a ma) (hb : FE X W (.BoolOp .And (b :: rest) pos) mb) : FE X W (.BoolOp .And (a :: b :: rest) pos) (eAnd ma mb) :=
  PE.imp (pe_andT ha hb) fun σ H Q ⟨r, env, st, hE, hS, h⟩ => ⟨r, env, st, hE, hS, RES.seq h fun d st1 x H1 r1 e1 s1 v1 h1 => by
    obtain ⟨c, t1, t2⟩ := sim_tru2 s1 v1 h1
    refine ⟨c, t1, ?_⟩
    cases c with
    | true => exact ⟨r1, env, st1, hE.ext e1, s1, t2⟩
    | false => exact RES.ok t2 s1 v1⟩
theorem fe_or (ha : FE X W a ma) (hb : FE X W (.BoolOp .Or (b :: rest) pos) mb) : FE X W (.BoolOp .Or (a :: b :: rest) pos) (eOr ma mb) :=
  PE.imp (pe_orT ha hb) fun σ H Q ⟨r, env, st, hE, hS, h⟩ => ⟨r, env, st, hE, hS, RES.seq h fun d st1 x H1 r1 e1 s1 v1 h1 => by
    obtain ⟨c, t1, t2⟩ := sim_tru2 s1 v1 h1
    refine ⟨c, t1, ?_⟩
    cases c with
    | false => exact ⟨r1, env, st1, hE.ext e1, s1, t2⟩
    | true => exact RES.ok t2 s1 v1⟩
theorem fe_not (ha : FE X W a ma) : FE X W (.UnaryOp .Not a pos) (eNot ma) :=
  PE.imp (pe_notT ha) fun σ H Q ⟨r, env, st, hE, hS, h⟩ => ⟨r, env, st, hE, hS, RES.seq h fun d st1 x H1 r1 e1 s1 v1 h1 => by
    obtain ⟨c, t1, t2⟩ := sim_tru2 s1 v1 h1
    exact ⟨c, t1, RES.ok t2 s1 rfl⟩⟩
def eIf (t : Env → Sto → Res Bool) (ma mb : EM) : EM := fun env st => (t env st).bind fun k st1 => if k = true then ma env st1 else mb env st1
theorem fe_if {t : Env → Sto → Res Bool} (hc : FT X W c t) (ha : FE X W a ma) (hb : FE X W b mb) : FE X W (.IfExp c a b pos) (eIf t ma mb) :=
  PE.imp (pe_ifExp hc ha hb) fun σ H Q ⟨r, env, st, hE, hS, h⟩ => ⟨r, env, st, hE, hS, RES.seq h fun k st1 k' H1 r1 e1 s1 v1 h1 => by
    cases v1
    cases k with
    | true => exact ⟨r1, env, st1, hE.ext e1, s1, h1⟩
    | false => exact ⟨r1, env, st1, hE.ext e1, s1, h1⟩⟩
/-- a op b op' c -/
def eChain (g g' : D → D → Sto → Res D) (ma mb mc : EM) : EM := fun env st => (ma env st).bind fun d st1 => (mb env st1).bind fun e st2 => (g d e st2).bind fun z st3 => match z with
  | .bl true => (mc env st3).bind fun f st4 => g' e f st4
  | .bl false => .ok (.bl false) st3
  | _ => .bad
theorem sim_chain {mc : EM} {g g' : D → D → Sto → Res D} {rr rr' : R2}
    (hr : ∀ (E : XK) H r st d e x y Q, SR X.K H r st → VD X.K H r d x → VD X.K H r e y → RES X.K X.mg (RV X.K) E H r (g d e st) Q → rr x y H Q)
    (hr' : ∀ (E : XK) H r st d e x y Q, SR X.K H r st → VD X.K H r d x → VD X.K H r e y → RES X.K X.mg (RV X.K) E H r (g' d e st) Q → rr' x y H Q)
    {σ : L2.St} {H : Hp} {Q : VK} (q : tM X.K X.mg W (eChain g g' ma mb mc) σ H Q) : tChain rr rr' (tM X.K X.mg W ma) (tM X.K X.mg W mb) (tM X.K X.mg W mc) σ H Q := by
  obtain ⟨r, env, st, hE, hS, h⟩ := q
  refine ⟨r, env, st, hE, hS, RES.seq h fun d st1 x H1 r1 e1 s1 v1 h1 => ?_⟩
  refine ⟨r1, env, st1, hE.ext e1, s1, RES.seq h1 fun e st2 y H2 r2 e2 s2 v2 h2 => ?_⟩
  have x12 := e1.trans s1 e2
  refine hr (WE W σ) H2 r2 st2 d e x y _ s2 (v1.ext e2) v2 (RES.seq h2 fun z st3 z' H3 r3 e3 s3 v3 h3 => ?_)
  cases z with
  | bl k =>
    cases v3
    refine ⟨k, rfl, ?_⟩
    cases k with
    | true =>
      rw [if_pos rfl]
      refine ⟨r3, env, st3, (hE.ext x12).ext e3, s3, RES.seq h3 fun f st4 w H4 r4 e4 s4 v4 h4 => ?_⟩
      exact hr' (WE W σ) H4 r4 st4 e f y w Q s4 ((v2.ext e3).ext e4) v4 h4
    | false =>
      rw [if_neg Bool.false_ne_true]
      exact RES.ok h3 s3 rfl
  | _ => exact h3.elim
theorem fe_chain {op op' : CmpOp} {mc : EM} {g g' : D → D → Sto → Res D} (ho : OpF X (compareOp op) g) (ho' : OpF X (compareOp op') g') (ha : FE X W a ma) (hb : FE X W b mb) (hc : FE X W c mc)
    (hm : lastMarks [op, op'] [b, c] = false := by with_unfolding_all rfl) : FE X W (.Compare a [op, op'] [b, c] pos) (eChain g g' ma mb mc) := by
  obtain ⟨rr, h1, h2⟩ := ho
  obtain ⟨rr', h1', h2'⟩ := ho'
  exact PE.imp (pe_chain h1 h1' ha hb hc hm) fun σ H Q q => sim_chain h2 h2' q
theorem ft_chain {op op' : CmpOp} {mc : EM} {g g' : D → D → Sto → Res D} (ho : OpF X (compareOp op) g) (ho' : OpF X (compareOp op') g') (ha : FE X W a ma) (hb : FE X W b mb) (hc : FE X W c mc)
    (hm : lastMarks [op, op'] [b, c] = false := by with_unfolding_all rfl) : FT X W (.Compare a [op, op'] [b, c] pos) (asB (eChain g g' ma mb mc)) := by
  obtain ⟨rr, h1, h2⟩ := ho
  obtain ⟨rr', h1', h2'⟩ := ho'
  refine PT.imp (pt_chain h1 h1' ha hb hc hm) fun σ H Q ⟨r, env, st, hE, hS, h⟩ => ?_
  refine sim_chain (W := W) h2 h2' ⟨r, env, st, hE, hS, RES.seq h fun d st1 x H1 r1 e1 s1 v1 q1 => ?_⟩
  cases d with
  | bl k => cases v1; exact ⟨k, rfl, RES.ok q1 s1 rfl⟩
  | _ => exact q1.elim
end
end FL

namespace FL
open PySem PySem.Spec PyProof.Rows L2

/-! ### ends of statements -/
inductive SRes where
  | nx (env : Env) (st : Sto)
  | rt (d : D) (st : Sto)
  | ex (x : Exc) (env : Env) (st : Sto)
  | bad
abbrev SM4 := Env → Sto → SRes
def SRes.bind (r : SRes) (k : Env → Sto → SRes) : SRes :=
  match r with
  | .nx env st => k env st
  | .rt d st => .rt d st
  | .ex x env st => .ex x env st
  | .bad => .bad
@[simp] theorem SRes.bind_nx (env : Env) (st : Sto) (k : Env → Sto → SRes) : (SRes.nx env st).bind k = k env st := rfl
@[simp] theorem SRes.bind_rt (d : D) (st : Sto) (k : Env → Sto → SRes) : (SRes.rt d st).bind k = .rt d st := rfl
@[simp] theorem SRes.bind_ex (x : Exc) (env : Env) (st : Sto) (k : Env → Sto → SRes) : (SRes.ex x env st).bind k = .ex x env st := rfl
@[simp] theorem SRes.bind_bad (k : Env → Sto → SRes) : SRes.bad.bind k = .bad := rfl
/-- a value's reckoning within a statement -/
def Res.on {α : Type} (r : Res α) (env : Env) (k : α → Sto → SRes) : SRes :=
  match r with
  | .ok a st => k a st
  | .ex x st => .ex x env st
  | .bad => .bad
@[simp] theorem Res.on_ok {α : Type} (a : α) (st : Sto) (env : Env) (k : α → Sto → SRes) : (Res.ok a st).on env k = k a st := rfl
@[simp] theorem Res.on_ex {α : Type} (x : Exc) (st : Sto) (env : Env) (k : α → Sto → SRes) : (Res.ex x st : Res α).on env k = .ex x env st := rfl
@[simp] theorem Res.on_bad {α : Type} (env : Env) (k : α → Sto → SRes) : (Res.bad : Res α).on env k = .bad := rfl

def RS (K : PySem.W.Frag) (mg : Str → Option Value) (W : WX) (D : Ends) (H : Hp) (r : Rho) (m : SRes) : Prop :=
  match m with
  | .nx env st => ∀ σ' H' r', Ext H r H' r' → SR K H' r' st → ER K H' r' env σ' → D.nx σ' H'
  | .rt d st => ∀ v H' r', Ext H r H' r' → SR K H' r' st → VD K H' r' d v → D.rt v H'
  | .ex x env st => ∀ cls d σ' H' r', Ext H r H' r' → SR K H' r' st → ER K H' r' env σ' → XR K mg H' r' x cls d → W cls d σ' H'
  | .bad => False
theorem RS.mono {K mg} {W : WX} {D : Ends} {H r H1 r1 st} {m : SRes} (h : RS K mg W D H r m) (e : Ext H r H1 r1) (s : SR K H1 r1 st) : RS K mg W D H1 r1 m := by
  cases m with
  | nx env st2 => exact fun σ' H' r' e2 s2 q => h σ' H' r' (e.trans s e2) s2 q
  | rt d st2 => exact fun v H' r' e2 s2 q => h v H' r' (e.trans s e2) s2 q
  | ex x env st2 => exact fun cls d σ' H' r' e2 s2 q => h cls d σ' H' r' (e.trans s e2) s2 q
  | bad => exact h
theorem RS.on {α β : Type} {K mg} {R : Hp → Rho → α → β → Prop} {W : WX} {D : Ends} {H r σ env} {m : Res α} {k : α → Sto → SRes} {Q1 : β → Hp → Prop} (hE : ER K H r env σ)
    (h : RS K mg W D H r (m.on env k)) (hk : ∀ a st b H1 r1, Ext H r H1 r1 → SR K H1 r1 st → R H1 r1 a b → RS K mg W D H1 r1 (k a st) → Q1 b H1) : RES K mg R (WE W σ) H r m Q1 := by
  cases m with
  | ok a st =>
    intro b H1 r1 e s hr
    exact hk a st b H1 r1 e s hr (RS.mono (m := k a st) h e s)
  | ex x st => exact fun cls d H' r' e s q => h cls d σ H' r' e s (hE.ext e) q
  | bad => exact h
/-- the readings of statements -/
def tS (K : PySem.W.Frag) (mg : Str → Option Value) (W : WX) (m : SM4) : TS := fun D σ H => ∃ r env st, ER K H r env σ ∧ SR K H r st ∧ RS K mg W D H r (m env st)
abbrev FS (X : Cx) (W : WX) (s : Stmt) (m : SM4) : Prop := PS X s (tS X.K X.mg W m)
abbrev FB (X : Cx) (W : WX) (s : List Stmt) (m : SM4) : Prop := PSs X s (tS X.K X.mg W m)
theorem PS.imp {X : Cx} {s : Stmt} {t t' : TS} (h : PS X s t) (i : ∀ D σ H, t' D σ H → t D σ H) : PS X s t' := ⟨fun pins s σ H D I q => h.run pins s σ H D I (i D σ H q)⟩
theorem PSs.imp {X : Cx} {s : List Stmt} {t t' : TS} (h : PSs X s t) (i : ∀ D σ H, t' D σ H → t D σ H) : PSs X s t' := ⟨fun pins s σ H D I q => h.run pins s σ H D I (i D σ H q)⟩
theorem RS.seq {K mg} {W : WX} {D : Ends} {H r} {m : SRes} {k : SM4} (h : RS K mg W D H r (m.bind k)) : RS K mg W { D with nx := tS K mg W k D } H r m := by
  cases m with
  | nx env st => exact fun σ' H' r' e s q => ⟨r', env, st, q, s, RS.mono (m := k env st) h e s⟩
  | rt d st => exact h
  | ex x env st => exact h
  | bad => exact h

section
variable {X : Cx} {W : WX} {e c : Expr} {s : Stmt} {ss as bs : List Stmt} {m : EM} {t : Env → Sto → Res Bool} {u v : SM4} {pos : Pos}
def sNext : SM4 := fun env st => .nx env st
def sSeq (u v : SM4) : SM4 := fun env st => (u env st).bind v
theorem fb_nil : FB X W [] sNext := PSs.imp pss_nil fun D σ H ⟨r, env, st, hE, hS, h⟩ => h σ H r (Ext.refl _ _) hS hE
theorem fb_cons (h1 : FS X W s u) (h2 : FB X W ss v) : FB X W (s :: ss) (sSeq u v) := PSs.imp (pss_cons h1 h2) fun D σ H ⟨r, env, st, hE, hS, h⟩ => ⟨r, env, st, hE, hS, RS.seq h⟩
theorem fb_one (h1 : FS X W s u) : FB X W [s] u := pss_one h1
theorem fs_pass : FS X W (.Pass pos) sNext := PS.imp ps_pass fun D σ H ⟨r, env, st, hE, hS, h⟩ => h σ H r (Ext.refl _ _) hS hE
def sDrop (m : EM) : SM4 := fun env st => (m env st).on env fun _ st1 => .nx env st1
theorem fs_expr (he : FE X W e m) (hs : swapsWith e none pos.line X.env = pure false := by rfl) : FS X W (.Expr e pos) (sDrop m) :=
  PS.imp (ps_expr he hs) fun D σ H ⟨r, env, st, hE, hS, h⟩ => ⟨r, env, st, hE, hS, RS.on hE h fun d st1 x H1 r1 e1 s1 v1 h1 => h1 σ H1 r1 (Ext.refl _ _) s1 (hE.ext e1)⟩
def sRet (m : EM) : SM4 := fun env st => (m env st).on env fun d st1 => .rt d st1
theorem fs_ret (he : FE X W e m) : FS X W (.Return (some e) pos) (sRet m) :=
  PS.imp (ps_ret he) fun D σ H ⟨r, env, st, hE, hS, h⟩ => ⟨r, env, st, hE, hS, RS.on hE h fun d st1 x H1 r1 e1 s1 v1 h1 => h1 x H1 r1 (Ext.refl _ _) s1 v1⟩
def sRetN : SM4 := fun _ st => .rt .non st
theorem fs_retN : FS X W (.Return none pos) sRetN := PS.imp ps_retN fun D σ H ⟨r, env, st, hE, hS, h⟩ => h .non H r (Ext.refl _ _) hS rfl
def sIf (t : Env → Sto → Res Bool) (u v : SM4) : SM4 := fun env st => (t env st).on env fun k st1 => if k = true then u env st1 else v env st1
theorem fs_if (hc : FT X W c t) (ha : FB X W as u) (hb : FB X W bs v) : FS X W (.If c as bs pos) (sIf t u v) :=
  PS.imp (ps_if hc ha hb) fun D σ H ⟨r, env, st, hE, hS, h⟩ => ⟨r, env, st, hE, hS, RS.on hE h fun k st1 k' H1 r1 e1 s1 v1 h1 => by
    cases v1
    cases k with
    | true => exact ⟨r1, env, st1, hE.ext e1, s1, h1⟩
    | false => exact ⟨r1, env, st1, hE.ext e1, s1, h1⟩⟩
/-- a statement that is not reached -/
def sNever : SM4 := fun _ _ => .bad
theorem fs_never : FS X W s sNever := PS.imp ps_never fun D σ H ⟨r, env, st, hE, hS, h⟩ => h

/-! ### targets -/
abbrev GM := D → Env → Sto → Res Env
/-- σ' is σ but at the slots sl -/
def Only (sl : List Nat) (σ σ' : L2.St) : Prop := σ'.length = σ.length ∧ ∀ j, j ∉ sl → σ'[j]? = σ[j]?
theorem Only.refl (sl : List Nat) (σ : L2.St) : Only sl σ σ := ⟨rfl, fun _ _ => rfl⟩
theorem Only.mono {s t : List Nat} {σ σ' : L2.St} (h : Only s σ σ') (hs : ∀ j ∈ s, j ∈ t) : Only t σ σ' := ⟨h.1, fun j hj => h.2 j fun q => hj (hs j q)⟩
theorem Only.trans {s : List Nat} {σ σ1 σ2 : L2.St} (h : Only s σ σ1) (g : Only s σ1 σ2) : Only s σ σ2 := ⟨g.1.trans h.1, fun j hj => (g.2 j hj).trans (h.2 j hj)⟩
def tG (K : PySem.W.Frag) (mg : Str → Option Value) (W : WX) (sl : List Nat) (g : GM) : TG := fun v σ H Q => ∃ r env st d, ER K H r env σ ∧ SR K H r st ∧ VD K H r d v ∧
  (match g d env st with
    | .ok env' st' => ∀ σ' H' r', Ext H r H' r' → SR K H' r' st' → ER K H' r' env' σ' → Only sl σ σ' → Q σ' H'
    | _ => False)
abbrev FG (X : Cx) (W : WX) (t : Expr) (sl : List Nat) (g : GM) : Prop := PG X t (tG X.K X.mg W sl g)
theorem PG.imp {X : Cx} {e : Expr} {t t' : TG} (h : PG X e t) (i : ∀ v σ H Q, t' v σ H Q → t v σ H Q) : PG X e t' := ⟨fun pins s σ H v u Q I rv q => h.run pins s σ H v u Q I rv (i v σ H Q q)⟩
def gSet (i : Nat) : GM := fun d env st => .ok (env.set i (some d)) st
theorem fg_name {i : Nat} {x : Str} (hN : X.N.Nodup) (hi : X.N[i]? = some x) (hx : Loc X.env.scope x) (hf : X.fn x = true ∨ X.env.scope.names.lookup x = some .local := by first | exact .inl rfl | exact .inr rfl | assumption) : FG X W (.Name x pos) [i] (gSet i) :=
  PG.imp (pg_name hN hi hx hf) fun v σ H Q ⟨r, env, st, d, hE, hS, hv, h⟩ => h _ H r (Ext.refl _ _) hS (hE.set i hv) ⟨by simp, fun j hj => List.getElem?_set_ne (fun q => hj (by simp [q]))⟩
/-- several names, one after another -/
abbrev GMs := List D → Env → Sto → Res Env
def tGs (K : PySem.W.Frag) (mg : Str → Option Value) (W : WX) (sl : List Nat) (g : GMs) : TGs := fun vs σ H Q => ∃ r env st ds, ER K H r env σ ∧ SR K H r st ∧ VDs K H r ds vs ∧
  (match g ds env st with
    | .ok env' st' => ∀ σ' H' r', Ext H r H' r' → SR K H' r' st' → ER K H' r' env' σ' → Only sl σ σ' → Q σ' H'
    | _ => False)
abbrev FGs (X : Cx) (W : WX) (t : List Expr) (sl : List Nat) (g : GMs) : Prop := PGs X t (tGs X.K X.mg W sl g)
theorem PGs.imp {X : Cx} {e : List Expr} {t t' : TGs} (h : PGs X e t) (i : ∀ v σ H Q, t' v σ H Q → t v σ H Q) : PGs X e t' := ⟨fun pins s σ H v u Q I rv q => h.run pins s σ H v u Q I rv (i v σ H Q q)⟩
def gsNil : GMs := fun ds env st => match ds with
  | [] => .ok env st
  | _ => .bad
def gsCons (g : GM) (gs : GMs) : GMs := fun ds env st => match ds with
  | [] => .bad
  | d :: r => match g d env st with
    | .ok env' st' => gs r env' st'
    | _ => .bad
theorem fgs_nil : FGs X W [] [] gsNil := PGs.imp pgs_nil fun vs σ H Q ⟨r, env, st, ds, hE, hS, hv, h⟩ => by
  cases ds with
  | nil => cases hv; exact ⟨rfl, h σ H r (Ext.refl _ _) hS hE (Only.refl _ _)⟩
  | cons d ds => exact h.elim
theorem fgs_cons {sl sl2 : List Nat} {g : GM} {gs : GMs} {es : List Expr} (h1 : FG X W e sl g) (h2 : FGs X W es sl2 gs)
    (hs : (assignEach (e :: es) X.env).map (·.2) = assign e X.env :: (assignEach es X.env).map (·.2) := by rfl) : FGs X W (e :: es) (sl ++ sl2) (gsCons g gs) := PGs.imp (pgs_cons h1 h2 hs) fun vs σ H Q ⟨r, env, st, ds, hE, hS, hv, h⟩ => by
  cases ds with
  | nil => exact h.elim
  | cons d ds =>
    obtain ⟨x, t, rfl, hx, ht⟩ := hv
    refine ⟨x, t, rfl, r, env, st, d, hE, hS, hx, ?_⟩
    have h' : match (match g d env st with | .ok env' st' => gs ds env' st' | _ => Res.bad) with
      | .ok env' st' => ∀ σ' H' r', Ext H r H' r' → SR X.K H' r' st' → ER X.K H' r' env' σ' → Only (sl ++ sl2) σ σ' → Q σ' H'
      | _ => False := h
    cases q : g d env st with
    | bad => rw [q] at h'; exact h'.elim
    | ex x st' => rw [q] at h'; exact h'.elim
    | ok env1 st1 =>
      rw [q] at h'
      intro σ1 H1 r1 e1 s1 hE1 o1
      refine ⟨r1, env1, st1, ds, hE1, s1, ht.ext e1, ?_⟩
      simp only at h'
      revert h'
      cases gs ds env1 st1 with
      | ok env2 st2 => exact fun h' σ2 H2 r2 e2 s2 hE2 o2 => h' σ2 H2 r2 (e1.trans s1 e2) s2 hE2 ((o1.mono fun j q => List.mem_append_left _ q).trans (o2.mono fun j q => List.mem_append_right _ q))
      | ex x st2 => exact fun h' => h'
      | bad => exact fun h' => h'
/-- (a, b, ..): a tuple is taken apart -/
def gTupM (n : Nat) (gs : GMs) : GM := fun d env st => match d with
  | .tup ds => if ds.length = n then gs ds env st else .bad
  | _ => .bad
theorem fg_tup {sl : List Nat} {gs : GMs} {es : List Expr} {k n : Nat} (hc : X.calm = true) (h : FGs X W es sl gs)
    (hn : (assignEach es X.env).length = n := by rfl) (hst : (assignEach es X.env).findIdx? (·.1) = none := by rfl) : FG X W (.Tuple es k pos) sl (gTupM n gs) := PG.imp (pg_tup hc h hn hst) fun v σ H Q ⟨r, env, st, d, hE, hS, hv, h⟩ => by
  cases d with
  | tup ds =>
    obtain ⟨a, xs, rfl, h1, h2⟩ := hv
    unfold gTupM at h
    by_cases hl : ds.length = n
    · simp only [if_pos hl] at h
      refine ⟨a, xs, rfl, h1.sq, by rw [← h2.len]; exact hl, r, env, st, ds, hE, hS, h2, ?_⟩
      exact h
    · simp only [if_neg hl] at h
  | _ => exact h.elim
end
end FL

namespace FL
open PySem PySem.Spec PyProof.Rows L2

/-! ### what is read of a value -/
def keyD : D → Option Key
  | .int i => some (.inl i)
  | .str x => some (.inr x)
  | _ => none
theorem keyD_v {K H r} {d : D} {k : Key} {x : V} (h : keyD d = some k) (v : VD K H r d x) : x = kV k := by
  cases d with
  | int i => cases h; exact v
  | str i => cases h; exact v
  | _ => cases h
/-- a list's or tuple's items -/
def seqD : D → Sto → Option (List D)
  | .tup ds, _ => some ds
  | .lst ds, _ => some ds
  | .scr ns, _ => some (ns.map .int)
  | .loc l, st => match st[l]? with
    | some (.lst ds) => some ds
    | _ => none
  | _, _ => none
theorem seqD_v {K H r st} {d : D} {x : V} {ds : List D} (s : SR K H r st) (h : seqD d st = some ds) (v : VD K H r d x) : ∃ a xs, x = .ref a ∧ VDs K H r ds xs ∧ (SqL K H a xs ∨ SqT K H a xs) := by
  cases d with
  | tup es => cases h; obtain ⟨a, xs, rfl, h1, h2⟩ := v; exact ⟨a, xs, rfl, h2, .inr h1.sq⟩
  | lst es => cases h; obtain ⟨a, xs, rfl, h1, h2⟩ := v; exact ⟨a, xs, rfl, h2, .inl h1.sq⟩
  | scr ns => cases h; obtain ⟨a, rfl, h1⟩ := v; exact ⟨a, _, rfl, VDs.ints ns, .inl h1.sq⟩
  | loc l =>
    obtain ⟨a, rfl, h1⟩ := v
    unfold seqD at h
    cases q : st[l]? with
    | none => simp only [q] at h; cases h
    | some o =>
      cases o with
      | lst es =>
        simp only [q] at h; cases h
        obtain ⟨b, ho, e1, e2, xs, rfl, e3⟩ := s.obj l _ q
        rw [h1] at e1; cases e1
        exact ⟨a, xs, rfl, e3, .inl (.inl (.inl e2))⟩
      | dic kvs => simp only [q] at h; cases h
  | _ => cases h
/-- a list's items alone -/
def lstD : D → Sto → Option (List D)
  | .lst ds, _ => some ds
  | .scr ns, _ => some (ns.map .int)
  | .loc l, st => match st[l]? with
    | some (.lst ds) => some ds
    | _ => none
  | _, _ => none
theorem lstD_v {K H r st} {d : D} {x : V} {ds : List D} (s : SR K H r st) (h : lstD d st = some ds) (v : VD K H r d x) : ∃ a xs, x = .ref a ∧ VDs K H r ds xs ∧ SqL K H a xs := by
  cases d with
  | lst es => cases h; obtain ⟨a, xs, rfl, h1, h2⟩ := v; exact ⟨a, xs, rfl, h2, h1.sq⟩
  | scr ns => cases h; obtain ⟨a, rfl, h1⟩ := v; exact ⟨a, _, rfl, VDs.ints ns, h1.sq⟩
  | loc l =>
    obtain ⟨a, rfl, h1⟩ := v
    unfold lstD at h
    cases q : st[l]? with
    | none => simp only [q] at h; cases h
    | some o =>
      cases o with
      | lst es =>
        simp only [q] at h; cases h
        obtain ⟨b, ho, e1, e2, xs, rfl, e3⟩ := s.obj l _ q
        rw [h1] at e1; cases e1
        exact ⟨a, xs, rfl, e3, .inl (.inl e2)⟩
      | dic kvs => simp only [q] at h; cases h
  | _ => cases h
/-- .. that the program made (tracked, no script) -/
def madeD : D → Sto → Option (List D)
  | .lst ds, _ => some ds
  | .loc l, st => match st[l]? with
    | some (.lst ds) => some ds
    | _ => none
  | _, _ => none
theorem madeD_v {K H r st} {d : D} {x : V} {ds : List D} (s : SR K H r st) (h : madeD d st = some ds) (v : VD K H r d x) : ∃ a xs, x = .ref a ∧ VDs K H r ds xs ∧ H a = some (.lst xs) := by
  cases d with
  | lst es => cases h; obtain ⟨a, xs, rfl, h1, h2⟩ := v; exact ⟨a, xs, rfl, h2, h1.2⟩
  | loc l =>
    obtain ⟨a, rfl, h1⟩ := v
    unfold madeD at h
    cases q : st[l]? with
    | none => simp only [q] at h; cases h
    | some o =>
      cases o with
      | lst es =>
        simp only [q] at h; cases h
        obtain ⟨b, ho, e1, e2, xs, rfl, e3⟩ := s.obj l _ q
        rw [h1] at e1; cases e1
        exact ⟨a, xs, rfl, e3, e2⟩
      | dic kvs => simp only [q] at h; cases h
  | _ => cases h
def dicD : D → Sto → Option (List (Key × D))
  | .loc l, st => match st[l]? with
    | some (.dic kvs) => some kvs
    | _ => none
  | _, _ => none
theorem dicD_v {K H r st} {d : D} {x : V} {kvs : List (Key × D)} (s : SR K H r st) (h : dicD d st = some kvs) (v : VD K H r d x) :
    ∃ a kxs, x = .ref a ∧ Paired (fun (p : Key × D) (q : Key × V) => p.1 = q.1 ∧ VD K H r p.2 q.2) kvs kxs ∧ H a = some (.dK kxs) := by
  cases d with
  | loc l =>
    obtain ⟨a, rfl, h1⟩ := v
    unfold dicD at h
    cases q : st[l]? with
    | none => simp only [q] at h; cases h
    | some o =>
      cases o with
      | dic es =>
        simp only [q] at h; cases h
        obtain ⟨b, ho, e1, e2, xs, rfl, e3⟩ := s.obj l _ q
        rw [h1] at e1; cases e1
        exact ⟨a, xs, rfl, e3, e2⟩
      | lst kvs => simp only [q] at h; cases h
  | _ => cases h
/-- the item at a place -/
theorem VDs.at {K H r} {ds : List D} {xs : List V} {i : Int} {d : D} (h : VDs K H r ds xs) (e : atI ds i = some d) : ∃ x, atI xs i = some x ∧ VD K H r d x := by
  unfold atI at e ⊢
  rw [← h.len]
  cases q : ixN ds.length i with
  | none => rw [q] at e; cases e
  | some j =>
    rw [q] at e
    obtain ⟨x, h1, h2⟩ := h.get (show ds[j]? = some d from e)
    exact ⟨x, h1, h2⟩
def dget (kvs : List (Key × D)) (k : Key) : Option D := (kvs.find? fun kv => decide (kv.1 = k)).map (·.2)
/-- the pair's value under a key -/
theorem val_of {K H r} {k : Key} : ∀ {kvs : List (Key × D)} {kxs : List (Key × V)}, Paired (fun (p : Key × D) (q : Key × V) => p.1 = q.1 ∧ VD K H r p.2 q.2) kvs kxs →
    (match dget kvs k with | some d => ∃ x, valV kxs k = some x ∧ VD K H r d x | none => valV kxs k = none)
  | _, _, .nil => rfl
  | _, _, .cons (a := a) (b := b) h t => by
    have ih := val_of (k := k) t
    unfold dget valV at ih ⊢
    rw [List.find?_cons, List.find?_cons, ← h.1]
    cases q : decide (a.1 = k) with
    | true => exact ⟨b.2, rfl, h.2⟩
    | false => exact ih

section
variable {X : Cx} {W : WX} {e a b c : Expr} {m ma mb : EM} {pos : Pos}

/-! ### a[b] -/
def rIxD : R2 := fun x y H Q => ∃ a v, x = .ref a ∧ DGet H a y (some v) ∧ Q v H
theorem ix_dict (hu : X.A.units + 1 < cLine) : IxR X rIxD := by
  intro value slice pins s σ H x y v u Q I rx ry h hs
  obtain ⟨a, z, rfl, g, q⟩ := h
  cases rx
  exact tail_any (dict_typeIs I g) PySem.F.slot_dict_getitem.lookup (d_getItem hu I g ry fun w' s3 I3 rw' => ⟨z, H, I3, rw', q⟩) hs
def ixD (d e : D) (st : Sto) : Res D := match e with
  | .int i => match d with
    | .str z => if z.length ≤ sizeLine then (match atI z.cps.toList i with | some c => .ok (.str ⟨#[c]⟩) st | none => .bad) else .bad
    | _ => match seqD d st with
      | some ds => (match atI ds i with | some x => .ok x st | none => .bad)
      | none => match dicD d st with
        | some kvs => (match dget kvs (Sum.inl i) with | some x => .ok x st | none => .bad)
        | none => .bad
  | .str k => match dicD d st with
    | some kvs => (match dget kvs (Sum.inr k) with | some x => .ok x st | none => .bad)
    | none => .bad
  | _ => .bad
theorem ix_sim {E : XK} {H : Hp} {r st} {d e : D} {x y : V} {Q : VK} (s : SR X.K H r st) (vd : VD X.K H r d x) (ve : VD X.K H r e y)
    (h : RES X.K X.mg (RV X.K) E H r (ixD d e st) Q) : rIx X.K x y H Q ∨ rIxD x y H Q := by
  have dk : ∀ (k : Key), keyD e = some k → ∀ kvs, dicD d st = some kvs → RES X.K X.mg (RV X.K) E H r (match dget kvs k with | some x => .ok x st | none => .bad) Q → rIxD x y H Q := by
    intro k hk kvs hq h
    obtain ⟨a, kxs, rfl, h1, h2⟩ := dicD_v s hq vd
    have h3 := val_of (k := k) h1
    cases q : dget kvs k with
    | none => simp only [q] at h; exact h.elim
    | some z =>
      rw [q] at h3
      simp only [q] at h
      obtain ⟨w, h4, h5⟩ := h3
      refine ⟨a, w, rfl, ?_, RES.ok h s h5⟩
      rw [keyD_v hk ve, ← h4]
      exact DGet.k h2
  unfold ixD at h
  cases e with
  | int i =>
    cases ve
    by_cases hz : ∃ z, d = .str z
    · obtain ⟨z, rfl⟩ := hz
      cases vd
      simp only at h
      by_cases hl : z.length ≤ sizeLine
      · simp only [if_pos hl] at h
        cases q : atI z.cps.toList i with
        | none => simp only [q] at h; exact h.elim
        | some c =>
          simp only [q] at h
          exact .inl (.inr (.inr ⟨z, i, c, rfl, rfl, hl, q, RES.ok h s rfl⟩))
      · simp only [if_neg hl] at h; exact h.elim
    · have h' : RES X.K X.mg (RV X.K) E H r (match seqD d st with
        | some ds => (match atI ds i with | some x => .ok x st | none => .bad)
        | none => match dicD d st with
          | some kvs => (match dget kvs (Sum.inl i) with | some x => .ok x st | none => .bad)
          | none => .bad) Q := by
        revert h
        cases d <;> first | exact fun h => h | exact absurd ⟨_, rfl⟩ hz
      cases q : seqD d st with
      | none =>
        simp only [q] at h'
        cases q2 : dicD d st with
        | none => simp only [q2] at h'; exact h'.elim
        | some kvs => simp only [q2] at h'; exact .inr (dk (.inl i) rfl kvs q2 h')
      | some ds =>
        simp only [q] at h'
        obtain ⟨a, xs, rfl, h1, h2⟩ := seqD_v s q vd
        cases q2 : atI ds i with
        | none => simp only [q2] at h'; exact h'.elim
        | some z =>
          simp only [q2] at h'
          obtain ⟨w, h3, h4⟩ := h1.at q2
          rcases h2 with h2 | h2
          · exact .inl (.inl ⟨a, xs, i, w, rfl, rfl, h2, h3, RES.ok h' s h4⟩)
          · exact .inl (.inr (.inl ⟨a, xs, i, w, rfl, rfl, h2, h3, RES.ok h' s h4⟩))
  | str k =>
    simp only at h
    cases q2 : dicD d st with
    | none => simp only [q2] at h; exact h.elim
    | some kvs => simp only [q2] at h; exact .inr (dk (.inr k) rfl kvs q2 h)
  | _ => exact h.elim
theorem fe_ix (hu : X.A.units + 1 < cLine) (ha : FE X W a ma) (hb : FE X W b mb) (hs : PlainIx b := by exact fun _ _ => rfl) : FE X W (.Subscript a b pos) (eOp ixD ma mb) :=
  PE.imp (pe_ix (ix_seq.or (ix_dict hu)) ha hb hs) fun σ H Q q => sim_op (fun E H r st d e x y Q s v1 v2 h => ix_sim s v1 v2 h) q

/-! ### xs[i:j] -/
abbrev OM := Env → Sto → Res (Option Int)
def tOM (K : PySem.W.Frag) (mg : Str → Option Value) (W : WX) (m : OM) : TO := fun σ H Q => ∃ r env st, ER K H r env σ ∧ SR K H r st ∧ RES K mg (fun _ _ a b => a = b) (WE W σ) H r (m env st) Q
abbrev FO (X : Cx) (W : WX) (e : Option Expr) (m : OM) : Prop := PO X e (tOM X.K X.mg W m)
theorem PO.imp {e : Option Expr} {t t' : TO} (h : PO X e t) (i : ∀ σ H Q, t' σ H Q → t σ H Q) : PO X e t' := ⟨fun pins s σ H Q I q => h.run pins s σ H Q I (i σ H Q q)⟩
def oNo : OM := fun _ st => .ok none st
def oSome (m : EM) : OM := fun env st => (m env st).bind fun d st1 => match d with
  | .int i => .ok (some i) st1
  | _ => .bad
theorem fo_none : FO X W none oNo := PO.imp po_none fun σ H Q ⟨r, env, st, hE, hS, h⟩ => RES.ok h hS rfl
theorem fo_some (he : FE X W e m) : FO X W (some e) (oSome m) := PO.imp (po_some he) fun σ H Q ⟨r, env, st, hE, hS, h⟩ => ⟨r, env, st, hE, hS, RES.seq h fun d st1 x H1 r1 e1 s1 v1 h1 => by
  cases d with
  | int i => cases v1; exact ⟨i, rfl, RES.ok h1 s1 rfl⟩
  | _ => exact h1.elim⟩
/-- the part that a slice takes -/
def cutL {α : Type} (xs : List α) (lo hi : Option Int) : List α := (xs.drop (HT.sIx xs.length 0 lo)).take (HT.sIx xs.length xs.length hi - HT.sIx xs.length 0 lo)
theorem VDs.cut {K H r ds xs} (h : VDs K H r ds xs) (lo hi : Option Int) : VDs K H r (cutL ds lo hi) (cutV xs lo hi) := by
  unfold cutL cutV
  rw [← h.len]
  exact (h.drop _).take _
def nSl (ma : EM) (ml mh : OM) : Env → Sto → Res (List D) := fun env st => (ma env st).bind fun d st1 => (ml env st1).bind fun lo st2 => (mh env st2).bind fun hi st3 => match lstD d st3 with
  | some ds => .ok (cutL ds lo hi) st3
  | none => .bad
theorem fn_slice {lo hi : Option Expr} {p2 : Pos} {ml mh : OM} (he : FE X W e m) (hl : FO X W lo ml) (hu : FO X W hi mh) : FN X W (.Subscript e (.Slice lo hi none p2) pos) (nSl m ml mh) :=
  PE.imp (pe_slice sl_list he hl hu) fun σ H Q ⟨r, env, st, hE, hS, h⟩ => by
    refine ⟨r, env, st, hE, hS, RES.seq h fun d st1 x H1 r1 e1 s1 v1 h1 => ?_⟩
    refine ⟨r1, env, st1, hE.ext e1, s1, RES.seq h1 fun lo st2 lo' H2 r2 e2 s2 v2 h2 => ?_⟩
    refine ⟨r2, env, st2, (hE.ext e1).ext e2, s2, RES.seq h2 fun hi st3 hi' H3 r3 e3 s3 v3 h3 => ?_⟩
    cases v2; cases v3
    cases q : lstD d st3 with
    | none => simp only [q] at h3; exact h3.elim
    | some ds =>
      simp only [q] at h3
      obtain ⟨a, xs, rfl, h4, h5⟩ := lstD_v s3 q ((v1.ext e2).ext e3)
      exact ⟨a, xs, rfl, h5, fun p hp => RES.ok h3 s3 (h4.cut lo hi) p hp⟩
/-- of a tuple, a text -/
def slD (d : D) (lo hi : Option Int) (st : Sto) : Res D := match d with
  | .tup ds => .ok (.tup (cutL ds lo hi)) st
  | .str z => if z.length ≤ sizeLine then .ok (.str (cutS z lo hi)) st else .bad
  | _ => match lstD d st with
    | some ds => .ok (.lst (cutL ds lo hi)) st
    | none => .bad
def eSl (ma : EM) (ml mh : OM) : EM := fun env st => (ma env st).bind fun d st1 => (ml env st1).bind fun lo st2 => (mh env st2).bind fun hi st3 => slD d lo hi st3
theorem fe_slice {lo hi : Option Expr} {p2 : Pos} {ml mh : OM} (he : FE X W e m) (hl : FO X W lo ml) (hu : FO X W hi mh) : FE X W (.Subscript e (.Slice lo hi none p2) pos) (eSl m ml mh) :=
  PE.imp (pe_slice (sl_list.or (sl_tupA.or sl_str)) he hl hu) fun σ H Q ⟨r, env, st, hE, hS, h⟩ => by
    refine ⟨r, env, st, hE, hS, RES.seq h fun d st1 x H1 r1 e1 s1 v1 h1 => ?_⟩
    refine ⟨r1, env, st1, hE.ext e1, s1, RES.seq h1 fun lo st2 lo' H2 r2 e2 s2 v2 h2 => ?_⟩
    refine ⟨r2, env, st2, (hE.ext e1).ext e2, s2, RES.seq h2 fun hi st3 hi' H3 r3 e3 s3 v3 h3 => ?_⟩
    cases v2; cases v3
    have vx := (v1.ext e2).ext e3
    have gen : ∀ ds, lstD d st3 = some ds → RES X.K X.mg (RV X.K) (WE W σ) H3 r3 (.ok (.lst (cutL ds lo hi)) st3) Q → rSlL X.K x lo hi H3 Q := fun ds q h3 => by
      obtain ⟨a, xs, rfl, h4, h5⟩ := lstD_v s3 q vx
      exact ⟨a, xs, rfl, h5, fun p hp => RES.ok' h3 (Ext.fresh hp) (s3.fresh hp) ⟨p, _, rfl, ⟨s3.notin hp, upd_same⟩, (h4.cut lo hi).ext (Ext.fresh hp)⟩⟩
    have gen2 : RES X.K X.mg (RV X.K) (WE W σ) H3 r3 (match lstD d st3 with | some ds => .ok (.lst (cutL ds lo hi)) st3 | none => .bad) Q → rSlL X.K x lo hi H3 Q := fun h3 => by
      cases q : lstD d st3 with
      | none => simp only [q] at h3; exact h3.elim
      | some ds => simp only [q] at h3; exact gen ds q h3
    cases d with
    | tup ds =>
      obtain ⟨a, xs, rfl, h4, h5⟩ := vx
      refine .inr (.inl ⟨a, xs, rfl, h4.sq, fun hw => ?_, fun hw p hp => ?_⟩)
      · refine RES.ok h3 s3 ⟨a, xs, rfl, h4, ?_⟩
        have e : cutL ds lo hi = ds := by
          unfold cutL
          rw [h5.len, hw.1, hw.2, List.drop_zero, Nat.sub_zero, ← h5.len, List.take_length]
        rw [e]
        exact h5
      · exact RES.ok' h3 (Ext.fresh hp) (s3.fresh hp) ⟨p, _, rfl, .inl ⟨s3.notin hp, .inl upd_same⟩, (h5.cut lo hi).ext (Ext.fresh hp)⟩
    | str z =>
      cases vx
      have h3' : RES X.K X.mg (RV X.K) (WE W σ) H3 r3 (if z.length ≤ sizeLine then .ok (.str (cutS z lo hi)) st3 else .bad) Q := h3
      by_cases hl : z.length ≤ sizeLine
      · rw [if_pos hl] at h3'
        exact .inr (.inr ⟨z, rfl, hl, RES.ok h3' s3 rfl⟩)
      · rw [if_neg hl] at h3'; exact h3'.elim
    | _ => exact .inl (gen2 h3)
end
end FL

namespace FL
open PySem PySem.Spec PyProof.Rows L2

/-! ### plain data -/
def mapO {α β : Type} (f : α → Option β) : List α → Option (List β)
  | [] => some []
  | a :: r => match f a with
    | none => none
    | some b => match mapO f r with
      | none => none
      | some bs => some (b :: bs)
def toPy : Nat → Sto → D → Option PyData
  | _, _, .non => some .none
  | _, _, .bl b => some (.bool b)
  | _, _, .int i => some (.int i)
  | _, _, .str x => some (.str x)
  | n + 1, st, .tup ds => (mapO (toPy n st) ds).map .tuple
  | n + 1, st, .lst ds => (mapO (toPy n st) ds).map .list
  | _ + 1, _, .scr ns => some (.list (ns.map .int))
  | n + 1, st, .loc l => match st[l]? with
    | some (.lst ds) => (mapO (toPy n st) ds).map .list
    | _ => none
  | _, _, _ => none
def PyOk (K : PySem.W.Frag) (H : Hp) (n : Nat) (x : V) (p : PyData) : Prop := Dp K H x p ∧ p.plain = true ∧ p.depth ≤ n
def PyOks (K : PySem.W.Frag) (H : Hp) (n : Nat) (xs : List V) (ps : List PyData) : Prop := DpAll K H xs ps ∧ PyData.plainAll ps = true ∧ PyData.depthAll ps ≤ n
theorem ints_py {K H} (n : Nat) : ∀ ns : List Int, PyOks K H n (ns.map V.int) (ns.map PyData.int)
  | [] => ⟨.nil, rfl, by simp [PyData.depthAll]⟩
  | i :: ns => by
    obtain ⟨h1, h2, h3⟩ := ints_py (K := K) (H := H) n ns
    exact ⟨.cons (.int i) h1, by simpa [PyData.plainAll, PyData.plain] using h2, by simpa [PyData.depthAll, PyData.depth] using h3⟩
theorem mapO_py {K H r n} {st : Sto} (ih : ∀ d x p, toPy n st d = some p → VD K H r d x → PyOk K H n x p) : ∀ (ds : List D) (xs : List V) (ps : List PyData), mapO (toPy n st) ds = some ps → VDs K H r ds xs → PyOks K H n xs ps
  | [], xs, ps, h, v => by
    cases h; cases v
    exact ⟨.nil, rfl, by simp [PyData.depthAll]⟩
  | d :: ds, xs, ps, h, v => by
    obtain ⟨x, t, rfl, v1, v2⟩ := v
    unfold mapO at h
    cases q : toPy n st d with
    | none => rw [q] at h; cases h
    | some p =>
      rw [q] at h
      cases q2 : mapO (toPy n st) ds with
      | none => rw [q2] at h; cases h
      | some ps' =>
        rw [q2] at h; cases h
        obtain ⟨a1, a2, a3⟩ := ih d x p q v1
        obtain ⟨b1, b2, b3⟩ := mapO_py ih ds t ps' q2 v2
        exact ⟨.cons a1 b1, by simp only [PyData.plainAll, a2, b2, Bool.and_self], by simp only [PyData.depthAll]; omega⟩
theorem toPy_ok {K H r} {st : Sto} (s : SR K H r st) : ∀ (n : Nat) (d : D) (x : V) (p : PyData), toPy n st d = some p → VD K H r d x → PyOk K H n x p := by
  intro n
  induction n with
  | zero =>
    intro d x p h v
    cases d with
    | non => cases h; cases v; exact ⟨.non, rfl, by simp [PyData.depth]⟩
    | bl b => cases h; cases v; exact ⟨.bl b, rfl, by simp [PyData.depth]⟩
    | int b => cases h; cases v; exact ⟨.int b, rfl, by simp [PyData.depth]⟩
    | str b => cases h; cases v; exact ⟨.str b, rfl, by simp [PyData.depth]⟩
    | _ => cases h
  | succ n ih =>
    intro d x p h v
    cases d with
    | exc _ _ _ => cases h
    | non => cases h; cases v; exact ⟨.non, rfl, by simp [PyData.depth]⟩
    | bl b => cases h; cases v; exact ⟨.bl b, rfl, by simp [PyData.depth]⟩
    | int b => cases h; cases v; exact ⟨.int b, rfl, by simp [PyData.depth]⟩
    | str b => cases h; cases v; exact ⟨.str b, rfl, by simp [PyData.depth]⟩
    | tup ds =>
      obtain ⟨a, xs, rfl, h1, h2⟩ := v
      unfold toPy at h
      obtain ⟨ps, q, rfl⟩ := Option.map_eq_some_iff.mp h
      obtain ⟨a1, a2, a3⟩ := mapO_py ih ds xs ps q h2
      exact ⟨.tup h1.sq a1, by simpa [PyData.plain] using a2, by simp only [PyData.depth]; omega⟩
    | lst ds =>
      obtain ⟨a, xs, rfl, h1, h2⟩ := v
      unfold toPy at h
      obtain ⟨ps, q, rfl⟩ := Option.map_eq_some_iff.mp h
      obtain ⟨a1, a2, a3⟩ := mapO_py ih ds xs ps q h2
      exact ⟨.lst h1.sq a1, by simpa [PyData.plain] using a2, by simp only [PyData.depth]; omega⟩
    | scr ns =>
      obtain ⟨a, rfl, h1⟩ := v
      cases h
      obtain ⟨a1, a2, a3⟩ := ints_py (K := K) (H := H) n ns
      exact ⟨.lst h1.sq a1, by simpa [PyData.plain] using a2, by simp only [PyData.depth]; omega⟩
    | loc l =>
      obtain ⟨a, rfl, h1⟩ := v
      unfold toPy at h
      cases q0 : st[l]? with
      | none => rw [q0] at h; cases h
      | some o =>
        rw [q0] at h
        cases o with
        | dic kvs => cases h
        | lst ds =>
          obtain ⟨b, ho, e1, e2, xs, rfl, h2⟩ := s.obj l _ q0
          rw [h1] at e1; cases e1
          obtain ⟨ps, q, rfl⟩ := Option.map_eq_some_iff.mp h
          obtain ⟨a1, a2, a3⟩ := mapO_py ih ds xs ps q h2
          exact ⟨.lst (.inl (.inl e2)) a1, by simpa [PyData.plain] using a2, by simp only [PyData.depth]; omega⟩
/-- d == e -/
def eqB (st : Sto) (d e : D) : Option Bool := match d, e with
  | .int i, .int j => some (i == j)
  | _, _ => match toPy 40 st d, toPy 40 st e with
    | some p, some q => some (PyData.eqv p q)
    | _, _ => none
theorem eqB_py {st : Sto} {d e : D} {b : Bool} (h : eqB st d e = some b) : ∃ p q, toPy 40 st d = some p ∧ toPy 40 st e = some q ∧ b = PyData.eqv p q := by
  by_cases hi : ∃ i j, d = .int i ∧ e = .int j
  · obtain ⟨i, j, rfl, rfl⟩ := hi
    cases h
    exact ⟨_, _, rfl, rfl, by simp [PyData.eqv]⟩
  · have h' : (match toPy 40 st d, toPy 40 st e with
      | some p, some q => some (PyData.eqv p q)
      | _, _ => none) = some b := by
      revert h
      unfold eqB
      split
      · exact absurd ⟨_, _, rfl, rfl⟩ hi
      · exact fun h => h
    cases q1 : toPy 40 st d with
    | none => rw [q1] at h'; cases h'
    | some p =>
      cases q2 : toPy 40 st e with
      | none => rw [q1, q2] at h'; cases h'
      | some q =>
        rw [q1, q2] at h'
        cases h'
        exact ⟨p, q, rfl, rfl, rfl⟩
def eqD (d e : D) (st : Sto) : Res D := match eqB st d e with
  | some b => .ok (.bl b) st
  | none => .bad
def neD (d e : D) (st : Sto) : Res D := match eqB st d e with
  | some b => .ok (.bl (!b)) st
  | none => .bad
section
variable {X : Cx} {W : WX} {e a b c : Expr} {m ma mb : EM} {pos : Pos}
def rEqP (K : PySem.W.Frag) (neg : Bool) : R2 := fun x y H Q => ∃ d e n, PyOk K H n x d ∧ PyOk K H n y e ∧ n ≤ 60 ∧ Q (.bl (if neg then !PyData.eqv d e else PyData.eqv d e)) H
theorem op_eqP (hu : X.A.units + 64 < cLine) : OpR X (compareOp .Eq) (rEqP X.K false) := by
  intro pins s σ H x y v u Q I rx ry h
  obtain ⟨d, e, n, ⟨h1, h2, h3⟩, ⟨h4, h5, h6⟩, hn, q⟩ := h
  obtain ⟨as, r1⟩ := Dp.reads I d x v h1 rx
  obtain ⟨bs, r2⟩ := Dp.reads I e y u h4 ry
  exact SeqAt.eq_plain r1 r2 h2 h5 (by omega) ⟨.bl _, H, I, rfl, q⟩
theorem op_neP (hu : X.A.units + 64 < cLine) : OpR X (compareOp .NotEq) (rEqP X.K true) := by
  intro pins s σ H x y v u Q I rx ry h
  obtain ⟨d, e, n, ⟨h1, h2, h3⟩, ⟨h4, h5, h6⟩, hn, q⟩ := h
  obtain ⟨as, r1⟩ := Dp.reads I d x v h1 rx
  obtain ⟨bs, r2⟩ := Dp.reads I e y u h4 ry
  exact SeqAt.ne_plain r1 r2 h2 h5 (by omega) ⟨.bl _, H, I, rfl, q⟩
theorem opf_eq (hu : X.A.units + 64 < cLine) : OpF X (compareOp .Eq) eqD := ⟨_, op_eqP hu, fun E H r st d e x y Q s v1 v2 h => by
  unfold eqD at h
  cases q : eqB st d e with
  | none => simp only [q] at h; exact h.elim
  | some k =>
    simp only [q] at h
    obtain ⟨p1, p2, h1, h2, rfl⟩ := eqB_py q
    exact ⟨p1, p2, 40, toPy_ok s 40 d x p1 h1 v1, toPy_ok s 40 e y p2 h2 v2, by decide, RES.ok h s rfl⟩⟩
theorem opf_ne (hu : X.A.units + 64 < cLine) : OpF X (compareOp .NotEq) neD := ⟨_, op_neP hu, fun E H r st d e x y Q s v1 v2 h => by
  unfold neD at h
  cases q : eqB st d e with
  | none => simp only [q] at h; exact h.elim
  | some k =>
    simp only [q] at h
    obtain ⟨p1, p2, h1, h2, rfl⟩ := eqB_py q
    exact ⟨p1, p2, 40, toPy_ok s 40 d x p1 h1 v1, toPy_ok s 40 e y p2 h2 v2, by decide, RES.ok h s rfl⟩⟩

/-! ### in -/
def inB (d c : D) (st : Sto) : Option Bool := match dicD c st with
  | some kvs => match keyD d with
    | some k => some (dget kvs k).isSome
    | none => none
  | none => match seqD c st with
    | some cs => match toPy 40 st d, mapO (toPy 40 st) cs with
      | some p, some ps => some (ps.any fun z => PyData.eqv z p)
      | _, _ => none
    | none => match d, c with
      | .str x, .str y => some (!(Builtin.Str.occurrences y x 0 y.length 1).isEmpty)
      | _, _ => none
def inD (d c : D) (st : Sto) : Res D := match inB d c st with
  | some b => .ok (.bl b) st
  | none => .bad
def ninD (d c : D) (st : Sto) : Res D := match inB d c st with
  | some b => .ok (.bl (!b)) st
  | none => .bad
def rInP (K : PySem.W.Frag) (neg : Bool) : R2 := fun x y H Q => ∃ b : Bool,
  ((∃ a o, y = .ref a ∧ DGet H a x o ∧ b = o.isSome) ∨
   (∃ p ps n, PyOk K H n x p ∧ n ≤ 50 ∧ (Dp K H y (.list ps) ∨ Dp K H y (.tuple ps)) ∧ PyData.plainAll ps = true ∧ b = ps.any fun z => PyData.eqv z p) ∨
   (∃ i j, x = .str i ∧ y = .str j ∧ b = !(Builtin.Str.occurrences j i 0 j.length 1).isEmpty)) ∧ Q (.bl (if neg then !b else b)) H
theorem op_inP (hu : X.A.units + 64 < cLine) : OpR X (compareOp .In) (rInP X.K false) := by
  intro pins s σ H x y v u Q I rx ry h
  obtain ⟨b, h, q⟩ := h
  rcases h with ⟨a, o, rfl, g, rfl⟩ | ⟨p, ps, n, ⟨h1, h2, h3⟩, hn, h4, h5, rfl⟩ | ⟨i, j, rfl, rfl, rfl⟩
  · obtain rfl : u = Value.ref a := ry
    exact d_in (by omega) I g rx fun s3 I3 => ⟨.bl o.isSome, H, I3, rfl, q⟩
  · obtain ⟨as, r1⟩ := Dp.reads I p x v h1 rx
    rcases h4 with h4 | h4
    · obtain ⟨bs, r2⟩ := Dp.reads I (.list ps) y u h4 ry
      exact SeqAt.in_list_data r2 r1 h5 h2 (by omega) ⟨.bl _, H, I, rfl, q⟩
    · obtain ⟨bs, r2⟩ := Dp.reads I (.tuple ps) y u h4 ry
      exact SeqAt.in_tuple_data r2 r1 h5 h2 (by omega) ⟨.bl _, H, I, rfl, q⟩
  · exact op_in_str pins s σ H _ _ v u Q I rx ry ⟨i, j, rfl, rfl, q⟩
theorem op_ninP (hu : X.A.units + 64 < cLine) : OpR X (compareOp .NotIn) (rInP X.K true) := by
  intro pins s σ H x y v u Q I rx ry h
  obtain ⟨b, h, q⟩ := h
  rcases h with ⟨a, o, rfl, g, rfl⟩ | ⟨p, ps, n, ⟨h1, h2, h3⟩, hn, h4, h5, rfl⟩ | ⟨i, j, rfl, rfl, rfl⟩
  · obtain rfl : u = Value.ref a := ry
    exact d_notIn (by omega) I g rx fun s3 I3 => ⟨.bl (!o.isSome), H, I3, rfl, q⟩
  · obtain ⟨as, r1⟩ := Dp.reads I p x v h1 rx
    rcases h4 with h4 | h4
    · obtain ⟨bs, r2⟩ := Dp.reads I (.list ps) y u h4 ry
      exact SeqAt.notIn_list_data r2 r1 h5 h2 (by omega) ⟨.bl _, H, I, rfl, q⟩
    · obtain ⟨bs, r2⟩ := Dp.reads I (.tuple ps) y u h4 ry
      exact SeqAt.notIn_tuple_data r2 r1 h5 h2 (by omega) ⟨.bl _, H, I, rfl, q⟩
  · exact op_notin_str pins s σ H _ _ v u Q I rx ry ⟨i, j, rfl, rfl, q⟩
theorem seqD_py {K H r st} {c : D} {y : V} {cs : List D} {ps : List PyData} (s : SR K H r st) (h : seqD c st = some cs) (hp : mapO (toPy 40 st) cs = some ps) (v : VD K H r c y) :
    (Dp K H y (.list ps) ∨ Dp K H y (.tuple ps)) ∧ PyData.plainAll ps = true := by
  obtain ⟨a, xs, rfl, h1, h2⟩ := seqD_v s h v
  obtain ⟨b1, b2, _⟩ := mapO_py (toPy_ok s 40) cs xs ps hp h1
  rcases h2 with h2 | h2
  · exact ⟨.inl (.lst h2 b1), b2⟩
  · exact ⟨.inr (.tup h2 b1), b2⟩
theorem inB_sim {K : PySem.W.Frag} {H r st} {d c : D} {x y : V} {b neg : Bool} {Q : VK} (s : SR K H r st) (v1 : VD K H r d x) (v2 : VD K H r c y) (h : inB d c st = some b)
    (q : Q (.bl (if neg then !b else b)) H) : rInP K neg x y H Q := by
  refine ⟨b, ?_, q⟩
  unfold inB at h
  cases q1 : dicD c st with
  | some kvs =>
    simp only [q1] at h
    cases q2 : keyD d with
    | none => simp only [q2] at h; cases h
    | some k =>
      simp only [q2] at h
      cases h
      obtain ⟨a, kxs, rfl, h1, h2⟩ := dicD_v s q1 v2
      refine .inl ⟨a, valV kxs k, rfl, ?_, ?_⟩
      · rw [keyD_v q2 v1]; exact DGet.k h2
      · have h3 := val_of (k := k) h1
        cases q3 : dget kvs k with
        | none => rw [q3] at h3; rw [show valV kxs k = none from h3]; rfl
        | some z => rw [q3] at h3; obtain ⟨w, h4, _⟩ := h3; rw [h4]; rfl
  | none =>
    simp only [q1] at h
    cases q2 : seqD c st with
    | some cs =>
      simp only [q2] at h
      cases q3 : toPy 40 st d with
      | none => simp only [q3] at h; cases h
      | some p =>
        cases q4 : mapO (toPy 40 st) cs with
        | none => simp only [q3, q4] at h; cases h
        | some ps =>
          simp only [q3, q4] at h
          cases h
          obtain ⟨h1, h2⟩ := seqD_py s q2 q4 v2
          exact .inr (.inl ⟨p, ps, 40, toPy_ok s 40 d x p q3 v1, by decide, h1, h2, rfl⟩)
    | none =>
      simp only [q2] at h
      split at h
      · cases h; cases v1; cases v2
        exact .inr (.inr ⟨_, _, rfl, rfl, rfl⟩)
      · cases h
theorem opf_in (hu : X.A.units + 64 < cLine) : OpF X (compareOp .In) inD := ⟨_, op_inP hu, fun E H r st d e x y Q s v1 v2 h => by
  unfold inD at h
  cases q : inB d e st with
  | none => simp only [q] at h; exact h.elim
  | some k => simp only [q] at h; exact inB_sim s v1 v2 q (RES.ok h s rfl)⟩
theorem opf_nin (hu : X.A.units + 64 < cLine) : OpF X (compareOp .NotIn) ninD := ⟨_, op_ninP hu, fun E H r st d e x y Q s v1 v2 h => by
  unfold ninD at h
  cases q : inB d e st with
  | none => simp only [q] at h; exact h.elim
  | some k => simp only [q] at h; exact inB_sim s v1 v2 q (RES.ok h s rfl)⟩

/-! ### is None -/
def isNon : D → Bool
  | .non => true
  | _ => false
def isD (d e : D) (st : Sto) : Res D := match e with
  | .non => .ok (.bl (isNon d)) st
  | _ => .bad
def isntD (d e : D) (st : Sto) : Res D := match e with
  | .non => .ok (.bl (!isNon d)) st
  | _ => .bad
theorem isNon_v {K H r} {d : D} {x : V} (v : VD K H r d x) : decide (x = V.non) = isNon d := by
  cases d with
  | non => cases v; rfl
  | bl _ => cases v; rfl
  | int _ => cases v; rfl
  | str _ => cases v; rfl
  | tup _ => obtain ⟨a, xs, rfl, _⟩ := v; rfl
  | lst _ => obtain ⟨a, xs, rfl, _⟩ := v; rfl
  | loc _ => obtain ⟨a, rfl, _⟩ := v; rfl
  | scr _ => obtain ⟨a, rfl, _⟩ := v; rfl
  | exc _ _ _ => obtain ⟨a, vs, rfl, _⟩ := v; rfl
theorem opf_is : OpF X (compareOp .Is) isD := ⟨_, op_isN, fun E H r st d e x y Q s v1 v2 h => by
  cases e with
  | non => cases v2; exact ⟨rfl, by rw [isNon_v v1]; exact RES.ok h s rfl⟩
  | _ => exact h.elim⟩
theorem opf_isnt : OpF X (compareOp .IsNot) isntD := ⟨_, op_notN, fun E H r st d e x y Q s v1 v2 h => by
  cases e with
  | non => cases v2; exact ⟨rfl, by rw [isNon_v v1]; exact RES.ok h s rfl⟩
  | _ => exact h.elim⟩

/-! ### numbers -/
def ltD (d e : D) (st : Sto) : Res D := match d, e with
  | .int i, .int j => .ok (.bl (decide (i < j))) st
  | _, _ => .bad
def leD (d e : D) (st : Sto) : Res D := match d, e with
  | .int i, .int j => .ok (.bl (decide (i ≤ j))) st
  | _, _ => .bad
def gtD (d e : D) (st : Sto) : Res D := match d, e with
  | .int i, .int j => .ok (.bl (decide (j < i))) st
  | _, _ => .bad
def geD (d e : D) (st : Sto) : Res D := match d, e with
  | .int i, .int j => .ok (.bl (decide (j ≤ i))) st
  | _, _ => .bad
def subD (d e : D) (st : Sto) : Res D := match d, e with
  | .int i, .int j => .ok (.int (i - j)) st
  | _, _ => .bad
def modD (d e : D) (st : Sto) : Res D := match d, e with
  | .int i, .int j => if j = 0 then .bad else .ok (.int (i.fmod j)) st
  | _, _ => .bad
def fdivD (d e : D) (st : Sto) : Res D := match d, e with
  | .int i, .int j => if j = 0 then .bad else if j.natAbs.log2 < 9000 then .ok (.int (i.fdiv j)) st else .bad
  | _, _ => .bad
def powD (d e : D) (st : Sto) : Res D := match d, e with
  | .int i, .int j => if 0 ≤ j ∧ j ≤ 1000000 ∧ i.natAbs < 2 ^ 64 then .ok (.int (i ^ j.toNat)) st else .bad
  | _, _ => .bad
def xorD (d e : D) (st : Sto) : Res D := match d, e with
  | .int i, .int j => .ok (.int (Builtin.bitXor i j)) st
  | _, _ => .bad
theorem opf_lt : OpF X (compareOp .Lt) ltD := ⟨_, op_lt, fun E H r st d e x y Q s v1 v2 h => by
  cases d with
  | int i => cases e with
    | int j => cases v1; cases v2; exact ⟨i, j, rfl, rfl, RES.ok h s rfl⟩
    | _ => exact h.elim
  | _ => cases e <;> exact h.elim⟩
theorem opf_le : OpF X (compareOp .LtE) leD := ⟨_, op_le, fun E H r st d e x y Q s v1 v2 h => by
  cases d with
  | int i => cases e with
    | int j => cases v1; cases v2; exact ⟨i, j, rfl, rfl, RES.ok h s rfl⟩
    | _ => exact h.elim
  | _ => cases e <;> exact h.elim⟩
theorem opf_gt : OpF X (compareOp .Gt) gtD := ⟨_, op_gt, fun E H r st d e x y Q s v1 v2 h => by
  cases d with
  | int i => cases e with
    | int j => cases v1; cases v2; exact ⟨i, j, rfl, rfl, RES.ok h s rfl⟩
    | _ => exact h.elim
  | _ => cases e <;> exact h.elim⟩
theorem opf_ge : OpF X (compareOp .GtE) geD := ⟨_, op_ge, fun E H r st d e x y Q s v1 v2 h => by
  cases d with
  | int i => cases e with
    | int j => cases v1; cases v2; exact ⟨i, j, rfl, rfl, RES.ok h s rfl⟩
    | _ => exact h.elim
  | _ => cases e <;> exact h.elim⟩
theorem opf_sub : OpF X (binaryOp .Sub) subD := ⟨_, op_sub, fun E H r st d e x y Q s v1 v2 h => by
  cases d with
  | int i => cases e with
    | int j => cases v1; cases v2; exact ⟨i, j, rfl, rfl, RES.ok h s rfl⟩
    | _ => exact h.elim
  | _ => cases e <;> exact h.elim⟩
theorem opf_mod : OpF X (binaryOp .Mod) modD := ⟨_, op_modN, fun E H r st d e x y Q s v1 v2 h => by
  cases d with
  | int i => cases e with
    | int j =>
      cases v1; cases v2
      unfold modD at h
      by_cases hj : j = 0
      · simp only [if_pos hj] at h; exact h.elim
      · simp only [if_neg hj] at h; exact ⟨i, j, rfl, rfl, hj, RES.ok h s rfl⟩
    | _ => exact h.elim
  | _ => cases e <;> exact h.elim⟩
def CDivG (_ j : Int) : Prop := j ≠ 0 ∧ j.natAbs.log2 < 9000
theorem op_fdivG : OpR X (binaryOp .FloorDiv) (rI CDivG fun i j => .int (i.fdiv j)) := opI fun _ _ _ _ _ _ _ hc q => floordiv_int hc.1 q (.inl (PyProof.noPylong_of_log2 hc.2))
theorem opf_fdiv : OpF X (binaryOp .FloorDiv) fdivD := ⟨_, op_fdivG, fun E H r st d e x y Q s v1 v2 h => by
  cases d with
  | int i => cases e with
    | int j =>
      cases v1; cases v2
      unfold fdivD at h
      by_cases hj : j = 0
      · simp only [if_pos hj] at h; exact h.elim
      · by_cases hl : j.natAbs.log2 < 9000
        · simp only [if_neg hj, if_pos hl] at h; exact ⟨i, j, rfl, rfl, ⟨hj, hl⟩, RES.ok h s rfl⟩
        · simp only [if_neg hj, if_neg hl] at h; exact h.elim
    | _ => exact h.elim
  | _ => cases e <;> exact h.elim⟩
theorem opf_pow : OpF X (binaryOp .Pow) powD := ⟨_, op_pow, fun E H r st d e x y Q s v1 v2 h => by
  cases d with
  | int i => cases e with
    | int j =>
      cases v1; cases v2
      unfold powD at h
      by_cases hj : 0 ≤ j ∧ j ≤ 1000000 ∧ i.natAbs < 2 ^ 64
      · simp only [if_pos hj] at h; exact ⟨i, j, rfl, rfl, hj, RES.ok h s rfl⟩
      · simp only [if_neg hj] at h; exact h.elim
    | _ => exact h.elim
  | _ => cases e <;> exact h.elim⟩
theorem opf_xor : OpF X (binaryOp .BitXor) xorD := ⟨_, op_xor, fun E H r st d e x y Q s v1 v2 h => by
  cases d with
  | int i => cases e with
    | int j => cases v1; cases v2; exact ⟨i, j, rfl, rfl, RES.ok h s rfl⟩
    | _ => exact h.elim
  | _ => cases e <;> exact h.elim⟩

/-! ### +, * -/
def addD (d e : D) (st : Sto) : Res D := match d, e with
  | .int i, .int j => .ok (.int (i + j)) st
  | .str x, .str y => if x.length + y.length ≤ 1000000 then .ok (.str (x ++ y)) st else .bad
  | .tup xs, .tup ys => if xs.length + ys.length ≤ 1000000 then .ok (.tup (xs ++ ys)) st else .bad
  | _, _ => match madeD d st, madeD e st with
    | some xs, some ys => if xs.length + ys.length ≤ 1000000 then .ok (.lst (xs ++ ys)) st else .bad
    | _, _ => .bad
theorem big_ok {n : Nat} (h : n ≤ 1000000) : n ≤ sizeLine := by rw [sizeLine_eq]; omega
theorem opf_add : OpF X (binaryOp .Add) addD := ⟨_, op_add.or (op_add_str.or (op_catA.or op_cat)), fun E H r st d e x y Q s v1 v2 h => by
  by_cases hi : ∃ i j, d = .int i ∧ e = .int j
  · obtain ⟨i, j, rfl, rfl⟩ := hi
    cases v1; cases v2
    exact .inl ⟨i, j, rfl, rfl, RES.ok h s rfl⟩
  by_cases hs : ∃ i j, d = .str i ∧ e = .str j
  · obtain ⟨i, j, rfl, rfl⟩ := hs
    cases v1; cases v2
    simp only [addD] at h
    by_cases hl : i.length + j.length ≤ 1000000
    · simp only [if_pos hl] at h; exact .inr (.inl ⟨i, j, rfl, rfl, big_ok hl, RES.ok h s rfl⟩)
    · simp only [if_neg hl] at h; exact h.elim
  by_cases ht : ∃ i j, d = .tup i ∧ e = .tup j
  · obtain ⟨i, j, rfl, rfl⟩ := ht
    obtain ⟨a, xs, rfl, h1, h2⟩ := v1
    obtain ⟨b, ys, rfl, h3, h4⟩ := v2
    simp only [addD] at h
    by_cases hl : i.length + j.length ≤ 1000000
    · simp only [if_pos hl] at h
      refine .inr (.inr (.inl ⟨a, b, xs, ys, rfl, rfl, h1.sq, h3.sq, by rw [← h2.len, ← h4.len]; exact big_ok hl, fun e => ?_, fun _ e => ?_, fun _ _ p hp => ?_⟩))
      · subst e
        have : i = [] := by have := h2.len; exact List.eq_nil_of_length_eq_zero this
        subst this
        exact RES.ok h s ⟨b, ys, rfl, h3, h4⟩
      · subst e
        have : j = [] := by have := h4.len; exact List.eq_nil_of_length_eq_zero this
        subst this
        rw [List.append_nil] at h
        exact RES.ok h s ⟨a, xs, rfl, h1, h2⟩
      · exact RES.ok' h (Ext.fresh hp) (s.fresh hp) ⟨p, _, rfl, .inl ⟨s.notin hp, .inl upd_same⟩, (h2.app h4).ext (Ext.fresh hp)⟩
    · simp only [if_neg hl] at h; exact h.elim
  have h' : RES X.K X.mg (RV X.K) E H r (match madeD d st, madeD e st with
    | some xs, some ys => if xs.length + ys.length ≤ 1000000 then .ok (.lst (xs ++ ys)) st else .bad
    | _, _ => .bad) Q := by
    revert h
    unfold addD
    split
    · exact absurd ⟨_, _, rfl, rfl⟩ hi
    · exact absurd ⟨_, _, rfl, rfl⟩ hs
    · exact absurd ⟨_, _, rfl, rfl⟩ ht
    · exact fun h => h
  cases q1 : madeD d st with
  | none => simp only [q1] at h'; exact h'.elim
  | some xs =>
    cases q2 : madeD e st with
    | none => simp only [q1, q2] at h'; exact h'.elim
    | some ys =>
      simp only [q1, q2] at h'
      obtain ⟨a, vs, rfl, h1, h2⟩ := madeD_v s q1 v1
      obtain ⟨b, ws, rfl, h3, h4⟩ := madeD_v s q2 v2
      by_cases hl : xs.length + ys.length ≤ 1000000
      · simp only [if_pos hl] at h'
        refine .inr (.inr (.inr ⟨a, b, vs, ws, rfl, rfl, h2, h4, by rw [← h1.len, ← h3.len]; exact big_ok hl, fun p hp => ?_⟩))
        exact RES.ok' h' (Ext.fresh hp) (s.fresh hp) ⟨p, _, rfl, ⟨s.notin hp, upd_same⟩, (h1.app h3).ext (Ext.fresh hp)⟩
      · simp only [if_neg hl] at h'; exact h'.elim⟩
/-- two lists joined into a new one -/
def nCat (ma mb : EM) : Env → Sto → Res (List D) := fun env st => (ma env st).bind fun d st1 => (mb env st1).bind fun e st2 => match madeD d st2, madeD e st2 with
  | some xs, some ys => if xs.length + ys.length ≤ 1000000 then .ok (xs ++ ys) st2 else .bad
  | _, _ => .bad
theorem fn_cat (ha : FE X W a ma) (hb : FE X W b mb) : FN X W (.BinOp a .Add b pos) (nCat ma mb) := PE.imp (pe_op op_cat ha hb) fun σ H Q ⟨r, env, st, hE, hS, h⟩ => by
  refine ⟨r, env, st, hE, hS, RES.seq h fun d st1 x H1 r1 e1 s1 v1 h1 => ?_⟩
  refine ⟨r1, env, st1, hE.ext e1, s1, RES.seq h1 fun e st2 y H2 r2 e2 s2 v2 h2 => ?_⟩
  cases q1 : madeD d st2 with
  | none => simp only [q1] at h2; exact h2.elim
  | some xs =>
    cases q2 : madeD e st2 with
    | none => simp only [q1, q2] at h2; exact h2.elim
    | some ys =>
      simp only [q1, q2] at h2
      obtain ⟨a, vs, rfl, h3, h4⟩ := madeD_v s2 q1 (v1.ext e2)
      obtain ⟨b, ws, rfl, h5, h6⟩ := madeD_v s2 q2 v2
      by_cases hl : xs.length + ys.length ≤ 1000000
      · simp only [if_pos hl] at h2
        exact ⟨a, b, vs, ws, rfl, rfl, h4, h6, by rw [← h3.len, ← h5.len]; exact big_ok hl, fun p hp => RES.ok h2 s2 (h3.app h5) p hp⟩
      · simp only [if_neg hl] at h2; exact h2.elim
def repL {α : Type} (xs : List α) (k : Int) : List α := (List.replicate k.toNat xs).flatten
def mulD (d e : D) (st : Sto) : Res D := match d, e with
  | .int i, .int j => if i.natAbs.log2 + j.natAbs.log2 < 1000000 then .ok (.int (i * j)) st else .bad
  | d, .int k => match madeD d st with
    | some xs => if 0 ≤ k ∧ k ≤ 1000000 ∧ xs.length * k.toNat ≤ 1000000 then .ok (.lst (repL xs k)) st else .bad
    | none => .bad
  | _, _ => .bad
theorem VDs.repl {K H r ds xs} (h : VDs K H r ds xs) : ∀ k : Nat, VDs K H r (List.replicate k ds).flatten (List.replicate k xs).flatten
  | 0 => rfl
  | k + 1 => by rw [List.replicate_succ, List.flatten_cons, List.replicate_succ, List.flatten_cons]; exact h.app (h.repl k)
theorem opf_mul : OpF X (binaryOp .Mult) mulD := ⟨_, op_mulW.or op_rep, fun E H r st d e x y Q s v1 v2 h => by
  cases e with
  | int k =>
    cases v2
    by_cases hd : ∃ i, d = .int i
    · obtain ⟨i, rfl⟩ := hd
      cases v1
      unfold mulD at h
      by_cases hl : i.natAbs.log2 + k.natAbs.log2 < 1000000
      · simp only [if_pos hl] at h; exact .inl ⟨i, k, rfl, rfl, hl, RES.ok h s rfl⟩
      · simp only [if_neg hl] at h; exact h.elim
    · have h' : RES X.K X.mg (RV X.K) E H r (match madeD d st with
        | some xs => if 0 ≤ k ∧ k ≤ 1000000 ∧ xs.length * k.toNat ≤ 1000000 then .ok (.lst (repL xs k)) st else .bad
        | none => .bad) Q := by
        revert h
        cases d <;> first | exact fun h => h | exact absurd ⟨_, rfl⟩ hd
      cases q1 : madeD d st with
      | none => simp only [q1] at h'; exact h'.elim
      | some xs =>
        simp only [q1] at h'
        obtain ⟨a, vs, rfl, h1, h2⟩ := madeD_v s q1 v1
        by_cases hl : 0 ≤ k ∧ k ≤ 1000000 ∧ xs.length * k.toNat ≤ 1000000
        · simp only [if_pos hl] at h'
          refine .inr ⟨a, k, vs, rfl, rfl, h2, by omega, by omega, by rw [← h1.len]; exact big_ok hl.2.2, fun p hp => ?_⟩
          exact RES.ok' h' (Ext.fresh hp) (s.fresh hp) ⟨p, _, rfl, ⟨s.notin hp, upd_same⟩, (h1.repl k.toNat).ext (Ext.fresh hp)⟩
        · simp only [if_neg hl] at h'; exact h'.elim
  | _ => cases d <;> exact h.elim⟩
def nRep (ma mb : EM) : Env → Sto → Res (List D) := fun env st => (ma env st).bind fun d st1 => (mb env st1).bind fun e st2 => match madeD d st2, e with
  | some xs, .int k => if 0 ≤ k ∧ k ≤ 1000000 ∧ xs.length * k.toNat ≤ 1000000 then .ok (repL xs k) st2 else .bad
  | _, _ => .bad
theorem fn_rep (ha : FE X W a ma) (hb : FE X W b mb) : FN X W (.BinOp a .Mult b pos) (nRep ma mb) := PE.imp (pe_op op_rep ha hb) fun σ H Q ⟨r, env, st, hE, hS, h⟩ => by
  refine ⟨r, env, st, hE, hS, RES.seq h fun d st1 x H1 r1 e1 s1 v1 h1 => ?_⟩
  refine ⟨r1, env, st1, hE.ext e1, s1, RES.seq h1 fun e st2 y H2 r2 e2 s2 v2 h2 => ?_⟩
  cases q1 : madeD d st2 with
  | none => simp only [q1] at h2; exact h2.elim
  | some xs =>
    cases e with
    | int k =>
      simp only [q1] at h2
      cases v2
      obtain ⟨a, vs, rfl, h3, h4⟩ := madeD_v s2 q1 (v1.ext e2)
      by_cases hl : 0 ≤ k ∧ k ≤ 1000000 ∧ xs.length * k.toNat ≤ 1000000
      · simp only [if_pos hl] at h2
        exact ⟨a, k, vs, rfl, rfl, h4, by omega, by omega, by rw [← h3.len]; exact big_ok hl.2.2, fun p hp => RES.ok h2 s2 (h3.repl k.toNat) p hp⟩
      · simp only [if_neg hl] at h2; exact h2.elim
    | _ => simp only [q1] at h2; exact h2.elim
/-! ### -a -/
def negD (d : D) (st : Sto) : Res D := match d with
  | .int i => .ok (.int (-i)) st
  | _ => .bad
def eUn (g : D → Sto → Res D) (ma : EM) : EM := fun env st => (ma env st).bind g
theorem fe_neg (ha : FE X W a ma) : FE X W (.UnaryOp .USub a pos) (eUn negD ma) := PE.imp (pe_un un_neg ha) fun σ H Q ⟨r, env, st, hE, hS, h⟩ => ⟨r, env, st, hE, hS, RES.seq h fun d st1 x H1 r1 e1 s1 v1 h1 => by
  cases d with
  | int i => cases v1; exact ⟨i, rfl, RES.ok h1 s1 rfl⟩
  | _ => exact h1.elim⟩
end
end FL

namespace FL
open PySem PySem.Spec PyProof.Rows L2

/-! ### forgetting new objects of the store -/
mutual
def D.blw (n : Nat) : D → Bool
  | .loc l => decide (l < n)
  | .tup ds => D.blws n ds
  | .lst ds => D.blws n ds
  | .exc _ _ ds => D.blws n ds
  | _ => true
def D.blws (n : Nat) : List D → Bool
  | [] => true
  | d :: ds => D.blw n d && D.blws n ds
end
def SO.blw (n : Nat) : SO → Bool
  | .lst ds => D.blws n ds
  | .dic kvs => kvs.all fun p => p.2.blw n
theorem not_app {a : Addr} {r : Rho} {t q0 : List Addr} (h : (r.app t q0).out a) : r.out a := ⟨fun z => h.1 (List.mem_append_left t z), fun z => h.2 (List.mem_append_right q0 z)⟩
theorem ExcAt.shrink {K H} {r : Rho} {t q0 : List Addr} {cls ns a vs} (h : ExcAt K H (r.app t q0) cls ns a vs) : ExcAt K H r cls ns a vs := by
  obtain ⟨C, d, h1, h2, h3, h4⟩ := h
  refine ⟨C, d, not_app h1, h2, h3, ?_⟩
  rcases h4 with h4 | ⟨dd, h5, h6, h7, h8⟩
  · exact .inl h4
  · exact .inr ⟨dd, h5, not_app h6, h7, h8⟩
mutual
theorem VD.shrink {K H} {r : Rho} {t q0 : List Addr} : ∀ (d : D) (v : V), d.blw r.ad.length = true → VD K H (r.app t q0) d v → VD K H r d v
  | .non, _, _, h => h
  | .bl _, _, _, h => h
  | .int _, _, _, h => h
  | .str _, _, _, h => h
  | .tup ds, v, hb, h => by
    obtain ⟨a, xs, h1, h2, h3⟩ := h
    refine ⟨a, xs, h1, ?_, VDs.shrink ds xs (by simpa [D.blw] using hb) h3⟩
    rcases h2 with ⟨h4, h5⟩ | h2
    · exact .inl ⟨not_app h4, h5⟩
    · exact .inr h2
  | .lst ds, v, hb, h => by
    obtain ⟨a, xs, h1, h2, h3⟩ := h
    exact ⟨a, xs, h1, ⟨not_app h2.1, h2.2⟩, VDs.shrink ds xs (by simpa [D.blw] using hb) h3⟩
  | .loc l, v, hb, h => by
    obtain ⟨a, h1, h2⟩ := h
    have hl : l < r.ad.length := by simpa [D.blw] using hb
    rw [Rho.app_ad, List.getElem?_append_left hl] at h2
    exact ⟨a, h1, h2⟩
  | .scr ns, v, hb, h => by
    obtain ⟨a, h1, h2⟩ := h
    refine ⟨a, h1, ?_⟩
    rcases h2 with ⟨h4, h5⟩ | h2
    · exact .inl ⟨not_app h4, h5⟩
    · exact .inr h2
  | .exc cls ns ds, v, hb, h => by
    obtain ⟨a, xs, h1, h2, h3⟩ := h
    exact ⟨a, xs, h1, h2.shrink, VDs.shrink ds xs (by simpa [D.blw] using hb) h3⟩
theorem VDs.shrink {K H} {r : Rho} {t q0 : List Addr} : ∀ (ds : List D) (xs : List V), D.blws r.ad.length ds = true → VDs K H (r.app t q0) ds xs → VDs K H r ds xs
  | [], _, _, h => h
  | d :: ds, xs, hb, h => by
    obtain ⟨x, u, h1, h2, h3⟩ := h
    have hb' : d.blw r.ad.length = true ∧ D.blws r.ad.length ds = true := by simpa [D.blws] using hb
    exact ⟨x, u, h1, VD.shrink d x hb'.1 h2, VDs.shrink ds u hb'.2 h3⟩
end
mutual
theorem VD.closed {K H} {r : Rho} : ∀ (d : D) (v : V), VD K H r d v → d.blw r.ad.length = true
  | .non, _, _ => rfl
  | .bl _, _, _ => rfl
  | .int _, _, _ => rfl
  | .str _, _, _ => rfl
  | .tup ds, v, h => by
    obtain ⟨a, xs, _, _, h3⟩ := h
    simpa [D.blw] using VDs.closed ds xs h3
  | .lst ds, v, h => by
    obtain ⟨a, xs, _, _, h3⟩ := h
    simpa [D.blw] using VDs.closed ds xs h3
  | .loc l, v, h => by
    obtain ⟨a, _, h2⟩ := h
    simpa [D.blw] using (List.getElem?_eq_some_iff.mp h2).1
  | .scr _, _, _ => rfl
  | .exc cls ns ds, v, h => by
    obtain ⟨a, xs, _, _, h3⟩ := h
    simpa [D.blw] using VDs.closed ds xs h3
theorem VDs.closed {K H} {r : Rho} : ∀ (ds : List D) (xs : List V), VDs K H r ds xs → D.blws r.ad.length ds = true
  | [], _, _ => rfl
  | d :: ds, xs, h => by
    obtain ⟨x, u, _, h2, h3⟩ := h
    simp only [D.blws, VD.closed d x h2, VDs.closed ds u h3, Bool.and_self]
end
theorem kv_closed {K H} {r : Rho} : ∀ {kvs : List (Key × D)} {kxs : List (Key × V)}, Paired (fun (p : Key × D) (q : Key × V) => p.1 = q.1 ∧ VD K H r p.2 q.2) kvs kxs → (kvs.all fun p => p.2.blw r.ad.length) = true
  | _, _, .nil => rfl
  | _, _, .cons a b => by rw [List.all_cons, VD.closed _ _ a.2, kv_closed b]; rfl
theorem kv_shrink {K H} {r : Rho} {t q0 : List Addr} : ∀ {kvs : List (Key × D)} {kxs : List (Key × V)}, (kvs.all fun p => p.2.blw r.ad.length) = true → Paired (fun (p : Key × D) (q : Key × V) => p.1 = q.1 ∧ VD K H (r.app t q0) p.2 q.2) kvs kxs →
    Paired (fun (p : Key × D) (q : Key × V) => p.1 = q.1 ∧ VD K H r p.2 q.2) kvs kxs
  | _, _, _, .nil => .nil
  | _, _, hb, .cons a b => by
    rw [List.all_cons, Bool.and_eq_true] at hb
    exact .cons ⟨a.1, VD.shrink _ _ hb.1 a.2⟩ (kv_shrink hb.2 b)
theorem OD.closed {K H} {r : Rho} : ∀ (o : SO) (h : HO), OD K H r o h → o.blw r.ad.length = true
  | .lst ds, h, ⟨xs, _, h2⟩ => VDs.closed ds xs h2
  | .dic kvs, h, ⟨kxs, _, h2⟩ => kv_closed h2
theorem OD.shrink {K H} {r : Rho} {t q0 : List Addr} : ∀ (o : SO) (h : HO), o.blw r.ad.length = true → OD K H (r.app t q0) o h → OD K H r o h
  | .lst ds, h, hb, ⟨xs, h1, h2⟩ => ⟨xs, h1, VDs.shrink ds xs hb h2⟩
  | .dic kvs, h, hb, ⟨kxs, h1, h2⟩ => ⟨kxs, h1, kv_shrink hb h2⟩
/-- the first n places of st' hold nothing new, or what st held -/
def chkS (n : Nat) : Sto → Sto → Bool
  | [], _ => true
  | o :: st, o' :: st' => (o'.blw n || SO.beq o' o) && chkS n st st'
  | _ :: _, [] => false
theorem chkS_ok {n : Nat} : ∀ {st st' : Sto}, chkS n st st' = true → ∀ l, l < st.length → (st'[l]? = st[l]? ∨ ∃ o, st'[l]? = some o ∧ o.blw n = true)
  | [], _, _, l, hl => by simp at hl
  | o :: st, [], h, l, hl => by simp [chkS] at h
  | o :: st, o' :: st', h, l, hl => by
    simp only [chkS, Bool.and_eq_true, Bool.or_eq_true] at h
    cases l with
    | zero =>
      rcases h.1 with h | h
      · exact .inr ⟨o', rfl, h⟩
      · rw [SO.beq_eq h]; exact .inl rfl
    | succ l => simpa using chkS_ok h.2 l (by simpa using hl)
theorem chkS_app {n : Nat} : ∀ {st g : Sto}, chkS n st (st ++ g) = true
  | [], _ => rfl
  | o :: st, g => by simp [chkS, SO.beq_refl, chkS_app]
def shrink (st st' : Sto) (ok : Bool) : Sto := if (ok && chkS st.length st st') = true then st'.take st.length else st'
theorem SR.cut {K H r st H' r' st'} (s : SR K H r st) (e : Ext H r H' r') (s' : SR K H' r' st') (hc : chkS st.length st st' = true) : Ext H r H' r ∧ SR K H' r (st'.take st.length) := by
  have hc := chkS_ok hc
  obtain ⟨t, q, rfl, ht, hq⟩ := id e.pre
  refine ⟨⟨⟨[], [], by simp, by simp, by simp⟩, e.keep⟩, ⟨?_, s.nd, fun l o q => ?_, fun a ha => let ⟨h1, h2⟩ := s'.apart a (List.mem_append_right q ha); ⟨fun q => h1 (List.mem_append_left _ q), h2⟩⟩⟩
  · have h1 := s'.len
    have h2 := s.len
    rw [Rho.app_ad, List.length_append] at h1
    rw [List.length_take]
    omega
  · have hl : l < st.length := by
      have := (List.getElem?_eq_some_iff.mp q).1
      rw [List.length_take] at this
      omega
    rw [List.getElem?_take_of_lt hl] at q
    obtain ⟨a, h, h1, h2, h3⟩ := s'.obj l o q
    have hr : l < r.ad.length := by rw [s.len]; exact hl
    rw [Rho.app_ad, List.getElem?_append_left hr] at h1
    refine ⟨a, h, h1, h2, OD.shrink o h ?_ h3⟩
    rcases hc l hl with z | ⟨o', z, hb⟩
    · rw [q] at z
      obtain ⟨_, h', _, _, h5⟩ := s.obj l o z.symm
      exact OD.closed o h' h5
    · rw [q] at z; cases z
      rw [s.len]
      exact hb
theorem SR.shrunk {K H r st H' r' st'} (s : SR K H r st) (e : Ext H r H' r') (s' : SR K H' r' st') (ok : Bool) :
    ∃ r'', Ext H r H' r'' ∧ SR K H' r'' (shrink st st' ok) ∧ (ok = true ∨ r'' = r') ∧ (r'' = r' ∨ r'' = r) := by
  unfold shrink
  split
  · rename_i hc
    rw [Bool.and_eq_true] at hc
    obtain ⟨h1, h2⟩ := s.cut e s' hc.2
    exact ⟨r, h1, h2, .inl hc.1, .inr rfl⟩
  · exact ⟨r', e, s', .inr rfl, .inl rfl⟩
theorem shrink_same {st g : Sto} : shrink st (st ++ g) true = st := by
  unfold shrink
  rw [chkS_app]
  simp
theorem shrink_self {st : Sto} {ok : Bool} : shrink st st ok = st := by
  unfold shrink
  split
  · simp
  · rfl

/-- lists behind the first n places are read for good -/
def mapQ (f : D → Option D) : List D → Option (List D)
  | [] => some []
  | d :: ds => match f d with
    | some e => match mapQ f ds with
      | some es => some (e :: es)
      | none => none
    | none => none
def D.frz (st : Sto) (n : Nat) : Nat → D → Option D
  | k + 1, .loc l => if l < n then some (.loc l) else match st[l]? with
    | some (.lst ds) => match mapQ (D.frz st n k) ds with
      | some es => some (.lst es)
      | none => none
    | _ => none
  | k + 1, .tup ds => match mapQ (D.frz st n k) ds with
    | some es => some (.tup es)
    | none => none
  | k + 1, .lst ds => match mapQ (D.frz st n k) ds with
    | some es => some (.lst es)
    | none => none
  | k + 1, .exc c ns ds => match mapQ (D.frz st n k) ds with
    | some es => some (.exc c ns es)
    | none => none
  | 0, .exc _ _ _ => none
  | 0, .loc _ => none
  | 0, .tup _ => none
  | 0, .lst _ => none
  | _, d => some d
theorem mapQ_v {K H r r'} {f : D → Option D} (ih : ∀ d v d', f d = some d' → VD K H r d v → VD K H r' d' v) : ∀ (ds : List D) (vs : List V) (es : List D), mapQ f ds = some es → VDs K H r ds vs → VDs K H r' es vs
  | [], vs, es, h, v => by cases h; exact v
  | d :: ds, vs, es, h, v => by
    obtain ⟨x, t, rfl, h1, h2⟩ := v
    unfold mapQ at h
    cases q : f d with
    | none => rw [q] at h; cases h
    | some e =>
      rw [q] at h
      cases q2 : mapQ f ds with
      | none => rw [q2] at h; cases h
      | some es' =>
        rw [q2] at h; cases h
        exact ⟨x, t, rfl, ih d x e q h1, mapQ_v ih ds t es' q2 h2⟩
theorem frz_v {K H} {r : Rho} {t q0 : List Addr} {st : Sto} (s : SR K H (r.app t q0) st) : ∀ (k : Nat) (d : D) (v : V) (d' : D), D.frz st r.ad.length k d = some d' → VD K H (r.app t q0) d v → VD K H r d' v := by
  intro k
  induction k with
  | zero =>
    intro d v d' h hv
    cases d with
    | non => cases h; exact hv
    | bl _ => cases h; exact hv
    | int _ => cases h; exact hv
    | str _ => cases h; exact hv
    | scr ns => cases h; exact VD.shrink (.scr ns) v rfl hv
    | _ => cases h
  | succ k ih =>
    intro d v d' h hv
    cases d with
    | non => cases h; exact hv
    | bl _ => cases h; exact hv
    | int _ => cases h; exact hv
    | str _ => cases h; exact hv
    | scr ns => cases h; exact VD.shrink (.scr ns) v rfl hv
    | tup ds =>
      obtain ⟨a, xs, h1, h2, h3⟩ := hv
      unfold D.frz at h
      cases q : mapQ (D.frz st r.ad.length k) ds with
      | none => simp only [q] at h; cases h
      | some es =>
        simp only [q] at h; cases h
        refine ⟨a, xs, h1, ?_, mapQ_v ih ds xs es q h3⟩
        rcases h2 with ⟨h4, h5⟩ | h2
        · exact .inl ⟨not_app h4, h5⟩
        · exact .inr h2
    | lst ds =>
      obtain ⟨a, xs, h1, h2, h3⟩ := hv
      unfold D.frz at h
      cases q : mapQ (D.frz st r.ad.length k) ds with
      | none => simp only [q] at h; cases h
      | some es =>
        simp only [q] at h; cases h
        exact ⟨a, xs, h1, ⟨not_app h2.1, h2.2⟩, mapQ_v ih ds xs es q h3⟩
    | exc c ns ds =>
      obtain ⟨a, xs, h1, h2, h3⟩ := hv
      unfold D.frz at h
      cases q : mapQ (D.frz st r.ad.length k) ds with
      | none => simp only [q] at h; cases h
      | some es =>
        simp only [q] at h; cases h
        exact ⟨a, xs, h1, h2.shrink, mapQ_v ih ds xs es q h3⟩
    | loc l =>
      unfold D.frz at h
      by_cases hl : l < r.ad.length
      · rw [if_pos hl] at h; cases h
        exact VD.shrink (.loc l) v (by simpa [D.blw] using hl) hv
      · rw [if_neg hl] at h
        obtain ⟨a, rfl, h1⟩ := hv
        cases qq : st[l]? with
        | none => simp only [qq] at h; cases h
        | some o =>
          cases o with
          | dic kvs => simp only [qq] at h; cases h
          | lst ds =>
            simp only [qq] at h
            cases q : mapQ (D.frz st r.ad.length k) ds with
            | none => simp only [q] at h; cases h
            | some es =>
              simp only [q] at h; cases h
              obtain ⟨b, ho, e1, e2, xs, rfl, e3⟩ := s.obj l _ qq
              rw [h1] at e1; cases e1
              have hm : a ∈ (r.app t q0).ad := List.mem_of_getElem? h1
              refine ⟨a, xs, rfl, ⟨⟨fun hr => ?_, fun hp => ?_⟩, e2⟩, mapQ_v ih ds xs es q e3⟩
              · obtain ⟨i, hi, ei⟩ := List.getElem_of_mem hr
                have hn := s.nd
                rw [Rho.app_ad] at hn h1
                have h2 : (r.ad ++ t)[i]? = some a := by rw [List.getElem?_append_left hi, List.getElem?_eq_getElem hi, ei]
                obtain ⟨k1, k2⟩ := List.getElem?_eq_some_iff.mp h1
                obtain ⟨k3, k4⟩ := List.getElem?_eq_some_iff.mp h2
                have := (List.getElem_inj hn).mp (k2.trans k4.symm)
                omega
              · exact (s.apart a (List.mem_append_right _ hp)).1 hm

/-! ### a call's end -/
def finD (fz : Bool) (st st' : Sto) (d : D) : Res D :=
  if chkS st.length st st' = true then (if d.blw st.length = true then .ok d (st'.take st.length) else if fz = true then (match D.frz st' st.length 30 d with
    | some e => .ok e (st'.take st.length)
    | none => .ok d st') else .ok d st') else .ok d st'
def fin (fz : Bool) (st : Sto) (r : SRes) : Res D :=
  match r with
  | .nx _ st' => .ok .non (shrink st st' true)
  | .rt d st' => finD fz st st' d
  | .ex x _ st' => .ex x (shrink st st' (x.fs.all fun p => p.2.blw st.length))
  | .bad => .bad
def mFn (fz : Bool) (nl : Nat) (m : SM4) : Fn := fun ds st => fin fz st (m (ds.map some ++ List.replicate (nl - ds.length) none) st)

/-- a def's promise -/
def spM (K : PySem.W.Frag) (mg : Str → Option Value) (n : Nat) (m : Fn) : Sp := fun vs H Q E => vs.length = n ∧ ∃ r st ds, SR K H r st ∧ VDs K H r ds vs ∧ RES K mg (RV K) E H r (m ds st) Q

theorem er_start {K H r} {ds : List D} {vs : List V} {N : List Str} (h : VDs K H r ds vs) : ER K H r (ds.map some ++ List.replicate (N.length - ds.length) none) (L2.start N vs) := by
  refine ⟨by unfold L2.start; simp [h.len], fun i d q => ?_⟩
  have hl := h.len
  by_cases hi : i < ds.length
  · rw [List.getElem?_append_left (by simpa using hi), List.getElem?_map] at q
    cases q2 : ds[i]? with
    | none => rw [q2] at q; cases q
    | some d' =>
      rw [q2] at q; cases q
      obtain ⟨x, h1, h2⟩ := h.get q2
      refine ⟨x, ?_, h2⟩
      unfold L2.start
      rw [List.getElem?_append_left (by simp; omega), List.getElem?_map, h1]; rfl
  · rw [List.getElem?_append_right (by simpa using hi), List.getElem?_replicate] at q
    split at q <;> cases q
/-- THE RULE for a def: its body keeps m -/
theorem fn_ok {P : Program} {w : World} {K : PySem.W.Frag} {mg : Str → Option Value} {base : Heap} {x qual : Str} {st : Stmt} {f : Addr} {fd : FuncData} {N ps : List Str} {k : Nat} {m : SM4} {fz : Bool} (F : Fun K x qual st f fd) (S : FnScope N ps (defScope st))
    (hb : ∀ (cdv : Value) (A : Around) (outer : List PySem.Env) (s : Shared) (H : Hp) (E : XK), Room k (A.deeper (envOfC qual (defScope st) s.heap.objs.size f cdv)) →
      FB (cxOf (L2.CX P w) P w K mg base N qual (defScope st) f cdv A outer s H E) (fun cls d _ H' => E cls d H') (defBody st) m) : FnOk P w K mg base (L2.CX P w) (k + 1) f fd ps (spM K mg ps.length (mFn fz N.length m)) := by
  refine F.okX S (fun vs H Q E h => h.1) fun cdv A outer s H vs Q E hr h => ?_
  obtain ⟨hl, r, st0, ds, hS, hV, h⟩ := h
  refine ⟨_, hb cdv A outer s H E hr, r, _, st0, er_start hV, hS, ?_⟩
  have h' : RES K mg (RV K) E H r (fin fz st0 (m (ds.map some ++ List.replicate (N.length - ds.length) none) st0)) Q := h
  revert h'
  cases m (ds.map some ++ List.replicate (N.length - ds.length) none) st0 with
  | bad => exact fun h => h
  | nx env st' =>
    intro h σ' H' r' e s' hE
    obtain ⟨r'', e2, s2, _, _⟩ := hS.shrunk e s' true
    exact h .non H' r'' e2 s2 rfl
  | rt d st' =>
    intro h v H' r' e s' hv
    have h' : RES K mg (RV K) E H r (finD fz st0 st' d) Q := h
    unfold finD at h'
    by_cases c1 : chkS st0.length st0 st' = true
    · rw [if_pos c1] at h'
      obtain ⟨e2, s2⟩ := hS.cut e s' c1
      obtain ⟨t, q0, rfl, _⟩ := id e.pre
      by_cases c2 : d.blw st0.length = true
      · rw [if_pos c2] at h'
        exact h' v H' r e2 s2 (VD.shrink d v (by rw [hS.len]; exact c2) hv)
      · rw [if_neg c2] at h'
        by_cases c3 : fz = true
        · rw [if_pos c3] at h'
          cases q : D.frz st' st0.length 30 d with
          | none => rw [q] at h'; exact h' v H' _ e s' hv
          | some d' =>
            rw [q] at h'
            exact h' v H' r e2 s2 (frz_v s' 30 d v d' (by rw [hS.len]; exact q) hv)
        · rw [if_neg c3] at h'; exact h' v H' _ e s' hv
    · rw [if_neg c1] at h'; exact h' v H' r' e s' hv
  | ex x env st' =>
    intro h cls d σ' H' r' e s' hE hx
    obtain ⟨r'', e2, s2, h3, h4⟩ := hS.shrunk e s' (x.fs.all fun p => p.2.blw st0.length)
    refine h cls d H' r'' e2 s2 ?_
    have same : r'' = r' → XR K mg H' r'' x cls d := fun z => by rw [z]; exact hx
    rcases h3 with h3 | h3
    · rw [List.all_eq_true] at h3
      rcases h4 with z | rfl
      · exact same z
      · obtain ⟨t, q0, rfl, _⟩ := e.pre
        obtain ⟨x1, x2⟩ := hx
        refine ⟨x1, ?_⟩
        cases q : x.fs with
        | nil => rw [q] at x2; exact x2
        | cons p0 ps0 =>
          rw [q] at x2 h3
          obtain ⟨dd, vs', y1, y2, y3, y4⟩ := x2
          refine ⟨dd, vs', y1, not_app y2, y3, ?_⟩
          have sub : ∀ (l : List (Str × D)) (l2 : List (Str × V)), (∀ p ∈ l, p.2.blw r''.ad.length = true) → Paired (fun (p : Str × D) (q : Str × V) => p.1 = q.1 ∧ VD K H' (r''.app t q0) p.2 q.2) l l2 → Paired (fun (p : Str × D) (q : Str × V) => p.1 = q.1 ∧ VD K H' r'' p.2 q.2) l l2 := by
            intro l l2 hl hp
            induction hp with
            | nil => exact .nil
            | cons a b ih => exact .cons ⟨a.1, VD.shrink _ _ (hl _ List.mem_cons_self) a.2⟩ (ih fun p hp => hl p (List.mem_cons_of_mem _ hp))
          exact sub _ _ (by rw [hS.len]; exact h3) y4
    · exact same h3

/-! ### calls -/
section
variable {X : Cx} {W : WX} {e : Expr} {es : List Expr} {ms : Env → Sto → Res (List D)} {x : Str} {p pos : Pos} {f : Addr} {fd : FuncData} {ps : List Str} {k n : Nat} {m : Fn} {CX : CXT}
/-- a def of the module, as its callers know it -/
structure DefOk (P : Program) (w : World) (K : PySem.W.Frag) (mg : Str → Option Value) (base : Heap) (CX : CXT) (k : Nat) (x : Str) (n : Nat) (m : Fn) : Prop where
  ex : ∃ f fd ps, FnOk P w K mg base CX k f fd ps (spM K mg n m) ∧ mg x = some (.ref f) ∧ PySem.W.keepIn K (.ref f) = true ∧ Binds K fd ps []
theorem DefOk.mono {P : Program} {w : World} {K : PySem.W.Frag} {mg : Str → Option Value} {base : Heap} {j : Nat} (h : DefOk P w K mg base CX j x n m) (hj : j ≤ k) : DefOk P w K mg base CX k x n m := by
  obtain ⟨f, fd, ps, h1, h2⟩ := h.ex
  exact ⟨f, fd, ps, h1.mono hj, h2⟩
def eCall (n : Nat) (m : Fn) (ms : Env → Sto → Res (List D)) : EM := fun env st => (ms env st).bind fun ds st1 => if ds.length = n then m ds st1 else .bad
theorem sim_call {σ : L2.St} {H : Hp} {Q : VK} (q : tM X.K X.mg W (eCall n m ms) σ H Q) : tCallS (spM X.K X.mg n m) (WE W) (tA X.K X.mg W ms) σ H Q := by
  obtain ⟨r, env, st, hE, hS, h⟩ := q
  refine ⟨r, env, st, hE, hS, RES.seq h fun ds st1 vs H1 r1 e1 s1 v1 h1 => ?_⟩
  by_cases hl : ds.length = n
  · rw [if_pos hl] at h1
    exact ⟨by rw [← v1.len]; exact hl, r1, st1, ds, s1, v1, h1⟩
  · rw [if_neg hl] at h1; exact h1.elim
theorem fe_call (G : DefOk X.prog X.w X.K X.mg X.base CX k x n m) (hr : Room k X.A) (hg : Gl X x) (hx : ∀ σ, PassesAt CX X σ (WE W σ)) (ha : FA X W (e :: es) ms)
    (hdb : (x == ("__debug__" : Str)) = false := by decide) (he : starEach (e :: es) X.env = (false, eval e X.env) :: starEach es X.env := by rfl) (hpl : (backTo pos (starEach es X.env)).any (·.1) = false := by rfl) :
    FE X W (.Call (.Name x p) (e :: es) [] pos) (eCall n m ms) := by
  obtain ⟨f, fd, ps, h1, h2, h3, h4⟩ := G.ex
  exact PE.imp (pe_callS h1 hr hg h2 h3 h4 hx ha hdb he hpl) fun σ H Q q => sim_call q
theorem fe_call0 (G : DefOk X.prog X.w X.K X.mg X.base CX k x n m) (hr : Room k X.A) (hg : Gl X x) (hx : ∀ σ, PassesAt CX X σ (WE W σ))
    (hdb : (x == ("__debug__" : Str)) = false := by decide) : FE X W (.Call (.Name x p) [] [] pos) (eCall n m aNil) := by
  obtain ⟨f, fd, ps, h1, h2, h3, h4⟩ := G.ex
  refine ⟨fun pins s σ H Q I h => ?_⟩
  refine wpAny_Call_Name_kw (ld_glob I hg h2 ?_ hdb)
  refine PySem.W.callWith_K0 I.kIn h3 ?_
  have q := sim_call (ms := aNil) h
  obtain ⟨r, env, st, hE, hS, q⟩ := q
  exact run_fnS (us := []) h1 hr h4 (hx σ) I .nil (RES.ok q hS rfl)
end
end FL

namespace FL
open PySem PySem.Spec PyProof.Rows L2
section
variable {X : Cx} {W : WX} {e o i c : Expr} {s : Stmt} {body : List Stmt} {m mo mi : EM} {u : SM4} {pos : Pos}

/-! ### stores -/
def sSet (i : Nat) (m : EM) : SM4 := fun env st => (m env st).on env fun d st1 => .nx (env.set i (some d)) st1
theorem fs_set {i : Nat} {x : Str} {pos' : Pos} (hN : X.N.Nodup) (hi : X.N[i]? = some x) (hx : Loc X.env.scope x) (he : FE X W e m) (hs : swapsWith e (some (.Name x pos')) pos.line X.env = pure false := by rfl) (hf : X.fn x = true ∨ X.env.scope.names.lookup x = some .local := by first | exact .inl rfl | exact .inr rfl | assumption) :
    FS X W (.Assign [.Name x pos'] e pos) (sSet i m) := PS.imp (ps_set hN hi hx he hs hf) fun D σ H ⟨r, env, st, hE, hS, h⟩ =>
  ⟨r, env, st, hE, hS, RS.on hE h fun d st1 x H1 r1 e1 s1 v1 h1 => h1 _ H1 r1 (Ext.refl _ _) s1 ((hE.ext e1).set i v1)⟩
def sAsg (m : EM) (g : GM) : SM4 := fun env st => (m env st).on env fun d st1 => match g d env st1 with
  | .ok env2 st2 => .nx env2 st2
  | _ => .bad
theorem fs_asg {tg : Expr} {sl : List Nat} {g : GM} (he : FE X W e m) (hg : FG X W tg sl g) (hs : swapsWithSole [tg] e pos.line X.env = pure false := by rfl) (hw : swappedStores [tg] e X.env = pure none := by rfl)
    (h1 : (assignEach [tg] X.env).map (·.2) = [assign tg X.env] := by rfl) : FS X W (.Assign [tg] e pos) (sAsg m g) := PS.imp (ps_asg he hg hs hw h1) fun D σ H ⟨r, env, st, hE, hS, h⟩ =>
  ⟨r, env, st, hE, hS, RS.on hE h fun d st1 x H1 r1 e1 s1 v1 h1 => by
    refine ⟨r1, env, st1, d, hE.ext e1, s1, v1, ?_⟩
    revert h1
    cases g d env st1 with
    | ok env2 st2 => exact fun h σ' H' r' e' s' x' _ => h σ' H' r' e' s' x'
    | ex x st2 => exact fun h => h
    | bad => exact fun h => h⟩
/-- o[i] = v: a list, a dict -/
def putD (kvs : List (Key × D)) (k : Key) (d : D) : List (Key × D) := if kvs.any (fun p => decide (p.1 = k)) then kvs.map (fun p => if p.1 = k then (p.1, d) else p) else kvs ++ [(k, d)]
def setD (o i d : D) (st : Sto) : Option Sto := match o with
  | .loc l => match st[l]? with
    | some (.lst ds) => (match i with
      | .int j => (match ixN ds.length j with
        | some n => some (st.set l (.lst (ds.set n d)))
        | none => none)
      | _ => none)
    | some (.dic kvs) => (match keyD i with
      | some k => if kvs.length < 1000000 then some (st.set l (.dic (putD kvs k d))) else none
      | none => none)
    | none => none
  | _ => none
def rSetA (K : PySem.W.Frag) : TSet := fun o i v H Q => rSetL o i v H Q ∨ ∃ a H', o = .ref a ∧ DPut H a i v H' ∧ Q H'
theorem set_any (hu : X.A.units + 1 < cLine) : PSet X (rSetA X.K) := by
  intro pins s σ H o i v ov iv uv Q I ro ri rv h
  rcases h with h | ⟨a, H', rfl, g, q⟩
  · exact set_list pins s σ H o i v ov iv uv Q I ro ri rv h
  · obtain rfl : ov = Value.ref a := ro
    exact d_setItem hu I g ri rv fun s4 I4 => ⟨H', I4, q⟩
theorem any_key {K H r} {k : Key} : ∀ {kvs : List (Key × D)} {kxs : List (Key × V)}, Paired (fun (p : Key × D) (q : Key × V) => p.1 = q.1 ∧ VD K H r p.2 q.2) kvs kxs →
    (kvs.any fun p => decide (p.1 = k)) = (kxs.any fun p => decide (p.1 = k))
  | _, _, .nil => rfl
  | _, _, .cons a b => by rw [List.any_cons, List.any_cons, a.1, any_key b]
theorem map_key {K H r} {k : Key} {d : D} {v : V} (hd : VD K H r d v) : ∀ {kvs : List (Key × D)} {kxs : List (Key × V)}, Paired (fun (p : Key × D) (q : Key × V) => p.1 = q.1 ∧ VD K H r p.2 q.2) kvs kxs →
    Paired (fun (p : Key × D) (q : Key × V) => p.1 = q.1 ∧ VD K H r p.2 q.2) (kvs.map fun p => if p.1 = k then (p.1, d) else p) (kxs.map fun p => if p.1 = k then (p.1, v) else p)
  | _, _, .nil => .nil
  | _, _, .cons (a := p) (b := q) a b => by
    rw [List.map_cons, List.map_cons]
    refine .cons ?_ (map_key hd b)
    by_cases h : p.1 = k
    · rw [if_pos h, if_pos (by rw [← a.1]; exact h)]
      exact ⟨a.1, hd⟩
    · rw [if_neg h, if_neg (by rw [← a.1]; exact h)]
      exact a
theorem paired_app {α β : Type} {F : α → β → Prop} : ∀ {l₁ : List α} {l₂ : List β} {l₃ : List α} {l₄ : List β}, Paired F l₁ l₂ → Paired F l₃ l₄ → Paired F (l₁ ++ l₃) (l₂ ++ l₄)
  | _, _, _, _, .nil, h => h
  | _, _, _, _, .cons a b, h => .cons a (paired_app b h)
theorem put_key {K H r} {k : Key} {d : D} {v : V} (hd : VD K H r d v) {kvs : List (Key × D)} {kxs : List (Key × V)} (h : Paired (fun (p : Key × D) (q : Key × V) => p.1 = q.1 ∧ VD K H r p.2 q.2) kvs kxs) :
    Paired (fun (p : Key × D) (q : Key × V) => p.1 = q.1 ∧ VD K H r p.2 q.2) (putD kvs k d) (putK kxs k v) := by
  unfold putD putK
  rw [any_key h]
  split
  · exact map_key hd h
  · exact paired_app h (.cons ⟨rfl, hd⟩ .nil)
theorem setD_sim {K : PySem.W.Frag} {H r st st2} {o i d : D} {x y z : V} {Q : Hp → Prop} (s : SR K H r st) (v1 : VD K H r o x) (v2 : VD K H r i y) (v3 : VD K H r d z) (h : setD o i d st = some st2)
    (q : ∀ H', Ext H r H' r → SR K H' r st2 → Q H') : rSetA K x y z H Q := by
  unfold setD at h
  cases o with
  | loc l =>
    obtain ⟨a, rfl, h1⟩ := v1
    simp only at h
    cases q1 : st[l]? with
    | none => simp only [q1] at h; cases h
    | some so =>
      simp only [q1] at h
      obtain ⟨b, ho, e1, e2, e3⟩ := s.obj l so q1
      rw [h1] at e1; cases e1
      cases so with
      | lst ds =>
        obtain ⟨xs, rfl, e3⟩ := e3
        simp only at h
        cases i with
        | int j =>
          cases v2
          simp only at h
          cases q2 : ixN ds.length j with
          | none => simp only [q2] at h; cases h
          | some n =>
            simp only [q2] at h
            cases h
            refine .inl ⟨a, xs, j, n, rfl, rfl, e2, by rw [← e3.len]; exact q2, ?_⟩
            exact q _ (Ext.set h1) (s.set h1 ⟨_, rfl, e3.set v3 n⟩)
        | _ => cases h
      | dic kvs =>
        obtain ⟨xs, rfl, e3⟩ := e3
        simp only at h
        cases q2 : keyD i with
        | none => simp only [q2] at h; cases h
        | some k =>
          simp only [q2] at h
          by_cases hl : kvs.length < 1000000
          · rw [if_pos hl] at h
            cases h
            refine .inr ⟨a, _, rfl, ?_, q _ (Ext.set h1) (s.set h1 ⟨putK xs k z, rfl, put_key v3 e3⟩)⟩
            rw [keyD_v q2 v2]
            exact DPut.k e2 (by rw [← paired_len e3]; exact Nat.lt_of_lt_of_le hl (big_ok (Nat.le_refl _)))
          · rw [if_neg hl] at h; cases h
  | _ => cases h
def sPut (mv mo mi : EM) : SM4 := fun env st => (mv env st).on env fun d st1 => (mo env st1).on env fun o st2 => (mi env st2).on env fun i st3 => match setD o i d st3 with
  | some st4 => .nx env st4
  | none => .bad
theorem sub_asg (hu : X.A.units + 1 < cLine) {mv : EM} {tpos : Pos} (hv : FE X W e mv) (ho : FE X W o mo) (hi : FE X W i mi)
    (ha : ∀ v, assign (.Subscript o i tpos) X.env v = (do
      let ov ← holding [v] (eval o X.env)
      let iv ← holding [v, ov] (eval i X.env)
      standAt tpos
      holding [v, ov, iv] (setItem ov iv v)
      release [v, ov, iv] []) := by intro _; rfl)
    (hs : swapsWithSole [.Subscript o i tpos] e pos.line X.env = pure false := by rfl) (hw : swappedStores [.Subscript o i tpos] e X.env = pure none := by rfl)
    (h1 : (assignEach [.Subscript o i tpos] X.env).map (·.2) = [assign (.Subscript o i tpos) X.env] := by rfl) : FS X W (.Assign [.Subscript o i tpos] e pos) (sPut mv mo mi) :=
  PS.imp (ps_asg hv (pg_sub ho hi (set_any hu) ha) hs hw h1) fun D σ H ⟨r, env, st, hE, hS, h⟩ => by
    refine ⟨r, env, st, hE, hS, RS.on hE h fun d st1 z H1 r1 e1 s1 v1 h1 => ?_⟩
    refine ⟨r1, env, st1, hE.ext e1, s1, RS.on (hE.ext e1) h1 fun od st2 x H2 r2 e2 s2 v2 h2 => ?_⟩
    have hE2 := (hE.ext e1).ext e2
    refine ⟨r2, env, st2, hE2, s2, RS.on hE2 h2 fun id st3 y H3 r3 e3 s3 v3 h3 => ?_⟩
    cases q : setD od id d st3 with
    | none => simp only [q] at h3; exact h3.elim
    | some st4 =>
      simp only [q] at h3
      exact setD_sim s3 (v2.ext e3) v3 ((v1.ext e2).ext e3) q fun H4 e4 s4 => h3 σ H4 r3 e4 s4 ((hE2.ext e3).ext e4)

/-! ### loops -/
/-- the sources stand -/
def stillB (src : List (Nat × List D)) (st : Sto) : Bool := src.all fun p => match st[p.1]? with
  | some (.lst ds) => D.beqs ds p.2
  | _ => false
def Still (src : List (Nat × List D)) (st : Sto) : Prop := ∀ p ∈ src, st[p.1]? = some (.lst p.2)
theorem still_iff {src : List (Nat × List D)} {st : Sto} : stillB src st = true ↔ Still src st := by
  unfold stillB Still
  rw [List.all_eq_true]
  constructor
  · intro h p hp
    have := h p hp
    split at this
    · rename_i ds q; rw [q, D.beqs_eq this]
    · cases this
  · intro h p hp
    rw [h p hp]
    exact D.beqs_refl p.2
instance {src : List (Nat × List D)} {st : Sto} : Decidable (Still src st) := decidable_of_iff _ still_iff
/-- an iterator that walks the items -/
structure ItOk (K : PySem.W.Frag) (J : It) (items : List D) (src : List (Nat × List D)) (H : Hp) (r : Rho) : Prop where
  run : ∀ H1 r1 st i, Ext H r H1 r1 → SR K H1 r1 st → Still src st → (i < items.length → J.go i H1) ∧ (items.length ≤ i → J.stop i H1) ∧
    ∀ d, items[i]? = some d → ∀ x H2, J.yld i H1 x H2 → Ext H1 r1 H2 r1 ∧ SR K H2 r1 st ∧ VD K H2 r1 d x
abbrev IM := Env → Sto → Res (List D × List (Nat × List D))
abbrev RI (K : PySem.W.Frag) : Hp → Rho → (List D × List (Nat × List D)) → It → Prop := fun H r p J => ItOk K J p.1 p.2 H r
def tI (K : PySem.W.Frag) (mg : Str → Option Value) (W : WX) (m : IM) : TI := fun σ H R => ∃ r env st, ER K H r env σ ∧ SR K H r st ∧ RES K mg (RI K) (WE W σ) H r (m env st) R
abbrev FI (X : Cx) (W : WX) (tg e : Expr) (m : IM) : Prop := PI X tg e (tI X.K X.mg W m)
theorem PI.imp {tg : Expr} {t t' : TI} (h : PI X tg e t) (i : ∀ σ H Q, t' σ H Q → t σ H Q) : PI X tg e t' := ⟨fun pins s σ H Q I q => h.run pins s σ H Q I (i σ H Q q)⟩

/-- the rest of the loop -/
def okE (n : Nat) (env : Env) : Bool := env.all fun o => match o with
  | some d => d.blw n
  | none => true
theorem okE_mem {n : Nat} {env : Env} (h : okE n env = true) (d : D) (hd : some d ∈ env) : d.blw n = true := (List.all_eq_true.mp h) _ hd
def killE (gc : Option (List Nat)) (env : Env) : Env := match gc with
  | none => env
  | some ks => ks.foldl (fun e k => e.set k none) env
def loopF (gc : Option (List Nat)) (src : List (Nat × List D)) (g : GM) (body : SM4) : List D → Env → Sto → SRes
  | [], env, st => if stillB src st = true then .nx env st else .bad
  | d :: ds, env, st => if stillB src st = true then (match g d env st with
    | .ok env1 st1 => (body env1 st1).bind fun env2 st2 => match gc with
      | none => loopF gc src g body ds env2 st2
      | some ks => let env3 := ks.foldl (fun e k => e.set k none) env2
        loopF gc src g body ds env3 (shrink st st2 (okE st.length env3))
    | _ => .bad) else .bad
def sFor (gc : Option (List Nat)) (mi : IM) (g : GM) (body : SM4) : SM4 := fun env st => (mi env st).on env fun p st1 => loopF gc p.2 g body p.1 (killE gc env) st1
theorem ER.kill {K H r env σ} (x : ER K H r env σ) (k : Nat) : ER K H r (env.set k none) σ := ⟨by simpa using x.len, fun i d q => by
  by_cases hk : k = i
  · subst hk
    by_cases hl : k < env.length
    · rw [List.getElem?_set_self hl] at q; cases q
    · rw [List.getElem?_eq_none (by simpa using hl)] at q; cases q
  · rw [List.getElem?_set_ne hk] at q
    exact x.get i d q⟩
theorem ER.kills {K H r σ} : ∀ (ks : List Nat) {env : Env}, ER K H r env σ → ER K H r (ks.foldl (fun e k => e.set k none) env) σ
  | [], _, x => x
  | k :: ks, _, x => ER.kills ks (x.kill k)
theorem ER.killE {K H r σ} (gc : Option (List Nat)) {env : Env} (x : ER K H r env σ) : ER K H r (FL.killE gc env) σ := by
  cases gc with
  | none => exact x
  | some ks => exact ER.kills ks x
theorem iter_end {K H1 r1 st1 H4 r4 st4 env4 σ4} (ks : List Nat) (s1 : SR K H1 r1 st1) (e14 : Ext H1 r1 H4 r4) (s4 : SR K H4 r4 st4) (hE4 : ER K H4 r4 env4 σ4) :
    ∃ r5, Ext H1 r1 H4 r5 ∧ SR K H4 r5 (shrink st1 st4 (okE st1.length (ks.foldl (fun e k => e.set k none) env4))) ∧ ER K H4 r5 (ks.foldl (fun e k => e.set k none) env4) σ4 := by
  have hK := ER.kills ks hE4
  obtain ⟨r5, e5, s5, o1, o2⟩ := s1.shrunk e14 s4 (okE st1.length (ks.foldl (fun e k => e.set k none) env4))
  refine ⟨r5, e5, s5, ?_⟩
  rcases o2 with rfl | rfl
  · exact hK
  · rcases o1 with o1 | rfl
    · refine ⟨hK.len, fun j d' qj => ?_⟩
      obtain ⟨v, w1, w2⟩ := hK.get j d' qj
      obtain ⟨t, q, rfl, _⟩ := e14.pre
      exact ⟨v, w1, VD.shrink d' v (by rw [s1.len]; exact okE_mem o1 d' (List.mem_of_getElem? qj)) w2⟩
    · exact hK
theorem loop_sim {sl : List Nat} {gc : Option (List Nat)} {src : List (Nat × List D)} {g : GM} {items : List D} {J : It} {D' : Ends} {σ : L2.St} {H : Hp} {r : Rho} {env : Env} {st : Sto} (hE : ER X.K H r env σ) (hS : SR X.K H r st) (it : ItOk X.K J items src H r)
    (h : RS X.K X.mg W D' H r (loopF gc src g u items env st)) :
    ∃ Wv : Nat → Nat → L2.St → Hp → Prop, (∃ m, Wv 0 m σ H) ∧ ∀ i m σ H, Wv i m σ H → (J.stop i H ∧ D'.nx σ H) ∨ (J.go i H ∧ ∃ N : L2.St → Hp → Prop, (∀ σ' H', N σ' H' → ∃ m', m' < m ∧ Wv (i + 1) m' σ' H') ∧
      ∀ x H', J.yld i H x H' → tG X.K X.mg W sl g x σ H' fun σ2 H2 => tS X.K X.mg W u { D' with nx := N, ct := N, bk := D'.nx } σ2 H2) := by
  refine ⟨fun i m σ1 H1 => m = items.length - i ∧ ∃ r1 env1 st1, Ext H r H1 r1 ∧ ER X.K H1 r1 env1 σ1 ∧ SR X.K H1 r1 st1 ∧ RS X.K X.mg W D' H1 r1 (loopF gc src g u (items.drop i) env1 st1),
    ⟨items.length, rfl, r, env, st, Ext.refl _ _, hE, hS, h⟩, ?_⟩
  rintro i m σ1 H1 ⟨rfl, r1, env1, st1, e1, hE1, s1, h1⟩
  cases q : items.drop i with
  | nil =>
    have hi : items.length ≤ i := by
      have := congrArg List.length q
      rw [List.length_drop] at this
      simp at this; omega
    rw [q] at h1
    unfold loopF at h1
    by_cases hst : stillB src st1 = true
    · rw [if_pos hst] at h1
      exact .inl ⟨(it.run H1 r1 st1 i e1 s1 (still_iff.mp hst)).2.1 hi, h1 σ1 H1 r1 (Ext.refl _ _) s1 hE1⟩
    · rw [if_neg hst] at h1; exact h1.elim
  | cons d ds =>
    have hi : i < items.length := by
      have := congrArg List.length q
      rw [List.length_drop] at this
      simp at this; omega
    have hd : items[i]? = some d := by
      have := congrArg (·[0]?) q
      simpa using this
    have hds : items.drop (i + 1) = ds := by
      have := congrArg (List.drop 1) q
      rw [List.drop_drop] at this
      simpa using this
    rw [q] at h1
    unfold loopF at h1
    by_cases hst : stillB src st1 = true
    · rw [if_pos hst] at h1
      obtain ⟨k1, k2, k3⟩ := it.run H1 r1 st1 i e1 s1 (still_iff.mp hst)
      refine .inr ⟨k1 hi, _, fun σ' H' hN => ⟨items.length - (i + 1), by omega, rfl, hN⟩, fun x H2 hy => ?_⟩
      obtain ⟨e2, s2, v2⟩ := k3 d hd x H2 hy
      refine ⟨r1, env1, st1, d, hE1.ext e2, s2, v2, ?_⟩
      cases qg : g d env1 st1 with
      | bad => rw [qg] at h1; exact h1.elim
      | ex x st' => rw [qg] at h1; exact h1.elim
      | ok env2 st2 =>
        simp only [qg] at h1
        intro σ2 H3 r3 e3 s3 hE3 _
        refine ⟨r3, env2, st2, hE3, s3, ?_⟩
        have e13 := e2.trans s2 e3
        rw [hds]
        revert h1
        cases u env2 st2 with
        | bad => exact fun h => h
        | rt d' st' => exact fun h v H' r' e s q => h v H' r' (e13.trans s3 e) s q
        | ex x' env' st' => exact fun h cls dd σ' H' r' e s q => h cls dd σ' H' r' (e13.trans s3 e) s q
        | nx env4 st4 =>
          intro h2 σ4 H4 r4 e4 s4 hE4
          have e14 := e13.trans s3 e4
          simp only [SRes.bind_nx] at h2
          cases gc with
          | none => exact ⟨r4, env4, st4, e1.trans s1 e14, hE4, s4, RS.mono (m := loopF none src g u ds env4 st4) h2 e14 s4⟩
          | some ks =>
            have hK := ER.kills ks hE4
            simp only at h2
            obtain ⟨r5, e5, s5, o1, o2⟩ := s1.shrunk e14 s4 (okE st1.length (ks.foldl (fun e k => e.set k none) env4))
            have hE5 : ER X.K H4 r5 (ks.foldl (fun e k => e.set k none) env4) σ4 := by
              rcases o2 with rfl | rfl
              · exact hK
              · rcases o1 with o1 | rfl
                · refine ⟨hK.len, fun j d' qj => ?_⟩
                  obtain ⟨v, w1, w2⟩ := hK.get j d' qj
                  obtain ⟨t, q, rfl, _⟩ := e14.pre
                  exact ⟨v, w1, VD.shrink d' v (by rw [s1.len]; exact okE_mem o1 d' (List.mem_of_getElem? qj)) w2⟩
                · exact hK
            exact ⟨r5, _, _, e1.trans s1 e5, hE5, s5, RS.mono h2 e5 s5⟩
    · rw [if_neg hst] at h1; exact h1.elim
theorem fs_for {tg : Expr} {sl : List Nat} {gc : Option (List Nat)} {mi : IM} {g : GM} (hp : PassesOwn (model X.prog X.w) X.A X.env X.xe) (hc : X.calm = true) (hi : FI X W tg e mi) (hg : FG X W tg sl g) (hb : FB X W body u)
    (hs : ∀ x, foldedSetIterable e X.env x = pure x := by intro _; rfl) : FS X W (.For tg e body [] pos) (sFor gc mi g u) := PS.imp (ps_for hp hc hi hg hb hs) fun D σ H ⟨r, env, st, hE, hS, h⟩ =>
  ⟨r, env, st, hE, hS, RS.on hE h fun p st1 J H1 r1 e1 s1 v1 h1 => loop_sim (ER.killE gc (hE.ext e1)) s1 v1 h1⟩

/-- while, by a greatest number of turns -/
def whileF (gc : Option (List Nat)) (c : Env → Sto → Res Bool) (body : SM4) : Nat → Env → Sto → SRes
  | 0, _, _ => .bad
  | n + 1, env, st => (c env st).on env fun k st1 => if k = true then (body env st1).bind (fun env2 st2 => match gc with
    | none => whileF gc c body n env2 st2
    | some ks => whileF gc c body n (ks.foldl (fun e k => e.set k none) env2) (shrink st1 st2 (okE st1.length (ks.foldl (fun e k => e.set k none) env2)))) else .nx env st1
def sWhile (n : Nat) (gc : Option (List Nat)) (c : Env → Sto → Res Bool) (body : SM4) : SM4 := fun env st => whileF gc c body n (killE gc env) st
theorem fs_while {n : Nat} {gc : Option (List Nat)} {tc : Env → Sto → Res Bool} (hp : PassesOwn (model X.prog X.w) X.A X.env X.xe) (hc : FT X W c tc) (hb : FB X W body u) : FS X W (.While c body [] pos) (sWhile n gc tc u) := PS.imp (ps_while hp hc hb) fun D σ H ⟨r, env, st, hE, hS, h⟩ => by
  refine ⟨fun m σ1 H1 => ∃ r1 env1 st1, ER X.K H1 r1 env1 σ1 ∧ SR X.K H1 r1 st1 ∧ RS X.K X.mg W D H1 r1 (whileF gc tc u m env1 st1), ⟨n, r, killE gc env, st, ER.killE gc hE, hS, h⟩, ?_⟩
  rintro m σ1 H1 ⟨r1, env1, st1, hE1, s1, h1⟩
  cases m with
  | zero => exact h1.elim
  | succ m =>
    refine ⟨r1, env1, st1, hE1, s1, RS.on hE1 h1 fun k st2 k' H2 r2 e2 s2 v2 h2 => ?_⟩
    cases v2
    cases k with
    | false => exact h2 σ1 H2 r2 (Ext.refl _ _) s2 (hE1.ext e2)
    | true =>
      rw [if_pos rfl] at h2 ⊢
      refine ⟨_, fun σ' H' hN => ⟨m, Nat.lt_succ_self m, hN⟩, r2, env1, st2, hE1.ext e2, s2, ?_⟩
      revert h2
      cases u env1 st2 with
      | bad => exact fun h => h
      | rt d' st' => exact fun h => h
      | ex x' env' st' => exact fun h => h
      | nx env4 st4 =>
        intro h2 σ4 H4 r4 e4 s4 hE4
        simp only [SRes.bind_nx] at h2
        cases gc with
        | none => exact ⟨r4, env4, st4, hE4, s4, RS.mono (m := whileF none tc u m env4 st4) h2 e4 s4⟩
        | some ks =>
          obtain ⟨r5, e5, s5, hE5⟩ := iter_end ks s2 e4 s4 hE4
          exact ⟨r5, _, _, hE5, s5, RS.mono h2 e5 s5⟩
end
end FL

namespace PySem
open Sem (wp)
set_option maxHeartbeats 1000000 in
theorem fl_enumerate_newB {v : Value} {o : Obj} {H : Heap → Prop} (B : Begins v o H) :
    Meets (Builtin.«enumerate.__new__» ⟨[.type "enumerate", v], []⟩) (fun _ R s => H s.heap ∧
      R (.ok (.ret (.ref (s.heap.push o).objs.size))) { s with heap := (s.heap.push o).push { cls := .type "enumerate", data := .fields #[.none, .bool false, .ref s.heap.objs.size, rawInt 0, .none, .none] } }) :=
  .of_wp fun prog w A R s h => by
    obtain ⟨hp, g, d, tk, os⟩ := s; obtain ⟨h1, h⟩ := h
    have hsub := sub_enumerate
    have q1 : ∀ {A' : Around} {E : Value → Shared → Prop} {Q : Value → Shared → Prop}, Q (.ref hp.objs.size) ⟨hp.push o, g, d, tk, os⟩ → wpAny (model prog w) A' (pyIter v) Q E ⟨hp, g, d, tk, os⟩ :=
      fun q => B.iter prog w _ _ ⟨hp, g, d, tk, os⟩ _ h1 q
    wp_walk using q1
    refine wpAny_stack_any fun st => wpAny_pure ?_
    split
    · rename_i c _ _ _ _ _
      cases (c == Value.type "enumerate")
      · wp_walk using q1
        exact ⟨_, rfl, h⟩
      · wp_walk using q1
        exact ⟨_, rfl, h⟩
    · wp_walk using q1
      exact ⟨_, rfl, h⟩
theorem fl_enum_begins {prog : Program} {w : World} {A : Around} {E : Value → Shared → Prop} {s : Shared} {v : Value} {o : Obj} {H : Heap → Prop} {Q : Value → Shared → Prop} (B : Begins v o H) (h1 : H s.heap)
    (h : ∀ h', IsEnum h' (s.heap.objs.size + 1) s.heap.objs.size 0 .none → h'.get? s.heap.objs.size = some o → h'.objs.size = s.heap.objs.size + 2 →
      (∀ b o, s.heap.get? b = some o → h'.get? b = some o) → Q (.ref (s.heap.objs.size + 1)) { s with heap := h' }) :
    wpAny (model prog w) A (call (.type "enumerate") [v]) Q E s := by
  refine callType_new F.called_enumerate (by decide) (F.typeCall_enumerate_1 _) (F.newCall_enumerate_1 _) (fun obj => F.args_object_init_2 obj _) F.entry_enumerate_new
    (fl_enumerate_newB B) ⟨h1, ?_⟩
  have hz : (s.heap.push o).objs.size = s.heap.objs.size + 1 := Heap.size_push ..
  show _ ∧ _
  rw [hz]
  have he : IsEnum ((s.heap.push o).push { cls := .type "enumerate", data := .fields #[.none, .bool false, .ref s.heap.objs.size, rawInt 0, .none, .none] }) (s.heap.objs.size + 1) s.heap.objs.size 0 .none := by
    have := Heap.get?_push_size (s.heap.push o) (o := { cls := .type "enumerate", data := .fields #[.none, .bool false, .ref s.heap.objs.size, rawInt 0, .none, .none] }) rfl
    rw [hz] at this; exact this
  refine ⟨⟨_, he, rfl⟩, h _ he (Heap.get?_push_of_some _ (Heap.get?_push_size _ B.free)) (by rw [Heap.size_push, hz]) fun b o x => Heap.get?_push_of_some _ (Heap.get?_push_of_some _ x)⟩
end PySem
namespace FL
open PySem PySem.Spec PyProof.Rows L2
/-! ### enumerate(tuple) -/
def IteT (K : PySem.W.Frag) (a : Addr) : It :=
  ⟨fun i H => ∃ (xs : List V) (x : V), SqT K H a xs ∧ xs[i]? = some x, fun i H v H' => ∃ T x, v = .ref T ∧ H T = none ∧ H' = upd H T (.tup [.int (i : Nat), x]) ∧ ∀ xs, SqT K H a xs → xs[i]? = some x, fun i H => ∃ xs : List V, SqT K H a xs ∧ xs.length ≤ i⟩
theorem turn_enumT {P : Program} {w : World} {K : PySem.W.Frag} {elts : List Expr} {kk : Nat} {tpos : Pos} (a e it : Addr) :
    Turn P w K (.Tuple elts kk tpos) (IteT K a) [e, it] e (fun i h => (∃ old, IsEnum h e it ((i : Nat) : Int) old) ∧ h.IsTupleIter it a i ∧ e ≠ it ∧ e ≠ a ∧ a ≠ it) where
  mem := by simp
  obj := fun i h st b hb => by
    obtain ⟨⟨old, he⟩, ⟨o, ho, hc, hd⟩, _⟩ := st
    have e' : b = e ∨ b = it := by simpa using hb
    rcases e' with z | z
    · rw [z]; exact ⟨_, he, fun v q => nomatch q⟩
    · rw [z]; exact ⟨o, ho, fun v q => by rw [hd] at q; cases q⟩
  keep := fun i h h' st k => let ⟨⟨old, he⟩, hi, hne⟩ := st; ⟨⟨old, k e (by simp) _ he⟩, hi.at fun o q => k it (by simp) o q, hne⟩
  item := by
    intro X hP hw hK hc i pins s σ H E I hf st hg
    subst hP hw hK
    obtain ⟨⟨old, he⟩, hit, hne, hea, hai⟩ := st
    obtain ⟨xs, x, hq, hx⟩ := hg
    obtain ⟨its, rv, p, hz⟩ := I.tuple hq
    obtain ⟨u, hu, ru⟩ := rv.get hx
    have hel : e < s.heap.objs.size := Heap.lt_size he
    have hil : it < s.heap.objs.size := by obtain ⟨_, q, _⟩ := hit; exact Heap.lt_size q
    have hil2 : i < its.toArray.size := by
      have := (List.getElem?_eq_some_iff.mp hu).1
      simpa using this
    refine wpAny_pyNext_enum_itemC (Draws.tuple (prog := X.prog) (w := X.w) (A := X.A.in1) (show X.A.in1.handled = none from I.ok.hd hc) it a hai its.toArray) he ⟨hit, show s.heap.IsTuple a its.toArray from p⟩ hil2 hne (by simp [hne, hea]) fun x' h' tk hP ho hst' hT hsz hk => ?_
    have hux : x' = u := by
      have h1 : its.toArray[i]? = some u := by simpa using hu
      rw [h1] at hP
      exact (Option.some.inj hP).symm
    subst hux
    refine ⟨_, rfl, wpAny_letOwnedTupleGo_enum (s := { s with heap := h', toks := tk + 1 }) ho fun h'' he' sb => ?_⟩
    have hT2 : h''.get? s.heap.objs.size = some { cls := .type "tuple", data := .seq #[.int i tk, x'] } := (sb.2 _ (Nat.ne_of_gt hel)).trans hT
    have new : ObjOk X.prog X.w (upd H s.heap.objs.size (.tup [.int (i : Nat), x])) h'' s.heap.objs.size (.tup [.int (i : Nat), x]) :=
      ⟨by show 2 ≤ sizeLine; decide, [.int i tk, x'], .cons ⟨_, rfl⟩ (.cons ru .nil), ⟨_, hT2, rfl, _, rfl⟩⟩
    have I1 : Inv X pins σ (upd H s.heap.objs.size (.tup [.int (i : Nat), x])) { s with heap := h'', toks := tk + 1 } :=
      I.turnedNew (ch := [e, it]) (fun b ob hb q => (sb.2 b (fun z => hb (by simp [z]))).trans (hk b ob (fun z => hb (by simp [z])) (fun z => hb (by simp [z])) q)) hf (Nat.le_refl _) new
    refine ⟨.ref s.heap.objs.size, _, I1, rfl, ⟨_, x, rfl, I.hok.fresh (Nat.le_refl _), rfl, fun ys hy => by rw [I.tuple_inj hy hq]; exact hx⟩, ⟨⟨x', ?_⟩, hst'.1.at fun o q => (sb.2 it (Ne.symm hne)).trans q, hne, hea, hai⟩, fun b hb => ?_⟩
    · have e1 : ((i + 1 : Nat) : Int) = (i : Int) + 1 := by omega
      rw [e1]; exact he'
    · have hb' : b < s.heap.objs.size := by
        have e' : b = e ∨ b = it := by simpa using hb
        rcases e' with z | z
        · rw [z]; exact hel
        · rw [z]; exact hil
      rw [upd_ne (Nat.ne_of_lt hb')]
      exact (hf b hb).1
  done := by
    intro X hP hw hK hc i pins s σ H E I hf st hg
    subst hP hw hK
    obtain ⟨⟨old, he⟩, hit, hne, hea, hai⟩ := st
    obtain ⟨xs, hq, hx⟩ := hg
    obtain ⟨its, rv, p, hz⟩ := I.tuple hq
    obtain ⟨f0, f1, f2, f3, f4, f5⟩ := hf it (by simp)
    have hl := rv.length
    have hT : s.TypeIs (.ref e) "enumerate" := ⟨_, he, rfl⟩
    unfold pyNext
    refine wpAny_bind (wpAny_attempt (wpAny_callSpecial?_slot (name := Str.ofString "__next__") hT F.slot_enumerate_next
      (wpAny_call_entry F.slot_enumerate_next hT F.entry_enumerate_next ?_ (F.args_enumerate_next_1 _))))
    show wpAny _ _ (field (.ref e) 2 >>= _) _ _ _
    refine wpAny_bind (wpAny_field he rfl (x := .ref it) rfl ?_)
    refine wpAny_bind (wpAny_nextOf_tuple_end (I.ok.hd hc) hit (show s.heap.IsTuple a its.toArray from p) (by simp; omega) fun h' x he' hx' => ?_)
    obtain ⟨o, ho, hc'⟩ := hx'
    refine wpAny_bind (wpAny_isInstance (T := "StopIteration") (b := true) ⟨o, ho, hc'⟩ isSubtype_stop ?_)
    exact wpAny_pure ⟨rfl, I.turned (t' := s.toks) (fun b o hb q => he' b o hb q) f0 f1 f3 f4 f5⟩
  self := fun A i s Q E st h => let ⟨⟨_, he⟩, _⟩ := st; wpAny_pyIter_enum he h
def iEnumA (K : PySem.W.Frag) (ta : TA) : TI := fun σ H R => ta σ H fun vs H1 => ∃ a xs, vs = [.ref a] ∧ ((SqL K H1 a xs ∧ R (Ite K a) H1) ∨ (SqT K H1 a xs ∧ R (IteT K a) H1))
theorem pi_enumA {X : Cx} {e : Expr} {ta : TA} {p pos tpos : Pos} {elts : List Expr} {kk : Nat} (hg : Gl X "enumerate") (hm : X.mg "enumerate" = none) (ha : PA X [e] ta) (hs : starEach [e] X.env = [(false, eval e X.env)] := by rfl) :
    PI X (.Tuple elts kk tpos) (.Call (.Name "enumerate" p) [e] [] pos) (iEnumA X.K ta) := by
  refine ⟨fun pins s σ H R I h => ?_⟩
  refine Call_ (ld_blt I hg hm boot_enumerate (PyProof.Rows.callWith_type1 (thn (ha.run pos pins s σ H _ I h) fun us s1 ⟨vs, H1, I1, r1, q1⟩ => ?_) hs rfl))
  obtain ⟨a, xs, ex, q1⟩ := q1
  subst ex
  cases r1 with
  | cons r rr =>
    cases rr
    cases r
    have fpk : ∀ b ∈ [s1.heap.objs.size + 1, s1.heap.objs.size], FpOk X pins H1 b := fun b hb => by
      have e' : b = s1.heap.objs.size + 1 ∨ b = s1.heap.objs.size := by simpa using hb
      have hle : s1.heap.objs.size ≤ b := by
        rcases e' with z | z
        · rw [z]; exact Nat.le_add_right _ _
        · rw [z]; exact Nat.le_refl _
      exact I1.fpOk hle (I1.hok.fresh hle)
    rcases q1 with ⟨hq, q⟩ | ⟨hq, q⟩
    · obtain ⟨its, rv, p', hz⟩ := I1.list hq
      refine call_enumerate_list p'.isList fun h' he hit hsz hk => wpAny_pyIter_enum he ?_
      have I2 : Inv X pins σ H1 { s1 with heap := h' } := I1.kept (t' := s1.toks) hk
      exact ⟨s1.heap.objs.size + 1, [s1.heap.objs.size + 1, s1.heap.objs.size], _, _, H1, rfl, I2, turn_enum a (s1.heap.objs.size + 1) s1.heap.objs.size, ⟨⟨.none, he⟩, hit, Nat.succ_ne_self _⟩, fpk, q⟩
    · obtain ⟨its, rv, p', hz⟩ := I1.tuple hq
      have hlt : a < s1.heap.objs.size := p'.lt
      refine fl_enum_begins (begins_tuple a its.toArray) (show s1.heap.IsTuple a its.toArray from p') fun h' he hit hsz hk => wpAny_pyIter_enum he ?_
      have I2 : Inv X pins σ H1 { s1 with heap := h' } := I1.kept (t' := s1.toks) hk
      exact ⟨s1.heap.objs.size + 1, [s1.heap.objs.size + 1, s1.heap.objs.size], _, _, H1, rfl, I2, turn_enumT a (s1.heap.objs.size + 1) s1.heap.objs.size,
        ⟨⟨.none, he⟩, ⟨_, hit, rfl, rfl⟩, Nat.succ_ne_self _, Nat.ne_of_gt (Nat.lt_succ_of_lt hlt), Nat.ne_of_lt hlt⟩, fpk, q⟩
end FL

namespace FL
open PySem PySem.Spec PyProof.Rows L2
/-- where a walked value stands in the store -/
def srcD : D → List D → List (Nat × List D)
  | .loc l, ds => [(l, ds)]
  | _, _ => []
def isTup : D → Bool
  | .tup _ => true
  | _ => false
theorem still_here {st : Sto} {d : D} {ds : List D} (h : seqD d st = some ds) : Still (srcD d ds) st := by
  cases d with
  | loc l =>
    intro p hp
    rw [List.mem_singleton.mp hp]
    unfold seqD at h
    cases q : st[l]? with
    | none => simp only [q] at h; cases h
    | some o =>
      cases o with
      | lst es => simp only [q] at h; cases h; rfl
      | dic kvs => simp only [q] at h; cases h
  | _ => intro p hp; cases hp
abbrev StillL (K : PySem.W.Frag) (H : Hp) (r : Rho) (a : Addr) (ds : List D) (src : List (Nat × List D)) : Prop :=
  ∀ H1 r1 st1, Ext H r H1 r1 → SR K H1 r1 st1 → Still src st1 → ∃ xs, SqL K H1 a xs ∧ VDs K H1 r1 ds xs
abbrev StillT (K : PySem.W.Frag) (H : Hp) (r : Rho) (a : Addr) (ds : List D) (src : List (Nat × List D)) : Prop :=
  ∀ H1 r1 st1, Ext H r H1 r1 → SR K H1 r1 st1 → Still src st1 → ∃ xs, SqT K H1 a xs ∧ VDs K H1 r1 ds xs
/-- a sequence stands while its source does -/
theorem lst_still {K H r st} {d : D} {x : V} {ds : List D} (ht : isTup d = false) (h : seqD d st = some ds) (v : VD K H r d x) : ∃ a, x = .ref a ∧ StillL K H r a ds (srcD d ds) := by
  cases d with
  | lst es => cases h; obtain ⟨a, xs, rfl, h1, h2⟩ := v; exact ⟨a, rfl, fun H1 r1 st1 e s1 _ => ⟨xs, (h1.ext e).sq, h2.ext e⟩⟩
  | scr ns => cases h; obtain ⟨a, rfl, h1⟩ := v; exact ⟨a, rfl, fun H1 r1 st1 e s1 _ => ⟨_, (h1.ext e).sq, VDs.ints ns⟩⟩
  | loc l =>
    obtain ⟨a, rfl, h1⟩ := v
    refine ⟨a, rfl, fun H1 r1 st1 e s1 hs => ?_⟩
    have q := hs (l, ds) (List.mem_singleton.mpr rfl)
    obtain ⟨b, ho, e1, e2, xs, rfl, e3⟩ := s1.obj l _ q
    rw [e.get h1] at e1; cases e1
    exact ⟨xs, .inl (.inl e2), e3⟩
  | tup es => cases ht
  | _ => cases h
theorem tup_still {K H r st} {d : D} {x : V} {ds : List D} (ht : isTup d = true) (h : seqD d st = some ds) (v : VD K H r d x) : ∃ a, x = .ref a ∧ StillT K H r a ds (srcD d ds) := by
  cases d with
  | tup es => cases h; obtain ⟨a, xs, rfl, h1, h2⟩ := v; exact ⟨a, rfl, fun H1 r1 st1 e s1 _ => ⟨xs, (h1.ext e).sq, h2.ext e⟩⟩
  | _ => cases ht
section
variable {X : Cx} {W : WX} {e a b c : Expr} {tg : Expr} {m ma mb : EM} {ms : Env → Sto → Res (List D)} {pos p : Pos}
theorem PI.byRes {α β : Type} {R : Hp → Rho → α → β → Prop} {t t1 t2 : TI} (h1 : PI X tg e t1) (h2 : PI X tg e t2) (i : ∀ σ H Q, t σ H Q → t1 σ H Q ∨ t2 σ H Q) : PI X tg e t := ⟨fun pins s σ H Q I q => by
  rcases i σ H Q q with q | q
  · exact h1.run pins s σ H Q I q
  · exact h2.run pins s σ H Q I q⟩
def iSeq (m : EM) : IM := fun env st => (m env st).bind fun d st1 => match seqD d st1 with
  | some ds => .ok (ds, srcD d ds) st1
  | none => .bad
theorem itl_ok {K : PySem.W.Frag} {H r} {a : Addr} {ds : List D} {src : List (Nat × List D)} (h : ∀ H1 r1 st1, Ext H r H1 r1 → SR K H1 r1 st1 → Still src st1 → ∃ xs, SqL K H1 a xs ∧ VDs K H1 r1 ds xs) : ItOk K (Itl K a) ds src H r :=
  ⟨fun H1 r1 st i e s hs => by
    obtain ⟨xs, h1, h2⟩ := h H1 r1 st e s hs
    refine ⟨fun hi => ?_, fun hi => ⟨xs, h1, by rw [← h2.len]; exact hi⟩, fun d hd x H2 hy => ?_⟩
    · obtain ⟨x, q, _⟩ := h2.get (List.getElem?_eq_getElem hi)
      exact ⟨xs, x, h1, q⟩
    · obtain ⟨rfl, hy⟩ := hy
      obtain ⟨y, q, v⟩ := h2.get hd
      rw [hy xs h1] at q; cases q
      exact ⟨Ext.refl _ _, s, v⟩⟩
theorem itt_ok {K : PySem.W.Frag} {H r} {a : Addr} {ds : List D} {src : List (Nat × List D)} (h : ∀ H1 r1 st1, Ext H r H1 r1 → SR K H1 r1 st1 → Still src st1 → ∃ xs, SqT K H1 a xs ∧ VDs K H1 r1 ds xs) : ItOk K (Itt K a) ds src H r :=
  ⟨fun H1 r1 st i e s hs => by
    obtain ⟨xs, h1, h2⟩ := h H1 r1 st e s hs
    refine ⟨fun hi => ?_, fun hi => ⟨xs, h1, by rw [← h2.len]; exact hi⟩, fun d hd x H2 hy => ?_⟩
    · obtain ⟨x, q, _⟩ := h2.get (List.getElem?_eq_getElem hi)
      exact ⟨xs, x, h1, q⟩
    · obtain ⟨rfl, hy⟩ := hy
      obtain ⟨y, q, v⟩ := h2.get hd
      rw [hy xs h1] at q; cases q
      exact ⟨Ext.refl _ _, s, v⟩⟩
theorem fi_seq (he : FE X W e m) : FI X W tg e (iSeq m) := by
  refine PI.byRes (R := RV X.K) (pi_list he) (pi_tup he) fun σ H Q ⟨r, env, st, hE, hS, h⟩ => ?_
  unfold iSeq at h
  cases q : m env st with
  | bad => rw [q] at h; exact h.elim
  | ex x st1 =>
    left
    refine ⟨r, env, st, hE, hS, ?_⟩
    rw [q] at h ⊢
    exact h
  | ok d st1 =>
    rw [q] at h
    cases q2 : seqD d st1 with
    | none => simp only [Res.bind_ok, q2] at h; exact h.elim
    | some ds =>
      simp only [Res.bind_ok, q2] at h
      cases ht : isTup d with
      | true =>
        right
        refine ⟨r, env, st, hE, hS, ?_⟩
        rw [q]
        intro v H1 r1 e1 s1 v1
        obtain ⟨a, rfl, h3⟩ := tup_still ht q2 v1
        obtain ⟨xs, k1, _⟩ := h3 H1 r1 st1 (Ext.refl _ _) s1 (still_here q2)
        exact ⟨a, rfl, ⟨xs, k1⟩, RES.ok' h e1 s1 (itt_ok h3)⟩
      | false =>
        left
        refine ⟨r, env, st, hE, hS, ?_⟩
        rw [q]
        intro v H1 r1 e1 s1 v1
        obtain ⟨a, rfl, h3⟩ := lst_still ht q2 v1
        obtain ⟨xs, k1, _⟩ := h3 H1 r1 st1 (Ext.refl _ _) s1 (still_here q2)
        exact ⟨a, rfl, ⟨xs, k1⟩, RES.ok' h e1 s1 (itl_ok h3)⟩

/-! ### ranges -/
def rngL (lo hi : Int) : List Int := (List.range (hi - lo).toNat).map fun k => lo + (k : Nat)
def smallI (i : Int) : Prop := -(1000000000 : Int) ≤ i ∧ i ≤ 1000000000
instance (i : Int) : Decidable (smallI i) := inferInstanceAs (Decidable (_ ∧ _))
theorem itr_ok {K : PySem.W.Frag} {H r} {lo : Int} {n : Nat} {f : Nat → Int} (hf : ∀ i, i < n → f i = lo + i) : ItOk K (Itr lo n) ((List.range n).map fun k => .int (f k)) [] H r :=
  ⟨fun H1 r1 st i e s hs => by
    refine ⟨fun hi => by show i < n; simpa using hi, fun hi => by show n ≤ i; simpa using hi, fun d hd x H2 hy => ?_⟩
    obtain ⟨rfl, rfl⟩ := hy
    have hi : i < n := by
      have := (List.getElem?_eq_some_iff.mp hd).1
      simpa using this
    rw [List.getElem?_map, List.getElem?_range hi] at hd
    cases hd
    exact ⟨Ext.refl _ _, s, by show V.int _ = V.int _; rw [hf i hi]⟩⟩
def iRange1 (ms : Env → Sto → Res (List D)) : IM := fun env st => (ms env st).bind fun ds st1 => match ds with
  | [.int j] => if smallI j then .ok ((List.range j.toNat).map fun k => .int (k : Nat), []) st1 else .bad
  | _ => .bad
def iRange2 (ms : Env → Sto → Res (List D)) : IM := fun env st => (ms env st).bind fun ds st1 => match ds with
  | [.int i, .int j] => if smallI i ∧ smallI j then .ok ((List.range (j - i).toNat).map fun k => .int (i + (k : Nat)), []) st1 else .bad
  | _ => .bad
theorem vds_int1 {K H r} {ds : List D} {xs : List V} (h : VDs K H r ds xs) {j : Int} (e : ds = [.int j]) : xs = [.int j] := by
  subst e
  obtain ⟨x, t, rfl, h1, h2⟩ := h
  cases h1; cases h2; rfl
theorem vds_int2 {K H r} {ds : List D} {xs : List V} (h : VDs K H r ds xs) {i j : Int} (e : ds = [.int i, .int j]) : xs = [.int i, .int j] := by
  subst e
  obtain ⟨x, t, rfl, h1, y, u, rfl, h2, h3⟩ := h
  cases h1; cases h2; cases h3; rfl
theorem fi_range1 (hg : Gl X "range") (hm : X.mg "range" = none) (ha : FA X W [a] ms) (hs : starEach [a] X.env = [(false, eval a X.env)] := by rfl) : FI X W tg (.Call (.Name "range" p) [a] [] pos) (iRange1 ms) :=
  PI.imp (pi_range1 hg hm ha hs) fun σ H Q ⟨r, env, st, hE, hS, h⟩ => ⟨r, env, st, hE, hS, RES.seq h fun ds st1 xs H1 r1 e1 s1 v1 h1 => by
    by_cases hd : ∃ j, ds = [.int j]
    · obtain ⟨j, rfl⟩ := hd
      simp only at h1
      by_cases hj : smallI j
      · rw [if_pos hj] at h1
        obtain ⟨j1, j2⟩ := hj
        exact ⟨j, vds_int1 v1 rfl, by omega, by omega, RES.ok h1 s1 (itr_ok fun i _ => by omega)⟩
      · rw [if_neg hj] at h1; exact h1.elim
    · exfalso
      revert h1
      split
      · exact absurd ⟨_, rfl⟩ hd
      · exact fun h => h⟩
theorem fi_range2 (hg : Gl X "range") (hm : X.mg "range" = none) (ha : FA X W [a, b] ms) (hs : starEach [a, b] X.env = [(false, eval a X.env), (false, eval b X.env)] := by rfl) (hs2 : starEach [b] X.env = [(false, eval b X.env)] := by rfl) : FI X W tg (.Call (.Name "range" p) [a, b] [] pos) (iRange2 ms) :=
  PI.imp (pi_range2 hg hm ha hs hs2) fun σ H Q ⟨r, env, st, hE, hS, h⟩ => ⟨r, env, st, hE, hS, RES.seq h fun ds st1 xs H1 r1 e1 s1 v1 h1 => by
    by_cases hd : ∃ i j, ds = [.int i, .int j]
    · obtain ⟨i, j, rfl⟩ := hd
      simp only at h1
      by_cases hj : smallI i ∧ smallI j
      · rw [if_pos hj] at h1
        obtain ⟨⟨i1, i2⟩, j1, j2⟩ := hj
        exact ⟨i, j, vds_int2 v1 rfl, ⟨by omega, by omega, by omega, by omega⟩, RES.ok h1 s1 (itr_ok fun i _ => rfl)⟩
      · rw [if_neg hj] at h1; exact h1.elim
    · exfalso
      revert h1
      split
      · exact absurd ⟨_, _, rfl⟩ hd
      · exact fun h => h⟩

/-! ### enumerate, zip, reversed -/
def numL (ds : List D) : List D := ds.zipIdx.map fun p => .tup [.int (p.2 : Nat), p.1]
def iEnum (ms : Env → Sto → Res (List D)) : IM := fun env st => (ms env st).bind fun ds st1 => match ds with
  | [d] => match seqD d st1 with
    | some es => .ok (numL es, srcD d es) st1
    | none => .bad
  | _ => .bad
theorem new_pair {K H r st} {T : Addr} {x y : V} {d e : D} (s : SR K H r st) (hT : H T = none) (v1 : VD K H r d x) (v2 : VD K H r e y) :
    Ext H r (upd H T (.tup [x, y])) r ∧ SR K (upd H T (.tup [x, y])) r st ∧ VD K (upd H T (.tup [x, y])) r (.tup [d, e]) (.ref T) :=
  ⟨Ext.fresh hT, s.fresh hT, T, _, rfl, .inl ⟨s.notin hT, .inl upd_same⟩, _, _, rfl, v1.ext (Ext.fresh hT), _, _, rfl, v2.ext (Ext.fresh hT), rfl⟩
theorem num_get {ds : List D} {i : Nat} {d : D} (h : (numL ds)[i]? = some d) : ∃ e, ds[i]? = some e ∧ d = .tup [.int (i : Nat), e] := by
  unfold numL at h
  rw [List.getElem?_map, List.getElem?_zipIdx] at h
  cases q : ds[i]? with
  | none => rw [q] at h; cases h
  | some e => rw [q] at h; simp at h; exact ⟨e, rfl, h.symm⟩
theorem num_len (ds : List D) : (numL ds).length = ds.length := by unfold numL; simp
theorem ite_ok {K : PySem.W.Frag} {H r} {a : Addr} {ds : List D} {src : List (Nat × List D)} (h : StillL K H r a ds src) : ItOk K (Ite K a) (numL ds) src H r :=
  ⟨fun H1 r1 st i e s hs => by
    obtain ⟨xs, h1, h2⟩ := h H1 r1 st e s hs
    rw [num_len]
    refine ⟨fun hi => ?_, fun hi => ⟨xs, h1, by rw [← h2.len]; exact hi⟩, fun d hd x H2 hy => ?_⟩
    · obtain ⟨x, q, _⟩ := h2.get (List.getElem?_eq_getElem hi)
      exact ⟨xs, x, h1, q⟩
    · obtain ⟨T, y, rfl, hT, rfl, hy⟩ := hy
      obtain ⟨e', q, rfl⟩ := num_get hd
      obtain ⟨z, q2, v⟩ := h2.get q
      rw [hy xs h1] at q2; cases q2
      exact new_pair s hT rfl v⟩
theorem iteT_ok {K : PySem.W.Frag} {H r} {a : Addr} {ds : List D} {src : List (Nat × List D)} (h : StillT K H r a ds src) : ItOk K (IteT K a) (numL ds) src H r :=
  ⟨fun H1 r1 st i e s hs => by
    obtain ⟨xs, h1, h2⟩ := h H1 r1 st e s hs
    rw [num_len]
    refine ⟨fun hi => ?_, fun hi => ⟨xs, h1, by rw [← h2.len]; exact hi⟩, fun d hd x H2 hy => ?_⟩
    · obtain ⟨x, q, _⟩ := h2.get (List.getElem?_eq_getElem hi)
      exact ⟨xs, x, h1, q⟩
    · obtain ⟨T, y, rfl, hT, rfl, hy⟩ := hy
      obtain ⟨e', q, rfl⟩ := num_get hd
      obtain ⟨z, q2, v⟩ := h2.get q
      rw [hy xs h1] at q2; cases q2
      exact new_pair s hT rfl v⟩
theorem fi_enum {elts : List Expr} {kk : Nat} {tpos : Pos} (hg : Gl X "enumerate") (hm : X.mg "enumerate" = none) (ha : FA X W [a] ms) (hs : starEach [a] X.env = [(false, eval a X.env)] := by rfl) :
    FI X W (.Tuple elts kk tpos) (.Call (.Name "enumerate" p) [a] [] pos) (iEnum ms) :=
  PI.imp (pi_enumA hg hm ha hs) fun σ H Q ⟨r, env, st, hE, hS, h⟩ => ⟨r, env, st, hE, hS, RES.seq h fun ds st1 xs H1 r1 e1 s1 v1 h1 => by
    match ds, v1, h1 with
    | [d], v1, h1 =>
      obtain ⟨x, t, rfl, w1, w2⟩ := v1
      cases w2
      cases q : seqD d st1 with
      | none => simp only [q] at h1; exact h1.elim
      | some es =>
        simp only [q] at h1
        cases ht : isTup d with
        | true =>
          obtain ⟨a, rfl, h3⟩ := tup_still ht q w1
          obtain ⟨xs, k1, _⟩ := h3 H1 r1 st1 (Ext.refl _ _) s1 (still_here q)
          exact ⟨a, xs, rfl, .inr ⟨k1, RES.ok h1 s1 (iteT_ok h3)⟩⟩
        | false =>
          obtain ⟨a, rfl, h3⟩ := lst_still ht q w1
          obtain ⟨xs, k1, _⟩ := h3 H1 r1 st1 (Ext.refl _ _) s1 (still_here q)
          exact ⟨a, xs, rfl, .inl ⟨k1, RES.ok h1 s1 (ite_ok h3)⟩⟩
    | [], _, h1 => exact h1.elim
    | _ :: _ :: _, _, h1 => exact h1.elim⟩
def pairL (ds es : List D) : List D := (ds.zip es).map fun p => .tup [p.1, p.2]
def iZip (ms : Env → Sto → Res (List D)) : IM := fun env st => (ms env st).bind fun ds st1 => match ds with
  | [d, e] => if isTup d = isTup e then (match seqD d st1, seqD e st1 with
    | some xs, some ys => .ok (pairL xs ys, srcD d xs ++ srcD e ys) st1
    | _, _ => .bad) else .bad
  | _ => .bad
theorem pair_get {ds es : List D} {i : Nat} {d : D} (h : (pairL ds es)[i]? = some d) : ∃ x y, ds[i]? = some x ∧ es[i]? = some y ∧ d = .tup [x, y] := by
  unfold pairL at h
  rw [List.getElem?_map] at h
  cases q : (ds.zip es)[i]? with
  | none => rw [q] at h; cases h
  | some p =>
    rw [q] at h
    obtain ⟨h1, h2⟩ := List.getElem?_zip_eq_some.mp q
    cases h
    exact ⟨p.1, p.2, h1, h2, rfl⟩
theorem pair_len (ds es : List D) : (pairL ds es).length = min ds.length es.length := by unfold pairL; simp
theorem itz_ok {K : PySem.W.Frag} {H r} {a b : Addr} {ds es : List D} {s1 s2 : List (Nat × List D)} (h : StillL K H r a ds s1) (h' : StillL K H r b es s2) : ItOk K (Itz K a b) (pairL ds es) (s1 ++ s2) H r :=
  ⟨fun H1 r1 st i e s hs => by
    obtain ⟨xs, h1, h2⟩ := h H1 r1 st e s fun p hp => hs p (List.mem_append_left _ hp)
    obtain ⟨ys, h3, h4⟩ := h' H1 r1 st e s fun p hp => hs p (List.mem_append_right _ hp)
    rw [pair_len]
    refine ⟨fun hi => ?_, fun hi => ⟨xs, ys, h1, h3, by rw [← h2.len, ← h4.len]; omega⟩, fun d hd x H2 hy => ?_⟩
    · obtain ⟨x, q, _⟩ := h2.get (List.getElem?_eq_getElem (show i < ds.length by omega))
      obtain ⟨y, q', _⟩ := h4.get (List.getElem?_eq_getElem (show i < es.length by omega))
      exact ⟨xs, ys, x, y, h1, h3, q, q'⟩
    · obtain ⟨T, x, y, rfl, hT, rfl, hx, hy⟩ := hy
      obtain ⟨d1, d2, q1, q2, rfl⟩ := pair_get hd
      obtain ⟨z, q3, v⟩ := h2.get q1
      obtain ⟨z', q4, v'⟩ := h4.get q2
      rw [hx xs h1] at q3; cases q3
      rw [hy ys h3] at q4; cases q4
      exact new_pair s hT v v'⟩
theorem itzT_ok {K : PySem.W.Frag} {H r} {a b : Addr} {ds es : List D} {s1 s2 : List (Nat × List D)} (h : StillT K H r a ds s1) (h' : StillT K H r b es s2) : ItOk K (RZ.ItzT K a b) (pairL ds es) (s1 ++ s2) H r :=
  ⟨fun H1 r1 st i e s hs => by
    obtain ⟨xs, h1, h2⟩ := h H1 r1 st e s fun p hp => hs p (List.mem_append_left _ hp)
    obtain ⟨ys, h3, h4⟩ := h' H1 r1 st e s fun p hp => hs p (List.mem_append_right _ hp)
    rw [pair_len]
    refine ⟨fun hi => ?_, fun hi => ⟨xs, ys, h1, h3, by rw [← h2.len, ← h4.len]; omega⟩, fun d hd x H2 hy => ?_⟩
    · obtain ⟨x, q, _⟩ := h2.get (List.getElem?_eq_getElem (show i < ds.length by omega))
      obtain ⟨y, q', _⟩ := h4.get (List.getElem?_eq_getElem (show i < es.length by omega))
      exact ⟨xs, ys, x, y, h1, h3, q, q'⟩
    · obtain ⟨T, x, y, rfl, hT, rfl, hx, hy⟩ := hy
      obtain ⟨d1, d2, q1, q2, rfl⟩ := pair_get hd
      obtain ⟨z, q3, v⟩ := h2.get q1
      obtain ⟨z', q4, v'⟩ := h4.get q2
      rw [hx xs h1] at q3; cases q3
      rw [hy ys h3] at q4; cases q4
      exact new_pair s hT v v'⟩
theorem fi_zip {elts : List Expr} {kk : Nat} {tpos : Pos} (hg : Gl X "zip") (hm : X.mg "zip" = none) (ha : FA X W [a, b] ms)
    (hs : starEach [a, b] X.env = (false, eval a X.env) :: starEach [b] X.env := by rfl) (hpl : (backTo pos (starEach [b] X.env)).any (·.1) = false := by rfl) :
    FI X W (.Tuple elts kk tpos) (.Call (.Name "zip" p) [a, b] [] pos) (iZip ms) :=
  PI.imp (RZ.pi_zipA hg hm ha hs hpl) fun σ H Q ⟨r, env, st, hE, hS, h⟩ => ⟨r, env, st, hE, hS, RES.seq h fun ds st1 xs H1 r1 e1 s1 v1 h1 => by
    match ds, v1, h1 with
    | [d, e], v1, h1 =>
      obtain ⟨x, t, rfl, w1, y, u, rfl, w2, w3⟩ := v1
      cases w3
      simp only at h1
      by_cases hk : isTup d = isTup e
      · rw [if_pos hk] at h1
        cases q : seqD d st1 with
        | none => simp only [q] at h1; exact h1.elim
        | some es =>
          cases q' : seqD e st1 with
          | none => simp only [q, q'] at h1; exact h1.elim
          | some es' =>
            simp only [q, q'] at h1
            cases ht : isTup d with
            | true =>
              obtain ⟨a, rfl, h3⟩ := tup_still ht q w1
              obtain ⟨b, rfl, h4⟩ := tup_still (hk ▸ ht) q' w2
              obtain ⟨xs, k1, _⟩ := h3 H1 r1 st1 (Ext.refl _ _) s1 (still_here q)
              obtain ⟨ys, k2, _⟩ := h4 H1 r1 st1 (Ext.refl _ _) s1 (still_here q')
              exact ⟨a, b, xs, ys, rfl, .inr ⟨k1, k2, RES.ok h1 s1 (itzT_ok h3 h4)⟩⟩
            | false =>
              obtain ⟨a, rfl, h3⟩ := lst_still ht q w1
              obtain ⟨b, rfl, h4⟩ := lst_still (hk ▸ ht) q' w2
              obtain ⟨xs, k1, _⟩ := h3 H1 r1 st1 (Ext.refl _ _) s1 (still_here q)
              obtain ⟨ys, k2, _⟩ := h4 H1 r1 st1 (Ext.refl _ _) s1 (still_here q')
              exact ⟨a, b, xs, ys, rfl, .inl ⟨k1, k2, RES.ok h1 s1 (itz_ok h3 h4)⟩⟩
      · rw [if_neg hk] at h1; exact h1.elim
    | [], _, h1 => exact h1.elim
    | [_], _, h1 => exact h1.elim
    | _ :: _ :: _ :: _, _, h1 => exact h1.elim⟩
def iRev (m : EM) : IM := fun env st => (m env st).bind fun d st1 => match seqD d st1 with
  | some ds => .ok (ds.reverse, srcR d ds) st1
  | none => .bad
where srcR : D → List D → List (Nat × List D)
  | .loc l, ds => [(l, ds)]
  | _, _ => []
theorem srcR_eq (d : D) (ds : List D) : iRev.srcR d ds = srcD d ds := by cases d <;> rfl
theorem itv_ok {K : PySem.W.Frag} {H r} {a : Addr} {ds : List D} {src : List (Nat × List D)} {n : Nat} (hn : n = ds.length) (h : StillL K H r a ds src) : ItOk K (Itv K a n) ds.reverse src H r :=
  ⟨fun H1 r1 st i e s hs => by
    subst hn
    obtain ⟨xs, h1, h2⟩ := h H1 r1 st e s hs
    rw [List.length_reverse]
    refine ⟨fun hi => ?_, fun hi => hi, fun d hd x H2 hy => ?_⟩
    · obtain ⟨x, q, _⟩ := h2.get (List.getElem?_eq_getElem (show ds.length - 1 - i < ds.length by omega))
      exact ⟨hi, xs, x, h1, q⟩
    · obtain ⟨rfl, hy⟩ := hy
      have hi : i < ds.length := by
        have := (List.getElem?_eq_some_iff.mp hd).1
        simpa using this
      rw [List.getElem?_reverse hi] at hd
      obtain ⟨y, q, v⟩ := h2.get hd
      rw [hy xs h1] at q; cases q
      exact ⟨Ext.refl _ _, s, v⟩⟩
theorem itvT_ok {K : PySem.W.Frag} {H r} {a : Addr} {ds : List D} {src : List (Nat × List D)} {n : Nat} (hn : n = ds.length) (h : StillT K H r a ds src) : ItOk K (RT.ItvT K a n) ds.reverse src H r :=
  ⟨fun H1 r1 st i e s hs => by
    subst hn
    obtain ⟨xs, h1, h2⟩ := h H1 r1 st e s hs
    rw [List.length_reverse]
    refine ⟨fun hi => ?_, fun hi => hi, fun d hd x H2 hy => ?_⟩
    · obtain ⟨x, q, _⟩ := h2.get (List.getElem?_eq_getElem (show ds.length - 1 - i < ds.length by omega))
      exact ⟨hi, xs, x, h1, q⟩
    · obtain ⟨rfl, hy⟩ := hy
      have hi : i < ds.length := by
        have := (List.getElem?_eq_some_iff.mp hd).1
        simpa using this
      rw [List.getElem?_reverse hi] at hd
      obtain ⟨y, q, v⟩ := h2.get hd
      rw [hy xs h1] at q; cases q
      exact ⟨Ext.refl _ _, s, v⟩⟩
theorem fi_rev (hg : Gl X "reversed") (hm : X.mg "reversed" = none) (he : FE X W a m) (hs : starEach [a] X.env = (false, eval a X.env) :: starEach [] X.env := by rfl) : FI X W tg (.Call (.Name "reversed" p) [a] [] pos) (iRev m) :=
  PI.imp (RT.pi_revA hg hm he hs) fun σ H Q ⟨r, env, st, hE, hS, h⟩ => ⟨r, env, st, hE, hS, RES.seq h fun d st1 x H1 r1 e1 s1 v1 h1 => by
    cases q : seqD d st1 with
    | none => simp only [q] at h1; exact h1.elim
    | some es =>
      simp only [q, srcR_eq] at h1
      cases ht : isTup d with
      | true =>
        obtain ⟨a, rfl, h3⟩ := tup_still ht q v1
        obtain ⟨xs, k1, k2⟩ := h3 H1 r1 st1 (Ext.refl _ _) s1 (still_here q)
        exact ⟨a, xs, rfl, .inr ⟨k1, RES.ok h1 s1 (itvT_ok k2.len.symm h3)⟩⟩
      | false =>
        obtain ⟨a, rfl, h3⟩ := lst_still ht q v1
        obtain ⟨xs, k1, k2⟩ := h3 H1 r1 st1 (Ext.refl _ _) s1 (still_here q)
        exact ⟨a, xs, rfl, .inl ⟨k1, RES.ok h1 s1 (itv_ok k2.len.symm h3)⟩⟩⟩
/-- a text, sign by sign -/
def iStrM (m : EM) : IM := fun env st => (m env st).bind fun d st1 => match d with
  | .str z => .ok (z.cps.toList.map fun c => .str ⟨#[c]⟩, []) st1
  | _ => .bad
theorem its_ok {K : PySem.W.Frag} {H r} {z : Str} : ItOk K (Its z) (z.cps.toList.map fun c => .str ⟨#[c]⟩) [] H r :=
  ⟨fun H1 r1 st i e s hs => by
    refine ⟨fun hi => by show i < z.cps.size; simpa using hi, fun hi => by show z.cps.size ≤ i; simpa using hi, fun d hd x H2 hy => ?_⟩
    obtain ⟨rfl, c, hc, rfl⟩ := hy
    rw [List.getElem?_map, Array.getElem?_toList, hc] at hd
    cases hd
    exact ⟨Ext.refl _ _, s, rfl⟩⟩
theorem fi_str (he : FE X W e m) : FI X W tg e (iStrM m) := PI.imp (pi_str he) fun σ H Q ⟨r, env, st, hE, hS, h⟩ => ⟨r, env, st, hE, hS, RES.seq h fun d st1 x H1 r1 e1 s1 v1 h1 => by
  cases d with
  | str z => cases v1; exact ⟨z, rfl, RES.ok h1 s1 its_ok⟩
  | _ => exact h1.elim⟩
end
end FL

namespace FL
open PySem PySem.Spec PyProof.Rows L2

/-! ### an object kept apart -/
def Rho.add (r : Rho) (a : Addr) : Rho := ⟨r.ad, a :: r.pv⟩
def Rho.rem (r : Rho) (a : Addr) : Rho := ⟨r.ad, r.pv.filter fun b => decide (b ≠ a)⟩
def rmH (H : Hp) (a : Addr) : Hp := fun b => if b = a then none else H b
theorem rmH_same {H : Hp} {a : Addr} : rmH H a a = none := if_pos rfl
theorem rmH_ne {H : Hp} {a b : Addr} (h : b ≠ a) : rmH H a b = H b := if_neg h
theorem upd_rmH {H : Hp} {a : Addr} {o : HO} (h : H a = some o) : upd (rmH H a) a o = H := by
  funext b
  unfold upd rmH
  by_cases hb : b = a
  · rw [if_pos hb, hb, h]
  · rw [if_neg hb, if_neg hb]
theorem Ext.apart {H r} {p : Addr} {o : HO} (h : H p = none) : Ext H r (upd H p o) (r.add p) :=
  ⟨⟨[], [p], by simp [Rho.add, Rho.app], by simp, fun a ha => by rw [List.mem_singleton.mp ha]; exact h⟩, fun a o' _ e => by rw [upd_ne (ne_of_none e h)]; exact e⟩
theorem SR.add {K H r st} (s : SR K H r st) {p : Addr} {o : HO} (h : H p = none) : SR K (upd H p o) (r.add p) st := by
  have e := Ext.apart (r := r) (o := o) h
  refine ⟨s.len, s.nd, fun l so q => ?_, fun a ha => ?_⟩
  · obtain ⟨a, x, h1, h2, h3⟩ := s.obj l so q
    exact ⟨a, x, h1, by rw [upd_ne (ne_of_none h2 h)]; exact h2, h3.ext e⟩
  · rcases List.mem_cons.mp ha with rfl | ha
    · exact ⟨s.notad h, o, upd_same⟩
    · obtain ⟨h1, o', h2⟩ := s.apart a ha
      exact ⟨h1, o', by rw [upd_ne (ne_of_none h2 h)]; exact h2⟩
theorem out_ne {r : Rho} {p a : Addr} (hp : p ∈ r.pv) (h : r.out a) : a ≠ p := fun e => h.2 (e ▸ hp)
theorem out_rem {r : Rho} {p a : Addr} (h : r.out a) : (r.rem p).out a := ⟨h.1, fun q => h.2 (List.mem_filter.mp q).1⟩
theorem Rd.to {H H' : Hp} {a : Addr} {u : HO} (e : H' a = H a) (h : Rd H a u) : Rd H' a u := by
  rcases h with h | ⟨o, h⟩
  · exact .inl (e.trans h)
  · exact .inr ⟨o, e.trans h⟩
theorem ExcAt.free {K H H' r r'} {p : Addr} {cls ns a vs} (hp : p ∈ r.pv) (hH : ∀ a, a ≠ p → H' a = H a) (ho : ∀ a, r.out a → r'.out a) (h : ExcAt K H r cls ns a vs) : ExcAt K H' r' cls ns a vs := by
  obtain ⟨C, d, h1, h2, h3, h4⟩ := h
  refine ⟨C, d, ho a h1, h2, (hH a (out_ne hp h1)).trans h3, ?_⟩
  rcases h4 with h4 | ⟨dd, h5, h6, h7, h8⟩
  · exact .inl h4
  · exact .inr ⟨dd, h5, ho dd h6, (hH dd (out_ne hp h6)).trans h7, h8⟩
mutual
/-- H may change at what is kept apart; it may be let go -/
theorem VD.free {K H H' r r'} {p : Addr} (hp : p ∈ r.pv) (hH : ∀ a, a ≠ p → H' a = H a) (hr : r'.ad = r.ad) (ho : ∀ a, r.out a → r'.out a) : ∀ (d : D) (v : V), VD K H r d v → VD K H' r' d v
  | .non, _, h => h
  | .bl _, _, h => h
  | .int _, _, h => h
  | .str _, _, h => h
  | .tup ds, v, h => by
    obtain ⟨a, xs, h1, h2, h3⟩ := h
    refine ⟨a, xs, h1, ?_, VDs.free hp hH hr ho ds xs h3⟩
    rcases h2 with ⟨h4, h5⟩ | h2
    · exact .inl ⟨ho a h4, Rd.to (hH a (out_ne hp h4)) h5⟩
    · exact .inr h2
  | .lst ds, v, h => by
    obtain ⟨a, xs, h1, h2, h3⟩ := h
    exact ⟨a, xs, h1, ⟨ho a h2.1, (hH a (out_ne hp h2.1)).trans h2.2⟩, VDs.free hp hH hr ho ds xs h3⟩
  | .loc l, v, h => by
    obtain ⟨a, h1, h2⟩ := h
    exact ⟨a, h1, by rw [hr]; exact h2⟩
  | .scr ns, v, h => by
    obtain ⟨a, h1, h2⟩ := h
    refine ⟨a, h1, ?_⟩
    rcases h2 with ⟨h4, h5⟩ | h2
    · exact .inl ⟨ho a h4, Rd.to (hH a (out_ne hp h4)) h5⟩
    · exact .inr h2
  | .exc cls ns ds, v, h => by
    obtain ⟨a, xs, h1, h2, h3⟩ := h
    exact ⟨a, xs, h1, h2.free hp hH ho, VDs.free hp hH hr ho ds xs h3⟩
theorem VDs.free {K H H' r r'} {p : Addr} (hp : p ∈ r.pv) (hH : ∀ a, a ≠ p → H' a = H a) (hr : r'.ad = r.ad) (ho : ∀ a, r.out a → r'.out a) : ∀ (ds : List D) (xs : List V), VDs K H r ds xs → VDs K H' r' ds xs
  | [], _, h => h
  | d :: ds, xs, h => by
    obtain ⟨x, t, h1, h2, h3⟩ := h
    exact ⟨x, t, h1, VD.free hp hH hr ho d x h2, VDs.free hp hH hr ho ds t h3⟩
end
theorem OD.free {K H H' r r'} {p : Addr} (hp : p ∈ r.pv) (hH : ∀ a, a ≠ p → H' a = H a) (hr : r'.ad = r.ad) (ho : ∀ a, r.out a → r'.out a) : ∀ (o : SO) (h : HO), OD K H r o h → OD K H' r' o h
  | .lst ds, h, ⟨xs, h1, h2⟩ => ⟨xs, h1, h2.free hp hH hr ho⟩
  | .dic kvs, h, ⟨xs, h1, h2⟩ => ⟨xs, h1, paired_imp (fun _ _ q => ⟨q.1, q.2.free hp hH hr ho⟩) h2⟩
theorem SR.free {K H H' r r' st} {p : Addr} (s : SR K H r st) (hp : p ∈ r.pv) (hH : ∀ a, a ≠ p → H' a = H a) (hr : r'.ad = r.ad) (ho : ∀ a, r.out a → r'.out a) (hq : ∀ a ∈ r'.pv, a ∈ r.pv ∧ (a = p → ∃ o, H' p = some o)) : SR K H' r' st := by
  refine ⟨by rw [hr]; exact s.len, by rw [hr]; exact s.nd, fun l so q => ?_, fun a ha => ?_⟩
  · obtain ⟨a, x, h1, h2, h3⟩ := s.obj l so q
    have hne : a ≠ p := by
      rintro rfl
      exact (s.apart a hp).1 (List.mem_of_getElem? h1)
    exact ⟨a, x, by rw [hr]; exact h1, (hH a hne).trans h2, h3.free hp hH hr ho⟩
  · obtain ⟨h1, h2⟩ := hq a ha
    obtain ⟨h3, o, h4⟩ := s.apart a h1
    refine ⟨by rw [hr]; exact h3, ?_⟩
    by_cases e : a = p
    · subst e; exact h2 rfl
    · exact ⟨o, (hH a e).trans h4⟩
theorem ER.free {K H H' r r' env σ} {p : Addr} (x : ER K H r env σ) (hp : p ∈ r.pv) (hH : ∀ a, a ≠ p → H' a = H a) (hr : r'.ad = r.ad) (ho : ∀ a, r.out a → r'.out a) : ER K H' r' env σ := ⟨x.len, fun i d h => by
  obtain ⟨v, h1, h2⟩ := x.get i d h
  exact ⟨v, h1, h2.free hp hH hr ho⟩⟩

/-! ### [e for x in xs if t] -/
def wipeE (env : Env) (vs : List Nat) : Env := vs.foldl (fun e k => e.set k none) env
theorem wipe_same {σ σ' : L2.St} {vs : List Nat} (h : FL.Only vs (wipe σ vs) σ') : wipe σ' vs = wipe σ vs := by
  apply List.ext_getElem?
  intro j
  have hw : ∀ (τ : L2.St) (ws : List Nat) (j : Nat), (wipe τ ws)[j]? = if j ∈ ws ∧ j < τ.length then some none else τ[j]? := by
    intro τ ws
    induction ws with
    | nil => intro j; simp [wipe]
    | cons w ws ih =>
      intro j
      show ((wipe τ ws).set w none)[j]? = _
      by_cases hj : w = j
      · subst hj
        by_cases hl : w < τ.length
        · rw [List.getElem?_set_self (by rw [wipe_length]; exact hl), if_pos ⟨List.mem_cons_self, hl⟩]
        · rw [List.getElem?_eq_none (by rw [List.length_set, wipe_length]; omega), if_neg (fun q => hl q.2), List.getElem?_eq_none (by omega)]
      · rw [List.getElem?_set_ne hj, ih j]
        have : (j ∈ w :: ws ∧ j < τ.length) ↔ (j ∈ ws ∧ j < τ.length) := by
          simp only [List.mem_cons]
          constructor
          · rintro ⟨h | h, h'⟩
            · exact absurd h.symm hj
            · exact ⟨h, h'⟩
          · rintro ⟨h, h'⟩; exact ⟨.inr h, h'⟩
        simp only [this]
  have hl : σ'.length = σ.length := h.1.trans (wipe_length σ vs)
  rw [hw σ' vs j, hw σ vs j, hl]
  by_cases hj : j ∈ vs ∧ j < σ.length
  · rw [if_pos hj, if_pos hj]
  · rw [if_neg hj, if_neg hj]
    by_cases hv : j ∈ vs
    · have : ¬ j < σ.length := fun q => hj ⟨hv, q⟩
      rw [List.getElem?_eq_none (by omega), List.getElem?_eq_none (by omega)]
    · rw [h.2 j hv, hw σ vs j, if_neg (fun q => hv q.1)]
theorem ER.wiped {K H r env σ} (x : ER K H r env σ) : ∀ vs : List Nat, ER K H r (wipeE env vs) (wipe σ vs) := by
  intro vs
  have h0 : ∀ (ws : List Nat) (e : Env) (τ : L2.St), ER K H r e τ → (∀ i d, e[i]? = some (some d) → i ∉ ws) → ER K H r e (wipe τ ws) := by
    intro ws e τ hx hn
    refine ⟨by rw [wipe_length]; exact hx.len, fun i d q => ?_⟩
    obtain ⟨v, h1, h2⟩ := hx.get i d q
    refine ⟨v, ?_, h2⟩
    have hi := hn i d q
    clear hn q
    induction ws with
    | nil => exact h1
    | cons w ws ih =>
      show ((wipe τ ws).set w none)[i]? = _
      rw [List.getElem?_set_ne (fun e => hi (by rw [e]; exact List.mem_cons_self))]
      exact ih fun q => hi (List.mem_cons_of_mem _ q)
  refine h0 vs _ _ (ER.kills vs x) fun i d q hi => ?_
  have hk : ∀ (ws : List Nat) (e : Env), (∀ d, e[i]? ≠ some (some d)) → ∀ d, (ws.foldl (fun e k => e.set k none) e)[i]? ≠ some (some d) := by
    intro ws
    induction ws with
    | nil => intro e h; exact h
    | cons w ws ih =>
      intro e h
      refine ih _ fun d q => ?_
      by_cases hw : w = i
      · subst hw
        by_cases hl : w < e.length
        · rw [List.getElem?_set_self hl] at q; cases q
        · rw [List.getElem?_eq_none (by simpa using hl)] at q; cases q
      · rw [List.getElem?_set_ne hw] at q
        exact h d q
  have hm : ∀ (ws : List Nat) (e : Env), i ∈ ws → ∀ d, (ws.foldl (fun e k => e.set k none) e)[i]? ≠ some (some d) := by
    intro ws
    induction ws with
    | nil => intro e h; cases h
    | cons w ws ih =>
      intro e h
      by_cases hw : w = i
      · subst hw
        refine hk ws _ fun d q => ?_
        by_cases hl : w < e.length
        · rw [List.getElem?_set_self hl] at q; cases q
        · rw [List.getElem?_eq_none (by simpa using hl)] at q; cases q
      · rcases List.mem_cons.mp h with h | h
        · exact absurd h.symm hw
        · exact ih _ h
  exact hm vs env hi d q
def compL (src : List (Nat × List D)) (g : GM) (tt : Env → Sto → Res Bool) (te : EM) (env : Env) : List D → Sto → List D → Res (List D)
  | [], st, acc => if stillB src st = true then .ok acc st else .bad
  | d :: ds, st, acc => if stillB src st = true then (match g d env st with
    | .ok env1 st1 => (match tt env1 st1 with
      | .ok k st2 => if k = true then (match te env1 st2 with
        | .ok v st3 => if acc.length < 1000000 then compL src g tt te env ds st3 (acc ++ [v]) else .bad
        | _ => .bad) else compL src g tt te env ds st2 acc
      | _ => .bad)
    | _ => .bad) else .bad
def nComp (vs : List Nat) (mi : IM) (g : GM) (tt : Env → Sto → Res Bool) (te : EM) : Env → Sto → Res (List D) := fun env st => (mi env st).bind fun p st1 => compL p.2 g tt te (wipeE env vs) p.1 st1 []
def noTest : Env → Sto → Res Bool := fun _ st => .ok true st
def E0W : WX := fun _ _ _ _ => False
abbrev FTs (X : Cx) (W : WX) (es : List Expr) (m : Env → Sto → Res Bool) : Prop := PTs X es (tT X.K X.mg W m)
theorem fts_nil {X : Cx} {W : WX} : FTs X W [] noTest := ⟨fun pins s σ H Q I ⟨r, env, st, hE, hS, h⟩ => pts_nil.run pins s σ H Q I (RES.ok h hS rfl)⟩
theorem fts_one {X : Cx} {W : WX} {c : Expr} {m : Env → Sto → Res Bool} (h : FT X W c m) : FTs X W [c] m := pts_one h
section
variable {X : Cx} {W : WX} {elt tg iter : Expr} {ifs : List Expr} {scope : Scope} {own : List (Str × Nat)} {pos : Pos} {mi : IM} {g : GM} {tt : Env → Sto → Res Bool} {te : EM} {sl : List Nat}
theorem ext_rem {K H1 r1 st1 H2 r2} (s1 : SR K H1 r1 st1) (e : Ext H1 r1 H2 r2) {p : Addr} (hp : H1 p = none) : Ext H1 r1 (rmH H2 p) (r2.rem p) := by
  obtain ⟨t, q, rfl, ht, hq⟩ := id e.pre
  refine ⟨⟨t, q.filter fun b => decide (b ≠ p), ?_, ht, fun a ha => hq a (List.mem_filter.mp ha).1⟩, fun a o h1 h2 => by rw [rmH_ne (ne_of_none h2 hp)]; exact e.keep a o h1 h2⟩
  have h1 : r1.pv.filter (fun b => decide (b ≠ p)) = r1.pv := List.filter_eq_self.mpr fun a ha => by
    obtain ⟨_, o, h⟩ := s1.apart a ha
    exact decide_eq_true (ne_of_none h hp)
  unfold Rho.rem Rho.app
  simp only [List.filter_append, h1]
theorem sim_comp {vs : List Nat} (hsl : ∀ j ∈ sl, j ∈ vs) {σ : L2.St} {H : Hp} {Q : VK} (q : tN X.K X.mg W (nComp vs mi g tt te) σ H Q) :
    tLc (tI X.K X.mg W mi) (tG X.K X.mg E0W sl g) (tT X.K X.mg E0W tt) (tM X.K X.mg E0W te) vs σ H Q := by
  obtain ⟨r, env, st, hE, hS, h⟩ := q
  refine ⟨r, env, st, hE, hS, RES.seq h fun p st1 J H1 r1 e1 s1 it h1 => ?_⟩
  intro D hD
  refine ⟨fun i m H2 => m = p.1.length - i ∧ ∃ r2 st2 acc xs, D ∈ r2.pv ∧ H2 D = some (.lst xs) ∧ Ext H1 r1 H2 r2 ∧ SR X.K H2 r2 st2 ∧ VDs X.K H2 r2 acc xs ∧
      RES X.K X.mg (RVs X.K) (WE W σ) H1 r1 (compL p.2 g tt te (wipeE env vs) (p.1.drop i) st2 acc) (fun xs H1 => ∀ p, H1 p = none → Q (.ref p) (upd H1 p (.lst xs))),
    ⟨p.1.length, rfl, r1.add D, st1, [], [], List.mem_cons_self, upd_same, Ext.apart hD, s1.add hD, rfl, h1⟩, ?_⟩
  rintro i m H2 ⟨rfl, r2, st2, acc, xs, hp, hd, e2, s2, v2, h2⟩
  cases qd : p.1.drop i with
  | nil =>
    have hi : p.1.length ≤ i := by
      have := congrArg List.length qd
      rw [List.length_drop] at this
      simp at this; omega
    rw [qd] at h2
    unfold compL at h2
    by_cases hst : stillB p.2 st2 = true
    · rw [if_pos hst] at h2
      refine .inl ⟨(it.run H2 r2 st2 i e2 s2 (still_iff.mp hst)).2.1 hi, ?_⟩
      have hH : ∀ a, a ≠ D → rmH H2 D a = H2 a := fun a ha => rmH_ne ha
      have k := RES.ok' h2 (ext_rem s1 e2 hD) (s2.free (r' := r2.rem D) hp hH rfl (fun a ha => out_rem ha) fun a ha => ⟨(List.mem_filter.mp ha).1, fun e => by
        have := (List.mem_filter.mp ha).2
        rw [e] at this; simp at this⟩) (VDs.free (r' := r2.rem D) hp hH rfl (fun a ha => out_rem ha) acc xs v2) D rmH_same
      rw [upd_rmH hd] at k
      exact k
    · rw [if_neg hst] at h2; exact h2.elim
  | cons d ds =>
    have hi : i < p.1.length := by
      have := congrArg List.length qd
      rw [List.length_drop] at this
      simp at this; omega
    have hdi : p.1[i]? = some d := by
      have := congrArg (·[0]?) qd
      simpa using this
    have hds : p.1.drop (i + 1) = ds := by
      have := congrArg (List.drop 1) qd
      rw [List.drop_drop] at this
      simpa using this
    rw [qd] at h2
    unfold compL at h2
    by_cases hst : stillB p.2 st2 = true
    · rw [if_pos hst] at h2
      obtain ⟨k1, k2, k3⟩ := it.run H2 r2 st2 i e2 s2 (still_iff.mp hst)
      refine .inr ⟨k1 hi, _, fun H' hN => ⟨p.1.length - (i + 1), by omega, rfl, hN⟩, fun x H3 hy => ?_⟩
      obtain ⟨e3, s3, v3⟩ := k3 d hdi x H3 hy
      have eE : Ext H1 r1 H3 r2 := e2.trans s2 e3
      have hE3 : ER X.K H3 r2 (wipeE env vs) (wipe σ vs) := ER.wiped ((hE.ext e1).ext eE) vs
      refine ⟨r2, wipeE env vs, st2, d, hE3, s3, v3, ?_⟩
      cases qg : g d (wipeE env vs) st2 with
      | bad => rw [qg] at h2; exact h2.elim
      | ex x st' => rw [qg] at h2; exact h2.elim
      | ok env1 st3 =>
        simp only [qg] at h2
        intro σ4 H4 r4 e4 s4 hE4 o4
        refine ⟨wipe_same (o4.mono hsl), r4, env1, st3, hE4, s4, ?_⟩
        have eE4 : Ext H1 r1 H4 r4 := eE.trans s3 e4
        cases qt : tt env1 st3 with
        | bad => rw [qt] at h2; exact h2.elim
        | ex x st' => rw [qt] at h2; exact h2.elim
        | ok k st4 =>
          simp only [qt] at h2
          intro k' H5 r5 e5 s5 hk
          cases hk
          have pv5 : D ∈ r5.pv := by
            obtain ⟨t, q, rfl, _⟩ := e4.pre
            obtain ⟨t', q', rfl, _⟩ := e5.pre
            exact List.mem_append_right _ (List.mem_append_right _ hp)
          have keepD : ∀ {Ha Hb : Hp} {ra rb : Rho} {sa : Sto}, Ext Ha ra Hb rb → SR X.K Ha ra sa → D ∈ ra.pv → ∀ {o}, Ha D = some o → Hb D = some o := fun {Ha Hb ra rb sa} e s hp {o} h => e.keep D o (s.apart D hp).1 h
          have pv4 : D ∈ r4.pv := by
            obtain ⟨t, q, rfl, _⟩ := e4.pre
            exact List.mem_append_right _ hp
          have hd5 : H5 D = some (.lst xs) := keepD e5 s4 pv4 (keepD e4 s3 hp (keepD e3 s2 hp hd))
          have v5 := VDs.ext e5 _ _ (VDs.ext e4 _ _ (VDs.ext e3 _ _ v2))
          have eE5 := eE4.trans s4 e5
          cases k with
          | false =>
            rw [if_neg Bool.false_ne_true] at h2 ⊢
            exact ⟨r5, st4, acc, xs, pv5, hd5, eE5, s5, v5, by rw [hds]; exact h2⟩
          | true =>
            rw [if_pos rfl] at h2 ⊢
            refine ⟨r5, env1, st4, hE4.ext e5, s5, ?_⟩
            cases qe : te env1 st4 with
            | bad => rw [qe] at h2; exact h2.elim
            | ex x st' => rw [qe] at h2; exact h2.elim
            | ok v st5 =>
              simp only [qe] at h2
              intro y H6 r6 e6 s6 v6
              by_cases hl : acc.length < 1000000
              · rw [if_pos hl] at h2
                have pv6 : D ∈ r6.pv := by
                  obtain ⟨t, q, rfl, _⟩ := e6.pre
                  exact List.mem_append_right _ pv5
                have hd6 := keepD e6 s5 pv5 hd5
                have vv6 := VDs.ext e6 _ _ v5
                have eE6 := eE5.trans s5 e6
                have hH : ∀ a, a ≠ D → upd H6 D (.lst (xs ++ [y])) a = H6 a := fun a ha => upd_ne ha
                refine ⟨xs, hd6, by rw [← v2.len]; exact Nat.lt_of_lt_of_le hl (big_ok (Nat.le_refl _)), r6, st5, acc ++ [v], xs ++ [y], pv6, upd_same, ⟨eE6.pre, fun a o h3 h4 => by rw [upd_ne (ne_of_none h4 hD)]; exact eE6.keep a o h3 h4⟩,
                  s6.free (r' := r6) pv6 hH rfl (fun _ h => h) (fun a ha => ⟨ha, fun _ => ⟨_, upd_same⟩⟩), VDs.free pv6 hH rfl (fun _ h => h) _ _ (vv6.app (VDs.one v6)), by rw [hds]; exact h2⟩
              · rw [if_neg hl] at h2; exact h2.elim
    · rw [if_neg hst] at h2; exact h2.elim
theorem fn_comp (hc : X.calm = true) (hN : X.N.Nodup) (hi : FI X W tg iter mi) (ok : BlkOk X.N X.env.scope scope own)
    (hg : ∀ (s : Shared) (H : Hp) (C : Addr) (cl : List (Str × Addr)) (fp : List Addr), FG (X.blk s H scope (compEnvC scope cl C X.env) fp) E0W tg sl g) (hsl : ∀ j ∈ sl, j ∈ own.map (·.2))
    (ht : ∀ (s : Shared) (H : Hp) (C : Addr) (cl : List (Str × Addr)) (fp : List Addr), FTs (X.blk s H scope (compEnvC scope cl C X.env) fp) E0W ifs tt)
    (he : ∀ (s : Shared) (H : Hp) (C : Addr) (cl : List (Str × Addr)) (fp : List Addr), FE (X.blk s H scope (compEnvC scope cl C X.env) fp) E0W elt te) (hs : ∀ x, foldedSetIterable iter X.env x = pure x := by intro _; rfl) :
    FN X W (.ListComp elt [⟨tg, iter, ifs, 0⟩] scope pos) (nComp (own.map (·.2)) mi g tt te) :=
  PE.imp (pe_lc hc hN hi ok hg ht he hs) fun σ H Q q => sim_comp hsl q
/-- y = [..], y a local: as a list that nobody changes, as one of the store -/
theorem fs_setComp {i : Nat} {y : Str} {py spos : Pos} (hc : X.calm = true) (hN : X.N.Nodup) (hy : X.N[i]? = some y) (hyl : X.env.scope.names.lookup y = some .local)
    (hsw : swapsWith (.ListComp elt [⟨tg, iter, ifs, 0⟩] scope pos) (some (.Name y py)) spos.line X.env = pure true) (hi : FI X W tg iter mi) (ok : BlkOk X.N X.env.scope scope own)
    (hg : ∀ (s : Shared) (H : Hp) (C : Addr) (cl : List (Str × Addr)) (fp : List Addr), FG (X.blk s H scope (compEnvC scope cl C X.env) fp) E0W tg sl g) (hsl : ∀ j ∈ sl, j ∈ own.map (·.2))
    (ht : ∀ (s : Shared) (H : Hp) (C : Addr) (cl : List (Str × Addr)) (fp : List Addr), FTs (X.blk s H scope (compEnvC scope cl C X.env) fp) E0W ifs tt)
    (he : ∀ (s : Shared) (H : Hp) (C : Addr) (cl : List (Str × Addr)) (fp : List Addr), FE (X.blk s H scope (compEnvC scope cl C X.env) fp) E0W elt te) (hs : ∀ x, foldedSetIterable iter X.env x = pure x := by intro _; rfl) :
    FS X W (.Assign [.Name y py] (.ListComp elt [⟨tg, iter, ifs, 0⟩] scope pos) spos) (sSet i (eFrz (nComp (own.map (·.2)) mi g tt te))) :=
  PS.imp (ps_setLc (g := tG X.K X.mg E0W sl g) (tt := tT X.K X.mg E0W tt) (te := tM X.K X.mg E0W te) hc hN hy hyl hsw hi ok hg ht he hs) fun D σ H ⟨r, env, st, hE, hS, h⟩ => by
    refine sim_comp (W := W) (g := g) (tt := tt) (te := te) hsl ⟨r, env, st, hE, hS, RS.on (D := D) hE (k := fun ds st1 => .nx (env.set i (some (.lst ds))) st1) ?_ fun ds st1 xs H1 r1 e1 s1 v1 h1 p hp => ?_⟩
    · revert h
      show RS X.K X.mg W D H r (((nComp (own.map (·.2)) mi g tt te env st).bind fun ds st1 => .ok (.lst ds) st1).on env fun d st1 => .nx (env.set i (some d)) st1) → _
      cases nComp (own.map (·.2)) mi g tt te env st with
      | ok ds st1 => exact fun h => h
      | ex x st1 => exact fun h => h
      | bad => exact fun h => h
    · exact h1 _ _ r1 (Ext.fresh hp) (s1.fresh hp) (((hE.ext e1).ext (Ext.fresh hp)).set i ⟨p, xs, rfl, ⟨s1.notin hp, upd_same⟩, v1.ext (Ext.fresh hp)⟩)
theorem fs_setCompN {i : Nat} {y : Str} {py spos : Pos} (hc : X.calm = true) (hN : X.N.Nodup) (hy : X.N[i]? = some y) (hyl : X.env.scope.names.lookup y = some .local)
    (hsw : swapsWith (.ListComp elt [⟨tg, iter, ifs, 0⟩] scope pos) (some (.Name y py)) spos.line X.env = pure true) (hi : FI X W tg iter mi) (ok : BlkOk X.N X.env.scope scope own)
    (hg : ∀ (s : Shared) (H : Hp) (C : Addr) (cl : List (Str × Addr)) (fp : List Addr), FG (X.blk s H scope (compEnvC scope cl C X.env) fp) E0W tg sl g) (hsl : ∀ j ∈ sl, j ∈ own.map (·.2))
    (ht : ∀ (s : Shared) (H : Hp) (C : Addr) (cl : List (Str × Addr)) (fp : List Addr), FTs (X.blk s H scope (compEnvC scope cl C X.env) fp) E0W ifs tt)
    (he : ∀ (s : Shared) (H : Hp) (C : Addr) (cl : List (Str × Addr)) (fp : List Addr), FE (X.blk s H scope (compEnvC scope cl C X.env) fp) E0W elt te) (hs : ∀ x, foldedSetIterable iter X.env x = pure x := by intro _; rfl) :
    FS X W (.Assign [.Name y py] (.ListComp elt [⟨tg, iter, ifs, 0⟩] scope pos) spos) (sSet i (eNew (nComp (own.map (·.2)) mi g tt te))) :=
  PS.imp (ps_setLc (g := tG X.K X.mg E0W sl g) (tt := tT X.K X.mg E0W tt) (te := tM X.K X.mg E0W te) hc hN hy hyl hsw hi ok hg ht he hs) fun D σ H ⟨r, env, st, hE, hS, h⟩ => by
    refine sim_comp (W := W) (g := g) (tt := tt) (te := te) hsl ⟨r, env, st, hE, hS, RS.on (D := D) hE (k := fun ds st1 => .nx (env.set i (some (.loc st1.length))) (st1 ++ [.lst ds])) ?_ fun ds st1 xs H1 r1 e1 s1 v1 h1 p hp => ?_⟩
    · revert h
      show RS X.K X.mg W D H r (((nComp (own.map (·.2)) mi g tt te env st).bind fun ds st1 => .ok (.loc st1.length) (st1 ++ [.lst ds])).on env fun d st1 => .nx (env.set i (some d)) st1) → _
      cases nComp (own.map (·.2)) mi g tt te env st with
      | ok ds st1 => exact fun h => h
      | ex x st1 => exact fun h => h
      | bad => exact fun h => h
    · have eg := Ext.grown s1 (o := .lst xs) hp
      exact h1 _ _ _ eg (s1.grown hp ⟨xs, rfl, v1⟩) (((hE.ext e1).ext eg).set i ⟨p, rfl, by rw [← s1.len]; simp⟩)
end
end FL

namespace FL
open PySem PySem.Spec PyProof.Rows L2

/-! ### calls of built-ins -/
/-- a call of the known value f keeps g -/
def BiF (X : Cx) (f : Value) (g : List D → Sto → Res D) : Prop :=
  ∃ rr : List V → Hp → VK → Prop, CallR X f rr ∧ ∀ (E : XK) H r st ds xs Q, SR X.K H r st → VDs X.K H r ds xs → RES X.K X.mg (RV X.K) E H r (g ds st) Q → rr xs H Q
/-- .. that yields a new list -/
def BiN (X : Cx) (f : Value) (g : List D → Sto → Res (List D)) : Prop :=
  ∃ rr : List V → Hp → VK → Prop, CallR X f rr ∧ ∀ (E : XK) H r st ds xs Q, SR X.K H r st → VDs X.K H r ds xs → RES X.K X.mg (RVs X.K) E H r (g ds st) (fun ys H1 => ∀ p, H1 p = none → Q (.ref p) (upd H1 p (.lst ys))) → rr xs H Q
def eB (g : List D → Sto → Res D) (ms : Env → Sto → Res (List D)) : EM := fun env st => (ms env st).bind g
def nB (g : List D → Sto → Res (List D)) (ms : Env → Sto → Res (List D)) : Env → Sto → Res (List D) := fun env st => (ms env st).bind g
section
variable {X : Cx} {W : WX} {e a b : Expr} {es : List Expr} {m ma mb : EM} {ms : Env → Sto → Res (List D)} {x : Str} {p pos : Pos} {id T : String} {g : List D → Sto → Res D}
theorem sim_eB {rr : List V → Hp → VK → Prop} (hr : ∀ (E : XK) H r st ds xs Q, SR X.K H r st → VDs X.K H r ds xs → RES X.K X.mg (RV X.K) E H r (g ds st) Q → rr xs H Q)
    {σ : L2.St} {H : Hp} {Q : VK} (q : tM X.K X.mg W (eB g ms) σ H Q) : tCB rr (tA X.K X.mg W ms) σ H Q := by
  obtain ⟨r, env, st, hE, hS, h⟩ := q
  exact ⟨r, env, st, hE, hS, RES.seq h fun ds st1 xs H1 r1 e1 s1 v1 h1 => hr _ H1 r1 st1 ds xs Q s1 v1 h1⟩
theorem sim_nB {g : List D → Sto → Res (List D)} {rr : List V → Hp → VK → Prop} (hr : ∀ (E : XK) H r st ds xs Q, SR X.K H r st → VDs X.K H r ds xs → RES X.K X.mg (RVs X.K) E H r (g ds st) (fun ys H1 => ∀ p, H1 p = none → Q (.ref p) (upd H1 p (.lst ys))) → rr xs H Q)
    {σ : L2.St} {H : Hp} {Q : VK} (q : tN X.K X.mg W (nB g ms) σ H Q) : tCB rr (tA X.K X.mg W ms) σ H Q := by
  obtain ⟨r, env, st, hE, hS, h⟩ := q
  exact ⟨r, env, st, hE, hS, RES.seq h fun ds st1 xs H1 r1 e1 s1 v1 h1 => hr _ H1 r1 st1 ds xs Q s1 v1 h1⟩
theorem fe_callB (ho : BiF X (.builtin id) g) (hg : Gl X x) (hm : X.mg x = none) (hv : bootBuiltins x = some (.builtin id)) (ha : FA X W (e :: es) ms) (hn : x ≠ "__name__" := by decide) (hdb : (x == ("__debug__" : Str)) = false := by decide)
    (he : starEach (e :: es) X.env = (false, eval e X.env) :: starEach es X.env := by rfl) (hpl : (backTo pos (starEach es X.env)).any (·.1) = false := by rfl) : FE X W (.Call (.Name x p) (e :: es) [] pos) (eB g ms) := by
  obtain ⟨rr, h1, h2⟩ := ho
  exact PE.imp (pe_callB h1 hg hm hv ha hn hdb he hpl) fun σ H Q q => sim_eB h2 q
theorem fe_callT (ho : BiF X (.type T) g) (hg : Gl X x) (hm : X.mg x = none) (hv : bootBuiltins x = some (.type T)) (ha : FA X W (e :: es) ms) (hn : x ≠ "__name__" := by decide) (hdb : (x == ("__debug__" : Str)) = false := by decide)
    (he : starEach (e :: es) X.env = (false, eval e X.env) :: starEach es X.env := by rfl) (hpl : (backTo pos (starEach es X.env)).any (·.1) = false := by rfl) : FE X W (.Call (.Name x p) (e :: es) [] pos) (eB g ms) := by
  obtain ⟨rr, h1, h2⟩ := ho
  exact PE.imp (pe_callTy h1 hg hm hv ha hn hdb he hpl) fun σ H Q q => sim_eB h2 q
theorem fn_callB {g : List D → Sto → Res (List D)} (ho : BiN X (.builtin id) g) (hg : Gl X x) (hm : X.mg x = none) (hv : bootBuiltins x = some (.builtin id)) (ha : FA X W (e :: es) ms) (hn : x ≠ "__name__" := by decide) (hdb : (x == ("__debug__" : Str)) = false := by decide)
    (he : starEach (e :: es) X.env = (false, eval e X.env) :: starEach es X.env := by rfl) (hpl : (backTo pos (starEach es X.env)).any (·.1) = false := by rfl) : FN X W (.Call (.Name x p) (e :: es) [] pos) (nB g ms) := by
  obtain ⟨rr, h1, h2⟩ := ho
  exact PE.imp (pe_callB h1 hg hm hv ha hn hdb he hpl) fun σ H Q q => sim_nB h2 q
theorem fn_callT {g : List D → Sto → Res (List D)} (ho : BiN X (.type T) g) (hg : Gl X x) (hm : X.mg x = none) (hv : bootBuiltins x = some (.type T)) (ha : FA X W (e :: es) ms) (hn : x ≠ "__name__" := by decide) (hdb : (x == ("__debug__" : Str)) = false := by decide)
    (he : starEach (e :: es) X.env = (false, eval e X.env) :: starEach es X.env := by rfl) (hpl : (backTo pos (starEach es X.env)).any (·.1) = false := by rfl) : FN X W (.Call (.Name x p) (e :: es) [] pos) (nB g ms) := by
  obtain ⟨rr, h1, h2⟩ := ho
  exact PE.imp (pe_callTy h1 hg hm hv ha hn hdb he hpl) fun σ H Q q => sim_nB h2 q
theorem CallR.or {f : Value} {r r' : List V → Hp → VK → Prop} (h : CallR X f r) (h' : CallR X f r') : CallR X f (fun xs H Q => r xs H Q ∨ r' xs H Q) := by
  intro pins s σ H xs us Q I rs q
  rcases q with q | q
  · exact h pins s σ H xs us Q I rs q
  · exact h' pins s σ H xs us Q I rs q

/-! ### len, tuple, list, abs, min, max, int, str, all, any -/
theorem vds1 {K H r} {d : D} {xs : List V} (h : VDs K H r [d] xs) : ∃ x, xs = [x] ∧ VD K H r d x := by
  obtain ⟨x, t, rfl, h1, h2⟩ := h
  cases h2
  exact ⟨x, rfl, h1⟩
theorem vds2 {K H r} {d e : D} {xs : List V} (h : VDs K H r [d, e] xs) : ∃ x y, xs = [x, y] ∧ VD K H r d x ∧ VD K H r e y := by
  obtain ⟨x, t, rfl, h1, y, u, rfl, h2, h3⟩ := h
  cases h3
  exact ⟨x, y, rfl, h1, h2⟩
def lenB : List D → Sto → Res D
  | [d], st => match seqD d st with
    | some ds => .ok (.int (ds.length : Nat)) st
    | none => match dicD d st with
      | some kvs => .ok (.int (kvs.length : Nat)) st
      | none => match d with
        | .str z => if z.length ≤ sizeLine then .ok (.int (z.length : Nat)) st else .bad
        | _ => .bad
  | _, _ => .bad
theorem bi_len : BiF X (.builtin "len") lenB := ⟨_, CallR.or call_len_seq (CallR.or call_len_str call_lenD), fun E H r st ds xs Q s v h => by
  match ds, v, h with
  | [], _, h => exact h.elim
  | _ :: _ :: _, _, h => exact h.elim
  | [d], v, h =>
    obtain ⟨x, rfl, w⟩ := vds1 v
    unfold lenB at h
    cases q : seqD d st with
    | some es =>
      simp only [q] at h
      obtain ⟨a, ys, rfl, h1, h2⟩ := seqD_v s q w
      exact .inl ⟨a, ys, rfl, h2, by rw [← h1.len]; exact RES.ok h s rfl⟩
    | none =>
      simp only [q] at h
      cases q2 : dicD d st with
      | some kvs =>
        simp only [q2] at h
        obtain ⟨a, kxs, rfl, h1, h2⟩ := dicD_v s q2 w
        exact .inr (.inr ⟨a, kxs, rfl, h2, by rw [← paired_len h1]; exact RES.ok h s rfl⟩)
      | none =>
        simp only [q2] at h
        cases d with
        | str z =>
          cases w
          by_cases hl : z.length ≤ sizeLine
          · simp only [if_pos hl] at h
            exact .inr (.inl ⟨z, rfl, hl, RES.ok h s rfl⟩)
          · simp only [if_neg hl] at h; exact h.elim
        | _ => exact h.elim⟩
def tupB : List D → Sto → Res D
  | [d], st => match d with
    | .tup ds => .ok (.tup ds) st
    | _ => match lstD d st with
      | some ds => .ok (.tup ds) st
      | none => .bad
  | _, _ => .bad
theorem bi_tuple : BiF X (.type "tuple") tupB := ⟨_, call_tuple_of, fun E H r st ds xs Q s v h => by
  match ds, v, h with
  | [], _, h => exact h.elim
  | _ :: _ :: _, _, h => exact h.elim
  | [d], v, h =>
    obtain ⟨x, rfl, w⟩ := vds1 v
    by_cases ht : ∃ es, d = .tup es
    · obtain ⟨es, rfl⟩ := ht
      obtain ⟨a, ys, rfl, h1, h2⟩ := id w
      exact ⟨a, ys, rfl, .inr ⟨h1.sq, RES.ok h s w⟩⟩
    · have h' : RES X.K X.mg (RV X.K) E H r (match lstD d st with
        | some ds => .ok (.tup ds) st
        | none => .bad) Q := by
        revert h
        cases d <;> first | exact fun h => h | exact absurd ⟨_, rfl⟩ ht
      cases q : lstD d st with
      | none => simp only [q] at h'; exact h'.elim
      | some es =>
        simp only [q] at h'
        obtain ⟨a, ys, rfl, h1, h2⟩ := lstD_v s q w
        refine ⟨a, ys, rfl, .inl ⟨h2, fun p hp => ?_⟩⟩
        exact RES.ok' h' (Ext.fresh hp) (s.fresh hp) ⟨p, ys, rfl, .inl ⟨s.notin hp, .inl upd_same⟩, h1.ext (Ext.fresh hp)⟩⟩
def lstB : List D → Sto → Res (List D)
  | [d], st => match seqD d st with
    | some ds => .ok ds st
    | none => .bad
  | _, _ => .bad
theorem bi_list : BiN X (.type "list") lstB := ⟨_, call_list_of, fun E H r st ds xs Q s v h => by
  match ds, v, h with
  | [], _, h => exact h.elim
  | _ :: _ :: _, _, h => exact h.elim
  | [d], v, h =>
    obtain ⟨x, rfl, w⟩ := vds1 v
    unfold lstB at h
    cases q : seqD d st with
    | none => simp only [q] at h; exact h.elim
    | some es =>
      simp only [q] at h
      obtain ⟨a, ys, rfl, h1, h2⟩ := seqD_v s q w
      exact ⟨a, ys, rfl, h2, fun l hl => RES.ok h s h1 l hl⟩⟩
def absB : List D → Sto → Res D
  | [.int i], st => .ok (.int (if i < 0 then -i else i)) st
  | _, _ => .bad
theorem bi_abs : BiF X (.builtin "abs") absB := ⟨_, call_abs, fun E H r st ds xs Q s v h => by
  unfold absB at h
  split at h
  · obtain ⟨x, rfl, w⟩ := vds1 v
    cases w
    exact ⟨_, rfl, RES.ok h s rfl⟩
  · exact h.elim⟩
/-- the ints of a list -/
def intsD : List D → Option (List Int)
  | [] => some []
  | .int i :: r => match intsD r with
    | some ns => some (i :: ns)
    | none => none
  | _ :: _ => none
theorem intsD_eq : ∀ {ds : List D} {ns : List Int}, intsD ds = some ns → ds = ns.map .int
  | [], ns, h => by cases h; rfl
  | d :: ds, ns, h => by
    cases d with
    | int i =>
      unfold intsD at h
      cases q : intsD ds with
      | none => rw [q] at h; cases h
      | some ms => rw [q] at h; cases h; rw [intsD_eq q]; rfl
    | _ => cases h
theorem vds_ints {K H r} : ∀ {ns : List Int} {xs : List V}, VDs K H r (ns.map .int) xs → xs = ns.map V.int
  | [], _, h => h
  | n :: ns, _, h => by
    obtain ⟨x, t, rfl, h1, h2⟩ := h
    cases h1
    rw [vds_ints h2]; rfl
def maxI : List Int → Int
  | [] => 0
  | [i] => i
  | i :: r => let m := maxI r; if m ≤ i then i else m
def minI : List Int → Int
  | [] => 0
  | [i] => i
  | i :: r => let m := minI r; if i ≤ m then i else m
theorem maxI_eq : ∀ {ns : List Int} {m : Int}, ns ≠ [] → m ∈ ns → (∀ y ∈ ns, y ≤ m) → maxI ns = m
  | [], _, h, _, _ => absurd rfl h
  | [i], m, _, h1, _ => by simp at h1; exact h1.symm
  | i :: j :: r, m, _, h1, h2 => by
    have key : maxI (i :: j :: r) = if maxI (j :: r) ≤ i then i else maxI (j :: r) := rfl
    have mem : ∀ (l : List Int), l ≠ [] → maxI l ∈ l ∧ ∀ y ∈ l, y ≤ maxI l := by
      intro l
      induction l with
      | nil => exact fun h => absurd rfl h
      | cons a l ih =>
        intro _
        cases l with
        | nil => exact ⟨by simp [maxI], by simp [maxI]⟩
        | cons b l =>
          obtain ⟨k1, k2⟩ := ih (by simp)
          have key : maxI (a :: b :: l) = if maxI (b :: l) ≤ a then a else maxI (b :: l) := rfl
          rw [key]
          split
          · rename_i hc
            refine ⟨List.mem_cons_self, fun y hy => ?_⟩
            rcases List.mem_cons.mp hy with rfl | hy
            · exact Int.le_refl _
            · exact Int.le_trans (k2 y hy) hc
          · rename_i hc
            refine ⟨List.mem_cons_of_mem _ k1, fun y hy => ?_⟩
            rcases List.mem_cons.mp hy with rfl | hy
            · omega
            · exact k2 y hy
    obtain ⟨k1, k2⟩ := mem (i :: j :: r) (by simp)
    exact Int.le_antisymm (h2 _ k1) (k2 _ h1)
theorem minI_eq {ns : List Int} {m : Int} (h0 : ns ≠ []) (h1 : m ∈ ns) (h2 : ∀ y ∈ ns, m ≤ y) : minI ns = m := by
  have mem : ∀ (l : List Int), l ≠ [] → minI l ∈ l ∧ ∀ y ∈ l, minI l ≤ y := by
    intro l
    induction l with
    | nil => exact fun h => absurd rfl h
    | cons a l ih =>
      intro _
      cases l with
      | nil => exact ⟨by simp [minI], by simp [minI]⟩
      | cons b l =>
        obtain ⟨k1, k2⟩ := ih (by simp)
        have key : minI (a :: b :: l) = if a ≤ minI (b :: l) then a else minI (b :: l) := rfl
        rw [key]
        split
        · rename_i hc
          refine ⟨List.mem_cons_self, fun y hy => ?_⟩
          rcases List.mem_cons.mp hy with rfl | hy
          · exact Int.le_refl _
          · exact Int.le_trans hc (k2 y hy)
        · rename_i hc
          refine ⟨List.mem_cons_of_mem _ k1, fun y hy => ?_⟩
          rcases List.mem_cons.mp hy with rfl | hy
          · omega
          · exact k2 y hy
  obtain ⟨k1, k2⟩ := mem ns h0
  exact Int.le_antisymm (k2 _ h1) (h2 _ k1)
def maxB : List D → Sto → Res D
  | [.int i, .int j], st => .ok (.int (if j > i then j else i)) st
  | [d], st => match lstD d st with
    | some ds => match intsD ds with
      | some (i :: r) => .ok (.int (maxI (i :: r))) st
      | _ => .bad
    | none => .bad
  | _, _ => .bad
theorem bi_max (hc : X.calm = true) : BiF X (.builtin "max") maxB := ⟨_, CallR.or (call_max2 hc) (cr_max hc), fun E H r st ds xs Q s v h => by
  unfold maxB at h
  split at h
  · obtain ⟨x, y, rfl, w, w'⟩ := vds2 v
    cases w; cases w'
    exact .inl ⟨_, _, rfl, RES.ok h s rfl⟩
  · rename_i d
    obtain ⟨x, rfl, w⟩ := vds1 v
    cases q : lstD d st with
    | none => simp only [q] at h; exact h.elim
    | some es =>
      simp only [q] at h
      split at h
      · rename_i i rr q2
        obtain ⟨a, ys, rfl, h1, h2⟩ := lstD_v s q w
        rw [intsD_eq q2] at h1
        rw [vds_ints h1] at h2
        refine .inr ⟨a, _, rfl, h2, by simp, fun m m1 m2 => ?_⟩
        rw [← maxI_eq (by simp) m1 m2]
        exact RES.ok h s rfl
      · exact h.elim
  · exact h.elim⟩
def minB : List D → Sto → Res D
  | [.int i, .int j], st => .ok (.int (if j < i then j else i)) st
  | [d], st => match lstD d st with
    | some ds => match intsD ds with
      | some (i :: r) => .ok (.int (minI (i :: r))) st
      | _ => .bad
    | none => .bad
  | _, _ => .bad
theorem bi_min (hc : X.calm = true) : BiF X (.builtin "min") minB := ⟨_, CallR.or (call_min2 hc) (cr_min hc), fun E H r st ds xs Q s v h => by
  unfold minB at h
  split at h
  · obtain ⟨x, y, rfl, w, w'⟩ := vds2 v
    cases w; cases w'
    exact .inl ⟨_, _, rfl, RES.ok h s rfl⟩
  · rename_i d
    obtain ⟨x, rfl, w⟩ := vds1 v
    cases q : lstD d st with
    | none => simp only [q] at h; exact h.elim
    | some es =>
      simp only [q] at h
      split at h
      · rename_i i rr q2
        obtain ⟨a, ys, rfl, h1, h2⟩ := lstD_v s q w
        rw [intsD_eq q2] at h1
        rw [vds_ints h1] at h2
        refine .inr ⟨a, _, rfl, h2, by simp, fun m m1 m2 => ?_⟩
        rw [← minI_eq (by simp) m1 m2]
        exact RES.ok h s rfl
      · exact h.elim
  · exact h.elim⟩
def intB : List D → Sto → Res D
  | [.int i], st => .ok (.int i) st
  | [.bl k], st => .ok (.int (if k then 1 else 0)) st
  | [.str a], st => match PySem.intText? a with
    | some n => if a.length ≤ 640 then .ok (.int n) st else .bad
    | none => .bad
  | _, _ => .bad
theorem bi_int : BiF X (.type "int") intB := ⟨_, CallR.or call_int1 call_int_str, fun E H r st ds xs Q s v h => by
  unfold intB at h
  split at h
  · obtain ⟨x, rfl, w⟩ := vds1 v
    cases w
    exact .inl (.inl ⟨_, rfl, RES.ok h s rfl⟩)
  · obtain ⟨x, rfl, w⟩ := vds1 v
    cases w
    exact .inl (.inr ⟨_, rfl, RES.ok h s rfl⟩)
  · rename_i a
    obtain ⟨x, rfl, w⟩ := vds1 v
    cases w
    cases q : PySem.intText? a with
    | none => simp only [q] at h; exact h.elim
    | some n =>
      simp only [q] at h
      by_cases hl : a.length ≤ 640
      · rw [if_pos hl] at h
        exact .inr ⟨a, n, rfl, q, hl, RES.ok h s rfl⟩
      · rw [if_neg hl] at h; exact h.elim
  · exact h.elim⟩
def strB : List D → Sto → Res D
  | [.int i], st => if i.natAbs.log2 < 1920 then .ok (.str (toString i)) st else .bad
  | _, _ => .bad
theorem bi_str : BiF X (.type "str") strB := ⟨_, call_str_int, fun E H r st ds xs Q s v h => by
  unfold strB at h
  split at h
  · rename_i i
    obtain ⟨x, rfl, w⟩ := vds1 v
    cases w
    by_cases hl : i.natAbs.log2 < 1920
    · rw [if_pos hl] at h
      exact ⟨i, rfl, hl, RES.ok h s rfl⟩
    · rw [if_neg hl] at h; exact h.elim
  · exact h.elim⟩
def blsD : List D → Option (List Bool)
  | [] => some []
  | .bl i :: r => match blsD r with
    | some ns => some (i :: ns)
    | none => none
  | _ :: _ => none
theorem blsD_eq : ∀ {ds : List D} {ns : List Bool}, blsD ds = some ns → ds = ns.map .bl
  | [], ns, h => by cases h; rfl
  | d :: ds, ns, h => by
    cases d with
    | bl i =>
      unfold blsD at h
      cases q : blsD ds with
      | none => rw [q] at h; cases h
      | some ms => rw [q] at h; cases h; rw [blsD_eq q]; rfl
    | _ => cases h
theorem vds_bls {K H r} : ∀ {ns : List Bool} {xs : List V}, VDs K H r (ns.map .bl) xs → xs = ns.map V.bl
  | [], _, h => h
  | n :: ns, _, h => by
    obtain ⟨x, t, rfl, h1, h2⟩ := h
    cases h1
    rw [vds_bls h2]; rfl
def allB : List D → Sto → Res D
  | [d], st => match lstD d st with
    | some ds => match blsD ds with
      | some bs => .ok (.bl (bs.all _root_.id)) st
      | none => .bad
    | none => .bad
  | _, _ => .bad
def anyB : List D → Sto → Res D
  | [d], st => match lstD d st with
    | some ds => match blsD ds with
      | some bs => .ok (.bl (bs.any _root_.id)) st
      | none => .bad
    | none => .bad
  | _, _ => .bad
theorem bi_all (hc : X.calm = true) : BiF X (.builtin "all") allB := ⟨_, cr_all hc, fun E H r st ds xs Q s v h => by
  unfold allB at h
  split at h
  · rename_i d
    obtain ⟨x, rfl, w⟩ := vds1 v
    cases q : lstD d st with
    | none => simp only [q] at h; exact h.elim
    | some es =>
      simp only [q] at h
      cases q2 : blsD es with
      | none => simp only [q2] at h; exact h.elim
      | some bs =>
        simp only [q2] at h
        obtain ⟨a, ys, rfl, h1, h2⟩ := lstD_v s q w
        rw [blsD_eq q2] at h1
        rw [vds_bls h1] at h2
        exact ⟨a, bs, rfl, h2, RES.ok h s rfl⟩
  · exact h.elim⟩
theorem bi_any (hc : X.calm = true) : BiF X (.builtin "any") anyB := ⟨_, cr_any hc, fun E H r st ds xs Q s v h => by
  unfold anyB at h
  split at h
  · rename_i d
    obtain ⟨x, rfl, w⟩ := vds1 v
    cases q : lstD d st with
    | none => simp only [q] at h; exact h.elim
    | some es =>
      simp only [q] at h
      cases q2 : blsD es with
      | none => simp only [q2] at h; exact h.elim
      | some bs =>
        simp only [q2] at h
        obtain ⟨a, ys, rfl, h1, h2⟩ := lstD_v s q w
        rw [blsD_eq q2] at h1
        rw [vds_bls h1] at h2
        exact ⟨a, bs, rfl, h2, RES.ok h s rfl⟩
  · exact h.elim⟩
end
end FL

namespace FL
open PySem PySem.Spec PyProof.Rows L2

/-! ### isinstance(x, T), T a built-in type -/
inductive Ty where
  | non | bl | int | str | tup | lst | dic
  deriving DecidableEq
def Ty.nm : Ty → String
  | .non => "NoneType"
  | .bl => "bool"
  | .int => "int"
  | .str => "str"
  | .tup => "tuple"
  | .lst => "list"
  | .dic => "dict"
def Ty.le : Ty → Ty → Bool
  | .non, .non => true
  | .bl, .bl => true
  | .bl, .int => true
  | .int, .int => true
  | .str, .str => true
  | .tup, .tup => true
  | .lst, .lst => true
  | .dic, .dic => true
  | _, _ => false
theorem ty_kit (a b : Ty) (hb : b ≠ .non) : kitB a.nm b.nm = some (a.le b) := by
  cases b <;> first | exact absurd rfl hb | skip
  all_goals cases a <;> decide +kernel
def tyD : D → Sto → Option Ty
  | .non, _ => some .non
  | .bl _, _ => some .bl
  | .int _, _ => some .int
  | .str _, _ => some .str
  | .tup _, _ => some .tup
  | .lst _, _ => some .lst
  | .scr _, _ => some .lst
  | .loc l, st => match st[l]? with
    | some (.lst _) => some .lst
    | some (.dic _) => some .dic
    | none => none
  | .exc _ _ _, _ => none
theorem tyD_v {K H r st} {d : D} {x : V} {t : Ty} (s : SR K H r st) (h : tyD d st = some t) (v : VD K H r d x) : TyX K H x (.type t.nm) := by
  cases d with
  | non => cases h; cases v; exact .base .non
  | bl b => cases h; cases v; exact .base (.bl _)
  | int b => cases h; cases v; exact .base (.int _)
  | str b => cases h; cases v; exact .base (.str _)
  | tup ds =>
    cases h
    obtain ⟨a, xs, rfl, h1, h2⟩ := v
    rcases h1 with ⟨_, h1 | ⟨o, h1⟩⟩ | ⟨o, its, n, h1, h3, _⟩
    · exact .base (.tup h1)
    · exact .fTuple h1
    · exact .kTuple h1 h3
  | lst ds =>
    cases h
    obtain ⟨a, xs, rfl, h1, h2⟩ := v
    exact .base (.lst h1.2)
  | exc _ _ _ => cases h
  | scr ns =>
    cases h
    obtain ⟨a, rfl, h1⟩ := v
    rcases h1 with ⟨_, h1 | ⟨o, h1⟩⟩ | ⟨o, its, n, h1, h3, _⟩
    · exact .base (.lst h1)
    · exact .base (.frz h1)
    · exact .kList h1 h3
  | loc l =>
    obtain ⟨a, rfl, h1⟩ := v
    unfold tyD at h
    cases q : st[l]? with
    | none => simp only [q] at h; cases h
    | some o =>
      obtain ⟨b, ho, e1, e2, e3⟩ := s.obj l o q
      rw [h1] at e1; cases e1
      cases o with
      | lst ds =>
        simp only [q] at h; cases h
        obtain ⟨xs, rfl, e3⟩ := e3
        exact .base (.lst e2)
      | dic kvs =>
        simp only [q] at h; cases h
        obtain ⟨xs, rfl, e3⟩ := e3
        exact .base (.dK e2)
def eIsi (T : Ty) (m : EM) : EM := fun env st => (m env st).bind fun d st1 => match tyD d st1 with
  | some t => .ok (.bl (t.le T)) st1
  | none => .bad
section
variable {X : Cx} {W : WX} {e a b c o : Expr} {es : List Expr} {m ma mb mc mo : EM} {ms : Env → Sto → Res (List D)} {x tx : Str} {p p2 pos apos cpos : Pos} {id T : String} {g : List D → Sto → Res D}
theorem fe_isi {T : Ty} (hT : T ≠ .non) (hg : Gl X "isinstance") (hm : X.mg "isinstance" = none) (hgT : Gl X tx) (hmT : X.mg tx = none) (hv : bootBuiltins tx = some (.type T.nm)) (ha : FE X W a ma)
    (hn : tx ≠ "__name__" := by decide) (hd : (tx == ("__debug__" : Str)) = false := by decide)
    (he : starEach [a, .Name tx p2] X.env = (false, eval a X.env) :: starEach [.Name tx p2] X.env := by rfl) (he2 : starEach [.Name tx p2] X.env = (false, eval (.Name tx p2) X.env) :: starEach [] X.env := by rfl) (hpl : (backTo pos (starEach [.Name tx p2] X.env)).any (·.1) = false := by rfl) :
    FE X W (.Call (.Name "isinstance" p) [a, .Name tx p2] [] pos) (eIsi T ma) :=
  PE.imp (pe_callB call_isi hg hm boot_isinstance (pa_cons ha (pa_cons (pe_bltn hgT hmT hv (v := .ty T.nm) rfl hn hd) pa_nil he2) he) (by decide) (by decide) he hpl) fun σ H Q ⟨r, env, st, hE, hS, h⟩ =>
    ⟨r, env, st, hE, hS, RES.seq h fun d st1 y H1 r1 e1 s1 v1 h1 => by
      cases q : tyD d st1 with
      | none => simp only [q] at h1; exact h1.elim
      | some t =>
        simp only [q] at h1
        exact ⟨y, .ty T.nm, .type t.nm, .type T.nm, _, rfl, .ty _, tyD_v s1 q v1, kit_ty (ty_kit t T hT), RES.ok h1 s1 rfl⟩⟩

/-! ### methods of built-ins -/
/-- a method's call of the receiver, the arguments -/
def MeF (X : Cx) (id : String) (T : String) (g : D → List D → Sto → Res D) (ok : D → Sto → Bool) : Prop :=
  (∀ {H r st d x}, SR X.K H r st → VD X.K H r d x → ok d st = true → tyV X.K T x H) ∧
  ∃ rr : V → List V → Hp → VK → Prop, MtR X id rr ∧ ∀ (E : XK) H r st d ds x xs Q, SR X.K H r st → VD X.K H r d x → VDs X.K H r ds xs → RES X.K X.mg (RV X.K) E H r (g d ds st) Q → rr x xs H Q
def eMt (ok : D → Sto → Bool) (g : D → List D → Sto → Res D) (mo : EM) (ms : Env → Sto → Res (List D)) : EM := fun env st => (mo env st).bind fun d st1 => if ok d st1 = true then (ms env st1).bind fun ds st2 => g d ds st2 else .bad
variable {name : Str} {ok : D → Sto → Bool} {gm : D → List D → Sto → Res D}
theorem fe_meth (ho : MeF X id T gm ok) (pa : PlainAttrs T) (slot : Slot T name id) (hty : typeOf (.builtin id) = pure (.type "method_descriptor")) (hr : FE X W o mo) (ha : FA X W (e :: es) ms)
    (hbase : attributeBase o name X.env (eval o X.env) = eval o X.env := by rfl)
    (hfew : ((backTo cpos (starEach (e :: es) X.env)).all (fun x => !x.1) && (backToKw cpos (keywordEach [] X.env)).all (fun x => x.1.isSome)
      && decide ((e :: es).length + ([] : List Keyword).length + (if ([] : List Keyword).isEmpty then 0 else 1) < 30)) = true := by rfl)
    (hline : (apos.endLine == cpos.line) = true := by rfl) (hs : starEach (e :: es) X.env = (false, eval e X.env) :: starEach es X.env := by rfl) (hplain : (backTo cpos (starEach es X.env)).any (·.1) = false := by rfl) :
    FE X W (.Call (.Attribute o name apos) (e :: es) [] cpos) (eMt ok gm mo ms) := by
  obtain ⟨h0, rr, h1, h2⟩ := ho
  exact PE.imp (pe_bm pa slot hty h1 hr ha hbase hfew hline hs hplain) fun σ H Q ⟨r, env, st, hE, hS, h⟩ => ⟨r, env, st, hE, hS, RES.seq h fun d st1 x H1 r1 e1 s1 v1 q1 => by
    by_cases hok : ok d st1 = true
    · rw [if_pos hok] at q1
      exact ⟨h0 s1 v1 hok, r1, env, st1, hE.ext e1, s1, RES.seq q1 fun ds st2 xs H2 r2 e2 s2 v2 q2 => h2 _ H2 r2 st2 d ds x xs Q s2 (v1.ext e2) v2 q2⟩
    · rw [if_neg hok] at q1; exact q1.elim⟩
theorem fe_meth0 (ho : MeF X id T gm ok) (pa : PlainAttrs T) (slot : Slot T name id) (hty : typeOf (.builtin id) = pure (.type "method_descriptor")) (hr : FE X W o mo)
    (hbase : attributeBase o name X.env (eval o X.env) = eval o X.env := by rfl) (hline : (apos.endLine == cpos.line) = true := by rfl) :
    FE X W (.Call (.Attribute o name apos) [] [] cpos) (eMt ok gm mo aNil) := by
  obtain ⟨h0, rr, h1, h2⟩ := ho
  exact PE.imp (pe_bm0 pa slot hty h1 hr hbase hline) fun σ H Q ⟨r, env, st, hE, hS, h⟩ => ⟨r, env, st, hE, hS, RES.seq h fun d st1 x H1 r1 e1 s1 v1 q1 => by
    by_cases hok : ok d st1 = true
    · rw [if_pos hok] at q1
      exact ⟨h0 s1 v1 hok, h2 (WE W σ) H1 r1 st1 d [] x [] Q s1 v1 rfl q1⟩
    · rw [if_neg hok] at q1; exact q1.elim⟩
/-- a list, of the store -/
def isLoc : D → Sto → Bool
  | .loc l, st => match st[l]? with
    | some (.lst _) => true
    | _ => false
  | _, _ => false
def isLst (d : D) (st : Sto) : Bool := (lstD d st).isSome
theorem isLst_ty {K H r st} {d : D} {x : V} (s : SR K H r st) (v : VD K H r d x) (h : isLst d st = true) : tyV K "list" x H := by
  obtain ⟨ds, q⟩ := Option.isSome_iff_exists.mp h
  obtain ⟨a, xs, rfl, h1, h2⟩ := lstD_v s q v
  exact .inl ⟨rfl, xs, h2⟩
theorem isLoc_v {K H r st} {d : D} {x : V} (s : SR K H r st) (v : VD K H r d x) {l : Nat} {ds : List D} (e : d = .loc l) (q : st[l]? = some (.lst ds)) : ∃ a xs, x = .ref a ∧ r.ad[l]? = some a ∧ H a = some (.lst xs) ∧ VDs K H r ds xs := by
  subst e
  obtain ⟨a, rfl, h1⟩ := v
  obtain ⟨b, ho, e1, e2, xs, rfl, e3⟩ := s.obj l _ q
  rw [h1] at e1; cases e1
  exact ⟨a, xs, rfl, h1, e2, e3⟩
def apD : D → List D → Sto → Res D
  | .loc l, [d], st => match st[l]? with
    | some (.lst ds) => if ds.length < 1000000 then .ok .non (st.set l (.lst (ds ++ [d]))) else .bad
    | _ => .bad
  | _, _, _ => .bad
theorem me_append : MeF X "list.append" "list" apD isLst := ⟨fun s v h => isLst_ty s v h, rAppend, mt_append, fun E H r st d ds x xs Q s v vs h => by
  unfold apD at h
  split at h
  · rename_i l d
    obtain ⟨y, rfl, w⟩ := vds1 vs
    cases q : st[l]? with
    | none => simp only [q] at h; exact h.elim
    | some o =>
      cases o with
      | dic _ => simp only [q] at h; exact h.elim
      | lst es =>
        simp only [q] at h
        by_cases hl : es.length < 1000000
        · rw [if_pos hl] at h
          obtain ⟨a, ys, rfl, h1, h2, h3⟩ := isLoc_v s v rfl q
          refine ⟨a, ys, y, rfl, rfl, h2, by rw [← h3.len]; exact Nat.lt_of_lt_of_le hl (big_ok (Nat.le_refl _)), ?_⟩
          exact RES.ok' h (Ext.set h1) (s.set h1 ⟨_, rfl, h3.app (VDs.one w)⟩) rfl
        · rw [if_neg hl] at h; exact h.elim
  · exact h.elim⟩
def popD : D → List D → Sto → Res D
  | .loc l, [], st => match st[l]? with
    | some (.lst ds) => match ds[ds.length - 1]? with
      | some d => .ok d (st.set l (.lst ds.dropLast))
      | none => .bad
    | _ => .bad
  | _, _, _ => .bad
theorem VDs.dropLast {K H r} {ds : List D} {xs : List V} (h : VDs K H r ds xs) : VDs K H r ds.dropLast xs.dropLast := by
  rw [List.dropLast_eq_take, List.dropLast_eq_take, h.len]
  exact h.take _
theorem me_pop : MeF X "list.pop" "list" popD isLst := ⟨fun s v h => isLst_ty s v h, rPop, mt_pop, fun E H r st d ds x xs Q s v vs h => by
  unfold popD at h
  split at h
  · rename_i l
    cases vs
    cases q : st[l]? with
    | none => simp only [q] at h; exact h.elim
    | some o =>
      cases o with
      | dic _ => simp only [q] at h; exact h.elim
      | lst es =>
        simp only [q] at h
        obtain ⟨a, ys, rfl, h1, h2, h3⟩ := isLoc_v s v rfl q
        cases q2 : es[es.length - 1]? with
        | none => simp only [q2] at h; exact h.elim
        | some z =>
          simp only [q2] at h
          obtain ⟨y, h4, h5⟩ := h3.get q2
          refine ⟨a, ys, y, rfl, rfl, h2, by rw [← h3.len]; exact h4, ?_⟩
          have e := Ext.set (H := H) (r := r) (o := .lst ys.dropLast) h1
          exact RES.ok' h e (s.set h1 ⟨_, rfl, h3.dropLast⟩) (h5.ext e)
  · exact h.elim⟩
theorem VDs.erase {K H r} : ∀ {ds : List D} {xs : List V} (i : Nat), VDs K H r ds xs → VDs K H r (ds.eraseIdx i) (xs.eraseIdx i)
  | [], _, i, h => by cases h; simp [VDs]
  | d' :: ds, _, 0, h => by
    obtain ⟨y, t, rfl, h2, h3⟩ := h
    exact h3
  | d' :: ds, _, i + 1, h => by
    obtain ⟨y, t, rfl, h2, h3⟩ := h
    exact ⟨y, t.eraseIdx i, rfl, h2, VDs.erase i h3⟩
def popAtD : D → List D → Sto → Res D
  | .loc l, [.int i], st => match st[l]? with
    | some (.lst ds) => if 0 ≤ i ∧ i < 2 ^ 62 then (match ds[i.toNat]? with
      | some d => .ok d (st.set l (.lst (ds.eraseIdx i.toNat)))
      | none => .bad) else .bad
    | _ => .bad
  | _, _, _ => .bad
theorem me_popAt : MeF X "list.pop" "list" popAtD isLst := ⟨fun s v h => isLst_ty s v h, rPopAt, mt_popAt, fun E H r st d ds x xs Q s v vs h => by
  unfold popAtD at h
  split at h
  · rename_i l i
    obtain ⟨y, rfl, w⟩ := vds1 vs
    cases w
    cases q : st[l]? with
    | none => simp only [q] at h; exact h.elim
    | some o =>
      cases o with
      | dic _ => simp only [q] at h; exact h.elim
      | lst es =>
        simp only [q] at h
        obtain ⟨a, ys, rfl, h1, h2, h3⟩ := isLoc_v s v rfl q
        by_cases hi : 0 ≤ i ∧ i < 2 ^ 62
        · rw [if_pos hi] at h
          obtain ⟨i0, i1⟩ := hi
          cases q2 : es[i.toNat]? with
          | none => simp only [q2] at h; exact h.elim
          | some z =>
            simp only [q2] at h
            obtain ⟨y, h4, h5⟩ := h3.get q2
            have hlt := (List.getElem?_eq_some_iff.mp h4).1
            refine ⟨a, ys, i, i.toNat, y, rfl, rfl, h2, by omega, by omega, seqIndex_of i0 (by omega), h4, ?_⟩
            have e := Ext.set (H := H) (r := r) (o := .lst (ys.eraseIdx i.toNat)) h1
            exact RES.ok' h e (s.set h1 ⟨_, rfl, h3.erase _⟩) (h5.ext e)
        · rw [if_neg hi] at h; exact h.elim
  · exact h.elim⟩
def extD : D → List D → Sto → Res D
  | .loc l, [d], st => match st[l]?, madeD d st with
    | some (.lst ds), some es => if ds.length + es.length < 1000000 then .ok .non (st.set l (.lst (ds ++ es))) else .bad
    | _, _ => .bad
  | _, _, _ => .bad
theorem me_extend : MeF X "list.extend" "list" extD isLst := ⟨fun s v h => isLst_ty s v h, rExtend, mt_extend, fun E H r st d ds x xs Q s v vs h => by
  unfold extD at h
  split at h
  · rename_i l d
    obtain ⟨y, rfl, w⟩ := vds1 vs
    split at h
    · rename_i es zs q q2
      by_cases hl : es.length + zs.length < 1000000
      · rw [if_pos hl] at h
        obtain ⟨a, ys, rfl, h1, h2, h3⟩ := isLoc_v s v rfl q
        obtain ⟨b, ws, rfl, h4, h5⟩ := madeD_v s q2 w
        refine ⟨a, b, ys, ws, rfl, rfl, h2, h5, by rw [← h3.len, ← h4.len]; exact big_ok (Nat.le_of_lt hl), ?_⟩
        exact RES.ok' h (Ext.set h1) (s.set h1 ⟨_, rfl, h3.app h4⟩) rfl
      · rw [if_neg hl] at h; exact h.elim
    · exact h.elim
  · exact h.elim⟩
def insD : D → List D → Sto → Res D
  | .loc l, [.int i, d], st => match st[l]? with
    | some (.lst ds) => if ds.length < 1000000 ∧ 0 ≤ i ∧ i < 2 ^ 62 then .ok .non (st.set l (.lst (ds.take i.toNat ++ [d] ++ ds.drop i.toNat))) else .bad
    | _ => .bad
  | _, _, _ => .bad
theorem me_insert : MeF X "list.insert" "list" insD isLst := ⟨fun s v h => isLst_ty s v h, _, mt_insert, fun E H r st d ds x xs Q s v vs h => by
  unfold insD at h
  split at h
  · rename_i l i d
    obtain ⟨y, z, rfl, w, w2⟩ := vds2 vs
    cases w
    cases q : st[l]? with
    | none => simp only [q] at h; exact h.elim
    | some o =>
      cases o with
      | dic _ => simp only [q] at h; exact h.elim
      | lst es =>
        simp only [q] at h
        by_cases hl : es.length < 1000000 ∧ 0 ≤ i ∧ i < 2 ^ 62
        · rw [if_pos hl] at h
          obtain ⟨l1, l2, l3⟩ := hl
          obtain ⟨a, ys, rfl, h1, h2, h3⟩ := isLoc_v s v rfl q
          refine ⟨a, ys, i, z, rfl, rfl, h2, by rw [← h3.len]; exact Nat.lt_of_lt_of_le l1 (big_ok (Nat.le_refl _)), l2, by omega, ?_⟩
          exact RES.ok' h (Ext.set h1) (s.set h1 ⟨_, rfl, ((h3.take _).app (VDs.one w2)).app (h3.drop _)⟩) rfl
        · rw [if_neg hl] at h; exact h.elim
  · exact h.elim⟩

/-! ### dicts -/
/-- {} -/
def eDNew : EM := fun _ st => .ok (.loc st.length) (st ++ [.dic []])
theorem fe_dnew : FE X W (.Dict [] [] pos) eDNew := PE.imp pe_dnewK fun σ H Q ⟨r, env, st, hE, hS, h⟩ p hp =>
  RES.ok' h (Ext.grown hS hp) (hS.grown hp ⟨[], rfl, .nil⟩) ⟨p, rfl, by rw [← hS.len]; simp⟩
/-- d.get(k, x) -/
def eGet2 (mo ma mb : EM) : EM := fun env st => (mo env st).bind fun d st1 => if (dicD d st1).isSome = true then (ma env st1).bind fun k st2 => (mb env st2).bind fun z st3 => match dicD d st3, keyD k with
  | some kvs, some key => .ok ((dget kvs key).getD z) st3
  | _, _ => .bad else .bad
theorem fe_get2 (hu : X.A.units + 1 < cLine) (ho : FE X W o mo) (ha : FE X W a ma) (hb : FE X W b mb) (M : M2 X o "get" apos a b cpos) : FE X W (.Call (.Attribute o "get" apos) [a, b] [] cpos) (eGet2 mo ma mb) :=
  PE.imp (pe_dget2 hu ho ha hb M) fun σ H Q ⟨r, env, st, hE, hS, h⟩ => ⟨r, env, st, hE, hS, RES.seq h fun d st1 x H1 r1 e1 s1 v1 q1 => by
    cases q : dicD d st1 with
    | none => simp [q] at q1; exact q1.elim
    | some kvs0 =>
      simp only [q, Option.isSome_some, if_true] at q1
      obtain ⟨a, kxs, rfl, p1, p2⟩ := dicD_v s1 q v1
      refine ⟨a, rfl, .inl ⟨_, .inl p2⟩, r1, env, st1, hE.ext e1, s1, RES.seq q1 fun k st2 y H2 r2 e2 s2 v2 q2 => ?_⟩
      refine ⟨r2, env, st2, (hE.ext e1).ext e2, s2, RES.seq q2 fun z st3 w H3 r3 e3 s3 v3 q3 => ?_⟩
      cases c1 : dicD d st3 with
      | none => simp only [c1] at q3; exact q3.elim
      | some kvs =>
        cases c2 : keyD k with
        | none => simp only [c1, c2] at q3; exact q3.elim
        | some key =>
          simp only [c1, c2] at q3
          obtain ⟨a', kys, ea, p3, p4⟩ := dicD_v s3 c1 ((v1.ext e2).ext e3)
          cases ea
          refine ⟨valV kys key, ?_, ?_⟩
          · rw [keyD_v c2 v2]; exact DGet.k p4
          · have h3 := val_of (k := key) p3
            cases c3 : dget kvs key with
            | none => rw [c3] at h3 q3; rw [show valV kys key = none from h3]; exact RES.ok q3 s3 v3
            | some u => rw [c3] at h3 q3; obtain ⟨w', h4, h5⟩ := h3; rw [h4]; exact RES.ok q3 s3 h5⟩

/-! ### sorted -/
/-- ascending -/
def insI (i : Int) : List Int → List Int
  | [] => [i]
  | j :: r => if i ≤ j then i :: j :: r else j :: insI i r
def srtI : List Int → List Int
  | [] => []
  | i :: r => insI i (srtI r)
theorem insI_perm (i : Int) : ∀ l : List Int, (insI i l).Perm (i :: l)
  | [] => .refl _
  | j :: r => by
    unfold insI
    split
    · exact .refl _
    · exact ((insI_perm i r).cons j).trans (.swap i j r)
theorem srtI_perm : ∀ l : List Int, (srtI l).Perm l
  | [] => .refl _
  | i :: r => (insI_perm i _).trans ((srtI_perm r).cons i)
theorem insI_mono {i : Int} : ∀ {l : List Int}, l.Pairwise (· ≤ ·) → (insI i l).Pairwise (· ≤ ·)
  | [], _ => by simp [insI]
  | j :: r, h => by
    unfold insI
    split
    · rename_i hc
      refine List.pairwise_cons.mpr ⟨fun b hb => ?_, h⟩
      rcases List.mem_cons.mp hb with rfl | hb
      · exact hc
      · exact Int.le_trans hc ((List.pairwise_cons.mp h).1 b hb)
    · rename_i hc
      refine List.pairwise_cons.mpr ⟨fun b hb => ?_, insI_mono (List.pairwise_cons.mp h).2⟩
      rcases List.mem_cons.mp ((insI_perm i r).mem_iff.mp hb) with rfl | hb
      · omega
      · exact (List.pairwise_cons.mp h).1 b hb
theorem srtI_mono : ∀ l : List Int, (srtI l).Pairwise (· ≤ ·)
  | [] => .nil
  | i :: r => insI_mono (srtI_mono r)
theorem srtI_eq {l m : List Int} (h : m.Perm l) (hm : m.Pairwise (· ≤ ·)) : m = srtI l :=
  List.Perm.eq_of_pairwise (fun a b _ _ h1 h2 => Int.le_antisymm h1 h2) hm (srtI_mono l) (h.trans (srtI_perm l).symm)
def keysI : List (Key × D) → Option (List Int)
  | [] => some []
  | (.inl i, _) :: r => match keysI r with
    | some ns => some (i :: ns)
    | none => none
  | _ :: _ => none
theorem keysI_eq : ∀ {kvs : List (Key × D)} {ns : List Int}, keysI kvs = some ns → kvs.map (·.1) = ns.map Sum.inl
  | [], ns, h => by cases h; rfl
  | (.inl i, d) :: r, ns, h => by
    unfold keysI at h
    cases q : keysI r with
    | none => rw [q] at h; cases h
    | some ms => rw [q] at h; cases h; rw [List.map_cons, keysI_eq q]; rfl
  | (.inr _, _) :: _, _, h => by cases h
def sortB : List D → Sto → Res (List D)
  | [d], st => match dicD d st with
    | some kvs => match keysI kvs with
      | some ns => if ns.length < 64 then .ok ((srtI ns).map .int) st else .bad
      | none => .bad
    | none => match lstD d st with
      | some ds => match intsD ds with
        | some ns => .ok ((srtI ns).map .int) st
        | none => .bad
      | none => .bad
  | _, _ => .bad
theorem paired_keys {K H r} : ∀ {kvs : List (Key × D)} {kxs : List (Key × V)}, Paired (fun (p : Key × D) (q : Key × V) => p.1 = q.1 ∧ VD K H r p.2 q.2) kvs kxs → kvs.map (·.1) = kxs.map (·.1)
  | _, _, .nil => rfl
  | _, _, .cons h t => by rw [List.map_cons, List.map_cons, h.1, paired_keys t]
theorem bn_sorted (hc : X.calm = true) : BiN X (.builtin "sorted") sortB := ⟨_, CallR.or cr_sortedI (call_sortedDI hc), fun E H r st ds xs Q s v h => by
  unfold sortB at h
  split at h
  · rename_i d
    obtain ⟨x, rfl, w⟩ := vds1 v
    cases q : dicD d st with
    | some kvs =>
      simp only [q] at h
      cases q2 : keysI kvs with
      | none => simp only [q2] at h; exact h.elim
      | some ns =>
        simp only [q2] at h
        by_cases hl : ns.length < 64
        · rw [if_pos hl] at h
          obtain ⟨a, kxs, rfl, h1, h2⟩ := dicD_v s q w
          refine .inr ⟨a, kxs, ns, rfl, .inl h2, by rw [← paired_keys h1]; exact keysI_eq q2, hl, fun ys p hy hs hp => ?_⟩
          rw [srtI_eq hy hs]
          exact RES.ok h s (VDs.ints _) p hp
        · rw [if_neg hl] at h; exact h.elim
    | none =>
      simp only [q] at h
      cases q2 : lstD d st with
      | none => simp only [q2] at h; exact h.elim
      | some es =>
        simp only [q2] at h
        cases q3 : intsD es with
        | none => simp only [q3] at h; exact h.elim
        | some ns =>
          simp only [q3] at h
          obtain ⟨a, ys, rfl, h1, h2⟩ := lstD_v s q2 w
          rw [intsD_eq q3] at h1
          rw [vds_ints h1] at h2
          refine .inl ⟨a, ns, rfl, h2, fun ns' p hy hs hp => ?_⟩
          rw [srtI_eq hy hs]
          exact RES.ok h s (VDs.ints _) p hp
  · exact h.elim⟩
end
end FL

namespace FL
open PySem PySem.Spec PyProof.Rows L2

/-! ### the module's defs -/
structure DefAt (K : PySem.W.Frag) (mg : Str → Option Value) (x : Str) (st : Stmt) (ps : List Str) : Prop where
  ex : ∃ f fd, L2.Fun K x x st f fd ∧ mg x = some (.ref f) ∧ Binds K fd ps []
theorem def_ok {P : Program} {w : World} {K : PySem.W.Frag} {mg : Str → Option Value} {base : Heap} {x : Str} {st : Stmt} {N ps : List Str} {k n nl : Nat} {m : SM4} {fz : Bool} (F : DefAt K mg x st ps) (S : FnScope N ps (defScope st)) (hn : ps.length = n) (hl : N.length = nl)
    (hb : ∀ (f : Addr) (cdv : Value) (A : Around) (outer : List PySem.Env) (s : Shared) (H : Hp) (E : XK), Room k (A.deeper (envOfC x (defScope st) s.heap.objs.size f cdv)) →
      FB (cxOf (L2.CX P w) P w K mg base N x (defScope st) f cdv A outer s H E) (fun cls d _ H' => E cls d H') (defBody st) m) : DefOk P w K mg base (L2.CX P w) (k + 1) x n (mFn fz nl m) := by
  subst hn hl
  obtain ⟨f, fd, h1, h2, h3⟩ := F.ex
  exact ⟨f, fd, ps, fn_ok h1 S fun cdv A outer s H E hr => hb f cdv A outer s H E hr, h2, h1.kp, h3⟩
theorem fb_never {X : Cx} {W : WX} {ss : List Stmt} : FB X W ss sNever := PSs.imp pss_never fun D σ H ⟨r, env, st, hE, hS, h⟩ => h
/-- no fuel left -/
theorem def_bad {P : Program} {w : World} {K : PySem.W.Frag} {mg : Str → Option Value} {base : Heap} {x : Str} {st : Stmt} {N ps : List Str} {k n : Nat} (F : DefAt K mg x st ps) (S : FnScope N ps (defScope st)) (hn : ps.length = n) :
    DefOk P w K mg base (L2.CX P w) (k + 1) x n (fun _ _ => .bad) := by
  have h : DefOk P w K mg base (L2.CX P w) (k + 1) x n (mFn false N.length sNever) := def_ok F S hn rfl fun f cdv A outer s H E hr => fb_never
  exact h
theorem tkD {P : Program} {w : World} {K : PySem.W.Frag} {mg : Str → Option Value} {base : Heap} {x : Str} {sc : Scope} {N : List Str} {f : Addr} {cdv : Value} {A : Around} {outer : List PySem.Env} {s : Shared} {H : Hp} {E : XK} :
    Takes (cxOf (L2.CX P w) P w K mg base N x sc f cdv A outer s H E) (fun cls d _ H' => E cls d H') := takes_of rfl rfl rfl rfl
theorem hxD {P : Program} {w : World} {K : PySem.W.Frag} {mg : Str → Option Value} {base : Heap} {x : Str} {sc : Scope} {N : List Str} {f : Addr} {cdv : Value} {A : Around} {outer : List PySem.Env} {s : Shared} {H : Hp} {E : XK} :
    ∀ σ, PassesAt (L2.CX P w) (cxOf (L2.CX P w) P w K mg base N x sc f cdv A outer s H E) σ (WE (fun cls d _ H' => E cls d H') σ) := fun σ => passAt tkD σ
theorem hpD {P : Program} {w : World} {K : PySem.W.Frag} {mg : Str → Option Value} {base : Heap} {x : Str} {sc : Scope} {N : List Str} {f : Addr} {cdv : Value} {A : Around} {outer : List PySem.Env} {s : Shared} {H : Hp} {E : XK} :
    PassesOwn (model P w) (A.deeper (envOfC x sc s.heap.objs.size f cdv)) (envOfC x sc s.heap.objs.size f cdv) (cxOf (L2.CX P w) P w K mg base N x sc f cdv A outer s H E).xe :=
  passes_of (X := cxOf (L2.CX P w) P w K mg base N x sc f cdv A outer s H E) rfl
theorem blk_in {N N' : List Str} {sc sc' scope : Scope} {own : List (Str × Nat)} (hN : N' = N) (hs : sc' = sc) (h : blkC N sc scope own = true) : BlkOk N' sc' scope own := by
  subst hN hs
  exact blkOk_by h
/-- in a comprehension's block nothing is let out -/
theorem hx0 {X : Cx} : ∀ σ, PassesAt (L2.CX X.prog X.w) X σ (WE E0W σ) := fun σ pins H s e s' I h => by
  obtain ⟨a, B, H', cls, d, _, _, _, _, _, _, _, hf⟩ := h
  exact hf.elim
theorem defAt_mk {K : PySem.W.Frag} {mg : Str → Option Value} {h : Heap} {x : Str} {st : Stmt} {ps : List Str} {f : Addr} {oc : Value} {od an : Option Addr} {osl : Array (Option Value)} {kV doc pm cdv ct : Value} (X : K.In h) (G : h.Ns mainGlobals mg)
    (a : PySem.W.nsIn K mainGlobals x = some (some (.ref f)))
    (l : K.lookup f = some ⟨oc, od, .func (PySem.W.fnOf x x (defArgs st) (defBody st) (defScope st) .none kV doc pm an cdv ct), osl⟩)
    (c : PySem.W.codeIn K cdv x = true) (k : PySem.W.keepIn K (.ref f) = true)
    (b : ∀ F : L2.Fun K x x st f (PySem.W.fnOf x x (defArgs st) (defBody st) (defScope st) .none kV doc pm an cdv ct), Binds K (PySem.W.fnOf x x (defArgs st) (defBody st) (defScope st) .none kV doc pm an cdv ct) ps []) : DefAt K mg x st ps :=
  ⟨f, _, fun_mk l c k, PySem.W.mg_of X G a, b (fun_mk l c k)⟩
/-! ### the module's constants -/
theorem const_int {K : PySem.W.Frag} {mg : Str → Option Value} {h : Heap} {x : Str} {i : Int} {t : Tok} (X : K.In h) (G : h.Ns mainGlobals mg) (a : PySem.W.nsIn K mainGlobals x = some (some (.int i t))) : ConstD K mg x (.int i) :=
  ⟨.int i t, .int i, PySem.W.mg_of X G a, ⟨t, rfl⟩, fun _ _ => rfl⟩
theorem const_tup {K : PySem.W.Frag} {mg : Str → Option Value} {h : Heap} {x : Str} {r : Addr} {od : Option Addr} {its : Array Value} {n : Nat} {sl : Array (Option Value)} {xs : List V} {ds : List D} (X : K.In h) (G : h.Ns mainGlobals mg)
    (a : PySem.W.nsIn K mainGlobals x = some (some (.ref r))) (l : K.lookup r = some ⟨.type "tuple", od, .seq its n, sl⟩) (hz : its.size ≤ 1000) (v : Vals xs its.toList) (hd : ∀ H r, VDs K H r ds xs) : ConstD K mg x (.tup ds) :=
  ⟨.ref r, .ref r, PySem.W.mg_of X G a, rfl, fun H ρ => ⟨r, xs, rfl, .inr ⟨_, its, n, l, rfl, rfl, Nat.le_of_lt (L2.small1000 hz), v⟩, hd H ρ⟩⟩
theorem cx_false {P : Program} {w : World} {H : Hp} {s : Shared} {e : Value} {s' : Shared} (h : L2.CX P w [] H s (fun _ _ _ => False) e s') : False := by
  obtain ⟨a, B, H', cls, d, _, _, _, _, _, _, _, hf⟩ := h
  exact hf
/-- the whole law, of its own function -/
theorem law_sp {K : PySem.W.Frag} {mg : Str → Option Value} {m : Fn} (h : ∀ ns : List Int, ns.length ≤ 63 → ∃ st, m [.scr ns] [] = .ok (.bl true) st) :
    ∀ vs H Q E, (∃ (a : Addr) (ns : List Int), vs = [V.ref a] ∧ SqL K H a (ns.map V.int) ∧ ns.length ≤ 63 ∧ ∀ H', Q (.bl true) H') → spM K mg 1 m vs H Q E := by
  rintro vs H Q E ⟨a, ns, rfl, hS, hl, q⟩
  obtain ⟨st, e⟩ := h ns hl
  refine ⟨rfl, ⟨[], []⟩, [], [.scr ns], ⟨rfl, List.nodup_nil, (fun l o q => by simp at q), fun a ha => absurd ha (by simp)⟩, ⟨.ref a, [], rfl, ⟨a, rfl, ?_⟩, rfl⟩, ?_⟩
  · rcases hS with h | h
    · exact .inl ⟨⟨by simp, by simp⟩, h⟩
    · exact .inr h
  · rw [e]
    intro b H' r' _ _ hb
    rw [show b = V.bl true from hb]
    exact q H'
end FL

namespace FL
open PySem PySem.Spec PyProof.Rows L2

/-! ### sorted(xs), xs a list of tuples of ints and texts -/
abbrev TKey := List (Int ⊕ List Nat)
def itemsV (sh : Nat → Bool) : Nat → List V → Option TKey
  | _, [] => some []
  | i, .int n :: r => if sh i = true then none else (itemsV sh (i + 1) r).map (Sum.inl n :: ·)
  | i, .str x :: r => if sh i = true then (itemsV sh (i + 1) r).map (Sum.inr x.cps.toList :: ·) else none
  | _, _ :: _ => none
theorem itemsV_raw {sh : Nat → Bool} : ∀ {xs : List V} {us : List Value} (i : Nat) {k : TKey}, Vals xs us → itemsV sh i xs = some k → tupItems sh i us = some k
  | _, _, _, _, .nil, h => h
  | x :: xs, _ :: _, i, k, .cons r t, h => by
    cases x with
    | int n =>
      obtain ⟨tk, rfl⟩ := (show ∃ t, _ = Value.int n t from r)
      unfold itemsV at h
      show (if sh i = true then none else (tupItems sh (i + 1) _).map (Sum.inl n :: ·)) = some k
      by_cases hs : sh i = true
      · rw [if_pos hs] at h; cases h
      · rw [if_neg hs] at h ⊢
        obtain ⟨k', e, rfl⟩ := Option.map_eq_some_iff.mp h
        rw [itemsV_raw (i + 1) t e]; rfl
    | str z =>
      obtain ⟨tk, rfl⟩ := (show ∃ t, _ = Value.str z t from r)
      unfold itemsV at h
      show (if sh i = true then (tupItems sh (i + 1) _).map (Sum.inr z.cps.toList :: ·) else none) = some k
      by_cases hs : sh i = true
      · rw [if_pos hs] at h ⊢
        obtain ⟨k', e, rfl⟩ := Option.map_eq_some_iff.mp h
        rw [itemsV_raw (i + 1) t e]; rfl
      · rw [if_neg hs] at h; cases h
    | _ => cases h
def ltK (a b : TKey) : Bool := (listOrd itemOrd).blt a b
def KeyAt (K : PySem.W.Frag) (H : Hp) (sh : Nat → Bool) (x : V) (k : TKey) : Prop := ∃ t its, x = .ref t ∧ SqT K H t its ∧ its ≠ [] ∧ itemsV sh 0 its = some k
def rSortTG (K : PySem.W.Frag) : List V → Hp → VK → Prop := fun vs H Q => ∃ (a : Addr) (xs : List V) (sh : Nat → Bool), vs = [V.ref a] ∧ SqL K H a xs ∧ (∀ x ∈ xs, ∃ k, KeyAt K H sh x k) ∧
  ∀ (ys : List V) (p : Addr), ys.Perm xs → ys.Pairwise (fun x y => ∀ k k', KeyAt K H sh x k → KeyAt K H sh y k' → ltK k' k = false) → H p = none → Q (.ref p) (upd H p (.lst ys))
section
variable {X : Cx} {pins : List (Addr × Obj)} {σ : L2.St} {H : Hp} {s : Shared}
theorem keyAt_raw (I : Inv X pins σ H s) {sh : Nat → Bool} {t : Addr} {k : TKey} (h : KeyAt X.K H sh (.ref t) k) : G.tupKeyC s.heap sh (.ref t) = some k ∧ ∃ f, TupOf s.heap sh (.ref t) f := by
  obtain ⟨t', its, e, h1, h2, h3⟩ := h
  cases e
  obtain ⟨us, rv, ⟨o, ho, hc, n, hd⟩, _⟩ := I.tuple h1
  have e := itemsV_raw 0 rv h3
  refine ⟨?_, ?_⟩
  · unfold G.tupKeyC
    have e1 : G.isTupObj s.heap (.ref t) = true := by simp [G.isTupObj, ho, hc]
    rw [if_pos e1]
    simp only [tupKey, ho, hd]
    exact e
  · cases rv with
    | nil => exact absurd rfl h2
    | @cons x u xs us r rt =>
      refine ⟨u, t, o, _, n, rfl, ho, hc, hd, by simp, fun hs => ?_, fun hs => ?_⟩
      · cases x with
        | int i => obtain ⟨tk, rfl⟩ := (show ∃ t, _ = Value.int i t from r); exact ⟨_, _, rfl⟩
        | str i => unfold itemsV at h3; rw [if_neg (by rw [hs]; decide)] at h3; cases h3
        | _ => cases h3
      · cases x with
        | str i => obtain ⟨tk, rfl⟩ := (show ∃ t, _ = Value.str i t from r); exact ⟨_, _, rfl⟩
        | int i => unfold itemsV at h3; rw [if_pos hs] at h3; cases h3
        | _ => cases h3
theorem cr_sortTG : CallR X (.builtin "sorted") (rSortTG X.K) := by
  intro pins s σ H vs us Q I r h
  obtain ⟨a, xs, sh, rfl, hs, hx, q⟩ := h
  obtain ⟨its, rv, hl, hz⟩ := I.list hs
  rw [Vals.ref1 r]
  obtain ⟨e1, e2⟩ := bkV_refs rv fun x m => by
    obtain ⟨k, t, _, e, _⟩ := hx x m
    exact ⟨t, e⟩
  have raw : ∀ v ∈ its, ∃ t k, v = Value.ref t ∧ KeyAt X.K H sh (.ref t) k := fun v hv => by
    obtain ⟨t, rfl⟩ := e2 v hv
    have hm : V.ref t ∈ xs := by rw [e1]; exact List.mem_map.mpr ⟨_, hv, rfl⟩
    obtain ⟨k, hk⟩ := hx _ hm
    exact ⟨t, k, rfl, hk⟩
  have hts : ∀ l : List Value, (∀ v ∈ l, v ∈ its) → ∃ fs, TupsOf s.heap sh l fs := by
    intro l
    induction l with
    | nil => exact fun _ => ⟨[], .nil⟩
    | cons v l ih =>
      intro hl
      obtain ⟨fs, h1⟩ := ih fun u hu => hl u (List.mem_cons_of_mem _ hu)
      obtain ⟨t, k, rfl, hk⟩ := raw v (hl v List.mem_cons_self)
      obtain ⟨f, hf⟩ := (keyAt_raw I hk).2
      exact ⟨f :: fs, .cons hf h1⟩
  obtain ⟨fs, hfs⟩ := hts its fun _ h => h
  refine G.sorted_tups (shape := sh) (vs := its) (fs := fs) hl.isList hfs (fun v hv => ?_) (by rw [← rv.length]; exact hz) fun st' hp hso _ => ?_
  · obtain ⟨t, k, rfl, hk⟩ := raw v hv
    exact ⟨k, (keyAt_raw I hk).1⟩
  · -- the sorted list
    have hp' : (arrOf st').toList.Perm (its.zip its) := by
      have := hp
      rw [Array.perm_iff_toList_perm, pairsOf_toList] at this
      exact this
    have hdiag : ∀ p ∈ (arrOf st').toList, p.2 = p.1 ∧ p.1 ∈ its := fun p hpm => by
      have hm := hp'.mem_iff.mp hpm
      have : ∀ l : List Value, p ∈ l.zip l → p.2 = p.1 ∧ p.1 ∈ l := by
        intro l
        induction l with
        | nil => intro h; simp at h
        | cons v l ih =>
          intro h
          rw [List.zip_cons_cons] at h
          rcases List.mem_cons.mp h with rfl | h
          · exact ⟨rfl, List.mem_cons_self⟩
          · exact ⟨(ih h).1, List.mem_cons_of_mem _ (ih h).2⟩
      exact this its hm
    have hout : ((arrOf st').map (·.2)).toList.Perm its := by
      rw [Array.toList_map]
      have := hp'.map (·.2)
      rwa [List.map_snd_zip (Nat.le_refl _)] at this
    obtain ⟨ep, he'⟩ := PyProof.Rows.sortedAll_at s.heap its ((arrOf st').map (·.2))
    have h3 : ∀ u ∈ ((arrOf st').map (·.2)).toList, ∃ a, u = Value.ref a := fun u hu => e2 u (hout.mem_iff.mp hu)
    have hp2 : (((arrOf st').map (·.2)).toList.map bkV).Perm xs := by
      rw [e1]
      exact hout.map bkV
    have hlen : (((arrOf st').map (·.2)).toList.map bkV).length ≤ sizeLine := by
      rw [hp2.length_eq]
      exact hz
    refine ⟨.ref _, upd H (s.heap.objs.size + 1) (.lst (((arrOf st').map (·.2)).toList.map bkV)), I.laid (t' := s.toks) (fun _ _ => PyProof.Rows.sortedAll_old) (Nat.le_succ _) ⟨hlen, ((arrOf st').map (·.2)).toList, ep, bkV_vals h3, he'⟩, rfl, q _ _ hp2 ?_ (I.hok.fresh (Nat.le_succ _))⟩
    rw [List.pairwise_map, List.pairwise_iff_getElem]
    intro i j hi hj hij k k' hk hk'
    have hsz : (pairsOf its).size = ((arrOf st').map (·.2)).toList.length := by
      rw [hout.length_eq, pairsOf_size]
    have hle := hso i j (Nat.le_of_lt hij) (by rw [hsz]; exact hj)
    rw [Array.length_toList, Array.size_map] at hi hj
    have at_ : ∀ (m : Nat) (hm : m < (arrOf st').size) (hm2 : m < ((arrOf st').map (·.2)).toList.length) (z : TKey), KeyAt X.K H sh (bkV ((arrOf st').map (·.2)).toList[m]) z → KK (G.tupKindC s.heap sh) (arrOf st') m = z := by
      intro m hm hm2 z hz2
      have e3 : ((arrOf st').map (·.2)).toList[m] = (arrOf st')[m].2 := by simp
      have hd := hdiag (arrOf st')[m] (by simp)
      unfold KK
      rw [Array.getElem?_eq_getElem hm]
      show (G.tupKeyC s.heap sh (arrOf st')[m].1).getD [] = z
      rw [e3] at hz2
      obtain ⟨t, e4⟩ := e2 _ hd.2
      rw [hd.1, e4] at hz2
      rw [e4, (keyAt_raw I hz2).1]
      rfl
    have k1 := at_ i hi (by rw [Array.length_toList, Array.size_map]; exact hi) k hk
    have k2 := at_ j hj (by rw [Array.length_toList, Array.size_map]; exact hj) k' hk'
    rw [k1, k2] at hle
    exact hle
end
/-! .. as data -/
def itemsK (sh : Nat → Bool) : Nat → List D → Option TKey
  | _, [] => some []
  | i, .int n :: r => if sh i = true then none else match itemsK sh (i + 1) r with
    | some k => some (Sum.inl n :: k)
    | none => none
  | i, .str x :: r => if sh i = true then (match itemsK sh (i + 1) r with
    | some k => some (Sum.inr x.cps.toList :: k)
    | none => none) else none
  | _, _ :: _ => none
theorem itemsK_v {K H r} {sh : Nat → Bool} : ∀ {ds : List D} {xs : List V} (i : Nat) {k : TKey}, VDs K H r ds xs → itemsK sh i ds = some k → itemsV sh i xs = some k
  | [], _, _, _, h, e => by cases h; exact e
  | d :: ds, _, i, k, h, e => by
    obtain ⟨x, t, rfl, h1, h2⟩ := h
    cases d with
    | int n =>
      cases h1
      unfold itemsK at e
      unfold itemsV
      by_cases hs : sh i = true
      · rw [if_pos hs] at e; cases e
      · rw [if_neg hs] at e ⊢
        cases q : itemsK sh (i + 1) ds with
        | none => rw [q] at e; cases e
        | some k' => rw [q] at e; cases e; rw [itemsK_v (i + 1) h2 q]; rfl
    | str n =>
      cases h1
      unfold itemsK at e
      unfold itemsV
      by_cases hs : sh i = true
      · rw [if_pos hs] at e ⊢
        cases q : itemsK sh (i + 1) ds with
        | none => rw [q] at e; cases e
        | some k' => rw [q] at e; cases e; rw [itemsK_v (i + 1) h2 q]; rfl
      · rw [if_neg hs] at e; cases e
    | _ => cases e
theorem str_ext {x y : Str} (h : x.cps.toList = y.cps.toList) : x = y := by
  cases x; cases y
  congr
  exact Array.toList_inj.mp h
theorem itemsK_inj {sh : Nat → Bool} : ∀ {ds es : List D} (i : Nat) {k : TKey}, itemsK sh i ds = some k → itemsK sh i es = some k → ds = es
  | [], [], _, _, _, _ => rfl
  | [], e :: es, i, k, h1, h2 => by
    cases h1
    cases e with
    | int n => unfold itemsK at h2; split at h2; · cases h2
               split at h2 <;> cases h2
    | str n => unfold itemsK at h2; split at h2; · split at h2 <;> cases h2
               cases h2
    | _ => cases h2
  | d :: ds, [], i, k, h1, h2 => by
    cases h2
    cases d with
    | int n => unfold itemsK at h1; split at h1; · cases h1
               split at h1 <;> cases h1
    | str n => unfold itemsK at h1; split at h1; · split at h1 <;> cases h1
               cases h1
    | _ => cases h1
  | d :: ds, e :: es, i, k, h1, h2 => by
    have step : ∀ (d : D) (ds : List D) (k : TKey), itemsK sh i (d :: ds) = some k → ∃ k', itemsK sh (i + 1) ds = some k' ∧ ((∃ n, d = .int n ∧ k = Sum.inl n :: k') ∨ ∃ x : Str, d = .str x ∧ k = Sum.inr x.cps.toList :: k') := by
      intro d ds k h
      cases d with
      | int n =>
        unfold itemsK at h
        split at h
        · cases h
        · split at h
          · rename_i k' q; cases h; exact ⟨k', q, .inl ⟨n, rfl, rfl⟩⟩
          · cases h
      | str n =>
        unfold itemsK at h
        split at h
        · split at h
          · rename_i k' q; cases h; exact ⟨k', q, .inr ⟨n, rfl, rfl⟩⟩
          · cases h
        · cases h
      | _ => cases h
    obtain ⟨k1, a1, b1⟩ := step d ds k h1
    obtain ⟨k2, a2, b2⟩ := step e es k h2
    rcases b1 with ⟨n, rfl, rfl⟩ | ⟨x, rfl, rfl⟩
    · rcases b2 with ⟨m, rfl, q⟩ | ⟨m, rfl, q⟩
      · injection q with q1 q2
        cases q1; subst q2
        rw [itemsK_inj (i + 1) a1 a2]
      · injection q with q1 q2; cases q1
    · rcases b2 with ⟨m, rfl, q⟩ | ⟨m, rfl, q⟩
      · injection q with q1 q2; cases q1
      · injection q with q1 q2
        injection q1 with q1
        subst q2
        rw [itemsK_inj (i + 1) a1 a2, str_ext q1]
/-- pairs key, value -/
def insT (p : TKey × D) : List (TKey × D) → List (TKey × D)
  | [] => [p]
  | q :: r => if ltK q.1 p.1 = true then q :: insT p r else p :: q :: r
def srtT : List (TKey × D) → List (TKey × D)
  | [] => []
  | p :: r => insT p (srtT r)
theorem insT_perm (p : TKey × D) : ∀ l, (insT p l).Perm (p :: l)
  | [] => .refl _
  | q :: r => by
    unfold insT
    split
    · exact ((insT_perm p r).cons q).trans (.swap p q r)
    · exact .refl _
theorem srtT_perm : ∀ l, (srtT l).Perm l
  | [] => .refl _
  | p :: r => (insT_perm p _).trans ((srtT_perm r).cons p)
theorem ltK_trans {a b c : TKey} (h1 : ltK b a = false) (h2 : ltK c b = false) : ltK c a = false := by
  cases h : ltK c a with
  | false => rfl
  | true =>
    rcases (listOrd itemOrd).negTrans c b a h with h' | h'
    · rw [show ltK c b = true from h'] at h2; cases h2
    · rw [show ltK b a = true from h'] at h1; cases h1
theorem ltK_asymm {a b : TKey} (h : ltK a b = true) : ltK b a = false := by
  cases h2 : ltK b a with
  | false => rfl
  | true =>
    have := (listOrd itemOrd).trans a b a h h2
    rw [(listOrd itemOrd).irrefl] at this
    cases this
theorem insT_mono {p : TKey × D} : ∀ {l : List (TKey × D)}, l.Pairwise (fun a b => ltK b.1 a.1 = false) → (insT p l).Pairwise (fun a b => ltK b.1 a.1 = false)
  | [], _ => by simp [insT]
  | q :: r, h => by
    obtain ⟨h1, h2⟩ := List.pairwise_cons.mp h
    unfold insT
    split
    · rename_i hc
      refine List.pairwise_cons.mpr ⟨fun b hb => ?_, insT_mono h2⟩
      rcases List.mem_cons.mp ((insT_perm p r).mem_iff.mp hb) with rfl | hb
      · exact ltK_asymm hc
      · exact h1 b hb
    · rename_i hc
      have hc : ltK q.1 p.1 = false := by simpa using hc
      refine List.pairwise_cons.mpr ⟨fun b hb => ?_, h⟩
      rcases List.mem_cons.mp hb with rfl | hb
      · exact hc
      · exact ltK_trans hc (h1 b hb)
theorem srtT_mono : ∀ l : List (TKey × D), (srtT l).Pairwise (fun a b => ltK b.1 a.1 = false)
  | [] => .nil
  | _ :: r => insT_mono (srtT_mono r)
/-- keys of tuples -/
def tupK (sh : Nat → Bool) : List D → Option (List (TKey × D))
  | [] => some []
  | .tup (e :: es) :: r => match itemsK sh 0 (e :: es) with
    | some k => match tupK sh r with
      | some l => some ((k, .tup (e :: es)) :: l)
      | none => none
    | none => none
  | _ :: _ => none
def shapeOf : List D → Nat → Bool
  | .tup es :: _, i => match es[i]? with
    | some (.str _) => true
    | _ => false
  | _, _ => false
def GoodK (sh : Nat → Bool) (p : TKey × D) : Prop := ∃ es, p.2 = .tup es ∧ es ≠ [] ∧ itemsK sh 0 es = some p.1
theorem tupK_eq {sh : Nat → Bool} : ∀ {ds : List D} {l : List (TKey × D)}, tupK sh ds = some l → ds = l.map (·.2) ∧ ∀ p ∈ l, GoodK sh p
  | [], l, h => by cases h; exact ⟨rfl, by simp⟩
  | d :: ds, l, h => by
    cases d with
    | tup es =>
      cases es with
      | nil => cases h
      | cons e es =>
        unfold tupK at h
        cases q : itemsK sh 0 (e :: es) with
        | none => rw [q] at h; cases h
        | some k =>
          rw [q] at h
          cases q2 : tupK sh ds with
          | none => rw [q2] at h; cases h
          | some l' =>
            rw [q2] at h; cases h
            obtain ⟨h1, h2⟩ := tupK_eq q2
            refine ⟨by rw [List.map_cons, ← h1], fun p hp => ?_⟩
            rcases List.mem_cons.mp hp with rfl | hp
            · exact ⟨_, rfl, by simp, q⟩
            · exact h2 p hp
    | _ => cases h
theorem vds_perm {K H r} : ∀ {xs ys : List V}, xs.Perm ys → ∀ {l : List (TKey × D)}, VDs K H r (l.map (·.2)) xs → ∃ l' : List (TKey × D), l'.Perm l ∧ VDs K H r (l'.map (·.2)) ys := by
  intro xs ys h
  induction h with
  | nil => exact fun {l} hv => ⟨l, .refl _, hv⟩
  | cons x _ ih =>
    intro l hv
    cases l with
    | nil => cases hv
    | cons p l =>
      obtain ⟨y, t, e, h1, h2⟩ := hv
      cases e
      obtain ⟨l', hp, hv'⟩ := ih h2
      exact ⟨p :: l', hp.cons p, _, _, rfl, h1, hv'⟩
  | swap x y l0 =>
    intro l hv
    cases l with
    | nil => cases hv
    | cons p l =>
      obtain ⟨_, t, e, h1, h2⟩ := hv
      cases e
      cases l with
      | nil => cases h2
      | cons p' l =>
        obtain ⟨_, t, e, h3, h4⟩ := h2
        cases e
        exact ⟨p' :: p :: l, .swap p p' l, _, _, rfl, h3, _, _, rfl, h1, h4⟩
  | trans _ _ ih1 ih2 =>
    intro l hv
    obtain ⟨l1, p1, v1⟩ := ih1 hv
    obtain ⟨l2, p2, v2⟩ := ih2 v1
    exact ⟨l2, p2.trans p1, v2⟩
def sortT (ds : List D) : Option (List D) := match tupK (shapeOf ds) ds with
  | some l => some ((srtT l).map (·.2))
  | none => none
def sortB2 : List D → Sto → Res (List D)
  | [d], st => match dicD d st with
    | some _ => sortB [d] st
    | none => match lstD d st with
      | some ds => match intsD ds with
        | some _ => sortB [d] st
        | none => match sortT ds with
          | some es => .ok es st
          | none => .bad
      | none => .bad
  | _, _ => .bad
theorem bn_sorted2 {X : Cx} (hc : X.calm = true) : BiN X (.builtin "sorted") sortB2 := by
  obtain ⟨rr, c1, c2⟩ := bn_sorted (X := X) hc
  refine ⟨_, CallR.or c1 cr_sortTG, fun E H r st ds xs Q s v h => ?_⟩
  unfold sortB2 at h
  split at h
  · rename_i d
    split at h
    · exact .inl (c2 E H r st _ xs Q s v h)
    · split at h
      · rename_i es q2
        split at h
        · exact .inl (c2 E H r st _ xs Q s v h)
        · unfold sortT at h
          cases q3 : tupK (shapeOf es) es with
          | none => simp only [q3] at h; exact h.elim
          | some l =>
            simp only [q3] at h
            obtain ⟨x, rfl, w⟩ := vds1 v
            obtain ⟨a, ys, rfl, h1, h2⟩ := lstD_v s q2 w
            obtain ⟨k1, k2⟩ := tupK_eq q3
            rw [k1] at h1
            have key : ∀ (l : List (TKey × D)) (ys : List V), (∀ p ∈ l, GoodK (shapeOf es) p) → VDs X.K H r (l.map (·.2)) ys → ∀ (i : Nat) (p : TKey × D), l[i]? = some p → ∃ y, ys[i]? = some y ∧ KeyAt X.K H (shapeOf es) y p.1 := by
              intro l ys hg hv i p hp
              obtain ⟨y, e1, e2⟩ := hv.get (i := i) (d := p.2) (by rw [List.getElem?_map, hp]; rfl)
              obtain ⟨zs, e3, e4, e5⟩ := hg p (List.mem_of_getElem? hp)
              rw [e3] at e2
              obtain ⟨t, its, rfl, f1, f2⟩ := e2
              refine ⟨_, e1, t, its, rfl, f1.sq, fun z => ?_, itemsK_v 0 f2 e5⟩
              have := f2.len
              rw [z] at this
              cases zs with
              | nil => exact e4 rfl
              | cons _ _ => cases this
            refine .inr ⟨a, ys, shapeOf es, rfl, h2, fun x hx => ?_, fun zs p hp hs hn => ?_⟩
            · obtain ⟨i, hi, e⟩ := List.getElem_of_mem hx
              have hi2 : i < l.length := by
                have := h1.len
                rw [List.length_map] at this
                omega
              obtain ⟨y, e1, e2⟩ := key l ys k2 h1 i l[i] (List.getElem?_eq_getElem hi2)
              rw [List.getElem?_eq_getElem hi, e] at e1
              cases e1
              exact ⟨_, e2⟩
            · obtain ⟨l', p1, v1⟩ := vds_perm hp.symm h1
              have g' : ∀ p ∈ l', GoodK (shapeOf es) p := fun p hp => k2 p (p1.mem_iff.mp hp)
              have m' : l'.Pairwise (fun a b => ltK b.1 a.1 = false) := by
                rw [List.pairwise_iff_getElem] at hs ⊢
                intro i j hi hj hij
                obtain ⟨y1, e1, e2⟩ := key l' zs g' v1 i l'[i] (List.getElem?_eq_getElem hi)
                obtain ⟨y2, e3, e4⟩ := key l' zs g' v1 j l'[j] (List.getElem?_eq_getElem hj)
                obtain ⟨i1, i2⟩ := List.getElem?_eq_some_iff.mp e1
                obtain ⟨j1, j2⟩ := List.getElem?_eq_some_iff.mp e3
                exact hs i j i1 j1 hij _ _ (by rw [i2]; exact e2) (by rw [j2]; exact e4)
              have e : l' = srtT l := by
                refine List.Perm.eq_of_pairwise (fun a b ha hb h1 h2 => ?_) m' (srtT_mono l) (p1.trans (srtT_perm l).symm)
                have ek : a.1 = b.1 := ((listOrd itemOrd).total b.1 a.1 h1 h2).symm
                obtain ⟨d1, f1, _, f2⟩ := g' a ha
                obtain ⟨d2, f3, _, f4⟩ := k2 b ((srtT_perm l).mem_iff.mp hb)
                rw [ek] at f2
                exact Prod.ext ek (by rw [f1, f3, itemsK_inj 0 f2 f4])
              rw [← e] at h
              exact RES.ok h s v1 p hn
      · exact h.elim
  · exact h.elim
end FL

namespace FL
open PySem PySem.Spec PyProof.Rows L2

/-! ### a op b op' c op'' d -/
section
variable {X : Cx} {W : WX} {a b c d e : Expr} {ta tb tc td : TE} {ma mb mc md m : EM} {ms : Env → Sto → Res (List D)} {x : Str} {p pos p2 pos2 : Pos} {tg : Expr}
def tChain3 (r r' r'' : R2) (ta tb tc td : TE) : TE := fun σ H Q => ta σ H fun x H1 => tb σ H1 fun y H2 => r x y H2 fun z H3 => ∃ k, z = .bl k ∧
  (if k = true then tc σ H3 fun w' H4 => r' y w' H4 fun z2 H5 => ∃ k2, z2 = .bl k2 ∧ (if k2 = true then td σ H5 fun u H6 => r'' w' u H6 Q else Q (.bl false) H5) else Q (.bl false) H3)
theorem pe_chain3 {op op' op'' : CmpOp} {r r' r'' : R2} (ho : OpR X (compareOp op) r) (ho' : OpR X (compareOp op') r') (ho'' : OpR X (compareOp op'') r'') (ha : PE X a ta) (hb : PE X b tb) (hc : PE X c tc) (hd : PE X d td)
    (hm : lastMarks [op, op', op''] [b, c, d] = false := by with_unfolding_all rfl) : PE X (.Compare a [op, op', op''] [b, c, d] pos) (tChain3 r r' r'' ta tb tc td) := by
  refine ⟨fun pins s σ H Q I h => ?_⟩
  refine Compare_chain (thn (ha.run pins s σ H _ I h) fun v s1 ⟨x, H1, I1, r1, q1⟩ => chain_link (thn (hb.run pins s1 σ H1 _ I1 q1) fun u s2 ⟨y, H2, I2, r2, q2⟩ =>
    thn (ho pins s2 σ H2 x y v u _ I2 r1 r2 q2) fun d s3 ⟨z, H3, I3, r3, k, e, q3⟩ => ?_)) hm
  subst e
  cases r3
  refine wpAny_truthy_bool ?_
  cases k with
  | false => exact ite_ff ⟨.bl false, H3, I3, rfl, q3⟩
  | true =>
    refine ite_tt (chain_link (thn (hc.run pins s3 σ H3 _ I3 q3) fun w' s4 ⟨z', H4, I4, r4, q4⟩ => thn (ho' pins s4 σ H4 y z' u w' _ I4 r2 r4 q4) fun d2 s5 ⟨z2, H5, I5, r5, k2, e2, q5⟩ => ?_))
    subst e2
    cases r5
    refine wpAny_truthy_bool ?_
    cases k2 with
    | false => exact ite_ff ⟨.bl false, H5, I5, rfl, q5⟩
    | true => exact ite_tt (chain_last (thn (hd.run pins s5 σ H5 _ I5 q5) fun w2 s6 ⟨z3, H6, I6, r6, q6⟩ => ho'' pins s6 σ H6 z' z3 w' w2 Q I6 r4 r6 q6))
theorem pt_chain3 {op op' op'' : CmpOp} {r r' r'' : R2} (ho : OpR X (compareOp op) r) (ho' : OpR X (compareOp op') r') (ho'' : OpR X (compareOp op'') r'') (ha : PE X a ta) (hb : PE X b tb) (hc : PE X c tc) (hd : PE X d td)
    (hm : lastMarks [op, op', op''] [b, c, d] = false := by with_unfolding_all rfl) : PT X (.Compare a [op, op', op''] [b, c, d] pos) (tTest (tChain3 r r' r'' ta tb tc td)) := by
  refine ⟨fun pins s σ H Q I h => ?_⟩
  refine isTrue_chain (thn (ha.run pins s σ H _ I h) fun v s1 ⟨x, H1, I1, r1, q1⟩ => test_link (thn (hb.run pins s1 σ H1 _ I1 q1) fun u s2 ⟨y, H2, I2, r2, q2⟩ =>
    thn (ho pins s2 σ H2 x y v u _ I2 r1 r2 q2) fun d s3 ⟨z, H3, I3, r3, k, e, q3⟩ => ?_)) hm
  subst e
  cases r3
  refine wpAny_truthy_bool ?_
  cases k with
  | false =>
    obtain ⟨k', e', q'⟩ := q3
    cases e'
    exact ite_ff ⟨H3, I3, q'⟩
  | true =>
    refine ite_tt (test_link (thn (hc.run pins s3 σ H3 _ I3 q3) fun w' s4 ⟨z', H4, I4, r4, q4⟩ => thn (ho' pins s4 σ H4 y z' u w' _ I4 r2 r4 q4) fun d2 s5 ⟨z2, H5, I5, r5, k2, e2, q5⟩ => ?_))
    subst e2
    cases r5
    refine wpAny_truthy_bool ?_
    cases k2 with
    | false =>
      obtain ⟨k', e', q'⟩ := q5
      cases e'
      exact ite_ff ⟨H5, I5, q'⟩
    | true =>
      refine ite_tt (test_last (thn (hd.run pins s5 σ H5 _ I5 q5) fun w2 s6 ⟨z3, H6, I6, r6, q6⟩ => thn (ho'' pins s6 σ H6 z' z3 w' w2 _ I6 r4 r6 q6) fun d' s7 ⟨z4, H7, I7, r7, k3, e3, q7⟩ => ?_))
      subst e3
      cases r7
      exact wpAny_truthy_bool ⟨H7, I7, q7⟩
def eChain3 (g g' g'' : D → D → Sto → Res D) (ma mb mc md : EM) : EM := fun env st => (ma env st).bind fun d st1 => (mb env st1).bind fun e st2 => (g d e st2).bind fun z st3 => match z with
  | .bl true => (mc env st3).bind fun f st4 => (g' e f st4).bind fun z2 st5 => match z2 with
    | .bl true => (md env st5).bind fun u st6 => g'' f u st6
    | .bl false => .ok (.bl false) st5
    | _ => .bad
  | .bl false => .ok (.bl false) st3
  | _ => .bad
theorem sim_chain3 {g g' g'' : D → D → Sto → Res D} {rr rr' rr'' : R2}
    (hr : ∀ (E : XK) H r st d e x y Q, SR X.K H r st → VD X.K H r d x → VD X.K H r e y → RES X.K X.mg (RV X.K) E H r (g d e st) Q → rr x y H Q)
    (hr' : ∀ (E : XK) H r st d e x y Q, SR X.K H r st → VD X.K H r d x → VD X.K H r e y → RES X.K X.mg (RV X.K) E H r (g' d e st) Q → rr' x y H Q)
    (hr'' : ∀ (E : XK) H r st d e x y Q, SR X.K H r st → VD X.K H r d x → VD X.K H r e y → RES X.K X.mg (RV X.K) E H r (g'' d e st) Q → rr'' x y H Q)
    {σ : L2.St} {H : Hp} {Q : VK} (q : tM X.K X.mg W (eChain3 g g' g'' ma mb mc md) σ H Q) : tChain3 rr rr' rr'' (tM X.K X.mg W ma) (tM X.K X.mg W mb) (tM X.K X.mg W mc) (tM X.K X.mg W md) σ H Q := by
  obtain ⟨r, env, st, hE, hS, h⟩ := q
  refine ⟨r, env, st, hE, hS, RES.seq h fun d st1 x H1 r1 e1 s1 v1 h1 => ?_⟩
  refine ⟨r1, env, st1, hE.ext e1, s1, RES.seq h1 fun e st2 y H2 r2 e2 s2 v2 h2 => ?_⟩
  have x12 := e1.trans s1 e2
  refine hr (WE W σ) H2 r2 st2 d e x y _ s2 (v1.ext e2) v2 (RES.seq h2 fun z st3 z' H3 r3 e3 s3 v3 h3 => ?_)
  cases z with
  | bl k =>
    cases v3
    refine ⟨k, rfl, ?_⟩
    cases k with
    | true =>
      rw [if_pos rfl]
      have hE3 := (hE.ext x12).ext e3
      refine ⟨r3, env, st3, hE3, s3, RES.seq h3 fun f st4 w H4 r4 e4 s4 v4 h4 => ?_⟩
      refine hr' (WE W σ) H4 r4 st4 e f y w _ s4 ((v2.ext e3).ext e4) v4 (RES.seq h4 fun z2 st5 z2' H5 r5 e5 s5 v5 h5 => ?_)
      cases z2 with
      | bl k2 =>
        cases v5
        refine ⟨k2, rfl, ?_⟩
        cases k2 with
        | true =>
          rw [if_pos rfl]
          refine ⟨r5, env, st5, (hE3.ext e4).ext e5, s5, RES.seq h5 fun u st6 w2 H6 r6 e6 s6 v6 h6 => ?_⟩
          exact hr'' (WE W σ) H6 r6 st6 f u w w2 Q s6 ((v4.ext e5).ext e6) v6 h6
        | false =>
          rw [if_neg Bool.false_ne_true]
          exact RES.ok h5 s5 rfl
      | _ => exact h5.elim
    | false =>
      rw [if_neg Bool.false_ne_true]
      exact RES.ok h3 s3 rfl
  | _ => exact h3.elim
theorem fe_chain3 {op op' op'' : CmpOp} {g g' g'' : D → D → Sto → Res D} (ho : OpF X (compareOp op) g) (ho' : OpF X (compareOp op') g') (ho'' : OpF X (compareOp op'') g'') (ha : FE X W a ma) (hb : FE X W b mb) (hc : FE X W c mc) (hd : FE X W d md)
    (hm : lastMarks [op, op', op''] [b, c, d] = false := by with_unfolding_all rfl) : FE X W (.Compare a [op, op', op''] [b, c, d] pos) (eChain3 g g' g'' ma mb mc md) := by
  obtain ⟨rr, h1, h2⟩ := ho
  obtain ⟨rr', h1', h2'⟩ := ho'
  obtain ⟨rr'', h1'', h2''⟩ := ho''
  exact PE.imp (pe_chain3 h1 h1' h1'' ha hb hc hd hm) fun σ H Q q => sim_chain3 h2 h2' h2'' q
theorem ft_chain3 {op op' op'' : CmpOp} {g g' g'' : D → D → Sto → Res D} (ho : OpF X (compareOp op) g) (ho' : OpF X (compareOp op') g') (ho'' : OpF X (compareOp op'') g'') (ha : FE X W a ma) (hb : FE X W b mb) (hc : FE X W c mc) (hd : FE X W d md)
    (hm : lastMarks [op, op', op''] [b, c, d] = false := by with_unfolding_all rfl) : FT X W (.Compare a [op, op', op''] [b, c, d] pos) (asB (eChain3 g g' g'' ma mb mc md)) := by
  obtain ⟨rr, h1, h2⟩ := ho
  obtain ⟨rr', h1', h2'⟩ := ho'
  obtain ⟨rr'', h1'', h2''⟩ := ho''
  refine PT.imp (pt_chain3 h1 h1' h1'' ha hb hc hd hm) fun σ H Q ⟨r, env, st, hE, hS, h⟩ => ?_
  refine sim_chain3 (W := W) h2 h2' h2'' ⟨r, env, st, hE, hS, RES.seq h fun d st1 x H1 r1 e1 s1 v1 q1 => ?_⟩
  cases d with
  | bl k => cases v1; exact ⟨k, rfl, RES.ok q1 s1 rfl⟩
  | _ => exact q1.elim

/-! ### range as a value -/
abbrev RM := Env → Sto → Res (Int × Int)
def tRM (K : PySem.W.Frag) (mg : Str → Option Value) (W : WX) (m : RM) : L2.St → Hp → (Int → Int → Hp → Prop) → Prop := fun σ H Q => ∃ r env st, ER K H r env σ ∧ SR K H r st ∧ RES K mg (fun _ _ a b => a = b) (WE W σ) H r (m env st) (fun p H => Q p.1 p.2 H)
abbrev FR (X : Cx) (W : WX) (e : Expr) (m : RM) : Prop := PRg X e (tRM X.K X.mg W m)
theorem PRg.imp {e : Expr} {t t' : L2.St → Hp → (Int → Int → Hp → Prop) → Prop} (h : PRg X e t) (i : ∀ σ H Q, t' σ H Q → t σ H Q) : PRg X e t' := fun pins s σ H Q I q => h pins s σ H Q I (i σ H Q q)
def rOne (m : EM) : RM := fun env st => (m env st).bind fun d st1 => match d with
  | .int n => .ok (0, n) st1
  | _ => .bad
def rTwo (ma mb : EM) : RM := fun env st => (ma env st).bind fun d st1 => (mb env st1).bind fun e st2 => match d, e with
  | .int i, .int j => .ok (i, j) st2
  | _, _ => .bad
theorem fr_1 (hg : Gl X "range") (hm : X.mg "range" = none) (ha : FE X W a ma) (na : starEach [a] X.env = (false, eval a X.env) :: starEach [] X.env := by rfl) : FR X W (.Call (.Name "range" p) [a] [] pos) (rOne ma) :=
  PRg.imp (prg_1 hg hm ha na) fun σ H Q ⟨r, env, st, hE, hS, h⟩ => ⟨r, env, st, hE, hS, RES.seq h fun d st1 x H1 r1 e1 s1 v1 q1 => by
    cases d with
    | int n => cases v1; exact ⟨n, rfl, RES.ok q1 (b := ((0 : Int), n)) s1 rfl⟩
    | _ => exact q1.elim⟩
theorem fr_2 (hg : Gl X "range") (hm : X.mg "range" = none) (ha : FE X W a ma) (hb : FE X W b mb) (na : starEach [a, b] X.env = (false, eval a X.env) :: starEach [b] X.env := by rfl)
    (nb : starEach [b] X.env = (false, eval b X.env) :: starEach [] X.env := by rfl) (hp : (backTo pos (starEach [b] X.env)).any (·.1) = false := by rfl) : FR X W (.Call (.Name "range" p) [a, b] [] pos) (rTwo ma mb) :=
  PRg.imp (prg_2 hg hm ha hb na nb hp) fun σ H Q ⟨r, env, st, hE, hS, h⟩ => ⟨r, env, st, hE, hS, RES.seq h fun d st1 x H1 r1 e1 s1 v1 q1 =>
    ⟨r1, env, st1, hE.ext e1, s1, RES.seq q1 fun e st2 y H2 r2 e2 s2 v2 q2 => by
      cases d with
      | int i =>
        cases e with
        | int j => cases v1; cases v2; exact ⟨i, j, rfl, rfl, RES.ok q2 (b := (i, j)) s2 rfl⟩
        | _ => exact q2.elim
      | _ => exact q2.elim⟩⟩
def rngD (i j : Int) : List D := (List.range (j - i).toNat).map fun k => .int (i + (k : Nat))
def iRevR (m : RM) : IM := fun env st => (m env st).bind fun p st1 => if smallI p.1 ∧ smallI p.2 then .ok ((rngD p.1 p.2).reverse, []) st1 else .bad
theorem fi_revR {m : RM} (hg : Gl X "reversed") (hm : X.mg "reversed" = none) (he : FR X W e m) (hs : starEach [e] X.env = (false, eval e X.env) :: starEach [] X.env := by rfl) : FI X W tg (.Call (.Name "reversed" p) [e] [] pos) (iRevR m) :=
  PI.imp (pi_revR hg hm he hs) fun σ H Q ⟨r, env, st, hE, hS, h⟩ => ⟨r, env, st, hE, hS, RES.seq h fun q0 st1 x H1 r1 e1 s1 v1 h1 => by
    cases v1
    by_cases hj : smallI q0.1 ∧ smallI q0.2
    · rw [if_pos hj] at h1
      obtain ⟨⟨i1, i2⟩, j1, j2⟩ := hj
      refine ⟨by omega, by omega, by omega, by omega, RES.ok h1 s1 ⟨fun H2 r2 st2 i e s2 hst => ?_⟩⟩
      have hlen : (rngD q0.1 q0.2).length = (q0.2 - q0.1).toNat := by unfold rngD; simp
      rw [List.length_reverse, hlen]
      refine ⟨fun hi => hi, fun hi => hi, fun d hd x H3 hy => ?_⟩
      obtain ⟨rfl, rfl⟩ := hy
      have hi : i < (rngD q0.1 q0.2).length := by
        have := (List.getElem?_eq_some_iff.mp hd).1
        simpa using this
      rw [List.getElem?_reverse hi] at hd
      rw [hlen] at hi
      unfold rngD at hd
      rw [List.getElem?_map, List.length_map, List.length_range, List.getElem?_range (by omega)] at hd
      cases hd
      refine ⟨Ext.refl _ _, s2, ?_⟩
      show V.int _ = V.int _
      congr 1
      omega
    · rw [if_neg hj] at h1; exact h1.elim⟩
def nRng (m : RM) : Env → Sto → Res (List D) := fun env st => (m env st).bind fun p st1 => if smallI p.1 ∧ smallI p.2 ∧ (p.2 - p.1).toNat ≤ 1000000 then .ok (rngD p.1 p.2) st1 else .bad
theorem vds_rng {K H r} {i j : Int} : VDs K H r (rngD i j) (rgV i j) := by
  unfold rngD rgV
  have : ∀ l : List Nat, VDs K H r (l.map fun k => D.int (i + (k : Nat))) (l.map fun k => V.int (i + (k : Nat))) := by
    intro l
    induction l with
    | nil => rfl
    | cons k l ih => exact ⟨_, _, rfl, rfl, ih⟩
  exact this _
theorem fn_listR {m : RM} (hc : X.calm = true) (hg : Gl X "list") (hm : X.mg "list" = none) (he : FR X W e m) (na : starEach [e] X.env = (false, eval e X.env) :: starEach [] X.env := by rfl) : FN X W (.Call (.Name "list" p) [e] [] pos) (nRng m) :=
  PE.imp (pe_listRg hc hg hm he na) fun σ H Q ⟨r, env, st, hE, hS, h⟩ => ⟨r, env, st, hE, hS, RES.seq h fun q0 st1 x H1 r1 e1 s1 v1 h1 => by
    cases v1
    by_cases hj : smallI q0.1 ∧ smallI q0.2 ∧ (q0.2 - q0.1).toNat ≤ 1000000
    · rw [if_pos hj] at h1
      obtain ⟨⟨i1, i2⟩, ⟨j1, j2⟩, hl⟩ := hj
      exact ⟨⟨by omega, by omega, by omega, by omega, by omega⟩, fun p hp => RES.ok h1 s1 vds_rng p hp⟩
    · rw [if_neg hj] at h1; exact h1.elim⟩
def eTupRg (m : RM) : EM := fun env st => (nRng m env st).bind fun ds st1 => .ok (.tup ds) st1
theorem fe_tupR {m : RM} (hc : X.calm = true) (hg : Gl X "tuple") (hm : X.mg "tuple" = none) (he : FR X W e m) (na : starEach [e] X.env = (false, eval e X.env) :: starEach [] X.env := by rfl) : FE X W (.Call (.Name "tuple" p) [e] [] pos) (eTupRg m) :=
  PE.imp (pe_tupRg hc hg hm he na) fun σ H Q ⟨r, env, st, hE, hS, h⟩ => by
    have h' : RES X.K X.mg (RV X.K) (WE W σ) H r ((m env st).bind fun p st1 => if smallI p.1 ∧ smallI p.2 ∧ (p.2 - p.1).toNat ≤ 1000000 then .ok (.tup (rngD p.1 p.2)) st1 else .bad) Q := by
      revert h
      unfold eTupRg nRng
      cases m env st with
      | ok p st1 =>
        simp only [Res.bind_ok]
        by_cases hj : smallI p.1 ∧ smallI p.2 ∧ (p.2 - p.1).toNat ≤ 1000000
        · rw [if_pos hj, if_pos hj]; exact fun h => h
        · rw [if_neg hj, if_neg hj]; exact fun h => h
      | ex x st1 => exact fun h => h
      | bad => exact fun h => h
    exact ⟨r, env, st, hE, hS, RES.seq h' fun q0 st1 x H1 r1 e1 s1 v1 h1 => by
      cases v1
      by_cases hj : smallI q0.1 ∧ smallI q0.2 ∧ (q0.2 - q0.1).toNat ≤ 1000000
      · rw [if_pos hj] at h1
        obtain ⟨⟨i1, i2⟩, ⟨j1, j2⟩, hl⟩ := hj
        exact ⟨⟨by omega, by omega, by omega, by omega, by omega⟩, fun p hp => RES.ok' h1 (Ext.fresh hp) (s1.fresh hp) ⟨p, _, rfl, .inl ⟨s1.notin hp, .inl upd_same⟩, vds_rng⟩⟩
      · rw [if_neg hj] at h1; exact h1.elim⟩

/-! ### xs.index(x), flat items -/
def flatD : D → Bool
  | .non => true
  | .int _ => true
  | .str _ => true
  | _ => false
def eqFD : D → D → Bool
  | .non, .non => true
  | .int i, .int j => i == j
  | .str i, .str j => i == j
  | _, _ => false
theorem flat_v {K H r} {d : D} {x : V} (h : flatD d = true) (v : VD K H r d x) : flatV x = true := by
  cases d with
  | non => cases v; rfl
  | int _ => cases v; rfl
  | str _ => cases v; rfl
  | _ => cases h
theorem eqF_v {K H r} {d e : D} {x y : V} (h : flatD d = true) (h' : flatD e = true) (v : VD K H r d x) (w : VD K H r e y) : eqV x y = eqFD d e := by
  cases d with
  | non => cases v; cases e with
    | non => cases w; rfl
    | int _ => cases w; rfl
    | str _ => cases w; rfl
    | _ => cases h'
  | int _ => cases v; cases e with
    | non => cases w; rfl
    | int _ => cases w; rfl
    | str _ => cases w; rfl
    | _ => cases h'
  | str _ => cases v; cases e with
    | non => cases w; rfl
    | int _ => cases w; rfl
    | str _ => cases w; rfl
    | _ => cases h'
  | _ => cases h
def fstIx (d : D) : List D → Nat → Option Nat
  | [], _ => none
  | e :: es, i => if eqFD e d = true then some i else fstIx d es (i + 1)
theorem fstIx_ok {d : D} : ∀ {es : List D} {i j : Nat}, fstIx d es i = some j → ∃ n, j = i + n ∧ (∃ e, es[n]? = some e ∧ eqFD e d = true) ∧ ∀ m, m < n → ∀ e, es[m]? = some e → eqFD e d = false
  | [], i, j, h => by cases h
  | e :: es, i, j, h => by
    unfold fstIx at h
    by_cases hc : eqFD e d = true
    · rw [if_pos hc] at h; cases h
      exact ⟨0, rfl, ⟨e, rfl, hc⟩, fun m hm => absurd hm (by omega)⟩
    · rw [if_neg hc] at h
      obtain ⟨n, h1, ⟨e', h2, h3⟩, h4⟩ := fstIx_ok h
      refine ⟨n + 1, by omega, ⟨e', by simpa using h2, h3⟩, fun m hm e2 he2 => ?_⟩
      cases m with
      | zero => simp at he2; subst he2; simpa using hc
      | succ m => exact h4 m (by omega) e2 (by simpa using he2)
def idxD : D → List D → Sto → Res D
  | d, [e], st => match lstD d st with
    | some es => if flatD e = true ∧ es.all flatD = true then (match fstIx e es 0 with
      | some j => .ok (.int (j : Nat)) st
      | none => .bad) else .bad
    | none => .bad
  | _, _, _ => .bad
theorem me_index : MeF X "list.index" "list" idxD isLst := ⟨fun s v h => isLst_ty s v h, _, mt_index, fun E H r st d ds x xs Q s v vs h => by
  unfold idxD at h
  split at h
  · rename_i e
    obtain ⟨y, rfl, w⟩ := vds1 vs
    cases q : lstD d st with
    | none => simp only [q] at h; exact h.elim
    | some es =>
      simp only [q] at h
      by_cases hf : flatD e = true ∧ es.all flatD = true
      · rw [if_pos hf] at h
        obtain ⟨f1, f2⟩ := hf
        cases q2 : fstIx e es 0 with
        | none => simp only [q2] at h; exact h.elim
        | some j =>
          simp only [q2] at h
          obtain ⟨n, h1, ⟨e', h2, h3⟩, h4⟩ := fstIx_ok q2
          have e0 : j = n := by omega
          subst e0
          obtain ⟨a, ys, rfl, k1, k2⟩ := lstD_v s q v
          obtain ⟨z, k3, k4⟩ := k1.get h2
          have fe : ∀ {m : Nat} {e : D}, es[m]? = some e → flatD e = true := fun hm => List.all_eq_true.mp f2 _ (List.mem_of_getElem? hm)
          refine ⟨a, ys, y, j, z, rfl, rfl, k2, flat_v f1 w, List.all_eq_true.mpr fun u hu => ?_, k3, by rw [eqF_v (fe h2) f1 k4 w]; exact h3, fun m u hm hu => ?_, RES.ok h s rfl⟩
          · obtain ⟨i, hi, ei⟩ := List.getElem_of_mem hu
            obtain ⟨d', g1, g2⟩ := k1.getD (List.getElem?_eq_getElem hi)
            rw [ei] at g2
            exact flat_v (fe g1) g2
          · obtain ⟨d', g1, g2⟩ := k1.getD hu
            rw [eqF_v (fe g1) f1 g2 w]
            exact h4 m hm d' g1
      · rw [if_neg hf] at h; exact h.elim
  · exact h.elim⟩
end
end FL

namespace FL
open PySem PySem.Spec PyProof.Rows L2

/-! ### the combinators' equations, applied: what is reckoned next stands alone, nothing under a binder -/
def aCons_k2  (env : Env) (d : D) (r : Res (List D)) : Res (List D) := r.bind fun ds st2 => .ok (d :: ds) st2
theorem aCons_o2  (env : Env) (d : D) (ds : List D) (st2 : Sto) : aCons_k2  env d (.ok ds st2) = .ok (d :: ds) st2 := rfl
def aCons_k1 (mr : Env → Sto → Res (List D)) (env : Env) (r : Res (D)) : Res (List D) := r.bind fun d st1 => aCons_k2  env d (mr env st1)
theorem aCons_o1 (mr : Env → Sto → Res (List D)) (env : Env) (d : D) (st1 : Sto) : aCons_k1 mr env (.ok d st1) = aCons_k2  env d (mr env st1) := rfl
theorem aCons_ap (ma : EM) (mr : Env → Sto → Res (List D)) (env : Env) (st : Sto) : aCons ma mr env st = aCons_k1 mr env (ma env st) := rfl
def eTup_k1  (env : Env) (r : Res (List D)) : Res D := r.bind fun ds st1 => if ds.length ≤ 1000 then .ok (.tup ds) st1 else .bad
theorem eTup_o1  (env : Env) (ds : List D) (st1 : Sto) : eTup_k1  env (.ok ds st1) = if ds.length ≤ 1000 then .ok (.tup ds) st1 else .bad := rfl
theorem eTup_ap (ms : Env → Sto → Res (List D)) (env : Env) (st : Sto) : eTup ms env st = eTup_k1  env (ms env st) := rfl
def nLst_k1  (env : Env) (r : Res (List D)) : Res (List D) := r.bind fun ds st1 => if ds.length ≤ 1000 then .ok ds st1 else .bad
theorem nLst_o1  (env : Env) (ds : List D) (st1 : Sto) : nLst_k1  env (.ok ds st1) = if ds.length ≤ 1000 then .ok ds st1 else .bad := rfl
theorem nLst_ap (ms : Env → Sto → Res (List D)) (env : Env) (st : Sto) : nLst ms env st = nLst_k1  env (ms env st) := rfl
def eFrz_k1  (env : Env) (r : Res (List D)) : Res D := r.bind fun ds st1 => .ok (.lst ds) st1
theorem eFrz_o1  (env : Env) (ds : List D) (st1 : Sto) : eFrz_k1  env (.ok ds st1) = .ok (.lst ds) st1 := rfl
theorem eFrz_ap (ms : Env → Sto → Res (List D)) (env : Env) (st : Sto) : eFrz ms env st = eFrz_k1  env (ms env st) := rfl
def eNew_k1  (env : Env) (r : Res (List D)) : Res D := r.bind fun ds st1 => .ok (.loc st1.length) (st1 ++ [.lst ds])
theorem eNew_o1  (env : Env) (ds : List D) (st1 : Sto) : eNew_k1  env (.ok ds st1) = .ok (.loc st1.length) (st1 ++ [.lst ds]) := rfl
theorem eNew_ap (ms : Env → Sto → Res (List D)) (env : Env) (st : Sto) : eNew ms env st = eNew_k1  env (ms env st) := rfl
def eOp_k2 (g : D → D → Sto → Res D) (env : Env) (d : D) (r : Res (D)) : Res D := r.bind fun e st2 => g d e st2
theorem eOp_o2 (g : D → D → Sto → Res D) (env : Env) (d : D) (e : D) (st2 : Sto) : eOp_k2 g env d (.ok e st2) = g d e st2 := rfl
def eOp_k1 (g : D → D → Sto → Res D) (mb : EM) (env : Env) (r : Res (D)) : Res D := r.bind fun d st1 => eOp_k2 g env d (mb env st1)
theorem eOp_o1 (g : D → D → Sto → Res D) (mb : EM) (env : Env) (d : D) (st1 : Sto) : eOp_k1 g mb env (.ok d st1) = eOp_k2 g env d (mb env st1) := rfl
theorem eOp_ap (g : D → D → Sto → Res D) (ma mb : EM) (env : Env) (st : Sto) : eOp g ma mb env st = eOp_k1 g mb env (ma env st) := rfl
def tNotM_k1  (env : Env) (r : Res (Bool)) : Res Bool := r.bind fun k st1 => .ok (!k) st1
theorem tNotM_o1  (env : Env) (k : Bool) (st1 : Sto) : tNotM_k1  env (.ok k st1) = .ok (!k) st1 := rfl
theorem tNotM_ap (ta : Env → Sto → Res Bool) (env : Env) (st : Sto) : tNotM ta env st = tNotM_k1  env (ta env st) := rfl
def sDrop_k1  (env : Env) (r : Res (D)) : SRes := r.on env fun d st1 => .nx env st1
theorem sDrop_o1  (env : Env) (d : D) (st1 : Sto) : sDrop_k1  env (.ok d st1) = .nx env st1 := rfl
theorem sDrop_ap (m : EM) (env : Env) (st : Sto) : sDrop m env st = sDrop_k1  env (m env st) := rfl
def sRet_k1  (env : Env) (r : Res (D)) : SRes := r.on env fun d st1 => .rt d st1
theorem sRet_o1  (env : Env) (d : D) (st1 : Sto) : sRet_k1  env (.ok d st1) = .rt d st1 := rfl
theorem sRet_ap (m : EM) (env : Env) (st : Sto) : sRet m env st = sRet_k1  env (m env st) := rfl
def sSet_k1 (i : Nat) (env : Env) (r : Res (D)) : SRes := r.on env fun d st1 => .nx (env.set i (some d)) st1
theorem sSet_o1 (i : Nat) (env : Env) (d : D) (st1 : Sto) : sSet_k1 i env (.ok d st1) = .nx (env.set i (some d)) st1 := rfl
theorem sSet_ap (i : Nat) (m : EM) (env : Env) (st : Sto) : sSet i m env st = sSet_k1 i env (m env st) := rfl
def sPut_k3  (env : Env) (d : D) (o : D) (r : Res (D)) : SRes := r.on env fun i st3 => match setD o i d st3 with
  | some st4 => .nx env st4
  | none => .bad
theorem sPut_o3  (env : Env) (d : D) (o : D) (i : D) (st3 : Sto) : sPut_k3  env d o (.ok i st3) = match setD o i d st3 with
  | some st4 => .nx env st4
  | none => .bad := rfl
def sPut_k2 (mi : EM) (env : Env) (d : D) (r : Res (D)) : SRes := r.on env fun o st2 => sPut_k3  env d o (mi env st2)
theorem sPut_o2 (mi : EM) (env : Env) (d : D) (o : D) (st2 : Sto) : sPut_k2 mi env d (.ok o st2) = sPut_k3  env d o (mi env st2) := rfl
def sPut_k1 (mo : EM) (mi : EM) (env : Env) (r : Res (D)) : SRes := r.on env fun d st1 => sPut_k2 mi env d (mo env st1)
theorem sPut_o1 (mo : EM) (mi : EM) (env : Env) (d : D) (st1 : Sto) : sPut_k1 mo mi env (.ok d st1) = sPut_k2 mi env d (mo env st1) := rfl
theorem sPut_ap (mv mo mi : EM) (env : Env) (st : Sto) : sPut mv mo mi env st = sPut_k1 mo mi env (mv env st) := rfl
def nSl_k3  (env : Env) (d : D) (lo : Option Int) (r : Res (Option Int)) : Res (List D) := r.bind fun hi st3 => match lstD d st3 with
  | some ds => .ok (cutL ds lo hi) st3
  | none => .bad
theorem nSl_o3  (env : Env) (d : D) (lo : Option Int) (hi : Option Int) (st3 : Sto) : nSl_k3  env d lo (.ok hi st3) = match lstD d st3 with
  | some ds => .ok (cutL ds lo hi) st3
  | none => .bad := rfl
def nSl_k2 (mh : OM) (env : Env) (d : D) (r : Res (Option Int)) : Res (List D) := r.bind fun lo st2 => nSl_k3  env d lo (mh env st2)
theorem nSl_o2 (mh : OM) (env : Env) (d : D) (lo : Option Int) (st2 : Sto) : nSl_k2 mh env d (.ok lo st2) = nSl_k3  env d lo (mh env st2) := rfl
def nSl_k1 (ml : OM) (mh : OM) (env : Env) (r : Res (D)) : Res (List D) := r.bind fun d st1 => nSl_k2 mh env d (ml env st1)
theorem nSl_o1 (ml : OM) (mh : OM) (env : Env) (d : D) (st1 : Sto) : nSl_k1 ml mh env (.ok d st1) = nSl_k2 mh env d (ml env st1) := rfl
theorem nSl_ap (ma : EM) (ml mh : OM) (env : Env) (st : Sto) : nSl ma ml mh env st = nSl_k1 ml mh env (ma env st) := rfl
def eSl_k3  (env : Env) (d : D) (lo : Option Int) (r : Res (Option Int)) : Res D := r.bind fun hi st3 => slD d lo hi st3
theorem eSl_o3  (env : Env) (d : D) (lo : Option Int) (hi : Option Int) (st3 : Sto) : eSl_k3  env d lo (.ok hi st3) = slD d lo hi st3 := rfl
def eSl_k2 (mh : OM) (env : Env) (d : D) (r : Res (Option Int)) : Res D := r.bind fun lo st2 => eSl_k3  env d lo (mh env st2)
theorem eSl_o2 (mh : OM) (env : Env) (d : D) (lo : Option Int) (st2 : Sto) : eSl_k2 mh env d (.ok lo st2) = eSl_k3  env d lo (mh env st2) := rfl
def eSl_k1 (ml : OM) (mh : OM) (env : Env) (r : Res (D)) : Res D := r.bind fun d st1 => eSl_k2 mh env d (ml env st1)
theorem eSl_o1 (ml : OM) (mh : OM) (env : Env) (d : D) (st1 : Sto) : eSl_k1 ml mh env (.ok d st1) = eSl_k2 mh env d (ml env st1) := rfl
theorem eSl_ap (ma : EM) (ml mh : OM) (env : Env) (st : Sto) : eSl ma ml mh env st = eSl_k1 ml mh env (ma env st) := rfl
def nCat_k2  (env : Env) (d : D) (r : Res (D)) : Res (List D) := r.bind fun e st2 => match madeD d st2, madeD e st2 with
  | some xs, some ys => if xs.length + ys.length ≤ 1000000 then .ok (xs ++ ys) st2 else .bad
  | _, _ => .bad
theorem nCat_o2  (env : Env) (d : D) (e : D) (st2 : Sto) : nCat_k2  env d (.ok e st2) = match madeD d st2, madeD e st2 with
  | some xs, some ys => if xs.length + ys.length ≤ 1000000 then .ok (xs ++ ys) st2 else .bad
  | _, _ => .bad := rfl
def nCat_k1 (mb : EM) (env : Env) (r : Res (D)) : Res (List D) := r.bind fun d st1 => nCat_k2  env d (mb env st1)
theorem nCat_o1 (mb : EM) (env : Env) (d : D) (st1 : Sto) : nCat_k1 mb env (.ok d st1) = nCat_k2  env d (mb env st1) := rfl
theorem nCat_ap (ma mb : EM) (env : Env) (st : Sto) : nCat ma mb env st = nCat_k1 mb env (ma env st) := rfl
def nRep_k2  (env : Env) (d : D) (r : Res (D)) : Res (List D) := r.bind fun e st2 => match madeD d st2, e with
  | some xs, .int k => if 0 ≤ k ∧ k ≤ 1000000 ∧ xs.length * k.toNat ≤ 1000000 then .ok (repL xs k) st2 else .bad
  | _, _ => .bad
theorem nRep_o2  (env : Env) (d : D) (e : D) (st2 : Sto) : nRep_k2  env d (.ok e st2) = match madeD d st2, e with
  | some xs, .int k => if 0 ≤ k ∧ k ≤ 1000000 ∧ xs.length * k.toNat ≤ 1000000 then .ok (repL xs k) st2 else .bad
  | _, _ => .bad := rfl
def nRep_k1 (mb : EM) (env : Env) (r : Res (D)) : Res (List D) := r.bind fun d st1 => nRep_k2  env d (mb env st1)
theorem nRep_o1 (mb : EM) (env : Env) (d : D) (st1 : Sto) : nRep_k1 mb env (.ok d st1) = nRep_k2  env d (mb env st1) := rfl
theorem nRep_ap (ma mb : EM) (env : Env) (st : Sto) : nRep ma mb env st = nRep_k1 mb env (ma env st) := rfl
def sFor_k1 (gc : Option (List Nat)) (g : GM) (body : SM4) (env : Env) (r : Res (List D × List (Nat × List D))) : SRes := r.on env fun p st1 => loopF gc p.2 g body p.1 (killE gc env) st1
theorem sFor_o1 (gc : Option (List Nat)) (g : GM) (body : SM4) (env : Env) (p : List D × List (Nat × List D)) (st1 : Sto) : sFor_k1 gc g body env (.ok p st1) = loopF gc p.2 g body p.1 (killE gc env) st1 := rfl
theorem sFor_ap (gc : Option (List Nat)) (mi : IM) (g : GM) (body : SM4) (env : Env) (st : Sto) : sFor gc mi g body env st = sFor_k1 gc g body env (mi env st) := rfl
def nComp_k1 (vs : List Nat) (g : GM) (tt : Env → Sto → Res Bool) (te : EM) (env : Env) (r : Res (List D × List (Nat × List D))) : Res (List D) := r.bind fun p st1 => compL p.2 g tt te (wipeE env vs) p.1 st1 []
theorem nComp_o1 (vs : List Nat) (g : GM) (tt : Env → Sto → Res Bool) (te : EM) (env : Env) (p : List D × List (Nat × List D)) (st1 : Sto) : nComp_k1 vs g tt te env (.ok p st1) = compL p.2 g tt te (wipeE env vs) p.1 st1 [] := rfl
theorem nComp_ap (vs : List Nat) (mi : IM) (g : GM) (tt : Env → Sto → Res Bool) (te : EM) (env : Env) (st : Sto) : nComp vs mi g tt te env st = nComp_k1 vs g tt te env (mi env st) := rfl
def eCall_k1 (n : Nat) (m : Fn) (env : Env) (r : Res (List D)) : Res D := r.bind fun ds st1 => if ds.length = n then m ds st1 else .bad
theorem eCall_o1 (n : Nat) (m : Fn) (env : Env) (ds : List D) (st1 : Sto) : eCall_k1 n m env (.ok ds st1) = if ds.length = n then m ds st1 else .bad := rfl
theorem eCall_ap (n : Nat) (m : Fn) (ms : Env → Sto → Res (List D)) (env : Env) (st : Sto) : eCall n m ms env st = eCall_k1 n m env (ms env st) := rfl
def rOne_k1  (env : Env) (r : Res (D)) : Res (Int × Int) := r.bind fun d st1 => match d with
  | .int n => .ok ((0 : Int), n) st1
  | _ => .bad
theorem rOne_o1  (env : Env) (d : D) (st1 : Sto) : rOne_k1  env (.ok d st1) = match d with
  | .int n => .ok ((0 : Int), n) st1
  | _ => .bad := rfl
theorem rOne_ap (m : EM) (env : Env) (st : Sto) : rOne m env st = rOne_k1  env (m env st) := rfl
def rTwo_k2  (env : Env) (d : D) (r : Res (D)) : Res (Int × Int) := r.bind fun e st2 => match d, e with
  | .int i, .int j => .ok (i, j) st2
  | _, _ => .bad
theorem rTwo_o2  (env : Env) (d : D) (e : D) (st2 : Sto) : rTwo_k2  env d (.ok e st2) = match d, e with
  | .int i, .int j => .ok (i, j) st2
  | _, _ => .bad := rfl
def rTwo_k1 (mb : EM) (env : Env) (r : Res (D)) : Res (Int × Int) := r.bind fun d st1 => rTwo_k2  env d (mb env st1)
theorem rTwo_o1 (mb : EM) (env : Env) (d : D) (st1 : Sto) : rTwo_k1 mb env (.ok d st1) = rTwo_k2  env d (mb env st1) := rfl
theorem rTwo_ap (ma mb : EM) (env : Env) (st : Sto) : rTwo ma mb env st = rTwo_k1 mb env (ma env st) := rfl
def iRevR_k1  (env : Env) (r : Res (Int × Int)) : Res (List D × List (Nat × List D)) := r.bind fun p st1 => if smallI p.1 ∧ smallI p.2 then .ok ((rngD p.1 p.2).reverse, []) st1 else .bad
theorem iRevR_o1  (env : Env) (p : Int × Int) (st1 : Sto) : iRevR_k1  env (.ok p st1) = if smallI p.1 ∧ smallI p.2 then .ok ((rngD p.1 p.2).reverse, []) st1 else .bad := rfl
theorem iRevR_ap (m : RM) (env : Env) (st : Sto) : iRevR m env st = iRevR_k1  env (m env st) := rfl
def nRng_k1  (env : Env) (r : Res (Int × Int)) : Res (List D) := r.bind fun p st1 => if smallI p.1 ∧ smallI p.2 ∧ (p.2 - p.1).toNat ≤ 1000000 then .ok (rngD p.1 p.2) st1 else .bad
theorem nRng_o1  (env : Env) (p : Int × Int) (st1 : Sto) : nRng_k1  env (.ok p st1) = if smallI p.1 ∧ smallI p.2 ∧ (p.2 - p.1).toNat ≤ 1000000 then .ok (rngD p.1 p.2) st1 else .bad := rfl
theorem nRng_ap (m : RM) (env : Env) (st : Sto) : nRng m env st = nRng_k1  env (m env st) := rfl
def iSeq_k1  (env : Env) (r : Res (D)) : Res (List D × List (Nat × List D)) := r.bind fun d st1 => match seqD d st1 with
  | some ds => .ok (ds, srcD d ds) st1
  | none => .bad
theorem iSeq_o1  (env : Env) (d : D) (st1 : Sto) : iSeq_k1  env (.ok d st1) = match seqD d st1 with
  | some ds => .ok (ds, srcD d ds) st1
  | none => .bad := rfl
theorem iSeq_ap (m : EM) (env : Env) (st : Sto) : iSeq m env st = iSeq_k1  env (m env st) := rfl
def iRev_k1  (env : Env) (r : Res (D)) : Res (List D × List (Nat × List D)) := r.bind fun d st1 => match seqD d st1 with
  | some ds => .ok (ds.reverse, iRev.srcR d ds) st1
  | none => .bad
theorem iRev_o1  (env : Env) (d : D) (st1 : Sto) : iRev_k1  env (.ok d st1) = match seqD d st1 with
  | some ds => .ok (ds.reverse, iRev.srcR d ds) st1
  | none => .bad := rfl
theorem iRev_ap (m : EM) (env : Env) (st : Sto) : iRev m env st = iRev_k1  env (m env st) := rfl
def eIsi_k1 (T : Ty) (env : Env) (r : Res (D)) : Res D := r.bind fun d st1 => match tyD d st1 with
  | some t => .ok (.bl (t.le T)) st1
  | none => .bad
theorem eIsi_o1 (T : Ty) (env : Env) (d : D) (st1 : Sto) : eIsi_k1 T env (.ok d st1) = match tyD d st1 with
  | some t => .ok (.bl (t.le T)) st1
  | none => .bad := rfl
theorem eIsi_ap (T : Ty) (m : EM) (env : Env) (st : Sto) : eIsi T m env st = eIsi_k1 T env (m env st) := rfl

theorem eC_ap (d : D) (env : Env) (st : Sto) : eC d env st = .ok d st := rfl
theorem aNil_ap (env : Env) (st : Sto) : aNil env st = .ok [] st := rfl
theorem sNext_ap (env : Env) (st : Sto) : sNext env st = .nx env st := rfl
theorem sSeq_ap (u v : SM4) (env : Env) (st : Sto) : sSeq u v env st = (u env st).bind v := rfl
theorem sRetN_ap (env : Env) (st : Sto) : sRetN env st = .rt .non st := rfl
theorem tTru_ap (m : EM) (env : Env) (st : Sto) : tTru m env st = (m env st).bind truD := rfl
theorem eUn_ap (g : D → Sto → Res D) (ma : EM) (env : Env) (st : Sto) : eUn g ma env st = (ma env st).bind g := rfl
theorem eB_ap (g : List D → Sto → Res D) (ms : Env → Sto → Res (List D)) (env : Env) (st : Sto) : eB g ms env st = (ms env st).bind g := rfl
theorem nB_ap (g : List D → Sto → Res (List D)) (ms : Env → Sto → Res (List D)) (env : Env) (st : Sto) : nB g ms env st = (ms env st).bind g := rfl
theorem noTest_ap (env : Env) (st : Sto) : noTest env st = .ok true st := rfl
theorem eDNew_ap (env : Env) (st : Sto) : eDNew env st = .ok (.loc st.length) (st ++ [.dic []]) := rfl
theorem oNo_ap (env : Env) (st : Sto) : oNo env st = .ok none st := rfl
theorem gSet_ap (i : Nat) (d : D) (env : Env) (st : Sto) : gSet i d env st = .ok (env.set i (some d)) st := rfl
theorem gsNil_ap (env : Env) (st : Sto) : gsNil [] env st = .ok env st := rfl
def gsCons_k (gs : GMs) (r : List D) (q : Res Env) : Res Env := match q with
  | .ok env' st' => gs r env' st'
  | _ => .bad
theorem gsCons_ap (g : GM) (gs : GMs) (d : D) (r : List D) (env : Env) (st : Sto) : gsCons g gs (d :: r) env st = gsCons_k gs r (g d env st) := rfl
theorem gsCons_o (gs : GMs) (r : List D) (env : Env) (st : Sto) : gsCons_k gs r (.ok env st) = gs r env st := rfl
theorem gTupM_ap (n : Nat) (gs : GMs) (ds : List D) (env : Env) (st : Sto) : gTupM n gs (.tup ds) env st = if ds.length = n then gs ds env st else .bad := rfl
def sAsg_k2 (q : Res Env) : SRes := match q with
  | .ok env2 st2 => .nx env2 st2
  | _ => .bad
def sAsg_k1 (g : GM) (env : Env) (r : Res D) : SRes := r.on env fun d st1 => sAsg_k2 (g d env st1)
theorem sAsg_ap (m : EM) (g : GM) (env : Env) (st : Sto) : sAsg m g env st = sAsg_k1 g env (m env st) := rfl
theorem sAsg_o1 (g : GM) (env : Env) (d : D) (st : Sto) : sAsg_k1 g env (.ok d st) = sAsg_k2 (g d env st) := rfl
theorem sAsg_o2 (env : Env) (st : Sto) : sAsg_k2 (.ok env st) = .nx env st := rfl
theorem sWhile_ap (n : Nat) (gc : Option (List Nat)) (c : Env → Sto → Res Bool) (body : SM4) (env : Env) (st : Sto) : sWhile n gc c body env st = whileF gc c body n (killE gc env) st := rfl
def asB_k (r : Res D) : Res Bool := r.bind fun d st1 => match d with
  | .bl k => .ok k st1
  | _ => .bad
theorem asB_ap (m : EM) (env : Env) (st : Sto) : asB m env st = asB_k (m env st) := rfl
theorem asB_o (k : Bool) (st : Sto) : asB_k (.ok (.bl k) st) = .ok k st := rfl
def tAndM_k (tb : Env → Sto → Res Bool) (env : Env) (r : Res Bool) : Res Bool := r.bind fun k st1 => if k = true then tb env st1 else .ok false st1
theorem tAndM_ap (ta tb : Env → Sto → Res Bool) (env : Env) (st : Sto) : tAndM ta tb env st = tAndM_k tb env (ta env st) := rfl
theorem tAndM_t (tb : Env → Sto → Res Bool) (env : Env) (st : Sto) : tAndM_k tb env (.ok true st) = tb env st := rfl
theorem tAndM_f (tb : Env → Sto → Res Bool) (env : Env) (st : Sto) : tAndM_k tb env (.ok false st) = .ok false st := rfl
def tOrM_k (tb : Env → Sto → Res Bool) (env : Env) (r : Res Bool) : Res Bool := r.bind fun k st1 => if k = true then .ok true st1 else tb env st1
theorem tOrM_ap (ta tb : Env → Sto → Res Bool) (env : Env) (st : Sto) : tOrM ta tb env st = tOrM_k tb env (ta env st) := rfl
theorem tOrM_t (tb : Env → Sto → Res Bool) (env : Env) (st : Sto) : tOrM_k tb env (.ok true st) = .ok true st := rfl
theorem tOrM_f (tb : Env → Sto → Res Bool) (env : Env) (st : Sto) : tOrM_k tb env (.ok false st) = tb env st := rfl
def sIf_k (u v : SM4) (env : Env) (r : Res Bool) : SRes := r.on env fun k st1 => if k = true then u env st1 else v env st1
theorem sIf_ap (t : Env → Sto → Res Bool) (u v : SM4) (env : Env) (st : Sto) : sIf t u v env st = sIf_k u v env (t env st) := rfl
theorem sIf_t (u v : SM4) (env : Env) (st : Sto) : sIf_k u v env (.ok true st) = u env st := rfl
theorem sIf_f (u v : SM4) (env : Env) (st : Sto) : sIf_k u v env (.ok false st) = v env st := rfl
def eIf_k (u v : EM) (env : Env) (r : Res Bool) : Res D := r.bind fun k st1 => if k = true then u env st1 else v env st1
theorem eIf_ap (t : Env → Sto → Res Bool) (u v : EM) (env : Env) (st : Sto) : eIf t u v env st = eIf_k u v env (t env st) := rfl
theorem eIf_t (u v : EM) (env : Env) (st : Sto) : eIf_k u v env (.ok true st) = u env st := rfl
theorem eIf_f (u v : EM) (env : Env) (st : Sto) : eIf_k u v env (.ok false st) = v env st := rfl
def eAnd_k2 (mb : EM) (env : Env) (d : D) (r : Res Bool) : Res D := r.bind fun k st2 => if k = true then mb env st2 else .ok d st2
def eAnd_k1 (mb : EM) (env : Env) (r : Res D) : Res D := r.bind fun d st1 => eAnd_k2 mb env d (truD d st1)
theorem eAnd_ap (ma mb : EM) (env : Env) (st : Sto) : eAnd ma mb env st = eAnd_k1 mb env (ma env st) := rfl
theorem eAnd_o (mb : EM) (env : Env) (d : D) (st : Sto) : eAnd_k1 mb env (.ok d st) = eAnd_k2 mb env d (truD d st) := rfl
theorem eAnd_t (mb : EM) (env : Env) (d : D) (st : Sto) : eAnd_k2 mb env d (.ok true st) = mb env st := rfl
theorem eAnd_f (mb : EM) (env : Env) (d : D) (st : Sto) : eAnd_k2 mb env d (.ok false st) = .ok d st := rfl
def eOr_k2 (mb : EM) (env : Env) (d : D) (r : Res Bool) : Res D := r.bind fun k st2 => if k = true then .ok d st2 else mb env st2
def eOr_k1 (mb : EM) (env : Env) (r : Res D) : Res D := r.bind fun d st1 => eOr_k2 mb env d (truD d st1)
theorem eOr_ap (ma mb : EM) (env : Env) (st : Sto) : eOr ma mb env st = eOr_k1 mb env (ma env st) := rfl
theorem eOr_o (mb : EM) (env : Env) (d : D) (st : Sto) : eOr_k1 mb env (.ok d st) = eOr_k2 mb env d (truD d st) := rfl
theorem eOr_t (mb : EM) (env : Env) (d : D) (st : Sto) : eOr_k2 mb env d (.ok true st) = .ok d st := rfl
theorem eOr_f (mb : EM) (env : Env) (d : D) (st : Sto) : eOr_k2 mb env d (.ok false st) = mb env st := rfl
def eNot_k2 (r : Res Bool) : Res D := r.bind fun k st2 => .ok (.bl (!k)) st2
def eNot_k1 (r : Res D) : Res D := r.bind fun d st1 => eNot_k2 (truD d st1)
theorem eNot_ap (ma : EM) (env : Env) (st : Sto) : eNot ma env st = eNot_k1 (ma env st) := rfl
theorem eNot_o1 (d : D) (st : Sto) : eNot_k1 (.ok d st) = eNot_k2 (truD d st) := rfl
theorem eNot_o2 (k : Bool) (st : Sto) : eNot_k2 (.ok k st) = .ok (.bl (!k)) st := rfl
def oSome_k (r : Res D) : Res (Option Int) := r.bind fun d st1 => match d with
  | .int i => .ok (some i) st1
  | _ => .bad
theorem oSome_ap (m : EM) (env : Env) (st : Sto) : oSome m env st = oSome_k (m env st) := rfl
theorem oSome_o (i : Int) (st : Sto) : oSome_k (.ok (.int i) st) = .ok (some i) st := rfl
def eChain_k4 (g' : D → D → Sto → Res D) (e : D) (r : Res D) : Res D := r.bind fun f st4 => g' e f st4
def eChain_k3 (g' : D → D → Sto → Res D) (mc : EM) (env : Env) (e : D) (r : Res D) : Res D := r.bind fun z st3 => match z with
  | .bl true => eChain_k4 g' e (mc env st3)
  | .bl false => .ok (.bl false) st3
  | _ => .bad
def eChain_k2 (g g' : D → D → Sto → Res D) (mc : EM) (env : Env) (d : D) (r : Res D) : Res D := r.bind fun e st2 => eChain_k3 g' mc env e (g d e st2)
def eChain_k1 (g g' : D → D → Sto → Res D) (mb mc : EM) (env : Env) (r : Res D) : Res D := r.bind fun d st1 => eChain_k2 g g' mc env d (mb env st1)
theorem eChain_ap (g g' : D → D → Sto → Res D) (ma mb mc : EM) (env : Env) (st : Sto) : eChain g g' ma mb mc env st = eChain_k1 g g' mb mc env (ma env st) := rfl
theorem eChain_o1 (g g' : D → D → Sto → Res D) (mb mc : EM) (env : Env) (d : D) (st : Sto) : eChain_k1 g g' mb mc env (.ok d st) = eChain_k2 g g' mc env d (mb env st) := rfl
theorem eChain_o2 (g g' : D → D → Sto → Res D) (mc : EM) (env : Env) (d e : D) (st : Sto) : eChain_k2 g g' mc env d (.ok e st) = eChain_k3 g' mc env e (g d e st) := rfl
theorem eChain_t (g' : D → D → Sto → Res D) (mc : EM) (env : Env) (e : D) (st : Sto) : eChain_k3 g' mc env e (.ok (.bl true) st) = eChain_k4 g' e (mc env st) := rfl
theorem eChain_f (g' : D → D → Sto → Res D) (mc : EM) (env : Env) (e : D) (st : Sto) : eChain_k3 g' mc env e (.ok (.bl false) st) = .ok (.bl false) st := rfl
theorem eChain_o4 (g' : D → D → Sto → Res D) (e f : D) (st : Sto) : eChain_k4 g' e (.ok f st) = g' e f st := rfl
def eChain3_k1 (g g' g'' : D → D → Sto → Res D) (mb mc md : EM) (env : Env) (r : Res D) : Res D := r.bind fun d st1 => (mb env st1).bind fun e st2 => (g d e st2).bind fun z st3 => match z with
  | .bl true => (mc env st3).bind fun f st4 => (g' e f st4).bind fun z2 st5 => match z2 with
    | .bl true => (md env st5).bind fun u st6 => g'' f u st6
    | .bl false => .ok (.bl false) st5
    | _ => .bad
  | .bl false => .ok (.bl false) st3
  | _ => .bad
def eChain3_k3 (g' g'' : D → D → Sto → Res D) (mc md : EM) (env : Env) (e : D) (r : Res D) : Res D := r.bind fun z st3 => match z with
  | .bl true => (mc env st3).bind fun f st4 => (g' e f st4).bind fun z2 st5 => match z2 with
    | .bl true => (md env st5).bind fun u st6 => g'' f u st6
    | .bl false => .ok (.bl false) st5
    | _ => .bad
  | .bl false => .ok (.bl false) st3
  | _ => .bad
def eChain3_k2 (g g' g'' : D → D → Sto → Res D) (mc md : EM) (env : Env) (d : D) (r : Res D) : Res D := r.bind fun e st2 => eChain3_k3 g' g'' mc md env e (g d e st2)
theorem eChain3_ap (g g' g'' : D → D → Sto → Res D) (ma mb mc md : EM) (env : Env) (st : Sto) : eChain3 g g' g'' ma mb mc md env st = eChain3_k1 g g' g'' mb mc md env (ma env st) := rfl
theorem eChain3_o1 (g g' g'' : D → D → Sto → Res D) (mb mc md : EM) (env : Env) (d : D) (st : Sto) : eChain3_k1 g g' g'' mb mc md env (.ok d st) = eChain3_k2 g g' g'' mc md env d (mb env st) := rfl
theorem eChain3_o2 (g g' g'' : D → D → Sto → Res D) (mc md : EM) (env : Env) (d e : D) (st : Sto) : eChain3_k2 g g' g'' mc md env d (.ok e st) = eChain3_k3 g' g'' mc md env e (g d e st) := rfl
def eChain3_k4 (g' g'' : D → D → Sto → Res D) (md : EM) (env : Env) (e : D) (r : Res D) : Res D := r.bind fun f st4 => (g' e f st4).bind fun z2 st5 => match z2 with
    | .bl true => (md env st5).bind fun u st6 => g'' f u st6
    | .bl false => .ok (.bl false) st5
    | _ => .bad
theorem eChain3_t (g' g'' : D → D → Sto → Res D) (mc md : EM) (env : Env) (e : D) (st : Sto) : eChain3_k3 g' g'' mc md env e (.ok (.bl true) st) = eChain3_k4 g' g'' md env e (mc env st) := rfl
theorem eChain3_f (g' g'' : D → D → Sto → Res D) (mc md : EM) (env : Env) (e : D) (st : Sto) : eChain3_k3 g' g'' mc md env e (.ok (.bl false) st) = .ok (.bl false) st := rfl
theorem eChain3_o4 (g' g'' : D → D → Sto → Res D) (md : EM) (env : Env) (e f : D) (st : Sto) : eChain3_k4 g' g'' md env e (.ok f st) = eChain_k3 g'' md env f (g' e f st) := rfl
theorem iRange1_ap (ms : Env → Sto → Res (List D)) (env : Env) (st : Sto) : iRange1 ms env st = (ms env st).bind fun ds st1 => match ds with
  | [.int j] => if smallI j then .ok ((List.range j.toNat).map fun k => .int (k : Nat), []) st1 else .bad
  | _ => .bad := rfl
theorem iRange2_ap (ms : Env → Sto → Res (List D)) (env : Env) (st : Sto) : iRange2 ms env st = (ms env st).bind fun ds st1 => match ds with
  | [.int i, .int j] => if smallI i ∧ smallI j then .ok ((List.range (j - i).toNat).map fun k => .int (i + (k : Nat)), []) st1 else .bad
  | _ => .bad := rfl
def iEnum_k (r : Res (List D)) : Res (List D × List (Nat × List D)) := r.bind fun ds st1 => match ds with
  | [d] => match seqD d st1 with
    | some es => .ok (numL es, srcD d es) st1
    | none => .bad
  | _ => .bad
theorem iEnum_ap (ms : Env → Sto → Res (List D)) (env : Env) (st : Sto) : iEnum ms env st = iEnum_k (ms env st) := rfl
theorem iEnum_o (d : D) (st : Sto) {es : List D} (h : seqD d st = some es) : iEnum_k (.ok [d] st) = .ok (numL es, srcD d es) st := by
  show (match seqD d st with
    | some es => Res.ok (numL es, srcD d es) st
    | none => .bad) = _
  rw [h]
def iZip_k (r : Res (List D)) : Res (List D × List (Nat × List D)) := r.bind fun ds st1 => match ds with
  | [d, e] => if isTup d = isTup e then (match seqD d st1, seqD e st1 with
    | some xs, some ys => .ok (pairL xs ys, srcD d xs ++ srcD e ys) st1
    | _, _ => .bad) else .bad
  | _ => .bad
theorem iZip_ap (ms : Env → Sto → Res (List D)) (env : Env) (st : Sto) : iZip ms env st = iZip_k (ms env st) := rfl
theorem iZip_o (d e : D) (st : Sto) {xs ys : List D} (h : isTup d = isTup e) (h1 : seqD d st = some xs) (h2 : seqD e st = some ys) : iZip_k (.ok [d, e] st) = .ok (pairL xs ys, srcD d xs ++ srcD e ys) st := by
  show (if isTup d = isTup e then (match seqD d st, seqD e st with
    | some xs, some ys => Res.ok (pairL xs ys, srcD d xs ++ srcD e ys) st
    | _, _ => .bad) else .bad) = _
  rw [if_pos h, h1, h2]
def eMt_k2 (g : D → List D → Sto → Res D) (d : D) (r : Res (List D)) : Res D := r.bind fun ds st2 => g d ds st2
def eMt_k1 (ok : D → Sto → Bool) (g : D → List D → Sto → Res D) (ms : Env → Sto → Res (List D)) (env : Env) (r : Res D) : Res D := r.bind fun d st1 => if ok d st1 = true then eMt_k2 g d (ms env st1) else .bad
theorem eMt_ap (ok : D → Sto → Bool) (g : D → List D → Sto → Res D) (mo : EM) (ms : Env → Sto → Res (List D)) (env : Env) (st : Sto) : eMt ok g mo ms env st = eMt_k1 ok g ms env (mo env st) := rfl
theorem eMt_o1 (ok : D → Sto → Bool) (g : D → List D → Sto → Res D) (ms : Env → Sto → Res (List D)) (env : Env) (d : D) (st : Sto) (h : ok d st = true) : eMt_k1 ok g ms env (.ok d st) = eMt_k2 g d (ms env st) := if_pos h
theorem eMt_o2 (g : D → List D → Sto → Res D) (d : D) (ds : List D) (st : Sto) : eMt_k2 g d (.ok ds st) = g d ds st := rfl
theorem isLst_lst {ds : List D} {st : Sto} : isLst (.lst ds) st = true := rfl
def eTupRg_k (r : Res (List D)) : Res D := r.bind fun ds st1 => .ok (.tup ds) st1
theorem eTupRg_ap (m : RM) (env : Env) (st : Sto) : eTupRg m env st = eTupRg_k (nRng m env st) := rfl
theorem eTupRg_o (ds : List D) (st : Sto) : eTupRg_k (.ok ds st) = .ok (.tup ds) st := rfl

theorem eV_0 {d : D} {env : Env} {st : Sto} : eV 0 (some d :: env) st = .ok d st := rfl
theorem eV_s {i : Nat} {x : Option D} {env : Env} {st : Sto} : eV (i + 1) (x :: env) st = eV i env st := by
  unfold eV
  simp
/-! operations -/
theorem addD_i {i j : Int} {st : Sto} : addD (.int i) (.int j) st = .ok (.int (i + j)) st := rfl
theorem subD_i {i j : Int} {st : Sto} : subD (.int i) (.int j) st = .ok (.int (i - j)) st := rfl
theorem mulD_i {i j : Int} {st : Sto} (h : i.natAbs.log2 + j.natAbs.log2 < 1000000) : mulD (.int i) (.int j) st = .ok (.int (i * j)) st := if_pos h
theorem modD_i {i j : Int} {st : Sto} (h : 0 < j) : modD (.int i) (.int j) st = .ok (.int (i % j)) st := by
  show (if j = 0 then Res.bad else Res.ok (D.int (i.fmod j)) st) = _
  rw [if_neg (by omega), Int.fmod_eq_emod_of_nonneg _ (by omega)]
theorem fdivD_i {i j : Int} {st : Sto} (h : 0 < j) (h2 : j.natAbs.log2 < 9000) : fdivD (.int i) (.int j) st = .ok (.int (i / j)) st := by
  show (if j = 0 then Res.bad else if j.natAbs.log2 < 9000 then Res.ok (D.int (i.fdiv j)) st else .bad) = _
  rw [if_neg (by omega), if_pos h2, Int.fdiv_eq_ediv_of_nonneg _ (by omega)]
theorem ltD_i {i j : Int} {st : Sto} : ltD (.int i) (.int j) st = .ok (.bl (decide (i < j))) st := rfl
theorem leD_i {i j : Int} {st : Sto} : leD (.int i) (.int j) st = .ok (.bl (decide (i ≤ j))) st := rfl
theorem gtD_i {i j : Int} {st : Sto} : gtD (.int i) (.int j) st = .ok (.bl (decide (j < i))) st := rfl
theorem geD_i {i j : Int} {st : Sto} : geD (.int i) (.int j) st = .ok (.bl (decide (j ≤ i))) st := rfl
theorem eqD_i {i j : Int} {st : Sto} : eqD (.int i) (.int j) st = .ok (.bl (i == j)) st := rfl
theorem neD_i {i j : Int} {st : Sto} : neD (.int i) (.int j) st = .ok (.bl (!(i == j))) st := rfl
theorem lenB_scr {ns : List Int} {st : Sto} : lenB [.scr ns] st = .ok (.int (ns.length : Nat)) st := by
  show Res.ok (D.int ((ns.map D.int).length : Nat)) st = _
  rw [List.length_map]
theorem lenB_lst {ds : List D} {st : Sto} : lenB [.lst ds] st = .ok (.int (ds.length : Nat)) st := rfl
theorem lenB_tup {ds : List D} {st : Sto} : lenB [.tup ds] st = .ok (.int (ds.length : Nat)) st := rfl
theorem atI_nat {α : Type} {xs : List α} {i : Int} (h0 : 0 ≤ i) : atI xs i = xs[i.toNat]? := by
  unfold atI ixN
  rw [if_pos h0]
  by_cases h : i < xs.length
  · rw [if_pos h]; rfl
  · rw [if_neg h]
    rw [List.getElem?_eq_none (by omega)]; rfl
theorem ixD_scr {ns : List Int} {i : Int} {st : Sto} {j : Int} (h0 : 0 ≤ i) (h : ns[i.toNat]? = some j) : ixD (.scr ns) (.int i) st = .ok (.int j) st := by
  show (match atI (ns.map D.int) i with | some x => Res.ok x st | none => .bad) = _
  rw [atI_nat h0, List.getElem?_map, h]; rfl
theorem ixD_tup {ds : List D} {i : Int} {st : Sto} {d : D} (h0 : 0 ≤ i) (h : ds[i.toNat]? = some d) : ixD (.tup ds) (.int i) st = .ok d st := by
  show (match atI ds i with | some x => Res.ok x st | none => .bad) = _
  rw [atI_nat h0, h]
theorem ixD_lst {ds : List D} {i : Int} {st : Sto} {d : D} (h0 : 0 ≤ i) (h : ds[i.toNat]? = some d) : ixD (.lst ds) (.int i) st = .ok d st := by
  show (match atI ds i with | some x => Res.ok x st | none => .bad) = _
  rw [atI_nat h0, h]
theorem powD_i {i j : Int} {st : Sto} (h : 0 ≤ j ∧ j ≤ 1000000 ∧ i.natAbs < 2 ^ 64) : powD (.int i) (.int j) st = .ok (.int (i ^ j.toNat)) st := if_pos h
theorem fin_rt {st : Sto} {d : D} {fz : Bool} (h : d.blw st.length = true) : fin fz st (.rt d st) = .ok d st := by
  show finD fz st st d = _
  unfold finD
  have e : chkS st.length st st = true := by
    have := chkS_app (n := st.length) (st := st) (g := [])
    simpa using this
  rw [if_pos e, if_pos h, List.take_length]
theorem fin_nx {st : Sto} {env : Env} {fz : Bool} : fin fz st (.nx env st) = .ok .non st := by
  show Res.ok D.non (shrink st st true) = _
  rw [shrink_self]
theorem log_small {i : Int} (h1 : -(2 ^ 64) < i) (h2 : i < 2 ^ 64) : i.natAbs.log2 < 64 := by
  by_cases h : i.natAbs = 0
  · rw [h]; decide
  · rw [Nat.log2_lt h]; omega
theorem mulD_s {i j : Int} {st : Sto} (h : -(2 ^ 64) < i ∧ i < 2 ^ 64) (h' : -(2 ^ 64) < j ∧ j < 2 ^ 64) : mulD (.int i) (.int j) st = .ok (.int (i * j)) st :=
  mulD_i (by have := log_small h.1 h.2; have := log_small h'.1 h'.2; omega)
/-! loops -/
theorem loopF_nil {gc src g body env st} (h : stillB src st = true) : loopF gc src g body [] env st = .nx env st := if_pos h
theorem loopF_cons {ks : List Nat} {src g body d ds env st env1 st1 env2 st2} (h : stillB src st = true) (h1 : g d env st = .ok env1 st1) (h2 : body env1 st1 = .nx env2 st2) :
    loopF (some ks) src g body (d :: ds) env st = loopF (some ks) src g body ds (ks.foldl (fun e k => e.set k none) env2) (shrink st st2 (okE st.length (ks.foldl (fun e k => e.set k none) env2))) := by
  show (if stillB src st = true then (match g d env st with
    | .ok env1 st1 => (body env1 st1).bind _
    | _ => .bad) else .bad) = _
  rw [if_pos h, h1]
  simp only [h2, SRes.bind_nx]
/-- a loop that keeps the store: the slots go from E i to E (i + 1) -/
theorem loop_run {ks : List Nat} {g : GM} {body : SM4} {st : Sto} (E : Nat → Env) {items : List D} (h : ∀ i d, items[i]? = some d → ∃ env1 env2, g d (E i) st = .ok env1 st ∧ body env1 st = .nx env2 st ∧ ks.foldl (fun e k => e.set k none) env2 = E (i + 1)) :
    ∀ (n i : Nat), items.length - i = n → i ≤ items.length → loopF (some ks) [] g body (items.drop i) (E i) st = .nx (E items.length) st := by
  intro n
  induction n with
  | zero =>
    intro i h1 h2
    have e : i = items.length := by omega
    subst e
    rw [List.drop_length]
    exact loopF_nil rfl
  | succ n ih =>
    intro i h1 h2
    have hi : i < items.length := by omega
    obtain ⟨env1, env2, a1, a2, a3⟩ := h i items[i] (List.getElem?_eq_getElem hi)
    rw [List.drop_eq_getElem_cons hi, loopF_cons rfl a1 a2, shrink_self, a3]
    exact ih (i + 1) (by omega) (by omega)
theorem loop_all {ks : List Nat} {g : GM} {body : SM4} {st : Sto} (E : Nat → Env) {items : List D} {env : Env} (h0 : env = E 0) (h : ∀ i d, items[i]? = some d → ∃ env1 env2, g d (E i) st = .ok env1 st ∧ body env1 st = .nx env2 st ∧ ks.foldl (fun e k => e.set k none) env2 = E (i + 1)) :
    loopF (some ks) [] g body items env st = .nx (E items.length) st := by
  have := loop_run E h items.length 0 (by simp) (by simp)
  rw [List.drop_zero] at this
  rw [h0]
  exact this
theorem compL_nil {src g tt te env st acc} (h : stillB src st = true) : compL src g tt te env [] st acc = .ok acc st := if_pos h
/-- [e for x in xs] -/
theorem comp_run {g : GM} {te : EM} {st : Sto} {env : Env} {f : D → D} : ∀ {items : List D} {acc : List D}, (∀ d ∈ items, ∃ env1, g d env st = .ok env1 st ∧ te env1 st = .ok (f d) st) → acc.length + items.length ≤ 1000000 →
    compL [] g noTest te env items st acc = .ok (acc ++ items.map f) st
  | [], acc, _, _ => by rw [compL_nil rfl, List.map_nil, List.append_nil]
  | d :: ds, acc, h, hl => by
    obtain ⟨env1, h1, h2⟩ := h d List.mem_cons_self
    have hl' : acc.length < 1000000 := by rw [List.length_cons] at hl; omega
    unfold compL
    rw [if_pos (show stillB [] st = true from rfl), h1]
    simp only [noTest_ap, if_true, h2, if_pos hl']
    rw [comp_run (fun d hd => h d (List.mem_cons_of_mem _ hd)) (by rw [List.length_append, List.length_singleton]; rw [List.length_cons] at hl; omega)]
    simp
end FL

namespace FL
open PySem PySem.Spec PyProof.Rows L2

/-! ### loops by an invariant -/
abbrev kill (ks : List Nat) (env : Env) : Env := ks.foldl (fun e k => e.set k none) env
abbrev afterSt (ks : List Nat) (st st2 : Sto) (env2 : Env) : Sto := shrink st st2 (okE st.length (kill ks env2))
theorem while_inv {ks : List Nat} {c : Env → Sto → Res Bool} {body : SM4} (P : Nat → Env → Sto → Prop) (Q : SRes → Prop)
    (h : ∀ m env st, P m env st → (c env st = .ok false st ∧ Q (.nx env st)) ∨ (c env st = .ok true st ∧
      ((∃ env2 st2 m', body env st = .nx env2 st2 ∧ m' < m ∧ P m' (kill ks env2) (afterSt ks st st2 env2)) ∨ ∃ d st2, body env st = .rt d st2 ∧ Q (.rt d st2)))) :
    ∀ (fuel m : Nat) (env : Env) (st : Sto), m < fuel → P m env st → Q (whileF (some ks) c body fuel env st) := by
  intro fuel
  induction fuel with
  | zero => exact fun m env st hm => absurd hm (by omega)
  | succ n ih =>
    intro m env st hm hp
    rcases h m env st hp with ⟨h1, h2⟩ | ⟨h1, h2⟩
    · show Q ((c env st).on env _)
      rw [h1]
      exact h2
    · show Q ((c env st).on env _)
      rw [h1]
      rcases h2 with ⟨env2, st2, m', h2, h3, h4⟩ | ⟨d, st2, h2, h3⟩
      · show Q ((body env st).bind _)
        rw [h2]
        exact ih m' _ _ (by omega) h4
      · show Q ((body env st).bind _)
        rw [h2]
        exact h3
theorem loop_inv {ks : List Nat} {src : List (Nat × List D)} {g : GM} {body : SM4} (P : Nat → Env → Sto → Prop) (Q : SRes → Prop) {items : List D}
    (hsrc : ∀ i env st, P i env st → stillB src st = true)
    (h : ∀ i d env st, items[i]? = some d → P i env st → ∃ env1 st1, g d env st = .ok env1 st1 ∧
      ((∃ env2 st2, body env1 st1 = .nx env2 st2 ∧ P (i + 1) (kill ks env2) (afterSt ks st st2 env2)) ∨ ∃ d st2, body env1 st1 = .rt d st2 ∧ Q (.rt d st2)))
    (hend : ∀ env st, P items.length env st → Q (.nx env st)) :
    ∀ (n i : Nat) (env : Env) (st : Sto), items.length - i = n → i ≤ items.length → P i env st → Q (loopF (some ks) src g body (items.drop i) env st) := by
  intro n
  induction n with
  | zero =>
    intro i env st h1 h2 hp
    have e : i = items.length := by omega
    subst e
    rw [List.drop_length, loopF_nil (hsrc _ _ _ hp)]
    exact hend env st hp
  | succ n ih =>
    intro i env st h1 h2 hp
    have hi : i < items.length := by omega
    obtain ⟨env1, st1, a1, a2⟩ := h i items[i] env st (List.getElem?_eq_getElem hi) hp
    rw [List.drop_eq_getElem_cons hi]
    rcases a2 with ⟨env2, st2, a2, a3⟩ | ⟨d, st2, a2, a3⟩
    · rw [loopF_cons (hsrc _ _ _ hp) a1 a2]
      exact ih (i + 1) _ _ (by omega) (by omega) a3
    · show Q (if stillB src st = true then (match g items[i] env st with
        | .ok env1 st1 => (body env1 st1).bind _
        | _ => .bad) else .bad)
      rw [if_pos (hsrc _ _ _ hp), a1]
      simp only [a2, SRes.bind_rt]
      exact a3
theorem loop_inv0 {ks : List Nat} {src : List (Nat × List D)} {g : GM} {body : SM4} (P : Nat → Env → Sto → Prop) (Q : SRes → Prop) {items : List D} {env : Env} {st : Sto}
    (hsrc : ∀ i env st, P i env st → stillB src st = true)
    (h : ∀ i d env st, items[i]? = some d → P i env st → ∃ env1 st1, g d env st = .ok env1 st1 ∧
      ((∃ env2 st2, body env1 st1 = .nx env2 st2 ∧ P (i + 1) (kill ks env2) (afterSt ks st st2 env2)) ∨ ∃ d st2, body env1 st1 = .rt d st2 ∧ Q (.rt d st2)))
    (hend : ∀ env st, P items.length env st → Q (.nx env st)) (h0 : P 0 env st) : Q (loopF (some ks) src g body items env st) := by
  have := loop_inv P Q hsrc h hend items.length 0 env st (by simp) (by simp) h0
  rwa [List.drop_zero] at this
theorem after_same {ks : List Nat} {st : Sto} {env : Env} : afterSt ks st st env = st := shrink_self
/-- a def that only changes the store at places it was given -/
theorem shrink_len {st st2 : Sto} {ok : Bool} (h : st2.length = st.length) : shrink st st2 ok = st2 := by
  unfold shrink
  split
  · rw [← h, List.take_length]
  · rfl
theorem fin_rt2 {st st2 : Sto} {d : D} {fz : Bool} (h : st2.length = st.length) (hd : d.blw st.length = true) : fin fz st (.rt d st2) = .ok d st2 := by
  show finD fz st st2 d = _
  unfold finD
  by_cases c : chkS st.length st st2 = true
  · rw [if_pos c, if_pos hd, ← h, List.take_length]
  · rw [if_neg c]
mutual
/-- nothing of the store in it -/
def D.cl : D → Bool
  | .loc _ => false
  | .tup ds => D.cls ds
  | .lst ds => D.cls ds
  | .exc _ _ ds => D.cls ds
  | _ => true
def D.cls : List D → Bool
  | [] => true
  | d :: ds => D.cl d && D.cls ds
end
mutual
theorem D.cl_blw (n : Nat) : ∀ d : D, d.cl = true → d.blw n = true
  | .non, _ => rfl
  | .bl _, _ => rfl
  | .int _, _ => rfl
  | .str _, _ => rfl
  | .scr _, _ => rfl
  | .loc _, h => by simp [D.cl] at h
  | .tup ds, h => by
    unfold D.blw
    exact D.cls_blw n ds (by simpa [D.cl] using h)
  | .lst ds, h => by
    unfold D.blw
    exact D.cls_blw n ds (by simpa [D.cl] using h)
  | .exc _ _ ds, h => by
    unfold D.blw
    exact D.cls_blw n ds (by simpa [D.cl] using h)
theorem D.cls_blw (n : Nat) : ∀ ds : List D, D.cls ds = true → D.blws n ds = true
  | [], _ => rfl
  | d :: ds, h => by
    simp only [D.cls, Bool.and_eq_true] at h
    simp only [D.blws, D.cl_blw n d h.1, D.cls_blw n ds h.2, Bool.and_self]
end
theorem cls_ints : ∀ ns : List Int, D.cls (ns.map .int) = true
  | [] => rfl
  | _ :: r => by simp [D.cls, D.cl, cls_ints r]
theorem cls_map {α : Type} {f : α → D} (h : ∀ a, (f a).cl = true) : ∀ l : List α, D.cls (l.map f) = true
  | [] => rfl
  | a :: r => by simp [D.cls, h a, cls_map h r]
theorem intsD_map : ∀ ns : List Int, intsD (ns.map .int) = some ns
  | [] => rfl
  | n :: r => by
    show (match intsD (r.map .int) with | some ns => some (n :: ns) | none => none) = _
    rw [intsD_map r]
/-- what a call laid and left behind is forgotten; what it gives back is frozen -/
theorem chk_app {n : Nat} {st g : Sto} : chkS n st (st ++ g) = true := chkS_app
theorem fin_grown {st g : Sto} {d e : D} (h : d.cl = true ∨ d.blw st.length = true) (he : e = d) {fz : Bool} : fin fz st (.rt d (st ++ g)) = .ok e st := by
  subst he
  show finD fz st (st ++ g) e = _
  unfold finD
  have hb : e.blw st.length = true := by
    rcases h with h | h
    · exact D.cl_blw _ _ h
    · exact h
  rw [if_pos chk_app, if_pos hb, List.take_left]
theorem fin_frozen {st g : Sto} {d e : D} (hd : d.blw st.length = false) (he : D.frz (st ++ g) st.length 30 d = some e) : fin true st (.rt d (st ++ g)) = .ok e st := by
  show finD true st (st ++ g) d = _
  unfold finD
  rw [if_pos chk_app, if_neg (by rw [hd]; decide), if_pos rfl, he, List.take_left]
theorem fin_nx2 {st g : Sto} {env : Env} {fz : Bool} : fin fz st (.nx env (st ++ g)) = .ok .non st := by
  show Res.ok D.non (shrink st (st ++ g) true) = _
  rw [shrink_same]
end FL

namespace FL
open PySem PySem.Spec PyProof.Rows L2

/-! ### operations on lists -/
theorem lstD_loc {st : Sto} {l : Nat} {ds : List D} (h : st[l]? = some (.lst ds)) : lstD (.loc l) st = some ds := by
  show (match st[l]? with | some (.lst ds) => some ds | _ => none) = _
  rw [h]
theorem seqD_loc {st : Sto} {l : Nat} {ds : List D} (h : st[l]? = some (.lst ds)) : seqD (.loc l) st = some ds := by
  show (match st[l]? with | some (.lst ds) => some ds | _ => none) = _
  rw [h]
theorem dicD_loc {st : Sto} {l : Nat} {ds : List D} (h : st[l]? = some (.lst ds)) : dicD (.loc l) st = none := by
  show (match st[l]? with | some (.dic ds) => some ds | _ => none) = _
  rw [h]
theorem maxB_one {st : Sto} {d : D} : maxB [d] st = match lstD d st with
    | some ds => match intsD ds with
      | some (i :: r) => Res.ok (D.int (maxI (i :: r))) st
      | _ => .bad
    | none => .bad := by cases d <;> rfl
theorem minB_one {st : Sto} {d : D} : minB [d] st = match lstD d st with
    | some ds => match intsD ds with
      | some (i :: r) => Res.ok (D.int (minI (i :: r))) st
      | _ => .bad
    | none => .bad := by cases d <;> rfl
theorem minB_l {st : Sto} {d : D} {T : List Int} (h : lstD d st = some (T.map .int)) (hT : T ≠ []) : minB [d] st = .ok (.int (minI T)) st := by
  rw [minB_one, h]
  simp only [intsD_map]
  cases T with
  | nil => exact absurd rfl hT
  | cons i r => rfl
theorem maxB_l {st : Sto} {d : D} {T : List Int} (h : lstD d st = some (T.map .int)) (hT : T ≠ []) : maxB [d] st = .ok (.int (maxI T)) st := by
  rw [maxB_one, h]
  simp only [intsD_map]
  cases T with
  | nil => exact absurd rfl hT
  | cons i r => rfl
theorem minB_i {st : Sto} {i j : Int} : minB [.int i, .int j] st = .ok (.int (if j < i then j else i)) st := rfl
theorem maxB_i {st : Sto} {i j : Int} : maxB [.int i, .int j] st = .ok (.int (if j > i then j else i)) st := rfl
theorem lenB_loc {st : Sto} {l : Nat} {ds : List D} (h : st[l]? = some (.lst ds)) : lenB [.loc l] st = .ok (.int (ds.length : Nat)) st := by
  show (match seqD (.loc l) st with
    | some ds => Res.ok (D.int (ds.length : Nat)) st
    | none => _) = _
  rw [seqD_loc h]
theorem ixD_loc {st : Sto} {l : Nat} {ds : List D} {i : Int} {d : D} (h : st[l]? = some (.lst ds)) (h0 : 0 ≤ i) (hd : ds[i.toNat]? = some d) : ixD (.loc l) (.int i) st = .ok d st := by
  show (match seqD (.loc l) st with
      | some ds => (match atI ds i with | some x => Res.ok x st | none => .bad)
      | none => _) = _
  rw [seqD_loc h]
  simp only [atI_nat h0, hd]
theorem isLst_loc {st : Sto} {l : Nat} {ds : List D} (h : st[l]? = some (.lst ds)) : isLst (.loc l) st = true := by
  unfold isLst
  rw [lstD_loc h]; rfl
theorem apD_loc {st : Sto} {l : Nat} {ds : List D} {d : D} (h : st[l]? = some (.lst ds)) (hl : ds.length < 1000000) : apD (.loc l) [d] st = .ok .non (st.set l (.lst (ds ++ [d]))) := by
  show (match st[l]? with
    | some (.lst ds) => if ds.length < 1000000 then Res.ok D.non (st.set l (.lst (ds ++ [d]))) else .bad
    | _ => .bad) = _
  rw [h]
  simp only [if_pos hl]
theorem setD_loc {st : Sto} {l : Nat} {ds : List D} {i : Int} {d : D} (h : st[l]? = some (.lst ds)) (h0 : 0 ≤ i) (hl : i < ds.length) : setD (.loc l) (.int i) d st = some (st.set l (.lst (ds.set i.toNat d))) := by
  show (match st[l]? with
    | some (.lst ds) => (match ixN ds.length i with
        | some n => some (st.set l (.lst (ds.set n d)))
        | none => none)
    | some (.dic kvs) => _
    | none => none) = _
  rw [h]
  have e : ixN ds.length i = some i.toNat := by unfold ixN; rw [if_pos h0, if_pos hl]
  simp only [e]
theorem flat_ints (T : List Int) : (T.map D.int).all flatD = true := by
  rw [List.all_map, List.all_eq_true]
  intro x _
  rfl
theorem fstIx_ints {x : Int} : ∀ {T : List Int} {i : Nat}, x ∈ T → fstIx (.int x) (T.map .int) i = some (i + T.findIdx (· == x))
  | [], i, h => absurd h (by simp)
  | t :: T, i, h => by
    show (if eqFD (.int t) (.int x) = true then some i else fstIx (.int x) (T.map .int) (i + 1)) = _
    rw [List.findIdx_cons]
    by_cases e : t = x
    · subst e
      have h1 : eqFD (.int t) (.int t) = true := by simp [eqFD]
      rw [if_pos h1]
      simp
    · have h1 : ¬ eqFD (.int t) (.int x) = true := by simpa [eqFD] using e
      have h2 : (t == x) = false := by simpa using e
      rw [if_neg h1, h2]
      have hm : x ∈ T := by
        rcases List.mem_cons.mp h with h | h
        · exact absurd h.symm e
        · exact h
      rw [fstIx_ints hm]
      simp only [cond_false]
      congr 1
      omega
theorem idxD_ints {st : Sto} {d : D} {T : List Int} {x : Int} (h : lstD d st = some (T.map .int)) (hx : x ∈ T) : idxD d [.int x] st = .ok (.int ((T.findIdx (· == x) : Nat) : Int)) st := by
  show (match lstD d st with
    | some es => if flatD (.int x) = true ∧ es.all flatD = true then (match fstIx (.int x) es 0 with
      | some j => Res.ok (D.int (j : Nat)) st
      | none => .bad) else .bad
    | none => .bad) = _
  rw [h]
  simp only [if_pos (show flatD (.int x) = true ∧ (T.map D.int).all flatD = true from ⟨rfl, flat_ints T⟩), fstIx_ints hx, Nat.zero_add]
theorem maxI_mem : ∀ {l : List Int}, l ≠ [] → maxI l ∈ l ∧ ∀ y ∈ l, y ≤ maxI l
  | [], h => absurd rfl h
  | [a], _ => ⟨by simp [maxI], by simp [maxI]⟩
  | a :: b :: l, _ => by
    obtain ⟨k1, k2⟩ := maxI_mem (l := b :: l) (by simp)
    have key : maxI (a :: b :: l) = if maxI (b :: l) ≤ a then a else maxI (b :: l) := rfl
    rw [key]
    split
    · rename_i hc
      refine ⟨List.mem_cons_self, fun y hy => ?_⟩
      rcases List.mem_cons.mp hy with rfl | hy
      · exact Int.le_refl _
      · exact Int.le_trans (k2 y hy) hc
    · rename_i hc
      refine ⟨List.mem_cons_of_mem _ k1, fun y hy => ?_⟩
      rcases List.mem_cons.mp hy with rfl | hy
      · omega
      · exact k2 y hy
theorem iRange2_i {ms : Env → Sto → Res (List D)} {env : Env} {st st1 : Sto} {i j : Int} (h : ms env st = .ok [.int i, .int j] st1) (h1 : smallI i) (h2 : smallI j) :
    iRange2 ms env st = .ok ((List.range (j - i).toNat).map fun k => .int (i + (k : Nat)), []) st1 := by
  rw [iRange2_ap, h, Res.bind_ok]
  exact if_pos ⟨h1, h2⟩
theorem iRange1_i {ms : Env → Sto → Res (List D)} {env : Env} {st st1 : Sto} {j : Int} (h : ms env st = .ok [.int j] st1) (h2 : smallI j) :
    iRange1 ms env st = .ok ((List.range j.toNat).map fun k => .int (k : Nat), []) st1 := by
  rw [iRange1_ap, h, Res.bind_ok]
  exact if_pos h2
end FL

namespace FL
open PySem PySem.Spec PyProof.Rows L2

/-! ### a caught exception is laid into the abstract heap -/
theorem inv_ext {X : Cx} {pins : List (Addr × Obj)} {σ : L2.St} {H : Hp} {sI s : Shared} {a : Addr} {o : HO} (J : Inv X pins σ H sI) (I : Inv X pins σ H s) (hI : sI.heap.get? a = none) (na : H a = none) (nL : a ≠ X.env.locals) (nF : a ∉ X.fs)
    (new : ObjOk X.prog X.w (upd H a o) s.heap a o) : Inv X pins σ (upd H a o) s := by
  have ne : ∀ {b : Addr} {u : HO}, H b = some u → b ≠ a := fun e z => by subst z; rw [na] at e; cases e
  refine ⟨I.ok, I.os, I.bare, ⟨I.base.keep, I.base.slot, fun b u e n hx => ?_, I.base.there, fun b xs e => ?_, fun b u v e => ?_, fun b ps e => ?_⟩, I.loc, I.cell, ?_, fun x c hc => ?_, fun p hp => ?_, I.hok.laidN (fun _ _ q => q) na new, I.len⟩
  · have hb : b ≠ a := by
      rintro rfl
      have := J.base.keep b u e n nF hx
      rw [hI] at this; cases this
    rw [upd_ne hb]
    exact I.base.free b u e n hx
  · have q := I.base.tups b xs e
    rw [upd_ne (ne q)]; exact q
  · have q := I.base.frzs b u v e
    rw [upd_ne (ne q)]; exact q
  · obtain ⟨more, q⟩ := I.base.tbls b ps e
    exact ⟨more, by rw [upd_ne (ne q)]; exact q⟩
  · rw [upd_ne (Ne.symm nL)]; exact I.free
  · have hc' : c ≠ a := by
      rintro rfl
      obtain ⟨v, o', e, _⟩ := J.cell x c hc
      rw [hI] at e; cases e
    rw [upd_ne hc']; exact I.freeC x c hc
  · obtain ⟨h1, h2, h3⟩ := I.pin p hp
    have hp' : p.1 ≠ a := by
      intro z
      have := (J.pin p hp).1
      rw [z, hI] at this; cases this
    exact ⟨h1, by rw [upd_ne hp']; exact h2, h3⟩
theorem inv_suite {X : Cx} {pins : List (Addr × Obj)} {σ : L2.St} {H : Hp} {s : Shared} (I : Inv X pins σ H s) (a : Addr) : Inv (X.suite a (X.pn ++ pins)) [] σ H s :=
  ⟨I.ok.suite _ _, I.os, I.bare, I.base, I.loc, I.cell, I.free, I.freeC, fun p hp => I.pin p (by simpa using hp), I.hok, I.len⟩
theorem inv_unsuite {X : Cx} {pins pn' : List (Addr × Obj)} {σ : L2.St} {H : Hp} {s : Shared} {a : Addr} (I : Inv (X.suite a (X.pn ++ pins)) pn' σ H s) (ok : X.Ok) : Inv X pins σ H s :=
  ⟨ok, I.os, I.bare, I.base, I.loc, I.cell, I.free, I.freeC, fun p hp => I.pin p (List.mem_append_left _ hp), I.hok, I.len⟩
/-- what the clause 'except x as n' wishes of an exception of the body: slot i is n's -/
def wExt (K : PySem.W.Frag) (c : Value) (i : Nat) (ts : TS) (Wout : WX) (D : Ends) : WX := fun cls d σ H =>
  ∃ b, PySem.W.exmOne K cls c = some b ∧ (b = true → ∀ a, H a = none → ts { nx := fun σ' H' => D.nx (σ'.set i none) H', rt := D.rt, bk := fun σ' H' => D.bk (σ'.set i none) H', ct := fun σ' H' => D.ct (σ'.set i none) H' } (σ.set i (some (.ref a))) (upd H a (ExE cls d a))) ∧
    (b = false → Wout cls d σ H)
section
variable {X : Cx} {x n : Str} {c : Value} {i : Nat} {body suite : List Stmt} {b₀ : Stmt} {np pos pos' : Pos} {tb : WX → TS} {ts : TS} {Wout : WX}
theorem ps_try_ext (hs : X.stack = X.env :: X.outer) (hf : X.env.frame = some X.env.locals) (hN : X.N.Nodup) (hi : X.N[i]? = some n) (hln : X.env.kindOf n = some .local) (hc : Names X x c) (tk : Takes X Wout)
    (hb : ∀ (W : WX) (pn : List (Addr × Obj)) (xe : Value → Shared → Prop), Takes (X.tr pn xe) W → PassesOwn (model X.prog X.w) X.A X.env xe → PSs (X.tr pn xe) body (tb W))
    (hsu : ∀ (a : Addr) (pn : List (Addr × Obj)), PSs (X.suite a pn) (b₀ :: suite) ts) :
    PS X (.Try body [.ExceptHandler (some (.Name x np)) (some n) (b₀ :: suite) pos'] [] [] pos) (fun D σ H => tb (wExt X.K c i ts Wout D) D σ H) := by
  refine ⟨fun pins s σ H D I h => ?_⟩
  have ok := I.ok
  have hfr : X.A.frames = some (X.env :: X.outer) := by rw [ok.frames, hs]
  have hloc : Loc X.env.scope n := .inl hln
  refine wpAny_Try_except ?_
  refine wpAny_mono ((hb (wExt X.K c i ts Wout D) (X.pn ++ pins) (fun e s₁ => wpAny (model X.prog X.w) X.A (noteFrame e X.env) (fun _ s₂ => wpAny (model X.prog X.w) X.A (setFlight e none) (fun _ s₃ =>
    wpAny (model X.prog X.w) X.A (handleBy e X.env [.ExceptHandler (some (.Name x np)) (some n) (b₀ :: suite) pos']) (SP X pins D) X.xe s₃) X.xe s₂) X.xe s₁) (fun u s' xx => ?_) PassesOwn.looking).run [] s σ H D (I.toTry _) h) (fun f s1 hsp => ?_) (fun e s1 he => he)
  · -- the catch
    obtain ⟨a, B, sI, pins', σ', H', cls, d, rfl, J', nb, up, sky, na, os, ag, b, hb1, hyes, hno⟩ := xx
    have J : Inv X pins σ' H' sI := J'.ofTry ok
    have sky' : Sky B (X.env :: X.outer) a (Zc cls d) X.env.locals s'.heap := by rw [← hs]; exact sky
    show wpAny (model X.prog X.w) X.A (noteFrame (.ref a) X.env) _ _ _
    refine Sky.land Zc.steady hfr hf sky' fun h3 fl3 up3 => ?_
    have J3 : Inv X pins σ' H' { s' with heap := h3 } := J.landed nb fl3.1 (up.trans up3) os ag
    obtain ⟨oe3, vs3, he3, hz3, hd3⟩ := fl3.there
    have notFr : ∀ {h : Heap} {o : Obj} {vs : Array Value}, h.FunFrames B (X.env :: X.outer) → h.get? a = some o → o.data = .fields vs → a ∉ frs (X.env :: X.outer) := fun {h o vs} ff e dd hm => by
      obtain ⟨_, o', e', hnf⟩ := ff.mem hm
      rw [e] at e'; cases e'
      exact hnf _ dd
    have nfr := notFr fl3.2.2.1 he3 hd3
    have nL : a ≠ X.env.locals := fun z => nfr (List.mem_filterMap.mpr ⟨X.env, List.mem_cons_self, by rw [hf, z]⟩)
    have nF : a ∉ X.fs := fun hm => by
      obtain ⟨e, he, q⟩ := List.mem_filterMap.mp hm
      exact nfr (List.mem_filterMap.mpr ⟨e, List.mem_cons_of_mem _ he, q⟩)
    have hI : sI.heap.get? a = none := by
      cases q : sI.heap.get? a with
      | none => rfl
      | some o =>
        have := nb a o q (by rw [hs]; exact nfr)
        rw [fl3.2.1] at this; cases this
    have S3 := J3.suite he3 hd3 na nL nF
    refine wpAny_handleBy_cons (codeAny_handlers_test ?_) (by intro q; cases q)
    have LT : PySem.W.Looks (model X.prog X.w) h3 (typeOf (.ref a)) cls := fun A Q E s k q => wpAny_typeOf_ref (k _ _ he3) (by rw [hz3.1]; exact q)
    have LM := PySem.W.exm_one (M := model X.prog X.w) (J3.kIn) LT hb1
    have test : ∀ {Q : Value → Shared → Prop} {E : Value → Shared → Prop}, Q c { s' with heap := h3 } → wpAny (model X.prog X.w) (X.A.mark (some (.ref a))) (eval (.Name x np) X.env) Q E { s' with heap := h3 } := fun {Q E} q => by
      obtain ⟨hg, hdbg, hm | ⟨hm, hv, hnn⟩⟩ := hc
      · exact ld_glob (X := X.suite a ((a, oe3) :: (X.pn ++ pins))) S3 hg hm q hdbg
      · exact ld_blt (X := X.suite a ((a, oe3) :: (X.pn ++ pins))) S3 hg hm hv q hnn hdbg
    refine test (LM.here ?_)
    cases b with
    | true =>
      refine codeAny_handlers_suite_as ?_
      refine HandSPX.lands_againZ fl3 fun h4 fl4 up4 => ?_
      have J4 : Inv X pins σ' H' { s' with heap := h4 } := J.landed nb fl4.1 ((up.trans up3).trans up4) os ag
      obtain ⟨oe4, vs4, he4, hz4, hd4⟩ := fl4.there
      have J5 : Inv X pins σ' (upd H' a (ExE cls d a)) { s' with heap := h4 } := inv_ext J J4 hI na nL nF (exE_ok he4 hz4 hd4)
      have S4 := inv_suite J5 a
      refine store_ok (X := X.suite a (X.pn ++ pins)) (v := .ref a) S4 hN hi hloc rfl (fun s5 S5 => ?_) (.inr hln)
      refine wpAny_mono ((hsu a (X.pn ++ pins)).run [] s5 _ _ _ S5 (hyes rfl a na)) (fun f s6 hsp => ?_) (fun _ _ z => False.elim z)
      have end_ : ∀ {σ6 : L2.St} {H6 : Hp} {Q : Shared → Prop}, Inv (X.suite a (X.pn ++ pins)) [] σ6 H6 s6 → (∀ s7, Inv X pins (σ6.set i none) H6 s7 → Q s7) →
          wpAny (model X.prog X.w) X.A (do bindName X.env n .none; unbindBehindTheSuite X.env n pos') (fun _ s7 => Q s7) X.xe s6 := fun {σ6 H6 Q} S6 hq => gone_ok (inv_unsuite S6 ok) hN hi hln hq
      cases f with
      | next =>
        obtain ⟨σ6, H6, S6, q6⟩ := hsp
        exact end_ S6 fun s7 J7 => ⟨_, _, J7, q6⟩
      | brk =>
        obtain ⟨σ6, H6, S6, q6⟩ := hsp
        exact end_ S6 fun s7 J7 => ⟨_, _, J7, q6⟩
      | cont =>
        obtain ⟨σ6, H6, S6, q6⟩ := hsp
        exact end_ S6 fun s7 J7 => ⟨_, _, J7, q6⟩
      | ret u =>
        obtain ⟨v6, σ6, H6, S6, r6, q6⟩ := hsp
        exact end_ S6 fun s7 J7 => ⟨_, _, _, J7, r6, q6⟩
    | false =>
      show wpAny _ X.A (handleBy (.ref a) X.env []) _ _ _
      refine wpAny_handleBy_nil ?_
      obtain ⟨k1, k2, k3, oe, vs, T, oT, ts', he, hz, hd, h1, hr⟩ := id fl3
      unfold PySem.passOn
      refine wpAny_bind (wpAny_field he hd h1 ?_)
      rw [if_neg (show ¬ ((Value.ref T == Value.none) = true) from by simp)]
      have fin : wpAny (model X.prog X.w) X.A (setFlight (.ref a) X.env.frame) (fun _ s4 => wpAny (model X.prog X.w) X.A (throw (.ref a) : Sem Flow) (SP X pins D) X.xe s4) X.xe { s' with heap := h3 } := by
        rw [hf]
        refine HandSPX.setFlight_upZ fl3 fun h4 hh4 up4 => wpAny_throw (tk _ _ ?_)
        exact ⟨a, B, sI, pins, σ', H', cls, d, rfl, J, nb, (up.trans up3).trans up4, .inr (.inr (by rw [hs]; exact hh4)), na, os, ag, hno rfl⟩
      first
        | exact wpAny_bind (wpAny_pure (wpAny_bind fin))
        | exact wpAny_bind fin
  · cases f with
    | next =>
      obtain ⟨σ', H', J', q⟩ := hsp
      exact wpAny_execs_nil ⟨σ', H', J'.ofTry ok, q⟩
    | brk =>
      obtain ⟨σ', H', J', q⟩ := hsp
      exact ⟨σ', H', J'.ofTry ok, q⟩
    | cont =>
      obtain ⟨σ', H', J', q⟩ := hsp
      exact ⟨σ', H', J'.ofTry ok, q⟩
    | ret u =>
      obtain ⟨v, σ', H', J', r, q⟩ := hsp
      exact ⟨v, σ', H', J'.ofTry ok, r, q⟩
end

/-! ### classes of exceptions -/
structure ClsAt (K : PySem.W.Frag) (mg : Str → Option Value) (cls : String) : Prop where
  ex : ∃ C, PySem.W.nsIn K mainGlobals (Str.ofString cls) = some (some (.ref C)) ∧ mg (Str.ofString cls) = some (.ref C) ∧ PySem.W.keepIn K (.ref C) = true ∧
    PySem.W.subIn K (.ref C) (.type "BaseException") = some true ∧ PySem.W.typeIn K (.ref C) = some (.type "type") ∧
    PySem.W.excIn K C [.type "ValueError", .type "Exception", .type "BaseException", .type "object"] "ValueError.__new__" = true
structure NmAt (K : PySem.W.Frag) (mg : Str → Option Value) (cls : String) : Prop where
  ex : ∃ C, PySem.W.nsIn K mainGlobals (Str.ofString cls) = some (some (.ref C)) ∧ mg (Str.ofString cls) = some (.ref C)
/-- raise cls('m') -/
def sRaise (cls : String) : SM4 := fun env st => .ex ⟨cls, []⟩ env st
/-- which class y stands for -/
inductive Cl where
  | own (y : String) | ve
def Cl.at (K : PySem.W.Frag) : Cl → Value → Prop
  | .own y, v => ∃ C, PySem.W.nsIn K mainGlobals (Str.ofString y) = some (some (.ref C)) ∧ v = .ref C
  | .ve, v => v = .type "ValueError"
/-- whether the instances of cls are instances of y -/
structure IsAt (K : PySem.W.Frag) (cls : String) (y : Cl) (b : Bool) : Prop where
  ex : ∃ C v, PySem.W.nsIn K mainGlobals (Str.ofString cls) = some (some (.ref C)) ∧ ExcC K C ∧ y.at K v ∧ PySem.W.kitOne K (.ref C) v = some b
structure NonAt (K : PySem.W.Frag) (y : Cl) : Prop where
  ex : ∃ v, y.at K v ∧ PySem.W.kitOne K (.type "NoneType") v = some false
/-- whether 'except y' takes cls -/
structure ExmAt (K : PySem.W.Frag) (cls : String) (y : Cl) (b : Bool) : Prop where
  ex : ∃ C v, PySem.W.nsIn K mainGlobals (Str.ofString cls) = some (some (.ref C)) ∧ y.at K v ∧ PySem.W.exmOne K (.ref C) v = some b
theorem Cl.at_eq {K : PySem.W.Frag} {y : Cl} {v w : Value} (h : y.at K v) (h' : y.at K w) : v = w := by
  cases y with
  | own y =>
    obtain ⟨C, h1, rfl⟩ := h
    obtain ⟨C', h2, rfl⟩ := h'
    rw [h1] at h2; cases h2; rfl
  | ve => exact (show v = _ from h).trans (show w = _ from h').symm
def tabB (tab : List (String × Bool)) (cls : String) : Option Bool := match tab with
  | [] => none
  | p :: r => if cls = p.1 then some p.2 else tabB r cls
theorem tabB_mem : ∀ {tab : List (String × Bool)} {cls : String} {b : Bool}, tabB tab cls = some b → (cls, b) ∈ tab
  | [], _, _, h => by cases h
  | p :: r, cls, b, h => by
    unfold tabB at h
    by_cases e : cls = p.1
    · rw [if_pos e] at h
      cases h
      rw [e]
      exact List.mem_cons_self
    · rw [if_neg e] at h
      exact List.mem_cons_of_mem _ (tabB_mem h)
section
variable {X : Cx} {W : WX} {a : Expr} {ma : EM} {p p2 p3 pos : Pos} {j : Nat} {m : Str}
theorem fs_raise {cls : String} {x : Str} (hx : x = Str.ofString cls) (hc : X.calm = true) (tk : Takes X W) (c : ClsAt X.K X.mg cls) (hg : Gl X x) (hd : (x == ("__debug__" : Str)) = false := by decide) :
    FS X W (.Raise (some (.Call (.Name x p) [.Constant (.str m) j p2] [] p3)) none pos) (sRaise cls) := by
  subst hx
  obtain ⟨C, c0, c1, c2, c3, c4, c5⟩ := c.ex
  exact PS.imp (ps_raise hc tk (pmk_own PySem.F.excBase_ValueError c5 c1 c2 (raises_own c3 c4) hg hd)) fun D σ H ⟨r, env, st, hE, hS, h⟩ =>
    h (.ref C) none σ H r (Ext.refl _ _) hS hE ⟨⟨C, c0, rfl⟩, rfl⟩

/-! ### isinstance of an exception, of None -/
def rIsX (K : PySem.W.Frag) : List V → Hp → VK → Prop := fun xs H Q => ∃ (a C : Addr) (cv : V) (v : Value) (b : Bool), xs = [.ref a, cv] ∧ H a = some (ExE (.ref C) none a) ∧ ExcC K C ∧ (∀ u, RelV cv u → u = v) ∧ PySem.W.kitOne K (.ref C) v = some b ∧ Q (.bl b) H
theorem call_isX : CallR X (.builtin "isinstance") (rIsX X.K) := by
  intro pins s σ H xs us Q I r h
  obtain ⟨a, D, c, cv, b, rfl, ha, C, hcv, e, q⟩ := h
  cases r with
  | cons rx rr =>
    cases rr with
    | cons rt rr =>
      cases rr
      cases rx
      have ec := hcv _ rt
      subst ec
      obtain ⟨⟨oe, vs, hget, hz, hv⟩, _⟩ := I.hok a _ ha
      have J : PySem.W.InstAt s.heap a oe D none := by
        obtain ⟨oc, od, oda, osl⟩ := oe
        obtain ⟨h1, h2⟩ := hz
        dsimp only at h1 h2 hv
        subst h1 h2 hv
        exact ⟨hget, rfl, rfl, trivial⟩
      exact PySem.W.kia_one (PySem.W.handS_kitx_exc C.hg C.hk C.hs C.hd C.ha C.hn C.ht C.hm) I.kIn J e (fun z => nomatch z) fun tk => ⟨.bl b, H, I.kept (t' := tk) fun _ _ z => z, rfl, q⟩
def eIsx (tab : List (String × Bool)) (ma : EM) : EM := fun env st => (ma env st).bind fun d st1 => match d with
  | .exc cls [] _ => match tabB tab cls with
    | some b => .ok (.bl b) st1
    | none => .bad
  | .non => .ok (.bl false) st1
  | _ => .bad
/-- the second argument: a class by its name -/
structure ClNm (X : Cx) (x : Str) (y : Cl) : Prop where
  pe : ∃ cv v, y.at X.K v ∧ (∀ u, RelV cv u → u = v) ∧ ClsV cv v ∧ ∀ pos, PE X (.Name x pos) (tC cv)
theorem cl_own {y : String} {x : Str} (hx : x = Str.ofString y) (c : NmAt X.K X.mg y) (hg : Gl X x) (hd : (x == ("__debug__" : Str)) = false := by decide) : ClNm X x (.own y) := by
  subst hx
  obtain ⟨C, c0, c1⟩ := c.ex
  exact ⟨.ref C, .ref C, ⟨C, c0, rfl⟩, fun u h => h, .own C, fun pos => pe_glob hg c1 rfl hd⟩
theorem cl_ve (hg : Gl X "ValueError") (hm : X.mg "ValueError" = none) : ClNm X "ValueError" .ve :=
  ⟨.ty "ValueError", .type "ValueError", rfl, fun u h => h, .ty _, fun pos => pe_bltn hg hm (by decide +kernel) rfl (by decide) (by decide)⟩
theorem fe_isx {x : Str} {y : Cl} {tab : List (String × Bool)} (c : ClNm X x y) (ht : ∀ q ∈ tab, IsAt X.K q.1 y q.2) (hn : NonAt X.K y) (hg : Gl X "isinstance") (hm : X.mg "isinstance" = none) (ha : FE X W a ma)
    (he : starEach [a, .Name x p2] X.env = (false, eval a X.env) :: starEach [.Name x p2] X.env := by rfl) (he2 : starEach [.Name x p2] X.env = (false, eval (.Name x p2) X.env) :: starEach [] X.env := by rfl) (hpl : (backTo pos (starEach [.Name x p2] X.env)).any (·.1) = false := by rfl) :
    FE X W (.Call (.Name "isinstance" p) [a, .Name x p2] [] pos) (eIsx tab ma) := by
  obtain ⟨cv, v, c1, c2, c3, c4⟩ := c.pe
  exact PE.imp (pe_callB (CallR.or call_isX call_isi) hg hm boot_isinstance (pa_cons ha (pa_cons (c4 p2) pa_nil he2) he) (by decide) (by decide) he hpl) fun σ H Q ⟨r, env, st, hE, hS, h⟩ =>
    ⟨r, env, st, hE, hS, RES.seq h fun d st1 z H1 r1 e1 s1 v1 h1 => by
      split at h1
      · rename_i cls ds
        cases q : tabB tab cls with
        | none => simp only [q] at h1; exact h1.elim
        | some b =>
          simp only [q] at h1
          obtain ⟨a, vs, rfl, ⟨C, d, k1, k2, k3, k4⟩, _⟩ := v1
          obtain ⟨C', v', f1, f2, f3, f4⟩ := (ht _ (tabB_mem q)).ex
          rw [k2] at f1; cases f1
          have ed : d = none := by
            rcases k4 with k4 | ⟨dd, k5, k6, k7, k8⟩
            · exact k4.2.2
            · exact absurd rfl k8
          subst ed
          cases Cl.at_eq f3 c1
          exact .inl ⟨a, C, cv, _, b, rfl, k3, f2, c2, f4, RES.ok h1 s1 rfl⟩
      · cases v1
        obtain ⟨v', f1, f2⟩ := hn.ex
        cases Cl.at_eq f1 c1
        exact .inr ⟨.non, cv, .type "NoneType", _, false, rfl, c3, .base .non, f2, RES.ok h1 s1 rfl⟩
      · exact h1.elim⟩
end
end FL

namespace FL
open PySem PySem.Spec PyProof.Rows L2

/-! ### try: .. except y as n: .. -/
def sTry (m : SM4) (i : Nat) (tab : List (String × Bool)) (u : SM4) : SM4 := fun env st => match m env st with
  | .ex x env1 st1 => match tabB tab x.cls with
    | some true => match u (env1.set i (some (.exc x.cls (x.fs.map (·.1)) (x.fs.map (·.2))))) st1 with
      | .nx env2 st2 => .nx (env2.set i none) st2
      | .rt d st2 => .rt d st2
      | _ => .bad
    | some false => .ex x env1 st1
    | none => .bad
  | r => r
theorem ER.unset {K H r env σ} (x : ER K H r env σ) (i : Nat) : ER K H r (env.set i none) (σ.set i none) := by
  refine ⟨by simp [x.len], fun j e q => ?_⟩
  by_cases hj : j = i
  · subst hj
    by_cases hl : j < env.length
    · rw [List.getElem?_set_self hl] at q; cases q
    · rw [List.getElem?_eq_none (by simpa using hl)] at q; cases q
  · rw [List.getElem?_set_ne (Ne.symm hj)] at q
    obtain ⟨w, h1, h2⟩ := x.get j e q
    exact ⟨w, by rw [List.getElem?_set_ne (Ne.symm hj)]; exact h1, h2⟩
theorem fs_zip {K H r} : ∀ {fs : List (Str × D)} {vs : List (Str × V)}, Paired (fun (p : Str × D) (q : Str × V) => p.1 = q.1 ∧ VD K H r p.2 q.2) fs vs → (fs.map (·.1)).zip (vs.map (·.2)) = vs ∧ VDs K H r (fs.map (·.2)) (vs.map (·.2))
  | _, _, .nil => ⟨rfl, rfl⟩
  | _, _, .cons (a := a) (b := b) h t => by
    obtain ⟨h1, h2⟩ := fs_zip t
    refine ⟨?_, _, _, rfl, h.2, h2⟩
    rw [List.map_cons, List.map_cons, List.zip_cons_cons, h1, h.1]
/-- the class y, as the clause names it -/
structure ClVal (X : Cx) (x : Str) (y : Cl) : Prop where
  ex : ∃ v, y.at X.K v ∧ Names X x v
section
variable {X : Cx} {W : WX} {x n : Str} {i : Nat} {body suite : List Stmt} {b₀ : Stmt} {np pos pos' : Pos} {m u : SM4} {y : Cl} {tab : List (String × Bool)}
theorem cv_own {y : String} (hx : x = Str.ofString y) (c : NmAt X.K X.mg y) (hg : Gl X x) (hd : (x == ("__debug__" : Str)) = false := by decide) : ClVal X x (.own y) := by
  subst hx
  obtain ⟨C, c0, c1⟩ := c.ex
  exact ⟨.ref C, ⟨C, c0, rfl⟩, hg, hd, .inl c1⟩
theorem fs_try (hs : X.stack = X.env :: X.outer) (hf : X.env.frame = some X.env.locals) (hN : X.N.Nodup) (hi : X.N[i]? = some n) (hln : X.env.kindOf n = some .local) (c : ClVal X x y) (ht : ∀ q ∈ tab, ExmAt X.K q.1 y q.2) (tk : Takes X W)
    (hb : ∀ (W : WX) (pn : List (Addr × Obj)) (xe : Value → Shared → Prop), Takes (X.tr pn xe) W → PassesOwn (model X.prog X.w) X.A X.env xe → FB (X.tr pn xe) W body m)
    (hsu : ∀ (a : Addr) (pn : List (Addr × Obj)), FB (X.suite a pn) E0W (b₀ :: suite) u) :
    FS X W (.Try body [.ExceptHandler (some (.Name x np)) (some n) (b₀ :: suite) pos'] [] [] pos) (sTry m i tab u) := by
  obtain ⟨v, c1, c2⟩ := c.ex
  refine PS.imp (ps_try_ext (tb := fun W => tS X.K X.mg W m) (ts := tS X.K X.mg E0W u) (Wout := W) hs hf hN hi hln c2 tk hb hsu) fun D σ H ⟨r, env, st, hE, hS, h⟩ => ⟨r, env, st, hE, hS, ?_⟩
  unfold sTry at h
  cases q : m env st with
  | nx env1 st1 => rw [q] at h; exact h
  | rt d st1 => rw [q] at h; exact h
  | bad => rw [q] at h; exact h
  | ex z env1 st1 =>
    rw [q] at h
    simp only at h
    intro cls d σ' H' r' e s hE1 hx
    obtain ⟨⟨C, k1, rfl⟩, k2⟩ := hx
    cases qt : tabB tab z.cls with
    | none => simp only [qt] at h; exact h.elim
    | some b =>
      obtain ⟨C', v', f1, f2, f3⟩ := (ht _ (tabB_mem qt)).ex
      rw [k1] at f1; cases f1
      cases Cl.at_eq f2 c1
      refine ⟨b, f3, fun hbt a ha => ?_, fun hbf => ?_⟩
      · subst hbt
        simp only [qt] at h
        have ef : Ext H' r' (upd H' a (ExE (.ref C) d a)) r' := Ext.fresh ha
        have hv : VD X.K (upd H' a (ExE (.ref C) d a)) r' (.exc z.cls (z.fs.map (·.1)) (z.fs.map (·.2))) (.ref a) := by
          cases qf : z.fs with
          | nil =>
            rw [qf] at k2
            exact ⟨a, [], rfl, ⟨C, d, s.notin ha, k1, upd_same, .inl ⟨rfl, rfl, k2⟩⟩, rfl⟩
          | cons p0 ps0 =>
            rw [qf] at k2
            obtain ⟨dd, vs, y1, y2, y3, y4⟩ := k2
            obtain ⟨z1, z2⟩ := fs_zip y4
            refine ⟨a, vs.map (·.2), rfl, ⟨C, d, s.notin ha, k1, upd_same, .inr ⟨dd, y1, y2, ?_, by simp⟩⟩, VDs.ext ef _ _ z2⟩
            rw [z1, upd_ne (ne_of_none y3 ha)]
            exact y3
        refine ⟨r', env1.set i (some (.exc z.cls (z.fs.map (·.1)) (z.fs.map (·.2)))), st1, (hE1.ext ef).set i hv, s.fresh ha, ?_⟩
        have h2 := RS.mono h (e.trans s ef) (s.fresh ha)
        revert h2
        cases u (env1.set i (some (.exc z.cls (z.fs.map (·.1)) (z.fs.map (·.2))))) st1 with
        | nx env2 st2 => exact fun h2 σ2 H2 r2 e2 s2 hE2 => h2 (σ2.set i none) H2 r2 e2 s2 (hE2.unset i)
        | rt d2 st2 => exact fun h2 => h2
        | ex _ _ _ => exact fun h2 => h2.elim
        | bad => exact fun h2 => h2
      · subst hbf
        simp only [qt] at h
        exact h (.ref C) d σ' H' r' e s hE1 ⟨⟨C, k1, rfl⟩, k2⟩
/-- in a suite nothing is let out -/
theorem hx0S {X : Cx} : ∀ σ, PassesAt (L2.CX X.prog X.w) X σ (WE E0W σ) := hx0

/-! ### is True, is False -/
def isBD (d e : D) (st : Sto) : Res D := match d, e with
  | .bl a, .bl b => .ok (.bl (decide (a = b))) st
  | _, _ => .bad
theorem opf_isB : OpF X (compareOp .Is) isBD := ⟨_, op_is_bl, fun E H r st d e x y Q s v1 v2 h => by
  cases d with
  | bl a =>
    cases e with
    | bl b => cases v1; cases v2; exact ⟨a, b, rfl, rfl, RES.ok h s rfl⟩
    | _ => exact h.elim
  | _ => exact h.elim⟩
end
end FL

namespace FL
open PySem PySem.Spec PyProof.Rows L2

/-! ### range(i, j, c), c above 0 -/
theorem rngN {i j c : Int} (hc : 0 < c) : Builtin.Range.rangeSize i j c = if i < j then (j - i - 1) / c + 1 else 0 := by
  unfold Builtin.Range.rangeSize
  rw [if_pos (show c > 0 from hc)]
theorem small_pos {i j c : Int} (h1 : smallI i) (h2 : smallI j) (hc : 0 < c) (hc2 : c ≤ 1000) : Builtin.Range.small i j c = true := by
  obtain ⟨a1, a2⟩ := h1
  obtain ⟨b1, b2⟩ := h2
  have key : (j - i - 1) / c ≤ 2000000000 ∧ (i < j → 0 ≤ (j - i - 1) / c) ∧ (i < j → (j - i - 1) / c * c ≤ j - i - 1) := by
    refine ⟨?_, fun h => Int.ediv_nonneg (by omega) (by omega), fun h => Int.ediv_mul_le _ (by omega)⟩
    have := Int.ediv_le_ediv hc (show j - i - 1 ≤ 2000000000 by omega)
    exact Int.le_trans this (Int.ediv_le_self _ (by decide))
  obtain ⟨k1, k2, k3⟩ := key
  have e1 : (decide (-2 ^ 63 ≤ j + (c - 1)) && decide (j + (c - 1) < 2 ^ 63)) = true := by
    rw [decide_eq_true (by omega), decide_eq_true (by omega)]; rfl
  unfold Builtin.Range.small
  rw [rngN hc, if_pos (show c > 0 from hc)]
  simp only [Builtin.Range.rangeFitsLong, e1, Bool.or_true, Bool.and_true]
  simp only [Bool.and_eq_true, decide_eq_true_eq]
  split
  · rename_i hij
    have := k2 hij
    generalize (j - i - 1) / c = z at *
    omega
  · omega
def rng3 (i j c : Int) : List D := (List.range (if i < j then (j - i - 1) / c + 1 else 0).toNat).map fun k => .int (i + (k : Nat) * c)
def iRange3 (ms : Env → Sto → Res (List D)) : IM := fun env st => (ms env st).bind fun ds st1 => match ds with
  | [.int i, .int j, .int c] => if smallI i ∧ smallI j ∧ 0 < c ∧ c ≤ 1000 then .ok (rng3 i j c, []) st1 else .bad
  | _ => .bad
theorem fi_range3 {X : Cx} {W : WX} {tg a b c : Expr} {ms : Env → Sto → Res (List D)} {p pos : Pos} (hg : Gl X "range") (hm : X.mg "range" = none) (ha : FA X W [a, b, c] ms)
    (hs : starEach [a, b, c] X.env = (false, eval a X.env) :: starEach [b, c] X.env := by rfl) (hpl : (backTo pos (starEach [b, c] X.env)).any (·.1) = false := by rfl) :
    FI X W tg (.Call (.Name "range" p) [a, b, c] [] pos) (iRange3 ms) :=
  PI.imp (pi_range3 hg hm ha hs hpl) fun σ H Q ⟨r, env, st, hE, hS, h⟩ => ⟨r, env, st, hE, hS, RES.seq h fun ds st1 xs H1 r1 e1 s1 v1 h1 => by
    split at h1
    · rename_i i j c
      by_cases hk : smallI i ∧ smallI j ∧ 0 < c ∧ c ≤ 1000
      · rw [if_pos hk] at h1
        obtain ⟨k1, k2, k3, k4⟩ := hk
        obtain ⟨x, t, rfl, w1, y, u, rfl, w2, z, u2, rfl, w3, w4⟩ := v1
        cases w1; cases w2; cases w3; cases w4
        have hn : (0 : Int) ≤ (if i < j then (j - i - 1) / c + 1 else 0) := by
          split
          · have := Int.ediv_nonneg (a := j - i - 1) (b := c) (by omega) (by omega)
            omega
          · omega
        refine ⟨i, j, c, _, rfl, ⟨by omega, by omega, small_pos k1 k2 k3 k4, (rngN k3).trans (Int.toNat_of_nonneg hn).symm⟩, RES.ok h1 s1 ⟨fun H2 r2 st2 m e s2 hst => ?_⟩⟩
        have hlen : (rng3 i j c).length = (if i < j then (j - i - 1) / c + 1 else 0).toNat := by unfold rng3; simp
        rw [hlen]
        refine ⟨fun hi => hi, fun hi => hi, fun d hd x H3 hy => ?_⟩
        obtain ⟨rfl, rfl⟩ := hy
        have hm2 := (List.getElem?_eq_some_iff.mp hd).1
        rw [hlen] at hm2
        unfold rng3 at hd
        rw [List.getElem?_map, List.getElem?_range hm2] at hd
        cases hd
        exact ⟨Ext.refl _ _, s2, rfl⟩
      · rw [if_neg hk] at h1; exact h1.elim
    · exact h1.elim⟩
theorem iRange3_i {ms : Env → Sto → Res (List D)} {env : Env} {st st1 : Sto} {i j c : Int} (h : ms env st = .ok [.int i, .int j, .int c] st1) (h1 : smallI i) (h2 : smallI j) (h3 : 0 < c) (h4 : c ≤ 1000) :
    iRange3 ms env st = .ok (rng3 i j c, []) st1 := by
  show (ms env st).bind _ = _
  rw [h, Res.bind_ok]
  exact if_pos ⟨h1, h2, h3, h4⟩
/-! ### big numbers -/
/-- turns enough for numbers below 2 ^ 2000 -/
def fuelB : Nat := 10 ^ 700
theorem fuelB_lt {n : Nat} (h : n < 2 ^ 2000) : n < fuelB := Nat.lt_of_lt_of_le h (by decide +kernel)
theorem log_lt {i : Int} {k : Nat} (h : i.natAbs < 2 ^ k) (hk : 0 < k) : i.natAbs.log2 < k := by
  by_cases h0 : i.natAbs = 0
  · rw [h0]; exact hk
  · exact (Nat.log2_lt h0).mpr h
theorem mulD_b {i j : Int} {st : Sto} (h : i.natAbs < 2 ^ 2000) (h' : j.natAbs < 2 ^ 2000) : mulD (.int i) (.int j) st = .ok (.int (i * j)) st :=
  mulD_i (by have := log_lt h (by decide); have := log_lt h' (by decide); omega)
theorem fdivD_n {i j : Int} {st : Sto} (h : j ≠ 0) (h2 : j.natAbs < 2 ^ 2000) : fdivD (.int i) (.int j) st = .ok (.int (i.fdiv j)) st := by
  show (if j = 0 then Res.bad else if j.natAbs.log2 < 9000 then Res.ok (D.int (i.fdiv j)) st else .bad) = _
  rw [if_neg h, if_pos (by have := log_lt h2 (by decide); omega)]
theorem mul_lt {i j : Int} {a b : Nat} (h : i.natAbs < 2 ^ a) (h' : j.natAbs < 2 ^ b) : (i * j).natAbs < 2 ^ (a + b) := by
  rw [Int.natAbs_mul, Nat.pow_add]
  exact Nat.mul_lt_mul'' h h'
theorem add_lt {i j : Int} {a : Nat} (h : i.natAbs < 2 ^ a) (h' : j.natAbs < 2 ^ a) : (i + j).natAbs < 2 ^ (a + 1) := by
  have := Int.natAbs_add_le i j
  rw [Nat.pow_succ]; omega
theorem sub_lt {i j : Int} {a : Nat} (h : i.natAbs < 2 ^ a) (h' : j.natAbs < 2 ^ a) : (i - j).natAbs < 2 ^ (a + 1) := by
  have := Int.natAbs_sub_le i j
  rw [Nat.pow_succ]; omega
theorem lt_mono {i : Int} {a b : Nat} (h : i.natAbs < 2 ^ a) (hab : a ≤ b) : i.natAbs < 2 ^ b := Nat.lt_of_lt_of_le h (Nat.pow_le_pow_right (by decide) hab)
theorem eqD_bl {a b : Bool} {st : Sto} : eqD (.bl a) (.bl b) st = .ok (.bl (a == b)) st := by
  cases a <;> cases b <;> rfl
theorem absB_i {i : Int} {st : Sto} : absB [.int i] st = .ok (.int (i.natAbs : Nat)) st := by
  show Res.ok (D.int (if i < 0 then -i else i)) st = _
  congr 2
  split <;> omega
/-- Euclid's turns: the greatest common divisor -/
theorem gcd_step {a b : Nat} (h : 0 < b) : Nat.gcd b (a % b) = Nat.gcd a b := by
  rw [Nat.gcd_comm a b, Nat.gcd_rec b a, Nat.gcd_comm]
end FL

namespace FL
open PySem PySem.Spec PyProof.Rows L2
/-! ### sizes, for simp's own discharge: `simp (maxDischargeDepth := 30) only [..]` -/
def Sz (k : Nat) (i : Int) : Prop := i.natAbs < 2 ^ k
theorem sz_of {i : Int} {k j : Nat} (h : i.natAbs < 2 ^ k) (hj : k ≤ j) : Sz j i := lt_mono h hj
theorem sz_mul {k : Nat} {a b : Int} (h1 : Sz (k / 2) a) (h2 : Sz (k / 2) b) : Sz k (a * b) := lt_mono (mul_lt h1 h2) (by omega)
theorem sz_add {k : Nat} {a b : Int} (h0 : 0 < k) (h1 : Sz (k - 1) a) (h2 : Sz (k - 1) b) : Sz k (a + b) := lt_mono (add_lt h1 h2) (by omega)
theorem sz_sub {k : Nat} {a b : Int} (h0 : 0 < k) (h1 : Sz (k - 1) a) (h2 : Sz (k - 1) b) : Sz k (a - b) := lt_mono (sub_lt h1 h2) (by omega)
theorem sz_neg {k : Nat} {a : Int} (h1 : Sz k a) : Sz k (-a) := by unfold Sz; rw [Int.natAbs_neg]; exact h1
theorem sz_mod {k : Nat} {a b : Int} (h0 : 0 < b) (h1 : Sz k b) : Sz k (a % b) := by
  have := Int.emod_nonneg a (show b ≠ 0 by omega)
  have := Int.emod_lt_of_pos a h0
  unfold Sz at *; omega
theorem sz_div {k : Nat} {a b : Int} (h0 : 0 < b) (h1 : Sz k a) : Sz k (a / b) := by
  have h : (a / b).natAbs ≤ a.natAbs := by
    by_cases ha : 0 ≤ a
    · have := Int.ediv_nonneg ha (Int.le_of_lt h0)
      have := Int.ediv_le_self b ha
      omega
    · have h2 : a / b < 0 := Int.ediv_neg_of_neg_of_pos (by omega) h0
      have h3 : a ≤ a / b := by
        have h5 := Int.le_ediv_iff_mul_le (a := a) (b := a) h0
        rw [h5]
        have h6 : (-a) * 1 ≤ (-a) * b := Int.mul_le_mul_of_nonneg_left (by omega) (by omega)
        rw [Int.neg_mul, Int.neg_mul] at h6
        omega
      omega
  exact Nat.lt_of_le_of_lt h h1
theorem mulD_z {a b : Int} {st : Sto} (h1 : Sz 2000 a) (h2 : Sz 2000 b) : mulD (.int a) (.int b) st = .ok (.int (a * b)) st := mulD_b h1 h2
theorem fdivD_z {a b : Int} {st : Sto} (h0 : 0 < b) (h1 : Sz 2000 b) : fdivD (.int a) (.int b) st = .ok (.int (a / b)) st := by
  rw [fdivD_n (by omega) h1, Int.fdiv_eq_ediv_of_nonneg _ (by omega)]
theorem sz_lit {k : Nat} {n : Nat} (h : n < 2 ^ k) : Sz k (OfNat.ofNat n) := by
  show (n : Int).natAbs < 2 ^ k
  simpa using h
theorem sz_0 {k : Nat} : Sz k 0 := Nat.two_pow_pos k
theorem sz_1 {k : Nat} (h : 0 < k) : Sz k 1 := Nat.one_lt_two_pow (by omega)
theorem ixt0 {a : D} {ds : List D} {st : Sto} : ixD (.tup (a :: ds)) (.int 0) st = .ok a st := by rw [ixD_tup (d := a) (by decide) rfl]
theorem ixt1 {a b : D} {ds : List D} {st : Sto} : ixD (.tup (a :: b :: ds)) (.int 1) st = .ok b st := by rw [ixD_tup (d := b) (by decide) rfl]
theorem ixt2 {a b c : D} {ds : List D} {st : Sto} : ixD (.tup (a :: b :: c :: ds)) (.int 2) st = .ok c st := by rw [ixD_tup (d := c) (by decide) rfl]
theorem ixt3 {a b c d : D} {ds : List D} {st : Sto} : ixD (.tup (a :: b :: c :: d :: ds)) (.int 3) st = .ok d st := by rw [ixD_tup (d := d) (by decide) rfl]
theorem ixt4 {a b c d e : D} {ds : List D} {st : Sto} : ixD (.tup (a :: b :: c :: d :: e :: ds)) (.int 4) st = .ok e st := by rw [ixD_tup (d := e) (by decide) rfl]
theorem negD_i {i : Int} {st : Sto} : negD (.int i) st = .ok (.int (-i)) st := rfl
example {x y : Int} (hx : ∀ k, 100 ≤ k → Sz k x) (hy : ∀ k, 13 ≤ k → Sz k y) (y0 : 0 < y) (st : Sto) : mulD (.int (x * x + 10 % y)) (.int (x / y)) st = .ok (.int ((x * x + 10 % y) * (x / y))) st := by
  simp (maxDischargeDepth := 30) only [mulD_z, sz_mul, sz_add, sz_div, sz_mod, hx, hy, y0, Nat.reduceLeDiff, Nat.reduceDiv, Nat.reduceSub, Nat.reduceLT]
end FL

namespace FL
open PySem PySem.Spec PyProof.Rows L2
theorem cut_to {α : Type} {xs : List α} {i : Int} (h : 0 ≤ i) : cutL xs none (some i) = xs.take i.toNat := by
  unfold cutL HT.sIx
  simp only [List.drop_zero, Nat.sub_zero]
  rw [if_neg (by omega), List.take_eq_take_iff]
  omega
theorem cut_from {α : Type} {xs : List α} {i : Int} (h : 0 ≤ i) : cutL xs (some i) none = xs.drop i.toNat := by
  unfold cutL HT.sIx
  simp only []
  rw [if_neg (by omega)]
  by_cases hl : i.toNat ≤ xs.length
  · rw [Nat.min_eq_left hl, List.take_of_length_le (by rw [List.length_drop]; omega)]
  · rw [Nat.min_eq_right (by omega), List.drop_length, List.take_nil, List.drop_eq_nil_of_le (by omega)]
theorem cut_last {α : Type} {xs : List α} : cutL xs none (some (-1)) = xs.dropLast := by
  unfold cutL HT.sIx
  simp only [List.drop_zero, Nat.sub_zero]
  rw [if_pos (by decide), List.dropLast_eq_take]
  congr 1
  omega
theorem slD_lst {ds : List D} {lo hi : Option Int} {st : Sto} : slD (.lst ds) lo hi st = .ok (.lst (cutL ds lo hi)) st := rfl
theorem addD_lst {a b : List D} {st : Sto} (h : a.length + b.length ≤ 1000000) : addD (.lst a) (.lst b) st = .ok (.lst (a ++ b)) st := by
  show (if _ then _ else _) = _
  exact if_pos h
theorem ixD_m1 {ds : List D} {d : D} {st : Sto} : ixD (.lst (ds ++ [d])) (.int (-1)) st = .ok d st := by
  show (match atI (ds ++ [d]) (-1) with | some x => Res.ok x st | none => .bad) = _
  have e : atI (ds ++ [d]) (-1) = some d := by
    unfold atI ixN
    rw [if_neg (by decide), if_pos (by rw [List.length_append, List.length_singleton]; omega)]
    simp only [Option.bind_some]
    rw [List.getElem?_append_right (by rw [List.length_append, List.length_singleton]; omega)]
    rw [show ((-1 : Int) + ((ds ++ [d]).length : Nat)).toNat - ds.length = 0 by rw [List.length_append, List.length_singleton]; omega]
    rfl
  rw [e]
theorem tupB_lst {ds : List D} {st : Sto} : tupB [.lst ds] st = .ok (.tup ds) st := rfl
theorem tupB_loc {ds : List D} {st : Sto} {l : Nat} (h : st[l]? = some (.lst ds)) : tupB [.loc l] st = .ok (.tup ds) st := by
  show (match lstD (.loc l) st with
      | some ds => Res.ok (D.tup ds) st
      | none => .bad) = _
  rw [lstD_loc h]
theorem lstB_tup {ds : List D} {st : Sto} : lstB [.tup ds] st = .ok ds st := rfl
theorem extD_loc {st : Sto} {l : Nat} {ds es : List D} (h : st[l]? = some (.lst ds)) (hl : ds.length + es.length < 1000000) : extD (.loc l) [.lst es] st = .ok .non (st.set l (.lst (ds ++ es))) := by
  show (match st[l]?, madeD (.lst es) st with
    | some (.lst ds), some es => if ds.length + es.length < 1000000 then Res.ok D.non (st.set l (.lst (ds ++ es))) else .bad
    | _, _ => .bad) = _
  rw [h]
  exact if_pos hl
theorem iSeq_tup {m : EM} {env : Env} {st st1 : Sto} {ds : List D} (h : m env st = .ok (.tup ds) st1) : iSeq m env st = .ok (ds, []) st1 := by
  rw [iSeq_ap, h]; rfl
theorem iSeq_lst {m : EM} {env : Env} {st st1 : Sto} {ds : List D} (h : m env st = .ok (.lst ds) st1) : iSeq m env st = .ok (ds, []) st1 := by
  rw [iSeq_ap, h]; rfl
/-- no store place in it, at most k deep -/
def D.flt : Nat → D → Bool
  | _, .loc _ => false
  | k + 1, .tup ds => ds.all (D.flt k)
  | k + 1, .lst ds => ds.all (D.flt k)
  | k + 1, .exc _ _ ds => ds.all (D.flt k)
  | 0, .tup _ => false
  | 0, .lst _ => false
  | 0, .exc _ _ _ => false
  | _, _ => true
theorem mapQ_id {f : D → Option D} : ∀ {ds : List D}, (∀ d ∈ ds, f d = some d) → mapQ f ds = some ds
  | [], _ => rfl
  | d :: ds, h => by
    unfold mapQ
    rw [h d List.mem_cons_self]
    simp only
    rw [mapQ_id fun e he => h e (List.mem_cons_of_mem _ he)]
theorem frz_flt {st : Sto} {n : Nat} : ∀ {k m : Nat} {d : D}, D.flt k d = true → k ≤ m → D.frz st n m d = some d
  | 0, m, d, h, hm => by
    cases d <;> first | (cases m <;> rfl) | (simp [D.flt] at h)
  | k + 1, 0, d, h, hm => by omega
  | k + 1, m + 1, d, h, hm => by
    cases d with
    | tup ds =>
      unfold D.frz
      rw [mapQ_id fun e he => frz_flt (k := k) (List.all_eq_true.mp (by simpa [D.flt] using h) e he) (by omega)]
    | lst ds =>
      unfold D.frz
      rw [mapQ_id fun e he => frz_flt (k := k) (List.all_eq_true.mp (by simpa [D.flt] using h) e he) (by omega)]
    | exc c ns ds =>
      unfold D.frz
      rw [mapQ_id fun e he => frz_flt (k := k) (List.all_eq_true.mp (by simpa [D.flt] using h) e he) (by omega)]
    | loc l => simp [D.flt] at h
    | _ => rfl
/-- what a new list's def gives back: frozen -/
theorem fin_list {st g : Sto} {ds : List D} {k : Nat} (hg : (st ++ g)[st.length]? = some (.lst ds)) (h : ds.all (D.flt k) = true) (hk : k ≤ 29) : fin true st (.rt (.loc st.length) (st ++ g)) = .ok (.lst ds) st := by
  refine fin_frozen (by simp [D.blw]) ?_
  unfold D.frz
  rw [if_neg (by omega), hg]
  simp only
  rw [mapQ_id fun e he => frz_flt (k := k) (List.all_eq_true.mp h e he) hk]
theorem flt_map {α : Type} {f : α → D} {k : Nat} (h : ∀ a, D.flt k (f a) = true) (l : List α) : (l.map f).all (D.flt k) = true := by
  rw [List.all_map, List.all_eq_true]
  exact fun a _ => h a
end FL

namespace K50
open PySem PySem.Spec PyProof.Rows L2 FL

def topS (i : Nat) : Stmt := PySem.Challenge.pw_currentfloor_k50_brought.main.body.getD i (.Pass ⟨0, 0, 0, 0⟩)
/-! l_two -/
abbrev s_l_two : Stmt := topS 14
theorem sc_l_two : FnScope ["_law_low", "_law_high", "_law_cell", "_law_first"] ["_law_low", "_law_high", "_law_cell"] (defScope s_l_two) := ⟨rfl, rfl, rfl, by decide +kernel, rfl, by decide +kernel, by decide +kernel⟩
def b_l_two : SM4 := sSeq (sSet 3 (eOp addD (eOp addD (eV 0) (eC (.int 1))) (eOp modD (eV 2) (eOp subD (eOp subD (eV 1) (eV 0)) (eC (.int 2)))))) (sRet (eTup (aCons (eV 3) (aCons (eOp addD (eOp addD (eV 3) (eC (.int 1))) (eOp modD (eOp fdivD (eV 2) (eC (.int 7))) (eOp subD (eOp subD (eV 1) (eV 3)) (eC (.int 1))))) (aNil)))))
def m_l_two : Fn := mFn true 4 b_l_two
/-! l_wheel -/
abbrev s_l_wheel : Stmt := topS 13
theorem sc_l_wheel : FnScope ["_law_box", "_law_x", "_law_y", "_law_way", "_law_left", "_law_low", "_law_right", "_law_high", "_law_outer"] ["_law_box", "_law_x", "_law_y", "_law_way"] (defScope s_l_wheel) := ⟨rfl, rfl, rfl, by decide +kernel, rfl, by decide +kernel, by decide +kernel⟩
def b_l_wheel : SM4 := sSeq (sAsg (eV 0) (gTupM 4 (gsCons (gSet 4) (gsCons (gSet 5) (gsCons (gSet 6) (gsCons (gSet 7) (gsNil))))))) (sSeq (sIf (asB (eOp eqD (eV 3) (eC (.int 0)))) (sSet 8 (eFrz (nLst (aCons (eTup (aCons (eV 4) (aCons (eV 5) (aCons (eOp ixD (eV 1) (eC (.int 1))) (aCons (eOp ixD (eV 2) (eC (.int 0))) (aNil)))))) (aCons (eTup (aCons (eOp ixD (eV 1) (eC (.int 1))) (aCons (eV 5) (aCons (eV 6) (aCons (eOp ixD (eV 2) (eC (.int 1))) (aNil)))))) (aCons (eTup (aCons (eOp ixD (eV 1) (eC (.int 0))) (aCons (eOp ixD (eV 2) (eC (.int 1))) (aCons (eV 6) (aCons (eV 7) (aNil)))))) (aCons (eTup (aCons (eV 4) (aCons (eOp ixD (eV 2) (eC (.int 0))) (aCons (eOp ixD (eV 1) (eC (.int 0))) (aCons (eV 7) (aNil)))))) (aNil)))))))) (sSet 8 (eFrz (nLst (aCons (eTup (aCons (eOp ixD (eV 1) (eC (.int 0))) (aCons (eV 5) (aCons (eV 6) (aCons (eOp ixD (eV 2) (eC (.int 0))) (aNil)))))) (aCons (eTup (aCons (eOp ixD (eV 1) (eC (.int 1))) (aCons (eOp ixD (eV 2) (eC (.int 0))) (aCons (eV 6) (aCons (eV 7) (aNil)))))) (aCons (eTup (aCons (eV 4) (aCons (eOp ixD (eV 2) (eC (.int 1))) (aCons (eOp ixD (eV 1) (eC (.int 1))) (aCons (eV 7) (aNil)))))) (aCons (eTup (aCons (eV 4) (aCons (eV 5) (aCons (eOp ixD (eV 1) (eC (.int 0))) (aCons (eOp ixD (eV 2) (eC (.int 1))) (aNil)))))) (aNil))))))))) (sRet (eOp addD (eV 8) (eFrz (nLst (aCons (eTup (aCons (eOp ixD (eV 1) (eC (.int 0))) (aCons (eOp ixD (eV 2) (eC (.int 0))) (aCons (eOp ixD (eV 1) (eC (.int 1))) (aCons (eOp ixD (eV 2) (eC (.int 1))) (aNil)))))) (aNil)))))))
def m_l_wheel : Fn := mFn true 9 b_l_wheel
/-! l_broken -/
abbrev s_l_broken : Stmt := topS 15
theorem sc_l_broken : FnScope ["_law_box", "_law_cell", "_law_left", "_law_low", "_law_right", "_law_high", "_law_how", "_law_x", "_law_y"] ["_law_box", "_law_cell"] (defScope s_l_broken) := ⟨rfl, rfl, rfl, by decide +kernel, rfl, by decide +kernel, by decide +kernel⟩
def b_l_broken : SM4 := sSeq (sAsg (eV 0) (gTupM 4 (gsCons (gSet 2) (gsCons (gSet 3) (gsCons (gSet 4) (gsCons (gSet 5) (gsNil))))))) (sSeq (sSet 6 (eOp modD (eV 1) (eC (.int 5)))) (sSeq (sSet 1 (eOp fdivD (eV 1) (eC (.int 5)))) (sSeq (sIf (tAndM (asB (eOp eqD (eV 6) (eC (.int 4)))) (tAndM (asB (eOp gtD (eOp subD (eV 4) (eV 2)) (eC (.int 2)))) (asB (eOp gtD (eOp subD (eV 5) (eV 3)) (eC (.int 2)))))) (sSeq (sSet 7 (eCall 3 m_l_two (aCons (eV 2) (aCons (eV 4) (aCons (eOp fdivD (eV 1) (eC (.int 2))) (aNil)))))) (sSeq (sSet 8 (eCall 3 m_l_two (aCons (eV 3) (aCons (eV 5) (aCons (eOp fdivD (eV 1) (eC (.int 3))) (aNil)))))) (sRet (eCall 4 m_l_wheel (aCons (eV 0) (aCons (eV 7) (aCons (eV 8) (aCons (eOp modD (eV 1) (eC (.int 2))) (aNil))))))))) (sNext)) (sSeq (sIf (tAndM (asB (eOp eqD (eOp modD (eV 6) (eC (.int 2))) (eC (.int 0)))) (asB (eOp gtD (eOp subD (eV 4) (eV 2)) (eC (.int 1))))) (sSeq (sSet 7 (eOp addD (eOp addD (eV 2) (eC (.int 1))) (eOp modD (eV 1) (eOp subD (eOp subD (eV 4) (eV 2)) (eC (.int 1)))))) (sRet (eFrz (nLst (aCons (eTup (aCons (eV 2) (aCons (eV 3) (aCons (eV 7) (aCons (eV 5) (aNil)))))) (aCons (eTup (aCons (eV 7) (aCons (eV 3) (aCons (eV 4) (aCons (eV 5) (aNil)))))) (aNil))))))) (sNext)) (sSeq (sIf (asB (eOp gtD (eOp subD (eV 5) (eV 3)) (eC (.int 1)))) (sSeq (sSet 8 (eOp addD (eOp addD (eV 3) (eC (.int 1))) (eOp modD (eV 1) (eOp subD (eOp subD (eV 5) (eV 3)) (eC (.int 1)))))) (sRet (eFrz (nLst (aCons (eTup (aCons (eV 2) (aCons (eV 3) (aCons (eV 4) (aCons (eV 8) (aNil)))))) (aCons (eTup (aCons (eV 2) (aCons (eV 8) (aCons (eV 4) (aCons (eV 5) (aNil)))))) (aNil))))))) (sNext)) (sRet (eFrz (nLst (aCons (eV 0) (aNil))))))))))
def m_l_broken : Fn := mFn true 9 b_l_broken
/-! l_cell_at -/
abbrev s_l_cell_at : Stmt := topS 11
theorem sc_l_cell_at : FnScope ["_law_script", "_law_k", "_law_cell"] ["_law_script", "_law_k"] (defScope s_l_cell_at) := ⟨rfl, rfl, rfl, by decide +kernel, rfl, by decide +kernel, by decide +kernel⟩
def b_l_cell_at : SM4 := sSeq (sSet 2 (eC (.int 0))) (sSeq (sIf (asB (eOp ltD (eV 1) (eB lenB (aCons (eV 0) (aNil))))) (sSet 2 (eOp modD (eOp ixD (eV 0) (eV 1)) (eOp powD (eC (.int 10)) (eC (.int 18))))) (sNext)) (sRet (eOp modD (eOp mulD (eOp modD (eOp addD (eOp mulD (eV 2) (eC (.int 48271))) (eOp mulD (eC (.int 16807)) (eV 1))) (eC (.int 2147483647))) (eC (.int 69621))) (eC (.int 2147483629)))))
def m_l_cell_at : Fn := mFn true 3 b_l_cell_at
/-! l_built -/
abbrev s_l_built : Stmt := topS 16
theorem sc_l_built : FnScope ["_law_script", "_law_first", "_law_last", "_law_wide", "_law_high", "_law_most", "_law_boxes", "_law_k", "_law_cell", "_law_at", "_law_parts"] ["_law_script", "_law_first", "_law_last", "_law_wide", "_law_high", "_law_most"] (defScope s_l_built) := ⟨rfl, rfl, rfl, by decide +kernel, rfl, by decide +kernel, by decide +kernel⟩
def b_l_built : SM4 := sSeq (sSet 6 (eFrz (nLst (aCons (eTup (aCons (eC (.int 0)) (aCons (eC (.int 0)) (aCons (eV 3) (aCons (eV 4) (aNil)))))) (aNil))))) (sSeq (sFor (some [7, 8, 9, 10]) (iRange2 (aCons (eV 1) (aCons (eB minB (aCons (eB lenB (aCons (eV 0) (aNil))) (aCons (eV 2) (aNil)))) (aNil)))) (gSet 7) (sSeq (sSet 8 (eCall 2 m_l_cell_at (aCons (eV 0) (aCons (eV 7) (aNil))))) (sSeq (sSet 9 (eOp modD (eV 8) (eB lenB (aCons (eV 6) (aNil))))) (sSeq (sSet 10 (eCall 2 m_l_broken (aCons (eOp ixD (eV 6) (eV 9)) (aCons (eOp fdivD (eV 8) (eC (.int 14))) (aNil))))) (sIf (asB (eOp leD (eOp addD (eB lenB (aCons (eV 6) (aNil))) (eB lenB (aCons (eV 10) (aNil)))) (eOp addD (eV 5) (eC (.int 1))))) (sSet 6 (eOp addD (eOp addD (eOp addD (eSl (eV 6) (oNo) (oSome (eV 9))) (eFrz (nLst (aCons (eOp ixD (eV 10) (eUn negD (eC (.int 1)))) (aNil))))) (eSl (eV 6) (oSome (eOp addD (eV 9) (eC (.int 1)))) (oNo))) (eSl (eV 10) (oNo) (oSome (eUn negD (eC (.int 1))))))) (sNext)))))) (sRet (eV 6)))
def m_l_built : Fn := mFn true 11 b_l_built
/-! l_lowest -/
abbrev s_l_lowest : Stmt := topS 12
theorem sc_l_lowest : FnScope ["_law_top", "_law_bottom", "_law_a", "_law_b", "_law_rest"] ["_law_top", "_law_bottom"] (defScope s_l_lowest) := ⟨rfl, rfl, rfl, by decide +kernel, rfl, by decide +kernel, by decide +kernel⟩
def b_l_lowest : SM4 := sSeq (sSet 2 (eB absB (aCons (eV 0) (aNil)))) (sSeq (sSet 3 (eV 1)) (sSeq (sWhile fuelB (some [4]) (asB (eOp gtD (eV 3) (eC (.int 0)))) (sSeq (sSet 4 (eOp modD (eV 2) (eV 3))) (sSeq (sSet 2 (eV 3)) (sSet 3 (eV 4))))) (sRet (eTup (aCons (eOp fdivD (eV 0) (eV 2)) (aCons (eOp fdivD (eV 1) (eV 2)) (aNil)))))))
def m_l_lowest : Fn := mFn true 5 b_l_lowest
/-! l_scaled_one -/
abbrev s_l_scaled_one : Stmt := topS 17
theorem sc_l_scaled_one : FnScope ["_law_number", "_law_scale"] ["_law_number", "_law_scale"] (defScope s_l_scaled_one) := ⟨rfl, rfl, rfl, by decide +kernel, rfl, by decide +kernel, by decide +kernel⟩
def b_l_scaled_one : SM4 := sRet (eCall 2 m_l_lowest (aCons (eOp mulD (eV 0) (eOp ixD (eV 1) (eC (.int 0)))) (aCons (eOp ixD (eV 1) (eC (.int 1))) (aNil))))
def m_l_scaled_one : Fn := mFn true 2 b_l_scaled_one
/-! l_scaled -/
abbrev s_l_scaled : Stmt := topS 18
theorem sc_l_scaled : FnScope ["_law_box", "_law_scale", "_law_part"] ["_law_box", "_law_scale"] (defScope s_l_scaled) := ⟨rfl, rfl, rfl, by decide +kernel, rfl, by decide +kernel, by decide +kernel⟩
def b_l_scaled : SM4 := sRet (eB tupB (aCons (eFrz (nComp [2] (iSeq (eV 0)) (gSet 2) (noTest) (eCall 2 m_l_scaled_one (aCons (eV 2) (aCons (eV 1) (aNil)))))) (aNil)))
def m_l_scaled : Fn := mFn true 3 b_l_scaled
/-! l_floor_of -/
abbrev s_l_floor_of : Stmt := topS 19
theorem sc_l_floor_of : FnScope ["_law_boxes", "_law_wide", "_law_high", "_law_scale", "_law_rectangles", "_law_box"] ["_law_boxes", "_law_wide", "_law_high", "_law_scale"] (defScope s_l_floor_of) := ⟨rfl, rfl, rfl, by decide +kernel, rfl, by decide +kernel, by decide +kernel⟩
def b_l_floor_of : SM4 := sSeq (sSet 4 (eFrz (nComp [5] (iSeq (eV 0)) (gSet 5) (noTest) (eCall 2 m_l_scaled (aCons (eV 5) (aCons (eV 3) (aNil))))))) (sRet (eTup (aCons (eCall 2 m_l_scaled_one (aCons (eV 1) (aCons (eV 3) (aNil)))) (aCons (eCall 2 m_l_scaled_one (aCons (eV 2) (aCons (eV 3) (aNil)))) (aCons (eB tupB (aCons (eV 4) (aNil))) (aNil))))))
def m_l_floor_of : Fn := mFn true 6 b_l_floor_of
/-! l_numbers -/
abbrev s_l_numbers : Stmt := topS 22
theorem sc_l_numbers : FnScope ["_law_floor", "_law_found", "_law_one"] ["_law_floor"] (defScope s_l_numbers) := ⟨rfl, rfl, rfl, by decide +kernel, rfl, by decide +kernel, by decide +kernel⟩
def b_l_numbers : SM4 := sSeq (sSet 1 (eNew (nLst (aCons (eOp ixD (eV 0) (eC (.int 0))) (aCons (eOp ixD (eV 0) (eC (.int 1))) (aNil)))))) (sSeq (sFor (some [2]) (iSeq (eOp ixD (eV 0) (eC (.int 2)))) (gSet 2) (sDrop (eMt isLst extD (eV 1) (aCons (eFrz (nB lstB (aCons (eV 2) (aNil)))) (aNil))))) (sRet (eV 1)))
def m_l_numbers : Fn := mFn true 3 b_l_numbers
/-! l_formed -/
abbrev s_l_formed : Stmt := topS 25
theorem sc_l_formed : FnScope ["_law_floor", "_law_many", "_law_a", "_law_one"] ["_law_floor", "_law_many"] (defScope s_l_formed) := ⟨rfl, rfl, rfl, by decide +kernel, rfl, by decide +kernel, by decide +kernel⟩
def b_l_formed : SM4 := sSeq (sIf (tOrM (tNotM (tTru (eIsi .tup (eV 0)))) (tOrM (asB (eOp neD (eB lenB (aCons (eV 0) (aNil))) (eC (.int 3)))) (tOrM (tNotM (tTru (eIsi .tup (eOp ixD (eV 0) (eC (.int 2)))))) (asB (eOp neD (eB lenB (aCons (eOp ixD (eV 0) (eC (.int 2))) (aNil))) (eV 1)))))) (sRet (eC (.bl false))) (sNext)) (sSeq (sIf (tNotM (tTru (eB allB (aCons (eFrz (nComp [3] (iSeq (eOp ixD (eV 0) (eC (.int 2)))) (gSet 3) (noTest) (eAnd (eIsi .tup (eV 3)) (eOp eqD (eB lenB (aCons (eV 3) (aNil))) (eC (.int 4)))))) (aNil))))) (sRet (eC (.bl false))) (sNext)) (sSeq (sFor (some [2]) (iSeq (eCall 1 m_l_numbers (aCons (eV 0) (aNil)))) (gSet 2) (sIf (tOrM (tNotM (tTru (eIsi .tup (eV 2)))) (tOrM (asB (eOp neD (eB lenB (aCons (eV 2) (aNil))) (eC (.int 2)))) (tOrM (asB (eOp neD (eOp ixD (eV 2) (eC (.int 1))) (eC (.int 1)))) (tOrM (tNotM (tTru (eIsi .int (eOp ixD (eV 2) (eC (.int 0)))))) (tTru (eIsi .bl (eOp ixD (eV 2) (eC (.int 0))))))))) (sRet (eC (.bl false))) (sNext))) (sRet (eAnd (eOp gtD (eOp ixD (eOp ixD (eV 0) (eC (.int 0))) (eC (.int 0))) (eC (.int 0))) (eOp gtD (eOp ixD (eOp ixD (eV 0) (eC (.int 1))) (eC (.int 0))) (eC (.int 0)))))))
def m_l_formed : Fn := mFn true 4 b_l_formed
/-! l_shared -/
abbrev s_l_shared : Stmt := topS 24
theorem sc_l_shared : FnScope ["_law_one", "_law_other", "_law_rest"] ["_law_one", "_law_other"] (defScope s_l_shared) := ⟨rfl, rfl, rfl, by decide +kernel, rfl, by decide +kernel, by decide +kernel⟩
def b_l_shared : SM4 := sSeq (sWhile fuelB (some [2]) (asB (eOp gtD (eV 1) (eC (.int 0)))) (sSeq (sSet 2 (eOp modD (eV 0) (eV 1))) (sSeq (sSet 0 (eV 1)) (sSet 1 (eV 2))))) (sRet (eV 0))
def m_l_shared : Fn := mFn true 3 b_l_shared
/-! l_side -/
abbrev s_l_side : Stmt := topS 20
theorem sc_l_side : FnScope ["_law_cell"] ["_law_cell"] (defScope s_l_side) := ⟨rfl, rfl, rfl, by decide +kernel, rfl, by decide +kernel, by decide +kernel⟩
def b_l_side : SM4 := sSeq (sIf (asB (eOp gtD (eOp modD (eV 0) (eC (.int 3))) (eC (.int 0)))) (sRet (eOp addD (eC (.int 4)) (eOp modD (eOp fdivD (eV 0) (eC (.int 3))) (eC (.int 9))))) (sNext)) (sRet (eOp addD (eC (.int 200)) (eOp modD (eOp fdivD (eV 0) (eC (.int 3))) (eC (.int 9000)))))
def m_l_side : Fn := mFn true 1 b_l_side
/-! l_spoilt -/
abbrev s_l_spoilt : Stmt := topS 23
theorem sc_l_spoilt : FnScope ["_law_script", "_law_boxes", "_law_found", "_law_k", "_law_box", "_law_cell"] ["_law_script", "_law_boxes"] (defScope s_l_spoilt) := ⟨rfl, rfl, rfl, by decide +kernel, rfl, by decide +kernel, by decide +kernel⟩
def b_l_spoilt : SM4 := sSeq (sSet 2 (eNew (nLst (aNil)))) (sSeq (sFor (some [3, 4, 5]) (iEnum (aCons (eV 1) (aNil))) (gTupM 2 (gsCons (gSet 3) (gsCons (gSet 4) (gsNil)))) (sSeq (sSet 5 (eOp modD (eCall 2 m_l_cell_at (aCons (eV 0) (aCons (eOp addD (eC (.int 30)) (eV 3)) (aNil)))) (eC (.int 5)))) (sIf (asB (eOp eqD (eV 5) (eC (.int 0)))) (sDrop (eMt isLst apD (eV 2) (aCons (eTup (aCons (eOp ixD (eV 4) (eC (.int 0))) (aCons (eOp ixD (eV 4) (eC (.int 1))) (aCons (eOp ixD (eV 4) (eC (.int 0))) (aCons (eOp ixD (eV 4) (eC (.int 1))) (aNil)))))) (aNil)))) (sIf (asB (eOp ltD (eV 5) (eC (.int 4)))) (sDrop (eMt isLst apD (eV 2) (aCons (eV 4) (aNil)))) (sNext))))) (sRet (eV 2)))
def m_l_spoilt : Fn := mFn true 6 b_l_spoilt
/-! common -/
abbrev s_common : Stmt := topS 4
theorem sc_common : FnScope ["one", "other", "big", "small", "rest"] ["one", "other"] (defScope s_common) := ⟨rfl, rfl, rfl, by decide +kernel, rfl, by decide +kernel, by decide +kernel⟩
def b_common : SM4 := sSeq (sSet 2 (eB absB (aCons (eV 0) (aNil)))) (sSeq (sSet 3 (eB absB (aCons (eV 1) (aNil)))) (sSeq (sWhile fuelB (some [4]) (asB (eOp gtD (eV 3) (eC (.int 0)))) (sSeq (sSet 4 (eOp modD (eV 2) (eV 3))) (sSeq (sSet 2 (eV 3)) (sSet 3 (eV 4))))) (sRet (eV 2))))
def m_common : Fn := mFn true 5 b_common
/-! fraction -/
abbrev s_fraction : Stmt := topS 5
theorem sc_fraction : FnScope ["top", "bottom", "shared"] ["top", "bottom"] (defScope s_fraction) := ⟨rfl, rfl, rfl, by decide +kernel, rfl, by decide +kernel, by decide +kernel⟩
def b_fraction : SM4 := sSeq (sIf (asB (eOp eqD (eV 1) (eC (.int 0)))) (sRaise "NoNumber") (sNext)) (sSeq (sSet 2 (eCall 2 m_common (aCons (eV 0) (aCons (eV 1) (aNil))))) (sSeq (sIf (asB (eOp ltD (eV 1) (eC (.int 0)))) (sSet 2 (eUn negD (eV 2))) (sNext)) (sRet (eTup (aCons (eOp fdivD (eV 0) (eV 2)) (aCons (eOp fdivD (eV 1) (eV 2)) (aNil)))))))
def m_fraction : Fn := mFn true 3 b_fraction
/-! numbers_of -/
abbrev s_numbers_of : Stmt := topS 7
theorem sc_numbers_of : FnScope ["floor", "found", "rectangle"] ["floor"] (defScope s_numbers_of) := ⟨rfl, rfl, rfl, by decide +kernel, rfl, by decide +kernel, by decide +kernel⟩
def b_numbers_of : SM4 := sSeq (sSet 1 (eNew (nLst (aCons (eOp ixD (eV 0) (eC (.int 0))) (aCons (eOp ixD (eV 0) (eC (.int 1))) (aNil)))))) (sSeq (sFor (some [2]) (iSeq (eOp ixD (eV 0) (eC (.int 2)))) (gSet 2) (sDrop (eMt isLst extD (eV 1) (aCons (eFrz (nB lstB (aCons (eV 2) (aNil)))) (aNil))))) (sRet (eV 1)))
def m_numbers_of : Fn := mFn true 3 b_numbers_of
/-! shared_by -/
abbrev s_shared_by : Stmt := topS 8
theorem sc_shared_by : FnScope ["one", "other", "rest"] ["one", "other"] (defScope s_shared_by) := ⟨rfl, rfl, rfl, by decide +kernel, rfl, by decide +kernel, by decide +kernel⟩
def b_shared_by : SM4 := sSeq (sWhile fuelB (some [2]) (asB (eOp gtD (eV 1) (eC (.int 0)))) (sSeq (sSet 2 (eOp modD (eV 0) (eV 1))) (sSeq (sSet 0 (eV 1)) (sSet 1 (eV 2))))) (sRet (eV 0))
def m_shared_by : Fn := mFn true 3 b_shared_by
/-! brought -/
abbrev s_brought : Stmt := topS 9
theorem sc_brought : FnScope ["floor", "below", "number", "above", "rectangles", "rectangle", "width", "height"] ["floor"] (defScope s_brought) := ⟨rfl, rfl, rfl, by decide +kernel, rfl, by decide +kernel, by decide +kernel⟩
def b_brought : SM4 := sSeq (sSet 1 (eC (.int 1))) (sSeq (sFor (some [2]) (iSeq (eCall 1 m_numbers_of (aCons (eV 0) (aNil)))) (gSet 2) (sSet 1 (eOp fdivD (eOp mulD (eV 1) (eOp ixD (eV 2) (eC (.int 1)))) (eCall 2 m_shared_by (aCons (eV 1) (aCons (eOp ixD (eV 2) (eC (.int 1))) (aNil))))))) (sSeq (sSet 3 (eC (.int 0))) (sSeq (sFor (some [2]) (iSeq (eCall 1 m_numbers_of (aCons (eV 0) (aNil)))) (gSet 2) (sSet 3 (eCall 2 m_shared_by (aCons (eV 3) (aCons (eOp fdivD (eOp mulD (eB absB (aCons (eOp ixD (eV 2) (eC (.int 0))) (aNil))) (eV 1)) (eOp ixD (eV 2) (eC (.int 1)))) (aNil)))))) (sSeq (sSet 4 (eNew (nLst (aNil)))) (sSeq (sFor (some [5]) (iSeq (eOp ixD (eV 0) (eC (.int 2)))) (gSet 5) (sDrop (eMt isLst apD (eV 4) (aCons (eB tupB (aCons (eFrz (nComp [2] (iSeq (eV 5)) (gSet 2) (noTest) (eCall 2 m_fraction (aCons (eOp mulD (eOp ixD (eV 2) (eC (.int 0))) (eV 1)) (aCons (eOp mulD (eOp ixD (eV 2) (eC (.int 1))) (eV 3)) (aNil)))))) (aNil))) (aNil))))) (sSeq (sSet 6 (eCall 2 m_fraction (aCons (eOp mulD (eOp ixD (eOp ixD (eV 0) (eC (.int 0))) (eC (.int 0))) (eV 1)) (aCons (eOp mulD (eOp ixD (eOp ixD (eV 0) (eC (.int 0))) (eC (.int 1))) (eV 3)) (aNil))))) (sSeq (sSet 7 (eCall 2 m_fraction (aCons (eOp mulD (eOp ixD (eOp ixD (eV 0) (eC (.int 1))) (eC (.int 0))) (eV 1)) (aCons (eOp mulD (eOp ixD (eOp ixD (eV 0) (eC (.int 1))) (eC (.int 1))) (eV 3)) (aNil))))) (sRet (eTup (aCons (eV 6) (aCons (eV 7) (aCons (eB tupB (aCons (eV 4) (aNil))) (aNil)))))))))))))
def m_brought : Fn := mFn true 8 b_brought
/-! law -/
abbrev s_law : Stmt := topS 26
theorem sc_law : FnScope ["_law_script", "_law_wide", "_law_high", "_law_boxes", "_law_away", "_law_scale", "_law_floor", "_law_found", "_law_shared_here", "_law_a", "_law_b", "_law_box"] ["_law_script"] (defScope s_law) := ⟨rfl, rfl, rfl, by decide +kernel, rfl, by decide +kernel, by decide +kernel⟩
def b_law : SM4 := sSeq (sSet 1 (eCall 1 m_l_side (aCons (eCall 2 m_l_cell_at (aCons (eV 0) (aCons (eC (.int 0)) (aNil)))) (aNil)))) (sSeq (sSet 2 (eCall 1 m_l_side (aCons (eCall 2 m_l_cell_at (aCons (eV 0) (aCons (eC (.int 1)) (aNil)))) (aNil)))) (sSeq (sSet 3 (eCall 2 m_l_spoilt (aCons (eV 0) (aCons (eCall 6 m_l_built (aCons (eV 0) (aCons (eC (.int 4)) (aCons (eC (.int 30)) (aCons (eV 1) (aCons (eV 2) (aCons (eC (.int 12)) (aNil)))))))) (aNil))))) (sSeq (sIf (asB (eOp eqD (eOp modD (eOp fdivD (eCall 2 m_l_cell_at (aCons (eV 0) (aCons (eC (.int 3)) (aNil)))) (eC (.int 5999))) (eC (.int 3))) (eC (.int 1)))) (sSeq (sSet 4 (eOp modD (eCall 2 m_l_cell_at (aCons (eV 0) (aCons (eC (.int 45)) (aNil)))) (eC (.int 9999)))) (sSet 3 (eFrz (nComp [11] (iSeq (eV 3)) (gSet 11) (noTest) (eTup (aCons (eOp subD (eOp ixD (eV 11) (eC (.int 0))) (eV 4)) (aCons (eOp subD (eOp ixD (eV 11) (eC (.int 1))) (eOp mulD (eC (.int 2)) (eV 4))) (aCons (eOp subD (eOp ixD (eV 11) (eC (.int 2))) (eV 4)) (aCons (eOp subD (eOp ixD (eV 11) (eC (.int 3))) (eOp mulD (eC (.int 2)) (eV 4))) (aNil)))))))))) (sNext)) (sSeq (sIf (asB (eOp eqD (eOp modD (eOp fdivD (eCall 2 m_l_cell_at (aCons (eV 0) (aCons (eC (.int 3)) (aNil)))) (eC (.int 5999))) (eC (.int 12))) (eC (.int 2)))) (sSet 3 (eFrz (nLst (aNil)))) (sNext)) (sSeq (sSet 5 (eCall 2 m_l_lowest (aCons (eOp addD (eC (.int 1)) (eOp modD (eCall 2 m_l_cell_at (aCons (eV 0) (aCons (eC (.int 2)) (aNil)))) (eC (.int 99)))) (aCons (eOp addD (eC (.int 1)) (eOp modD (eCall 2 m_l_cell_at (aCons (eV 0) (aCons (eC (.int 3)) (aNil)))) (eC (.int 5999)))) (aNil))))) (sSeq (sSet 6 (eCall 4 m_l_floor_of (aCons (eV 3) (aCons (eV 1) (aCons (eV 2) (aCons (eV 5) (aNil))))))) (sSeq (sIf (asB (eOp eqD (eOp modD (eOp fdivD (eCall 2 m_l_cell_at (aCons (eV 0) (aCons (eC (.int 2)) (aNil)))) (eC (.int 99))) (eC (.int 3))) (eC (.int 1)))) (sSet 6 (eTup (aCons (eCall 2 m_l_lowest (aCons (eOp addD (eC (.int 1)) (eOp modD (eCall 2 m_l_cell_at (aCons (eV 0) (aCons (eC (.int 0)) (aNil)))) (eC (.int 5000)))) (aCons (eOp addD (eC (.int 1)) (eOp modD (eCall 2 m_l_cell_at (aCons (eV 0) (aCons (eC (.int 1)) (aNil)))) (eC (.int 700)))) (aNil)))) (aCons (eOp ixD (eV 6) (eC (.int 1))) (aCons (eOp ixD (eV 6) (eC (.int 2))) (aNil)))))) (sNext)) (sSeq (sSet 7 (eCall 1 m_brought (aCons (eV 6) (aNil)))) (sSeq (sIf (tNotM (tTru (eCall 2 m_l_formed (aCons (eV 7) (aCons (eB lenB (aCons (eV 3) (aNil))) (aNil)))))) (sRet (eC (.bl false))) (sNext)) (sSeq (sSet 8 (eC (.int 0))) (sSeq (sFor (some [9, 10]) (iZip (aCons (eCall 1 m_l_numbers (aCons (eV 6) (aNil))) (aCons (eCall 1 m_l_numbers (aCons (eV 7) (aNil))) (aNil)))) (gTupM 2 (gsCons (gSet 9) (gsCons (gSet 10) (gsNil)))) (sSeq (sIf (asB (eOp neD (eOp mulD (eOp mulD (eOp ixD (eV 10) (eC (.int 0))) (eOp ixD (eOp ixD (eV 6) (eC (.int 0))) (eC (.int 0)))) (eOp ixD (eV 9) (eC (.int 1)))) (eOp mulD (eOp mulD (eOp ixD (eV 9) (eC (.int 0))) (eOp ixD (eOp ixD (eV 6) (eC (.int 0))) (eC (.int 1)))) (eOp ixD (eOp ixD (eV 7) (eC (.int 0))) (eC (.int 0)))))) (sRet (eC (.bl false))) (sNext)) (sSet 8 (eCall 2 m_l_shared (aCons (eV 8) (aCons (eB absB (aCons (eOp ixD (eV 10) (eC (.int 0))) (aNil))) (aNil))))))) (sRet (eOp eqD (eV 8) (eC (.int 1)))))))))))))))
def m_law : Fn := mFn true 12 b_law
structure Facts (K : PySem.W.Frag) (mg : Str → Option Value) : Prop where
  d_l_two : DefAt K mg "_law_two" s_l_two ["_law_low", "_law_high", "_law_cell"]
  d_l_wheel : DefAt K mg "_law_wheel" s_l_wheel ["_law_box", "_law_x", "_law_y", "_law_way"]
  d_l_broken : DefAt K mg "_law_broken" s_l_broken ["_law_box", "_law_cell"]
  d_l_cell_at : DefAt K mg "_law_cell_at" s_l_cell_at ["_law_script", "_law_k"]
  d_l_built : DefAt K mg "_law_built" s_l_built ["_law_script", "_law_first", "_law_last", "_law_wide", "_law_high", "_law_most"]
  d_l_lowest : DefAt K mg "_law_lowest" s_l_lowest ["_law_top", "_law_bottom"]
  d_l_scaled_one : DefAt K mg "_law_scaled_one" s_l_scaled_one ["_law_number", "_law_scale"]
  d_l_scaled : DefAt K mg "_law_scaled" s_l_scaled ["_law_box", "_law_scale"]
  d_l_floor_of : DefAt K mg "_law_floor_of" s_l_floor_of ["_law_boxes", "_law_wide", "_law_high", "_law_scale"]
  d_l_numbers : DefAt K mg "_law_numbers" s_l_numbers ["_law_floor"]
  d_l_formed : DefAt K mg "_law_formed" s_l_formed ["_law_floor", "_law_many"]
  d_l_shared : DefAt K mg "_law_shared" s_l_shared ["_law_one", "_law_other"]
  d_l_side : DefAt K mg "_law_side" s_l_side ["_law_cell"]
  d_l_spoilt : DefAt K mg "_law_spoilt" s_l_spoilt ["_law_script", "_law_boxes"]
  d_common : DefAt K mg "common" s_common ["one", "other"]
  d_fraction : DefAt K mg "fraction" s_fraction ["top", "bottom"]
  d_numbers_of : DefAt K mg "numbers_of" s_numbers_of ["floor"]
  d_shared_by : DefAt K mg "shared_by" s_shared_by ["one", "other"]
  d_brought : DefAt K mg "brought" s_brought ["floor"]
  d_law : DefAt K mg "law" s_law ["_law_script"]
  n_abs : mg "abs" = none
  n_list : mg "list" = none
  n_tuple : mg "tuple" = none
  n_len : mg "len" = none
  n_range : mg "range" = none
  n_min : mg "min" = none
  n_enumerate : mg "enumerate" = none
  n_isinstance : mg "isinstance" = none
  n_all : mg "all" = none
  n_int : mg "int" = none
  n_bool : mg "bool" = none
  n_zip : mg "zip" = none
  e_NoNumber : ClsAt K mg "NoNumber"
section
variable {P : Program} {w : World} {K : PySem.W.Frag} {mg : Str → Option Value} {base : Heap}
theorem ok_l_two (F : Facts K mg) : DefOk P w K mg base (L2.CX P w) 1 "_law_two" 3 m_l_two := def_ok F.d_l_two sc_l_two rfl rfl fun f cdv A outer s H E hr =>
  (fb_cons (fs_set sc_l_two.nd rfl (by first | exact .inl rfl | exact .inr rfl) (fe_bin opf_add (fe_bin opf_add (fe_var (pv 0)) (fe_int)) (fe_bin opf_mod (fe_var (pv 2)) (fe_bin opf_sub (fe_bin opf_sub (fe_var (pv 1)) (fe_var (pv 0))) (fe_int))))) (fb_one (fs_ret (fe_tup (fa_cons (fe_var (pv 3)) (fa_cons (fe_bin opf_add (fe_bin opf_add (fe_var (pv 3)) (fe_int)) (fe_bin opf_mod (fe_bin opf_fdiv (fe_var (pv 2)) (fe_int)) (fe_bin opf_sub (fe_bin opf_sub (fe_var (pv 1)) (fe_var (pv 3))) (fe_int)))) (fa_nil)))))))
theorem ok_l_wheel (F : Facts K mg) : DefOk P w K mg base (L2.CX P w) 1 "_law_wheel" 4 m_l_wheel := def_ok F.d_l_wheel sc_l_wheel rfl rfl fun f cdv A outer s H E hr =>
  (fb_cons (fs_asg (fe_var (pv 0)) (fg_tup rfl (fgs_cons (fg_name sc_l_wheel.nd rfl (by first | exact .inl rfl | exact .inr rfl)) (fgs_cons (fg_name sc_l_wheel.nd rfl (by first | exact .inl rfl | exact .inr rfl)) (fgs_cons (fg_name sc_l_wheel.nd rfl (by first | exact .inl rfl | exact .inr rfl)) (fgs_cons (fg_name sc_l_wheel.nd rfl (by first | exact .inl rfl | exact .inr rfl)) (fgs_nil))))))) (fb_cons (fs_if (ft_cmp (opf_eq hr.units) (fe_var (pv 3)) (fe_int) (by rfl)) (fb_one (fs_set sc_l_wheel.nd rfl (by first | exact .inl rfl | exact .inr rfl) (fe_frz (fn_lst (fa_cons (fe_tup (fa_cons (fe_var (pv 4)) (fa_cons (fe_var (pv 5)) (fa_cons (fe_ix (hu_of hr) (fe_var (pv 1)) (fe_int)) (fa_cons (fe_ix (hu_of hr) (fe_var (pv 2)) (fe_int)) (fa_nil)))))) (fa_cons (fe_tup (fa_cons (fe_ix (hu_of hr) (fe_var (pv 1)) (fe_int)) (fa_cons (fe_var (pv 5)) (fa_cons (fe_var (pv 6)) (fa_cons (fe_ix (hu_of hr) (fe_var (pv 2)) (fe_int)) (fa_nil)))))) (fa_cons (fe_tup (fa_cons (fe_ix (hu_of hr) (fe_var (pv 1)) (fe_int)) (fa_cons (fe_ix (hu_of hr) (fe_var (pv 2)) (fe_int)) (fa_cons (fe_var (pv 6)) (fa_cons (fe_var (pv 7)) (fa_nil)))))) (fa_cons (fe_tup (fa_cons (fe_var (pv 4)) (fa_cons (fe_ix (hu_of hr) (fe_var (pv 2)) (fe_int)) (fa_cons (fe_ix (hu_of hr) (fe_var (pv 1)) (fe_int)) (fa_cons (fe_var (pv 7)) (fa_nil)))))) (fa_nil))))))))) (fb_one (fs_set sc_l_wheel.nd rfl (by first | exact .inl rfl | exact .inr rfl) (fe_frz (fn_lst (fa_cons (fe_tup (fa_cons (fe_ix (hu_of hr) (fe_var (pv 1)) (fe_int)) (fa_cons (fe_var (pv 5)) (fa_cons (fe_var (pv 6)) (fa_cons (fe_ix (hu_of hr) (fe_var (pv 2)) (fe_int)) (fa_nil)))))) (fa_cons (fe_tup (fa_cons (fe_ix (hu_of hr) (fe_var (pv 1)) (fe_int)) (fa_cons (fe_ix (hu_of hr) (fe_var (pv 2)) (fe_int)) (fa_cons (fe_var (pv 6)) (fa_cons (fe_var (pv 7)) (fa_nil)))))) (fa_cons (fe_tup (fa_cons (fe_var (pv 4)) (fa_cons (fe_ix (hu_of hr) (fe_var (pv 2)) (fe_int)) (fa_cons (fe_ix (hu_of hr) (fe_var (pv 1)) (fe_int)) (fa_cons (fe_var (pv 7)) (fa_nil)))))) (fa_cons (fe_tup (fa_cons (fe_var (pv 4)) (fa_cons (fe_var (pv 5)) (fa_cons (fe_ix (hu_of hr) (fe_var (pv 1)) (fe_int)) (fa_cons (fe_ix (hu_of hr) (fe_var (pv 2)) (fe_int)) (fa_nil)))))) (fa_nil)))))))))) (fb_one (fs_ret (fe_bin opf_add (fe_var (pv 8)) (fe_frz (fn_lst (fa_cons (fe_tup (fa_cons (fe_ix (hu_of hr) (fe_var (pv 1)) (fe_int)) (fa_cons (fe_ix (hu_of hr) (fe_var (pv 2)) (fe_int)) (fa_cons (fe_ix (hu_of hr) (fe_var (pv 1)) (fe_int)) (fa_cons (fe_ix (hu_of hr) (fe_var (pv 2)) (fe_int)) (fa_nil)))))) (fa_nil)))))))))
theorem ok_l_broken (F : Facts K mg) : DefOk P w K mg base (L2.CX P w) 2 "_law_broken" 2 m_l_broken := def_ok F.d_l_broken sc_l_broken rfl rfl fun f cdv A outer s H E hr =>
  (fb_cons (fs_asg (fe_var (pv 0)) (fg_tup rfl (fgs_cons (fg_name sc_l_broken.nd rfl (by first | exact .inl rfl | exact .inr rfl)) (fgs_cons (fg_name sc_l_broken.nd rfl (by first | exact .inl rfl | exact .inr rfl)) (fgs_cons (fg_name sc_l_broken.nd rfl (by first | exact .inl rfl | exact .inr rfl)) (fgs_cons (fg_name sc_l_broken.nd rfl (by first | exact .inl rfl | exact .inr rfl)) (fgs_nil))))))) (fb_cons (fs_set sc_l_broken.nd rfl (by first | exact .inl rfl | exact .inr rfl) (fe_bin opf_mod (fe_var (pv 1)) (fe_int))) (fb_cons (fs_set sc_l_broken.nd rfl (by first | exact .inl rfl | exact .inr rfl) (fe_bin opf_fdiv (fe_var (pv 1)) (fe_int))) (fb_cons (fs_if (fw_pt (fw_and (ft_cmp (opf_eq hr.units) (fe_var (pv 6)) (fe_int) (by rfl)) (fw_and (ft_cmp (opf_gt) (fe_bin opf_sub (fe_var (pv 4)) (fe_var (pv 2))) (fe_int) (by rfl)) (fw_and1 (ft_cmp (opf_gt) (fe_bin opf_sub (fe_var (pv 5)) (fe_var (pv 3))) (fe_int) (by rfl)))))) (fb_cons (fs_set sc_l_broken.nd rfl (by first | exact .inl rfl | exact .inr rfl) (fe_call (DefOk.mono (ok_l_two F) (by first | decide | omega)) hr (by rfl) hxD (fa_cons (fe_var (pv 2)) (fa_cons (fe_var (pv 4)) (fa_cons (fe_bin opf_fdiv (fe_var (pv 1)) (fe_int)) (fa_nil)))))) (fb_cons (fs_set sc_l_broken.nd rfl (by first | exact .inl rfl | exact .inr rfl) (fe_call (DefOk.mono (ok_l_two F) (by first | decide | omega)) hr (by rfl) hxD (fa_cons (fe_var (pv 3)) (fa_cons (fe_var (pv 5)) (fa_cons (fe_bin opf_fdiv (fe_var (pv 1)) (fe_int)) (fa_nil)))))) (fb_one (fs_ret (fe_call (DefOk.mono (ok_l_wheel F) (by first | decide | omega)) hr (by rfl) hxD (fa_cons (fe_var (pv 0)) (fa_cons (fe_var (pv 7)) (fa_cons (fe_var (pv 8)) (fa_cons (fe_bin opf_mod (fe_var (pv 1)) (fe_int)) (fa_nil)))))))))) (fb_nil)) (fb_cons (fs_if (fw_pt (fw_and (ft_cmp (opf_eq hr.units) (fe_bin opf_mod (fe_var (pv 6)) (fe_int)) (fe_int) (by rfl)) (fw_and1 (ft_cmp (opf_gt) (fe_bin opf_sub (fe_var (pv 4)) (fe_var (pv 2))) (fe_int) (by rfl))))) (fb_cons (fs_set sc_l_broken.nd rfl (by first | exact .inl rfl | exact .inr rfl) (fe_bin opf_add (fe_bin opf_add (fe_var (pv 2)) (fe_int)) (fe_bin opf_mod (fe_var (pv 1)) (fe_bin opf_sub (fe_bin opf_sub (fe_var (pv 4)) (fe_var (pv 2))) (fe_int))))) (fb_one (fs_ret (fe_frz (fn_lst (fa_cons (fe_tup (fa_cons (fe_var (pv 2)) (fa_cons (fe_var (pv 3)) (fa_cons (fe_var (pv 7)) (fa_cons (fe_var (pv 5)) (fa_nil)))))) (fa_cons (fe_tup (fa_cons (fe_var (pv 7)) (fa_cons (fe_var (pv 3)) (fa_cons (fe_var (pv 4)) (fa_cons (fe_var (pv 5)) (fa_nil)))))) (fa_nil)))))))) (fb_nil)) (fb_cons (fs_if (ft_cmp (opf_gt) (fe_bin opf_sub (fe_var (pv 5)) (fe_var (pv 3))) (fe_int) (by rfl)) (fb_cons (fs_set sc_l_broken.nd rfl (by first | exact .inl rfl | exact .inr rfl) (fe_bin opf_add (fe_bin opf_add (fe_var (pv 3)) (fe_int)) (fe_bin opf_mod (fe_var (pv 1)) (fe_bin opf_sub (fe_bin opf_sub (fe_var (pv 5)) (fe_var (pv 3))) (fe_int))))) (fb_one (fs_ret (fe_frz (fn_lst (fa_cons (fe_tup (fa_cons (fe_var (pv 2)) (fa_cons (fe_var (pv 3)) (fa_cons (fe_var (pv 4)) (fa_cons (fe_var (pv 8)) (fa_nil)))))) (fa_cons (fe_tup (fa_cons (fe_var (pv 2)) (fa_cons (fe_var (pv 8)) (fa_cons (fe_var (pv 4)) (fa_cons (fe_var (pv 5)) (fa_nil)))))) (fa_nil)))))))) (fb_nil)) (fb_one (fs_ret (fe_frz (fn_lst (fa_cons (fe_var (pv 0)) (fa_nil))))))))))))
theorem ok_l_cell_at (F : Facts K mg) : DefOk P w K mg base (L2.CX P w) 1 "_law_cell_at" 2 m_l_cell_at := def_ok F.d_l_cell_at sc_l_cell_at rfl rfl fun f cdv A outer s H E hr =>
  (fb_cons (fs_set sc_l_cell_at.nd rfl (by first | exact .inl rfl | exact .inr rfl) (fe_int)) (fb_cons (fs_if (ft_cmp (opf_lt) (fe_var (pv 1)) (fe_callB bi_len (by rfl) F.n_len (by decide +kernel) (fa_cons (fe_var (pv 0)) (fa_nil))) (by rfl)) (fb_one (fs_set sc_l_cell_at.nd rfl (by first | exact .inl rfl | exact .inr rfl) (fe_bin opf_mod (fe_ix (hu_of hr) (fe_var (pv 0)) (fe_var (pv 1))) (fe_bin opf_pow (fe_int) (fe_int))))) (fb_nil)) (fb_one (fs_ret (fe_bin opf_mod (fe_bin opf_mul (fe_bin opf_mod (fe_bin opf_add (fe_bin opf_mul (fe_var (pv 2)) (fe_int)) (fe_bin opf_mul (fe_int) (fe_var (pv 1)))) (fe_int)) (fe_int)) (fe_int))))))
theorem ok_l_built (F : Facts K mg) : DefOk P w K mg base (L2.CX P w) 3 "_law_built" 6 m_l_built := def_ok F.d_l_built sc_l_built rfl rfl fun f cdv A outer s H E hr =>
  (fb_cons (fs_set sc_l_built.nd rfl (by first | exact .inl rfl | exact .inr rfl) (fe_frz (fn_lst (fa_cons (fe_tup (fa_cons (fe_int) (fa_cons (fe_int) (fa_cons (fe_var (pv 3)) (fa_cons (fe_var (pv 4)) (fa_nil)))))) (fa_nil))))) (fb_cons (fs_for hpD rfl (fi_range2 (by rfl) F.n_range (fa_cons (fe_var (pv 1)) (fa_cons (fe_callB (bi_min rfl) (by rfl) F.n_min (by decide +kernel) (fa_cons (fe_callB bi_len (by rfl) F.n_len (by decide +kernel) (fa_cons (fe_var (pv 0)) (fa_nil))) (fa_cons (fe_var (pv 2)) (fa_nil)))) (fa_nil)))) (fg_name sc_l_built.nd rfl (by first | exact .inl rfl | exact .inr rfl)) (fb_cons (fs_set sc_l_built.nd rfl (by first | exact .inl rfl | exact .inr rfl) (fe_call (DefOk.mono (ok_l_cell_at F) (by first | decide | omega)) hr (by rfl) hxD (fa_cons (fe_var (pv 0)) (fa_cons (fe_var (pv 7)) (fa_nil))))) (fb_cons (fs_set sc_l_built.nd rfl (by first | exact .inl rfl | exact .inr rfl) (fe_bin opf_mod (fe_var (pv 8)) (fe_callB bi_len (by rfl) F.n_len (by decide +kernel) (fa_cons (fe_var (pv 6)) (fa_nil))))) (fb_cons (fs_set sc_l_built.nd rfl (by first | exact .inl rfl | exact .inr rfl) (fe_call (DefOk.mono (ok_l_broken F) (by first | decide | omega)) hr (by rfl) hxD (fa_cons (fe_ix (hu_of hr) (fe_var (pv 6)) (fe_var (pv 9))) (fa_cons (fe_bin opf_fdiv (fe_var (pv 8)) (fe_int)) (fa_nil))))) (fb_one (fs_if (ft_cmp (opf_le) (fe_bin opf_add (fe_callB bi_len (by rfl) F.n_len (by decide +kernel) (fa_cons (fe_var (pv 6)) (fa_nil))) (fe_callB bi_len (by rfl) F.n_len (by decide +kernel) (fa_cons (fe_var (pv 10)) (fa_nil)))) (fe_bin opf_add (fe_var (pv 5)) (fe_int)) (by rfl)) (fb_one (fs_set sc_l_built.nd rfl (by first | exact .inl rfl | exact .inr rfl) (fe_bin opf_add (fe_bin opf_add (fe_bin opf_add (fe_slice (fe_var (pv 6)) (fo_none) (fo_some (fe_var (pv 9)))) (fe_frz (fn_lst (fa_cons (fe_ix (hu_of hr) (fe_var (pv 10)) (fe_neg (fe_int))) (fa_nil))))) (fe_slice (fe_var (pv 6)) (fo_some (fe_bin opf_add (fe_var (pv 9)) (fe_int))) (fo_none))) (fe_slice (fe_var (pv 10)) (fo_none) (fo_some (fe_neg (fe_int))))))) (fb_nil))))))) (fb_one (fs_ret (fe_var (pv 6))))))
theorem ok_l_lowest (F : Facts K mg) : DefOk P w K mg base (L2.CX P w) 1 "_law_lowest" 2 m_l_lowest := def_ok F.d_l_lowest sc_l_lowest rfl rfl fun f cdv A outer s H E hr =>
  (fb_cons (fs_set sc_l_lowest.nd rfl (by first | exact .inl rfl | exact .inr rfl) (fe_callB bi_abs (by rfl) F.n_abs (by decide +kernel) (fa_cons (fe_var (pv 0)) (fa_nil)))) (fb_cons (fs_set sc_l_lowest.nd rfl (by first | exact .inl rfl | exact .inr rfl) (fe_var (pv 1))) (fb_cons (fs_while hpD (ft_cmp (opf_gt) (fe_var (pv 3)) (fe_int) (by rfl)) (fb_cons (fs_set sc_l_lowest.nd rfl (by first | exact .inl rfl | exact .inr rfl) (fe_bin opf_mod (fe_var (pv 2)) (fe_var (pv 3)))) (fb_cons (fs_set sc_l_lowest.nd rfl (by first | exact .inl rfl | exact .inr rfl) (fe_var (pv 3))) (fb_one (fs_set sc_l_lowest.nd rfl (by first | exact .inl rfl | exact .inr rfl) (fe_var (pv 4))))))) (fb_one (fs_ret (fe_tup (fa_cons (fe_bin opf_fdiv (fe_var (pv 0)) (fe_var (pv 2))) (fa_cons (fe_bin opf_fdiv (fe_var (pv 1)) (fe_var (pv 2))) (fa_nil)))))))))
theorem ok_l_scaled_one (F : Facts K mg) : DefOk P w K mg base (L2.CX P w) 2 "_law_scaled_one" 2 m_l_scaled_one := def_ok F.d_l_scaled_one sc_l_scaled_one rfl rfl fun f cdv A outer s H E hr =>
  (fb_one (fs_ret (fe_call (DefOk.mono (ok_l_lowest F) (by first | decide | omega)) hr (by rfl) hxD (fa_cons (fe_bin opf_mul (fe_var (pv 0)) (fe_ix (hu_of hr) (fe_var (pv 1)) (fe_int))) (fa_cons (fe_ix (hu_of hr) (fe_var (pv 1)) (fe_int)) (fa_nil))))))
theorem ok_l_scaled (F : Facts K mg) : DefOk P w K mg base (L2.CX P w) 3 "_law_scaled" 2 m_l_scaled := def_ok F.d_l_scaled sc_l_scaled rfl rfl fun f cdv A outer s H E hr =>
  (fb_one (fs_ret (fe_callT bi_tuple (by rfl) F.n_tuple (by decide +kernel) (fa_cons (fe_frz (fn_comp rfl sc_l_scaled.nd (fi_seq (fe_var (pv 0))) (blk_in (N := ["_law_box", "_law_scale", "_law_part"]) (sc := defScope s_l_scaled) (own := [("_law_part", 2)]) rfl rfl (by decide +kernel)) (fun _ _ _ _ _ => fg_name sc_l_scaled.nd rfl (by first | exact .inl rfl | exact .inr rfl)) (by decide) (fun _ _ _ _ _ => fts_nil) (fun _ _ _ _ _ => fe_call (DefOk.mono (ok_l_scaled_one F) (by first | decide | omega)) hr (by rfl) hx0 (fa_cons (fe_var (pv 2)) (fa_cons (fe_var (pv 1)) (fa_nil)))))) (fa_nil)))))
theorem ok_l_floor_of (F : Facts K mg) : DefOk P w K mg base (L2.CX P w) 4 "_law_floor_of" 4 m_l_floor_of := def_ok F.d_l_floor_of sc_l_floor_of rfl rfl fun f cdv A outer s H E hr =>
  (fb_cons (fs_setComp rfl sc_l_floor_of.nd rfl rfl (sw_true rfl rfl (by rfl) (by decide +kernel)) (fi_seq (fe_var (pv 0))) (blk_in (N := ["_law_boxes", "_law_wide", "_law_high", "_law_scale", "_law_rectangles", "_law_box"]) (sc := defScope s_l_floor_of) (own := [("_law_box", 5)]) rfl rfl (by decide +kernel)) (fun _ _ _ _ _ => fg_name sc_l_floor_of.nd rfl (by first | exact .inl rfl | exact .inr rfl)) (by decide) (fun _ _ _ _ _ => fts_nil) (fun _ _ _ _ _ => fe_call (DefOk.mono (ok_l_scaled F) (by first | decide | omega)) hr (by rfl) hx0 (fa_cons (fe_var (pv 5)) (fa_cons (fe_var (pv 3)) (fa_nil))))) (fb_one (fs_ret (fe_tup (fa_cons (fe_call (DefOk.mono (ok_l_scaled_one F) (by first | decide | omega)) hr (by rfl) hxD (fa_cons (fe_var (pv 1)) (fa_cons (fe_var (pv 3)) (fa_nil)))) (fa_cons (fe_call (DefOk.mono (ok_l_scaled_one F) (by first | decide | omega)) hr (by rfl) hxD (fa_cons (fe_var (pv 2)) (fa_cons (fe_var (pv 3)) (fa_nil)))) (fa_cons (fe_callT bi_tuple (by rfl) F.n_tuple (by decide +kernel) (fa_cons (fe_var (pv 4)) (fa_nil))) (fa_nil))))))))
theorem ok_l_numbers (F : Facts K mg) : DefOk P w K mg base (L2.CX P w) 1 "_law_numbers" 1 m_l_numbers := def_ok F.d_l_numbers sc_l_numbers rfl rfl fun f cdv A outer s H E hr =>
  (fb_cons (fs_set sc_l_numbers.nd rfl (by first | exact .inl rfl | exact .inr rfl) (fe_new (fn_lst (fa_cons (fe_ix (hu_of hr) (fe_var (pv 0)) (fe_int)) (fa_cons (fe_ix (hu_of hr) (fe_var (pv 0)) (fe_int)) (fa_nil)))))) (fb_cons (fs_for hpD rfl (fi_seq (fe_ix (hu_of hr) (fe_var (pv 0)) (fe_int))) (fg_name sc_l_numbers.nd rfl (by first | exact .inl rfl | exact .inr rfl)) (fb_one (fs_expr (fe_meth (me_extend) PySem.F.plainAttrs_list PySem.F.slot_list_extend PySem.F.type_list_extend (fe_var (pv 1)) (fa_cons (fe_frz (fn_callT bi_list (by rfl) F.n_list (by decide +kernel) (fa_cons (fe_var (pv 2)) (fa_nil)))) (fa_nil)))))) (fb_one (fs_ret (fe_var (pv 1))))))
theorem ok_l_formed (F : Facts K mg) : DefOk P w K mg base (L2.CX P w) 2 "_law_formed" 2 m_l_formed := def_ok F.d_l_formed sc_l_formed rfl rfl fun f cdv A outer s H E hr =>
  (fb_cons (fs_if (fw_pt (fw_or (ft_not (ft_truth (fe_isi (by decide) (by rfl) F.n_isinstance (by rfl) F.n_tuple (by decide +kernel) (fe_var (pv 0))))) (fw_or (ft_cmp (opf_ne hr.units) (fe_callB bi_len (by rfl) F.n_len (by decide +kernel) (fa_cons (fe_var (pv 0)) (fa_nil))) (fe_int) (by rfl)) (fw_or (ft_not (ft_truth (fe_isi (by decide) (by rfl) F.n_isinstance (by rfl) F.n_tuple (by decide +kernel) (fe_ix (hu_of hr) (fe_var (pv 0)) (fe_int))))) (fw_or1 (ft_cmp (opf_ne hr.units) (fe_callB bi_len (by rfl) F.n_len (by decide +kernel) (fa_cons (fe_ix (hu_of hr) (fe_var (pv 0)) (fe_int)) (fa_nil))) (fe_var (pv 1)) (by rfl))))))) (fb_one (fs_ret (fe_bl))) (fb_nil)) (fb_cons (fs_if (ft_not (ft_truth (fe_callB (bi_all rfl) (by rfl) F.n_all (by decide +kernel) (fa_cons (fe_frz (fn_comp rfl sc_l_formed.nd (fi_seq (fe_ix (hu_of hr) (fe_var (pv 0)) (fe_int))) (blk_in (N := ["_law_floor", "_law_many", "_law_a", "_law_one"]) (sc := defScope s_l_formed) (own := [("_law_one", 3)]) rfl rfl (by decide +kernel)) (fun _ _ _ _ _ => fg_name sc_l_formed.nd rfl (by first | exact .inl rfl | exact .inr rfl)) (by decide) (fun _ _ _ _ _ => fts_nil) (fun _ _ _ _ _ => fe_and (fe_isi (by decide) (by rfl) F.n_isinstance (by rfl) F.n_tuple (by decide +kernel) (fe_var (pv 3))) (fe_one (fe_cmp (opf_eq hr.units) (fe_callB bi_len (by rfl) F.n_len (by decide +kernel) (fa_cons (fe_var (pv 3)) (fa_nil))) (fe_int) (by rfl)))))) (fa_nil))))) (fb_one (fs_ret (fe_bl))) (fb_nil)) (fb_cons (fs_for hpD rfl (fi_seq (fe_call (DefOk.mono (ok_l_numbers F) (by first | decide | omega)) hr (by rfl) hxD (fa_cons (fe_var (pv 0)) (fa_nil)))) (fg_name sc_l_formed.nd rfl (by first | exact .inl rfl | exact .inr rfl)) (fb_one (fs_if (fw_pt (fw_or (ft_not (ft_truth (fe_isi (by decide) (by rfl) F.n_isinstance (by rfl) F.n_tuple (by decide +kernel) (fe_var (pv 2))))) (fw_or (ft_cmp (opf_ne hr.units) (fe_callB bi_len (by rfl) F.n_len (by decide +kernel) (fa_cons (fe_var (pv 2)) (fa_nil))) (fe_int) (by rfl)) (fw_or (ft_cmp (opf_ne hr.units) (fe_ix (hu_of hr) (fe_var (pv 2)) (fe_int)) (fe_int) (by rfl)) (fw_or (ft_not (ft_truth (fe_isi (by decide) (by rfl) F.n_isinstance (by rfl) F.n_int (by decide +kernel) (fe_ix (hu_of hr) (fe_var (pv 2)) (fe_int))))) (fw_or1 (ft_truth (fe_isi (by decide) (by rfl) F.n_isinstance (by rfl) F.n_bool (by decide +kernel) (fe_ix (hu_of hr) (fe_var (pv 2)) (fe_int)))))))))) (fb_one (fs_ret (fe_bl))) (fb_nil)))) (fb_one (fs_ret (fe_and (fe_cmp (opf_gt) (fe_ix (hu_of hr) (fe_ix (hu_of hr) (fe_var (pv 0)) (fe_int)) (fe_int)) (fe_int) (by rfl)) (fe_one (fe_cmp (opf_gt) (fe_ix (hu_of hr) (fe_ix (hu_of hr) (fe_var (pv 0)) (fe_int)) (fe_int)) (fe_int) (by rfl)))))))))
theorem ok_l_shared (F : Facts K mg) : DefOk P w K mg base (L2.CX P w) 1 "_law_shared" 2 m_l_shared := def_ok F.d_l_shared sc_l_shared rfl rfl fun f cdv A outer s H E hr =>
  (fb_cons (fs_while hpD (ft_cmp (opf_gt) (fe_var (pv 1)) (fe_int) (by rfl)) (fb_cons (fs_set sc_l_shared.nd rfl (by first | exact .inl rfl | exact .inr rfl) (fe_bin opf_mod (fe_var (pv 0)) (fe_var (pv 1)))) (fb_cons (fs_set sc_l_shared.nd rfl (by first | exact .inl rfl | exact .inr rfl) (fe_var (pv 1))) (fb_one (fs_set sc_l_shared.nd rfl (by first | exact .inl rfl | exact .inr rfl) (fe_var (pv 2))))))) (fb_one (fs_ret (fe_var (pv 0)))))
theorem ok_l_side (F : Facts K mg) : DefOk P w K mg base (L2.CX P w) 1 "_law_side" 1 m_l_side := def_ok F.d_l_side sc_l_side rfl rfl fun f cdv A outer s H E hr =>
  (fb_cons (fs_if (ft_cmp (opf_gt) (fe_bin opf_mod (fe_var (pv 0)) (fe_int)) (fe_int) (by rfl)) (fb_one (fs_ret (fe_bin opf_add (fe_int) (fe_bin opf_mod (fe_bin opf_fdiv (fe_var (pv 0)) (fe_int)) (fe_int))))) (fb_nil)) (fb_one (fs_ret (fe_bin opf_add (fe_int) (fe_bin opf_mod (fe_bin opf_fdiv (fe_var (pv 0)) (fe_int)) (fe_int))))))
theorem ok_l_spoilt (F : Facts K mg) : DefOk P w K mg base (L2.CX P w) 2 "_law_spoilt" 2 m_l_spoilt := def_ok F.d_l_spoilt sc_l_spoilt rfl rfl fun f cdv A outer s H E hr =>
  (fb_cons (fs_set sc_l_spoilt.nd rfl (by first | exact .inl rfl | exact .inr rfl) (fe_new (fn_lst (fa_nil)))) (fb_cons (fs_for hpD rfl (fi_enum (by rfl) F.n_enumerate (fa_cons (fe_var (pv 1)) (fa_nil))) (fg_tup rfl (fgs_cons (fg_name sc_l_spoilt.nd rfl (by first | exact .inl rfl | exact .inr rfl)) (fgs_cons (fg_name sc_l_spoilt.nd rfl (by first | exact .inl rfl | exact .inr rfl)) (fgs_nil)))) (fb_cons (fs_set sc_l_spoilt.nd rfl (by first | exact .inl rfl | exact .inr rfl) (fe_bin opf_mod (fe_call (DefOk.mono (ok_l_cell_at F) (by first | decide | omega)) hr (by rfl) hxD (fa_cons (fe_var (pv 0)) (fa_cons (fe_bin opf_add (fe_int) (fe_var (pv 3))) (fa_nil)))) (fe_int))) (fb_one (fs_if (ft_cmp (opf_eq hr.units) (fe_var (pv 5)) (fe_int) (by rfl)) (fb_one (fs_expr (fe_meth (me_append) PySem.F.plainAttrs_list PySem.F.slot_list_append PySem.F.type_list_append (fe_var (pv 2)) (fa_cons (fe_tup (fa_cons (fe_ix (hu_of hr) (fe_var (pv 4)) (fe_int)) (fa_cons (fe_ix (hu_of hr) (fe_var (pv 4)) (fe_int)) (fa_cons (fe_ix (hu_of hr) (fe_var (pv 4)) (fe_int)) (fa_cons (fe_ix (hu_of hr) (fe_var (pv 4)) (fe_int)) (fa_nil)))))) (fa_nil))))) (fb_one (fs_if (ft_cmp (opf_lt) (fe_var (pv 5)) (fe_int) (by rfl)) (fb_one (fs_expr (fe_meth (me_append) PySem.F.plainAttrs_list PySem.F.slot_list_append PySem.F.type_list_append (fe_var (pv 2)) (fa_cons (fe_var (pv 4)) (fa_nil))))) (fb_nil))))))) (fb_one (fs_ret (fe_var (pv 2))))))
theorem ok_common (F : Facts K mg) : DefOk P w K mg base (L2.CX P w) 1 "common" 2 m_common := def_ok F.d_common sc_common rfl rfl fun f cdv A outer s H E hr =>
  (fb_cons (fs_set sc_common.nd rfl (by first | exact .inl rfl | exact .inr rfl) (fe_callB bi_abs (by rfl) F.n_abs (by decide +kernel) (fa_cons (fe_var (pv 0)) (fa_nil)))) (fb_cons (fs_set sc_common.nd rfl (by first | exact .inl rfl | exact .inr rfl) (fe_callB bi_abs (by rfl) F.n_abs (by decide +kernel) (fa_cons (fe_var (pv 1)) (fa_nil)))) (fb_cons (fs_while hpD (ft_cmp (opf_gt) (fe_var (pv 3)) (fe_int) (by rfl)) (fb_cons (fs_set sc_common.nd rfl (by first | exact .inl rfl | exact .inr rfl) (fe_bin opf_mod (fe_var (pv 2)) (fe_var (pv 3)))) (fb_cons (fs_set sc_common.nd rfl (by first | exact .inl rfl | exact .inr rfl) (fe_var (pv 3))) (fb_one (fs_set sc_common.nd rfl (by first | exact .inl rfl | exact .inr rfl) (fe_var (pv 4))))))) (fb_one (fs_ret (fe_var (pv 2)))))))
theorem ok_fraction (F : Facts K mg) : DefOk P w K mg base (L2.CX P w) 2 "fraction" 2 m_fraction := def_ok F.d_fraction sc_fraction rfl rfl fun f cdv A outer s H E hr =>
  (fb_cons (fs_if (ft_cmp (opf_eq hr.units) (fe_var (pv 1)) (fe_int) (by rfl)) (fb_one (fs_raise rfl rfl tkD F.e_NoNumber (by rfl))) (fb_nil)) (fb_cons (fs_set sc_fraction.nd rfl (by first | exact .inl rfl | exact .inr rfl) (fe_call (DefOk.mono (ok_common F) (by first | decide | omega)) hr (by rfl) hxD (fa_cons (fe_var (pv 0)) (fa_cons (fe_var (pv 1)) (fa_nil))))) (fb_cons (fs_if (ft_cmp (opf_lt) (fe_var (pv 1)) (fe_int) (by rfl)) (fb_one (fs_set sc_fraction.nd rfl (by first | exact .inl rfl | exact .inr rfl) (fe_neg (fe_var (pv 2))))) (fb_nil)) (fb_one (fs_ret (fe_tup (fa_cons (fe_bin opf_fdiv (fe_var (pv 0)) (fe_var (pv 2))) (fa_cons (fe_bin opf_fdiv (fe_var (pv 1)) (fe_var (pv 2))) (fa_nil)))))))))
theorem ok_numbers_of (F : Facts K mg) : DefOk P w K mg base (L2.CX P w) 1 "numbers_of" 1 m_numbers_of := def_ok F.d_numbers_of sc_numbers_of rfl rfl fun f cdv A outer s H E hr =>
  (fb_cons (fs_set sc_numbers_of.nd rfl (by first | exact .inl rfl | exact .inr rfl) (fe_new (fn_lst (fa_cons (fe_ix (hu_of hr) (fe_var (pv 0)) (fe_int)) (fa_cons (fe_ix (hu_of hr) (fe_var (pv 0)) (fe_int)) (fa_nil)))))) (fb_cons (fs_for hpD rfl (fi_seq (fe_ix (hu_of hr) (fe_var (pv 0)) (fe_int))) (fg_name sc_numbers_of.nd rfl (by first | exact .inl rfl | exact .inr rfl)) (fb_one (fs_expr (fe_meth (me_extend) PySem.F.plainAttrs_list PySem.F.slot_list_extend PySem.F.type_list_extend (fe_var (pv 1)) (fa_cons (fe_frz (fn_callT bi_list (by rfl) F.n_list (by decide +kernel) (fa_cons (fe_var (pv 2)) (fa_nil)))) (fa_nil)))))) (fb_one (fs_ret (fe_var (pv 1))))))
theorem ok_shared_by (F : Facts K mg) : DefOk P w K mg base (L2.CX P w) 1 "shared_by" 2 m_shared_by := def_ok F.d_shared_by sc_shared_by rfl rfl fun f cdv A outer s H E hr =>
  (fb_cons (fs_while hpD (ft_cmp (opf_gt) (fe_var (pv 1)) (fe_int) (by rfl)) (fb_cons (fs_set sc_shared_by.nd rfl (by first | exact .inl rfl | exact .inr rfl) (fe_bin opf_mod (fe_var (pv 0)) (fe_var (pv 1)))) (fb_cons (fs_set sc_shared_by.nd rfl (by first | exact .inl rfl | exact .inr rfl) (fe_var (pv 1))) (fb_one (fs_set sc_shared_by.nd rfl (by first | exact .inl rfl | exact .inr rfl) (fe_var (pv 2))))))) (fb_one (fs_ret (fe_var (pv 0)))))
theorem ok_brought (F : Facts K mg) : DefOk P w K mg base (L2.CX P w) 3 "brought" 1 m_brought := def_ok F.d_brought sc_brought rfl rfl fun f cdv A outer s H E hr =>
  (fb_cons (fs_set sc_brought.nd rfl (by first | exact .inl rfl | exact .inr rfl) (fe_int)) (fb_cons (fs_for hpD rfl (fi_seq (fe_call (DefOk.mono (ok_numbers_of F) (by first | decide | omega)) hr (by rfl) hxD (fa_cons (fe_var (pv 0)) (fa_nil)))) (fg_name sc_brought.nd rfl (by first | exact .inl rfl | exact .inr rfl)) (fb_one (fs_set sc_brought.nd rfl (by first | exact .inl rfl | exact .inr rfl) (fe_bin opf_fdiv (fe_bin opf_mul (fe_var (pv 1)) (fe_ix (hu_of hr) (fe_var (pv 2)) (fe_int))) (fe_call (DefOk.mono (ok_shared_by F) (by first | decide | omega)) hr (by rfl) hxD (fa_cons (fe_var (pv 1)) (fa_cons (fe_ix (hu_of hr) (fe_var (pv 2)) (fe_int)) (fa_nil)))))))) (fb_cons (fs_set sc_brought.nd rfl (by first | exact .inl rfl | exact .inr rfl) (fe_int)) (fb_cons (fs_for hpD rfl (fi_seq (fe_call (DefOk.mono (ok_numbers_of F) (by first | decide | omega)) hr (by rfl) hxD (fa_cons (fe_var (pv 0)) (fa_nil)))) (fg_name sc_brought.nd rfl (by first | exact .inl rfl | exact .inr rfl)) (fb_one (fs_set sc_brought.nd rfl (by first | exact .inl rfl | exact .inr rfl) (fe_call (DefOk.mono (ok_shared_by F) (by first | decide | omega)) hr (by rfl) hxD (fa_cons (fe_var (pv 3)) (fa_cons (fe_bin opf_fdiv (fe_bin opf_mul (fe_callB bi_abs (by rfl) F.n_abs (by decide +kernel) (fa_cons (fe_ix (hu_of hr) (fe_var (pv 2)) (fe_int)) (fa_nil))) (fe_var (pv 1))) (fe_ix (hu_of hr) (fe_var (pv 2)) (fe_int))) (fa_nil))))))) (fb_cons (fs_set sc_brought.nd rfl (by first | exact .inl rfl | exact .inr rfl) (fe_new (fn_lst (fa_nil)))) (fb_cons (fs_for hpD rfl (fi_seq (fe_ix (hu_of hr) (fe_var (pv 0)) (fe_int))) (fg_name sc_brought.nd rfl (by first | exact .inl rfl | exact .inr rfl)) (fb_one (fs_expr (fe_meth (me_append) PySem.F.plainAttrs_list PySem.F.slot_list_append PySem.F.type_list_append (fe_var (pv 4)) (fa_cons (fe_callT bi_tuple (by rfl) F.n_tuple (by decide +kernel) (fa_cons (fe_frz (fn_comp rfl sc_brought.nd (fi_seq (fe_var (pv 5))) (blk_in (N := ["floor", "below", "number", "above", "rectangles", "rectangle", "width", "height"]) (sc := defScope s_brought) (own := [("number", 2)]) rfl rfl (by decide +kernel)) (fun _ _ _ _ _ => fg_name sc_brought.nd rfl (by first | exact .inl rfl | exact .inr rfl)) (by decide) (fun _ _ _ _ _ => fts_nil) (fun _ _ _ _ _ => fe_call (DefOk.mono (ok_fraction F) (by first | decide | omega)) hr (by rfl) hx0 (fa_cons (fe_bin opf_mul (fe_ix (hu_of hr) (fe_var (pv 2)) (fe_int)) (fe_var (pv 1))) (fa_cons (fe_bin opf_mul (fe_ix (hu_of hr) (fe_var (pv 2)) (fe_int)) (fe_var (pv 3))) (fa_nil)))))) (fa_nil))) (fa_nil)))))) (fb_cons (fs_set sc_brought.nd rfl (by first | exact .inl rfl | exact .inr rfl) (fe_call (DefOk.mono (ok_fraction F) (by first | decide | omega)) hr (by rfl) hxD (fa_cons (fe_bin opf_mul (fe_ix (hu_of hr) (fe_ix (hu_of hr) (fe_var (pv 0)) (fe_int)) (fe_int)) (fe_var (pv 1))) (fa_cons (fe_bin opf_mul (fe_ix (hu_of hr) (fe_ix (hu_of hr) (fe_var (pv 0)) (fe_int)) (fe_int)) (fe_var (pv 3))) (fa_nil))))) (fb_cons (fs_set sc_brought.nd rfl (by first | exact .inl rfl | exact .inr rfl) (fe_call (DefOk.mono (ok_fraction F) (by first | decide | omega)) hr (by rfl) hxD (fa_cons (fe_bin opf_mul (fe_ix (hu_of hr) (fe_ix (hu_of hr) (fe_var (pv 0)) (fe_int)) (fe_int)) (fe_var (pv 1))) (fa_cons (fe_bin opf_mul (fe_ix (hu_of hr) (fe_ix (hu_of hr) (fe_var (pv 0)) (fe_int)) (fe_int)) (fe_var (pv 3))) (fa_nil))))) (fb_one (fs_ret (fe_tup (fa_cons (fe_var (pv 6)) (fa_cons (fe_var (pv 7)) (fa_cons (fe_callT bi_tuple (by rfl) F.n_tuple (by decide +kernel) (fa_cons (fe_var (pv 4)) (fa_nil))) (fa_nil)))))))))))))))
theorem ok_law (F : Facts K mg) {f : Addr} {fd : FuncData} (F1 : L2.Fun K "law" "law" s_law f fd) : FnOk P w K mg base (L2.CX P w) 5 f fd ["_law_script"] (spM K mg 1 m_law) := fn_ok F1 sc_law fun cdv A outer s H E hr =>
  (fb_cons (fs_set sc_law.nd rfl (by first | exact .inl rfl | exact .inr rfl) (fe_call (DefOk.mono (ok_l_side F) (by first | decide | omega)) hr (by rfl) hxD (fa_cons (fe_call (DefOk.mono (ok_l_cell_at F) (by first | decide | omega)) hr (by rfl) hxD (fa_cons (fe_var (pv 0)) (fa_cons (fe_int) (fa_nil)))) (fa_nil)))) (fb_cons (fs_set sc_law.nd rfl (by first | exact .inl rfl | exact .inr rfl) (fe_call (DefOk.mono (ok_l_side F) (by first | decide | omega)) hr (by rfl) hxD (fa_cons (fe_call (DefOk.mono (ok_l_cell_at F) (by first | decide | omega)) hr (by rfl) hxD (fa_cons (fe_var (pv 0)) (fa_cons (fe_int) (fa_nil)))) (fa_nil)))) (fb_cons (fs_set sc_law.nd rfl (by first | exact .inl rfl | exact .inr rfl) (fe_call (DefOk.mono (ok_l_spoilt F) (by first | decide | omega)) hr (by rfl) hxD (fa_cons (fe_var (pv 0)) (fa_cons (fe_call (DefOk.mono (ok_l_built F) (by first | decide | omega)) hr (by rfl) hxD (fa_cons (fe_var (pv 0)) (fa_cons (fe_int) (fa_cons (fe_int) (fa_cons (fe_var (pv 1)) (fa_cons (fe_var (pv 2)) (fa_cons (fe_int) (fa_nil)))))))) (fa_nil))))) (fb_cons (fs_if (ft_cmp (opf_eq hr.units) (fe_bin opf_mod (fe_bin opf_fdiv (fe_call (DefOk.mono (ok_l_cell_at F) (by first | decide | omega)) hr (by rfl) hxD (fa_cons (fe_var (pv 0)) (fa_cons (fe_int) (fa_nil)))) (fe_int)) (fe_int)) (fe_int) (by rfl)) (fb_cons (fs_set sc_law.nd rfl (by first | exact .inl rfl | exact .inr rfl) (fe_bin opf_mod (fe_call (DefOk.mono (ok_l_cell_at F) (by first | decide | omega)) hr (by rfl) hxD (fa_cons (fe_var (pv 0)) (fa_cons (fe_int) (fa_nil)))) (fe_int))) (fb_one (fs_setComp rfl sc_law.nd rfl rfl (sw_true rfl rfl (by rfl) (by decide +kernel)) (fi_seq (fe_var (pv 3))) (blk_in (N := ["_law_script", "_law_wide", "_law_high", "_law_boxes", "_law_away", "_law_scale", "_law_floor", "_law_found", "_law_shared_here", "_law_a", "_law_b", "_law_box"]) (sc := defScope s_law) (own := [("_law_box", 11)]) rfl rfl (by decide +kernel)) (fun _ _ _ _ _ => fg_name sc_law.nd rfl (by first | exact .inl rfl | exact .inr rfl)) (by decide) (fun _ _ _ _ _ => fts_nil) (fun _ _ _ _ _ => fe_tup (fa_cons (fe_bin opf_sub (fe_ix (hu_of hr) (fe_var (pv 11)) (fe_int)) (fe_var (pv 4))) (fa_cons (fe_bin opf_sub (fe_ix (hu_of hr) (fe_var (pv 11)) (fe_int)) (fe_bin opf_mul (fe_int) (fe_var (pv 4)))) (fa_cons (fe_bin opf_sub (fe_ix (hu_of hr) (fe_var (pv 11)) (fe_int)) (fe_var (pv 4))) (fa_cons (fe_bin opf_sub (fe_ix (hu_of hr) (fe_var (pv 11)) (fe_int)) (fe_bin opf_mul (fe_int) (fe_var (pv 4)))) (fa_nil))))))))) (fb_nil)) (fb_cons (fs_if (ft_cmp (opf_eq hr.units) (fe_bin opf_mod (fe_bin opf_fdiv (fe_call (DefOk.mono (ok_l_cell_at F) (by first | decide | omega)) hr (by rfl) hxD (fa_cons (fe_var (pv 0)) (fa_cons (fe_int) (fa_nil)))) (fe_int)) (fe_int)) (fe_int) (by rfl)) (fb_one (fs_set sc_law.nd rfl (by first | exact .inl rfl | exact .inr rfl) (fe_frz (fn_lst (fa_nil))))) (fb_nil)) (fb_cons (fs_set sc_law.nd rfl (by first | exact .inl rfl | exact .inr rfl) (fe_call (DefOk.mono (ok_l_lowest F) (by first | decide | omega)) hr (by rfl) hxD (fa_cons (fe_bin opf_add (fe_int) (fe_bin opf_mod (fe_call (DefOk.mono (ok_l_cell_at F) (by first | decide | omega)) hr (by rfl) hxD (fa_cons (fe_var (pv 0)) (fa_cons (fe_int) (fa_nil)))) (fe_int))) (fa_cons (fe_bin opf_add (fe_int) (fe_bin opf_mod (fe_call (DefOk.mono (ok_l_cell_at F) (by first | decide | omega)) hr (by rfl) hxD (fa_cons (fe_var (pv 0)) (fa_cons (fe_int) (fa_nil)))) (fe_int))) (fa_nil))))) (fb_cons (fs_set sc_law.nd rfl (by first | exact .inl rfl | exact .inr rfl) (fe_call (DefOk.mono (ok_l_floor_of F) (by first | decide | omega)) hr (by rfl) hxD (fa_cons (fe_var (pv 3)) (fa_cons (fe_var (pv 1)) (fa_cons (fe_var (pv 2)) (fa_cons (fe_var (pv 5)) (fa_nil))))))) (fb_cons (fs_if (ft_cmp (opf_eq hr.units) (fe_bin opf_mod (fe_bin opf_fdiv (fe_call (DefOk.mono (ok_l_cell_at F) (by first | decide | omega)) hr (by rfl) hxD (fa_cons (fe_var (pv 0)) (fa_cons (fe_int) (fa_nil)))) (fe_int)) (fe_int)) (fe_int) (by rfl)) (fb_one (fs_set sc_law.nd rfl (by first | exact .inl rfl | exact .inr rfl) (fe_tup (fa_cons (fe_call (DefOk.mono (ok_l_lowest F) (by first | decide | omega)) hr (by rfl) hxD (fa_cons (fe_bin opf_add (fe_int) (fe_bin opf_mod (fe_call (DefOk.mono (ok_l_cell_at F) (by first | decide | omega)) hr (by rfl) hxD (fa_cons (fe_var (pv 0)) (fa_cons (fe_int) (fa_nil)))) (fe_int))) (fa_cons (fe_bin opf_add (fe_int) (fe_bin opf_mod (fe_call (DefOk.mono (ok_l_cell_at F) (by first | decide | omega)) hr (by rfl) hxD (fa_cons (fe_var (pv 0)) (fa_cons (fe_int) (fa_nil)))) (fe_int))) (fa_nil)))) (fa_cons (fe_ix (hu_of hr) (fe_var (pv 6)) (fe_int)) (fa_cons (fe_ix (hu_of hr) (fe_var (pv 6)) (fe_int)) (fa_nil))))))) (fb_nil)) (fb_cons (fs_set sc_law.nd rfl (by first | exact .inl rfl | exact .inr rfl) (fe_call (DefOk.mono (ok_brought F) (by first | decide | omega)) hr (by rfl) hxD (fa_cons (fe_var (pv 6)) (fa_nil)))) (fb_cons (fs_if (ft_not (ft_truth (fe_call (DefOk.mono (ok_l_formed F) (by first | decide | omega)) hr (by rfl) hxD (fa_cons (fe_var (pv 7)) (fa_cons (fe_callB bi_len (by rfl) F.n_len (by decide +kernel) (fa_cons (fe_var (pv 3)) (fa_nil))) (fa_nil)))))) (fb_one (fs_ret (fe_bl))) (fb_nil)) (fb_cons (fs_set sc_law.nd rfl (by first | exact .inl rfl | exact .inr rfl) (fe_int)) (fb_cons (fs_for hpD rfl (fi_zip (by rfl) F.n_zip (fa_cons (fe_call (DefOk.mono (ok_l_numbers F) (by first | decide | omega)) hr (by rfl) hxD (fa_cons (fe_var (pv 6)) (fa_nil))) (fa_cons (fe_call (DefOk.mono (ok_l_numbers F) (by first | decide | omega)) hr (by rfl) hxD (fa_cons (fe_var (pv 7)) (fa_nil))) (fa_nil)))) (fg_tup rfl (fgs_cons (fg_name sc_law.nd rfl (by first | exact .inl rfl | exact .inr rfl)) (fgs_cons (fg_name sc_law.nd rfl (by first | exact .inl rfl | exact .inr rfl)) (fgs_nil)))) (fb_cons (fs_if (ft_cmp (opf_ne hr.units) (fe_bin opf_mul (fe_bin opf_mul (fe_ix (hu_of hr) (fe_var (pv 10)) (fe_int)) (fe_ix (hu_of hr) (fe_ix (hu_of hr) (fe_var (pv 6)) (fe_int)) (fe_int))) (fe_ix (hu_of hr) (fe_var (pv 9)) (fe_int))) (fe_bin opf_mul (fe_bin opf_mul (fe_ix (hu_of hr) (fe_var (pv 9)) (fe_int)) (fe_ix (hu_of hr) (fe_ix (hu_of hr) (fe_var (pv 6)) (fe_int)) (fe_int))) (fe_ix (hu_of hr) (fe_ix (hu_of hr) (fe_var (pv 7)) (fe_int)) (fe_int))) (by rfl)) (fb_one (fs_ret (fe_bl))) (fb_nil)) (fb_one (fs_set sc_law.nd rfl (by first | exact .inl rfl | exact .inr rfl) (fe_call (DefOk.mono (ok_l_shared F) (by first | decide | omega)) hr (by rfl) hxD (fa_cons (fe_var (pv 8)) (fa_cons (fe_callB bi_abs (by rfl) F.n_abs (by decide +kernel) (fa_cons (fe_ix (hu_of hr) (fe_var (pv 10)) (fe_int)) (fa_nil))) (fa_nil)))))))) (fb_one (fs_ret (fe_cmp (opf_eq hr.units) (fe_var (pv 8)) (fe_int) (by rfl))))))))))))))))
end
end K50

namespace K50
open FL PySem
def cellv (ns : List Int) (k : Nat) : Int := ((if k < ns.length then ns.getD k 0 % 1000000000000000000 else 0) * 48271 + 16807 * k) % 2147483647 * 69621 % 2147483629
theorem cellv_nn (ns : List Int) (k : Nat) : 0 ≤ cellv ns k := by
  unfold cellv
  omega
theorem cellv_lt (ns : List Int) (k : Nat) : cellv ns k < 2147483629 := by
  unfold cellv
  omega
theorem get_D {ns : List Int} {k : Nat} (h : k < ns.length) : ns[k]? = some (ns.getD k 0) := by
  rw [List.getD_eq_getElem?_getD, List.getElem?_eq_getElem h]; rfl
def c3 : SM4 := sRet (eOp modD (eOp mulD (eOp modD (eOp addD (eOp mulD (eV 2) (eC (.int 48271))) (eOp mulD (eC (.int 16807)) (eV 1))) (eC (.int 2147483647))) (eC (.int 69621))) (eC (.int 2147483629)))
theorem cell_eq {ns : List Int} {k : Nat} {i : Int} {st : Sto} (hi : i = (k : Int)) (hk : k < 1000) : m_l_cell_at [.scr ns, .int i] st = .ok (.int (cellv ns k)) st := by
  subst hi
  have hb : b_l_cell_at = sSeq (sSet 2 (eC (.int 0))) (sSeq (sIf (asB (eOp ltD (eV 1) (eB lenB (aCons (eV 0) (aNil))))) (sSet 2 (eOp modD (eOp ixD (eV 0) (eV 1)) (eOp powD (eC (.int 10)) (eC (.int 18))))) (sNext)) c3) := rfl
  show fin true st (b_l_cell_at [some (.scr ns), some (.int k), none] st) = _
  rw [hb]
  have p18 : powD (.int 10) (.int 18) st = .ok (.int 1000000000000000000) st := rfl
  have tail : ∀ c : Int, 0 ≤ c → c < 1000000000000000000 → fin true st (c3 [some (.scr ns), some (.int k), some (.int c)] st) =
      .ok (.int ((c * 48271 + 16807 * k) % 2147483647 * 69621 % 2147483629)) st := by
    intro c c0 c1
    unfold c3
    simp only [aCons_o2, aCons_o1, aCons_ap, eTup_o1, eTup_ap, nLst_o1, nLst_ap, eFrz_o1, eFrz_ap, eNew_o1, eNew_ap, eOp_o2, eOp_o1, eOp_ap, tNotM_o1, tNotM_ap, sDrop_o1, sDrop_ap, sRet_o1, sRet_ap, sSet_o1, sSet_ap, sPut_o3, sPut_o2, sPut_o1, sPut_ap, nSl_o3, nSl_o2, nSl_o1, nSl_ap, eSl_o3, eSl_o2, eSl_o1, eSl_ap, nCat_o2, nCat_o1, nCat_ap, nRep_o2, nRep_o1, nRep_ap, sFor_o1, sFor_ap, nComp_o1, nComp_ap, eCall_o1, eCall_ap, rOne_o1, rOne_ap, rTwo_o2, rTwo_o1, rTwo_ap, iRevR_o1, iRevR_ap, nRng_o1, nRng_ap, iSeq_o1, iSeq_ap, iRev_o1, iRev_ap, eIsi_o1, eIsi_ap, eC_ap, aNil_ap, sNext_ap, sSeq_ap, sRetN_ap, tTru_ap, eUn_ap, eB_ap, nB_ap, noTest_ap, eDNew_ap, oNo_ap, gSet_ap, gsNil_ap, gsCons_ap, gsCons_o, gTupM_ap, sAsg_ap, sAsg_o1, sAsg_o2, sWhile_ap, asB_ap, asB_o, tAndM_ap, tAndM_t, tAndM_f, tOrM_ap, tOrM_t, tOrM_f, sIf_ap, sIf_t, sIf_f, eIf_ap, eIf_t, eIf_f, eAnd_ap, eAnd_o, eAnd_t, eAnd_f, eOr_ap, eOr_o, eOr_t, eOr_f, eNot_ap, eNot_o1, eNot_o2, oSome_ap, oSome_o, eChain_ap, eChain_o1, eChain_o2, eChain_t, eChain_f, eChain_o4, eChain3_ap, eChain3_o1, eChain3_o2, eChain3_t, eChain3_f, eChain3_o4, iEnum_ap, iZip_ap, eMt_ap, eMt_o2, isLst_lst, eTupRg_ap, eTupRg_o, ixt0, ixt1, ixt2, ixt3, ixt4, negD_i, slD_lst, eV_0, eV_s, Res.bind_ok, Res.bind_ex, Res.bind_bad, Res.on_ok, Res.on_ex, Res.on_bad, SRes.bind_nx, SRes.bind_rt, SRes.bind_ex, SRes.bind_bad, List.set_cons_zero, List.set_cons_succ, addD_i, subD_i, ltD_i, leD_i, gtD_i, geD_i, eqD_i, neD_i, lenB_scr, lenB_lst, lenB_tup, truD, tyD, Ty.le, isD, isntD, isNon, killE, List.foldl_cons, List.foldl_nil, List.length_cons, List.length_nil, Nat.reduceAdd, Nat.zero_add, Nat.reduceLeDiff, if_true, if_false, Bool.false_eq_true, Bool.not_true, Bool.not_false]
    rw [mulD_s ⟨by omega, by omega⟩ ⟨by omega, by omega⟩]
    simp only [aCons_o2, aCons_o1, aCons_ap, eTup_o1, eTup_ap, nLst_o1, nLst_ap, eFrz_o1, eFrz_ap, eNew_o1, eNew_ap, eOp_o2, eOp_o1, eOp_ap, tNotM_o1, tNotM_ap, sDrop_o1, sDrop_ap, sRet_o1, sRet_ap, sSet_o1, sSet_ap, sPut_o3, sPut_o2, sPut_o1, sPut_ap, nSl_o3, nSl_o2, nSl_o1, nSl_ap, eSl_o3, eSl_o2, eSl_o1, eSl_ap, nCat_o2, nCat_o1, nCat_ap, nRep_o2, nRep_o1, nRep_ap, sFor_o1, sFor_ap, nComp_o1, nComp_ap, eCall_o1, eCall_ap, rOne_o1, rOne_ap, rTwo_o2, rTwo_o1, rTwo_ap, iRevR_o1, iRevR_ap, nRng_o1, nRng_ap, iSeq_o1, iSeq_ap, iRev_o1, iRev_ap, eIsi_o1, eIsi_ap, eC_ap, aNil_ap, sNext_ap, sSeq_ap, sRetN_ap, tTru_ap, eUn_ap, eB_ap, nB_ap, noTest_ap, eDNew_ap, oNo_ap, gSet_ap, gsNil_ap, gsCons_ap, gsCons_o, gTupM_ap, sAsg_ap, sAsg_o1, sAsg_o2, sWhile_ap, asB_ap, asB_o, tAndM_ap, tAndM_t, tAndM_f, tOrM_ap, tOrM_t, tOrM_f, sIf_ap, sIf_t, sIf_f, eIf_ap, eIf_t, eIf_f, eAnd_ap, eAnd_o, eAnd_t, eAnd_f, eOr_ap, eOr_o, eOr_t, eOr_f, eNot_ap, eNot_o1, eNot_o2, oSome_ap, oSome_o, eChain_ap, eChain_o1, eChain_o2, eChain_t, eChain_f, eChain_o4, eChain3_ap, eChain3_o1, eChain3_o2, eChain3_t, eChain3_f, eChain3_o4, iEnum_ap, iZip_ap, eMt_ap, eMt_o2, isLst_lst, eTupRg_ap, eTupRg_o, ixt0, ixt1, ixt2, ixt3, ixt4, negD_i, slD_lst, eV_0, eV_s, Res.bind_ok, Res.bind_ex, Res.bind_bad, Res.on_ok, Res.on_ex, Res.on_bad, SRes.bind_nx, SRes.bind_rt, SRes.bind_ex, SRes.bind_bad, List.set_cons_zero, List.set_cons_succ, addD_i, subD_i, ltD_i, leD_i, gtD_i, geD_i, eqD_i, neD_i, lenB_scr, lenB_lst, lenB_tup, truD, tyD, Ty.le, isD, isntD, isNon, killE, List.foldl_cons, List.foldl_nil, List.length_cons, List.length_nil, Nat.reduceAdd, Nat.zero_add, Nat.reduceLeDiff, if_true, if_false, Bool.false_eq_true, Bool.not_true, Bool.not_false]
    rw [mulD_s ⟨by omega, by omega⟩ ⟨by omega, by omega⟩]
    simp only [aCons_o2, aCons_o1, aCons_ap, eTup_o1, eTup_ap, nLst_o1, nLst_ap, eFrz_o1, eFrz_ap, eNew_o1, eNew_ap, eOp_o2, eOp_o1, eOp_ap, tNotM_o1, tNotM_ap, sDrop_o1, sDrop_ap, sRet_o1, sRet_ap, sSet_o1, sSet_ap, sPut_o3, sPut_o2, sPut_o1, sPut_ap, nSl_o3, nSl_o2, nSl_o1, nSl_ap, eSl_o3, eSl_o2, eSl_o1, eSl_ap, nCat_o2, nCat_o1, nCat_ap, nRep_o2, nRep_o1, nRep_ap, sFor_o1, sFor_ap, nComp_o1, nComp_ap, eCall_o1, eCall_ap, rOne_o1, rOne_ap, rTwo_o2, rTwo_o1, rTwo_ap, iRevR_o1, iRevR_ap, nRng_o1, nRng_ap, iSeq_o1, iSeq_ap, iRev_o1, iRev_ap, eIsi_o1, eIsi_ap, eC_ap, aNil_ap, sNext_ap, sSeq_ap, sRetN_ap, tTru_ap, eUn_ap, eB_ap, nB_ap, noTest_ap, eDNew_ap, oNo_ap, gSet_ap, gsNil_ap, gsCons_ap, gsCons_o, gTupM_ap, sAsg_ap, sAsg_o1, sAsg_o2, sWhile_ap, asB_ap, asB_o, tAndM_ap, tAndM_t, tAndM_f, tOrM_ap, tOrM_t, tOrM_f, sIf_ap, sIf_t, sIf_f, eIf_ap, eIf_t, eIf_f, eAnd_ap, eAnd_o, eAnd_t, eAnd_f, eOr_ap, eOr_o, eOr_t, eOr_f, eNot_ap, eNot_o1, eNot_o2, oSome_ap, oSome_o, eChain_ap, eChain_o1, eChain_o2, eChain_t, eChain_f, eChain_o4, eChain3_ap, eChain3_o1, eChain3_o2, eChain3_t, eChain3_f, eChain3_o4, iEnum_ap, iZip_ap, eMt_ap, eMt_o2, isLst_lst, eTupRg_ap, eTupRg_o, ixt0, ixt1, ixt2, ixt3, ixt4, negD_i, slD_lst, eV_0, eV_s, Res.bind_ok, Res.bind_ex, Res.bind_bad, Res.on_ok, Res.on_ex, Res.on_bad, SRes.bind_nx, SRes.bind_rt, SRes.bind_ex, SRes.bind_bad, List.set_cons_zero, List.set_cons_succ, addD_i, subD_i, ltD_i, leD_i, gtD_i, geD_i, eqD_i, neD_i, lenB_scr, lenB_lst, lenB_tup, truD, tyD, Ty.le, isD, isntD, isNon, killE, List.foldl_cons, List.foldl_nil, List.length_cons, List.length_nil, Nat.reduceAdd, Nat.zero_add, Nat.reduceLeDiff, if_true, if_false, Bool.false_eq_true, Bool.not_true, Bool.not_false]
    rw [modD_i (by omega)]
    simp only [aCons_o2, aCons_o1, aCons_ap, eTup_o1, eTup_ap, nLst_o1, nLst_ap, eFrz_o1, eFrz_ap, eNew_o1, eNew_ap, eOp_o2, eOp_o1, eOp_ap, tNotM_o1, tNotM_ap, sDrop_o1, sDrop_ap, sRet_o1, sRet_ap, sSet_o1, sSet_ap, sPut_o3, sPut_o2, sPut_o1, sPut_ap, nSl_o3, nSl_o2, nSl_o1, nSl_ap, eSl_o3, eSl_o2, eSl_o1, eSl_ap, nCat_o2, nCat_o1, nCat_ap, nRep_o2, nRep_o1, nRep_ap, sFor_o1, sFor_ap, nComp_o1, nComp_ap, eCall_o1, eCall_ap, rOne_o1, rOne_ap, rTwo_o2, rTwo_o1, rTwo_ap, iRevR_o1, iRevR_ap, nRng_o1, nRng_ap, iSeq_o1, iSeq_ap, iRev_o1, iRev_ap, eIsi_o1, eIsi_ap, eC_ap, aNil_ap, sNext_ap, sSeq_ap, sRetN_ap, tTru_ap, eUn_ap, eB_ap, nB_ap, noTest_ap, eDNew_ap, oNo_ap, gSet_ap, gsNil_ap, gsCons_ap, gsCons_o, gTupM_ap, sAsg_ap, sAsg_o1, sAsg_o2, sWhile_ap, asB_ap, asB_o, tAndM_ap, tAndM_t, tAndM_f, tOrM_ap, tOrM_t, tOrM_f, sIf_ap, sIf_t, sIf_f, eIf_ap, eIf_t, eIf_f, eAnd_ap, eAnd_o, eAnd_t, eAnd_f, eOr_ap, eOr_o, eOr_t, eOr_f, eNot_ap, eNot_o1, eNot_o2, oSome_ap, oSome_o, eChain_ap, eChain_o1, eChain_o2, eChain_t, eChain_f, eChain_o4, eChain3_ap, eChain3_o1, eChain3_o2, eChain3_t, eChain3_f, eChain3_o4, iEnum_ap, iZip_ap, eMt_ap, eMt_o2, isLst_lst, eTupRg_ap, eTupRg_o, ixt0, ixt1, ixt2, ixt3, ixt4, negD_i, slD_lst, eV_0, eV_s, Res.bind_ok, Res.bind_ex, Res.bind_bad, Res.on_ok, Res.on_ex, Res.on_bad, SRes.bind_nx, SRes.bind_rt, SRes.bind_ex, SRes.bind_bad, List.set_cons_zero, List.set_cons_succ, addD_i, subD_i, ltD_i, leD_i, gtD_i, geD_i, eqD_i, neD_i, lenB_scr, lenB_lst, lenB_tup, truD, tyD, Ty.le, isD, isntD, isNon, killE, List.foldl_cons, List.foldl_nil, List.length_cons, List.length_nil, Nat.reduceAdd, Nat.zero_add, Nat.reduceLeDiff, if_true, if_false, Bool.false_eq_true, Bool.not_true, Bool.not_false]
    rw [mulD_s ⟨by omega, by omega⟩ ⟨by omega, by omega⟩]
    simp only [aCons_o2, aCons_o1, aCons_ap, eTup_o1, eTup_ap, nLst_o1, nLst_ap, eFrz_o1, eFrz_ap, eNew_o1, eNew_ap, eOp_o2, eOp_o1, eOp_ap, tNotM_o1, tNotM_ap, sDrop_o1, sDrop_ap, sRet_o1, sRet_ap, sSet_o1, sSet_ap, sPut_o3, sPut_o2, sPut_o1, sPut_ap, nSl_o3, nSl_o2, nSl_o1, nSl_ap, eSl_o3, eSl_o2, eSl_o1, eSl_ap, nCat_o2, nCat_o1, nCat_ap, nRep_o2, nRep_o1, nRep_ap, sFor_o1, sFor_ap, nComp_o1, nComp_ap, eCall_o1, eCall_ap, rOne_o1, rOne_ap, rTwo_o2, rTwo_o1, rTwo_ap, iRevR_o1, iRevR_ap, nRng_o1, nRng_ap, iSeq_o1, iSeq_ap, iRev_o1, iRev_ap, eIsi_o1, eIsi_ap, eC_ap, aNil_ap, sNext_ap, sSeq_ap, sRetN_ap, tTru_ap, eUn_ap, eB_ap, nB_ap, noTest_ap, eDNew_ap, oNo_ap, gSet_ap, gsNil_ap, gsCons_ap, gsCons_o, gTupM_ap, sAsg_ap, sAsg_o1, sAsg_o2, sWhile_ap, asB_ap, asB_o, tAndM_ap, tAndM_t, tAndM_f, tOrM_ap, tOrM_t, tOrM_f, sIf_ap, sIf_t, sIf_f, eIf_ap, eIf_t, eIf_f, eAnd_ap, eAnd_o, eAnd_t, eAnd_f, eOr_ap, eOr_o, eOr_t, eOr_f, eNot_ap, eNot_o1, eNot_o2, oSome_ap, oSome_o, eChain_ap, eChain_o1, eChain_o2, eChain_t, eChain_f, eChain_o4, eChain3_ap, eChain3_o1, eChain3_o2, eChain3_t, eChain3_f, eChain3_o4, iEnum_ap, iZip_ap, eMt_ap, eMt_o2, isLst_lst, eTupRg_ap, eTupRg_o, ixt0, ixt1, ixt2, ixt3, ixt4, negD_i, slD_lst, eV_0, eV_s, Res.bind_ok, Res.bind_ex, Res.bind_bad, Res.on_ok, Res.on_ex, Res.on_bad, SRes.bind_nx, SRes.bind_rt, SRes.bind_ex, SRes.bind_bad, List.set_cons_zero, List.set_cons_succ, addD_i, subD_i, ltD_i, leD_i, gtD_i, geD_i, eqD_i, neD_i, lenB_scr, lenB_lst, lenB_tup, truD, tyD, Ty.le, isD, isntD, isNon, killE, List.foldl_cons, List.foldl_nil, List.length_cons, List.length_nil, Nat.reduceAdd, Nat.zero_add, Nat.reduceLeDiff, if_true, if_false, Bool.false_eq_true, Bool.not_true, Bool.not_false]
    rw [modD_i (by omega)]
    simp only [aCons_o2, aCons_o1, aCons_ap, eTup_o1, eTup_ap, nLst_o1, nLst_ap, eFrz_o1, eFrz_ap, eNew_o1, eNew_ap, eOp_o2, eOp_o1, eOp_ap, tNotM_o1, tNotM_ap, sDrop_o1, sDrop_ap, sRet_o1, sRet_ap, sSet_o1, sSet_ap, sPut_o3, sPut_o2, sPut_o1, sPut_ap, nSl_o3, nSl_o2, nSl_o1, nSl_ap, eSl_o3, eSl_o2, eSl_o1, eSl_ap, nCat_o2, nCat_o1, nCat_ap, nRep_o2, nRep_o1, nRep_ap, sFor_o1, sFor_ap, nComp_o1, nComp_ap, eCall_o1, eCall_ap, rOne_o1, rOne_ap, rTwo_o2, rTwo_o1, rTwo_ap, iRevR_o1, iRevR_ap, nRng_o1, nRng_ap, iSeq_o1, iSeq_ap, iRev_o1, iRev_ap, eIsi_o1, eIsi_ap, eC_ap, aNil_ap, sNext_ap, sSeq_ap, sRetN_ap, tTru_ap, eUn_ap, eB_ap, nB_ap, noTest_ap, eDNew_ap, oNo_ap, gSet_ap, gsNil_ap, gsCons_ap, gsCons_o, gTupM_ap, sAsg_ap, sAsg_o1, sAsg_o2, sWhile_ap, asB_ap, asB_o, tAndM_ap, tAndM_t, tAndM_f, tOrM_ap, tOrM_t, tOrM_f, sIf_ap, sIf_t, sIf_f, eIf_ap, eIf_t, eIf_f, eAnd_ap, eAnd_o, eAnd_t, eAnd_f, eOr_ap, eOr_o, eOr_t, eOr_f, eNot_ap, eNot_o1, eNot_o2, oSome_ap, oSome_o, eChain_ap, eChain_o1, eChain_o2, eChain_t, eChain_f, eChain_o4, eChain3_ap, eChain3_o1, eChain3_o2, eChain3_t, eChain3_f, eChain3_o4, iEnum_ap, iZip_ap, eMt_ap, eMt_o2, isLst_lst, eTupRg_ap, eTupRg_o, ixt0, ixt1, ixt2, ixt3, ixt4, negD_i, slD_lst, eV_0, eV_s, Res.bind_ok, Res.bind_ex, Res.bind_bad, Res.on_ok, Res.on_ex, Res.on_bad, SRes.bind_nx, SRes.bind_rt, SRes.bind_ex, SRes.bind_bad, List.set_cons_zero, List.set_cons_succ, addD_i, subD_i, ltD_i, leD_i, gtD_i, geD_i, eqD_i, neD_i, lenB_scr, lenB_lst, lenB_tup, truD, tyD, Ty.le, isD, isntD, isNon, killE, List.foldl_cons, List.foldl_nil, List.length_cons, List.length_nil, Nat.reduceAdd, Nat.zero_add, Nat.reduceLeDiff, if_true, if_false, Bool.false_eq_true, Bool.not_true, Bool.not_false]
    exact fin_rt rfl
  unfold cellv
  simp only [aCons_o2, aCons_o1, aCons_ap, eTup_o1, eTup_ap, nLst_o1, nLst_ap, eFrz_o1, eFrz_ap, eNew_o1, eNew_ap, eOp_o2, eOp_o1, eOp_ap, tNotM_o1, tNotM_ap, sDrop_o1, sDrop_ap, sRet_o1, sRet_ap, sSet_o1, sSet_ap, sPut_o3, sPut_o2, sPut_o1, sPut_ap, nSl_o3, nSl_o2, nSl_o1, nSl_ap, eSl_o3, eSl_o2, eSl_o1, eSl_ap, nCat_o2, nCat_o1, nCat_ap, nRep_o2, nRep_o1, nRep_ap, sFor_o1, sFor_ap, nComp_o1, nComp_ap, eCall_o1, eCall_ap, rOne_o1, rOne_ap, rTwo_o2, rTwo_o1, rTwo_ap, iRevR_o1, iRevR_ap, nRng_o1, nRng_ap, iSeq_o1, iSeq_ap, iRev_o1, iRev_ap, eIsi_o1, eIsi_ap, eC_ap, aNil_ap, sNext_ap, sSeq_ap, sRetN_ap, tTru_ap, eUn_ap, eB_ap, nB_ap, noTest_ap, eDNew_ap, oNo_ap, gSet_ap, gsNil_ap, gsCons_ap, gsCons_o, gTupM_ap, sAsg_ap, sAsg_o1, sAsg_o2, sWhile_ap, asB_ap, asB_o, tAndM_ap, tAndM_t, tAndM_f, tOrM_ap, tOrM_t, tOrM_f, sIf_ap, sIf_t, sIf_f, eIf_ap, eIf_t, eIf_f, eAnd_ap, eAnd_o, eAnd_t, eAnd_f, eOr_ap, eOr_o, eOr_t, eOr_f, eNot_ap, eNot_o1, eNot_o2, oSome_ap, oSome_o, eChain_ap, eChain_o1, eChain_o2, eChain_t, eChain_f, eChain_o4, eChain3_ap, eChain3_o1, eChain3_o2, eChain3_t, eChain3_f, eChain3_o4, iEnum_ap, iZip_ap, eMt_ap, eMt_o2, isLst_lst, eTupRg_ap, eTupRg_o, ixt0, ixt1, ixt2, ixt3, ixt4, negD_i, slD_lst, eV_0, eV_s, Res.bind_ok, Res.bind_ex, Res.bind_bad, Res.on_ok, Res.on_ex, Res.on_bad, SRes.bind_nx, SRes.bind_rt, SRes.bind_ex, SRes.bind_bad, List.set_cons_zero, List.set_cons_succ, addD_i, subD_i, ltD_i, leD_i, gtD_i, geD_i, eqD_i, neD_i, lenB_scr, lenB_lst, lenB_tup, truD, tyD, Ty.le, isD, isntD, isNon, killE, List.foldl_cons, List.foldl_nil, List.length_cons, List.length_nil, Nat.reduceAdd, Nat.zero_add, Nat.reduceLeDiff, if_true, if_false, Bool.false_eq_true, Bool.not_true, Bool.not_false]
  by_cases hk2 : k < ns.length
  · have e0 : decide ((k : Int) < (ns.length : Int)) = true := decide_eq_true (by omega)
    simp only [e0, if_pos hk2, aCons_o2, aCons_o1, aCons_ap, eTup_o1, eTup_ap, nLst_o1, nLst_ap, eFrz_o1, eFrz_ap, eNew_o1, eNew_ap, eOp_o2, eOp_o1, eOp_ap, tNotM_o1, tNotM_ap, sDrop_o1, sDrop_ap, sRet_o1, sRet_ap, sSet_o1, sSet_ap, sPut_o3, sPut_o2, sPut_o1, sPut_ap, nSl_o3, nSl_o2, nSl_o1, nSl_ap, eSl_o3, eSl_o2, eSl_o1, eSl_ap, nCat_o2, nCat_o1, nCat_ap, nRep_o2, nRep_o1, nRep_ap, sFor_o1, sFor_ap, nComp_o1, nComp_ap, eCall_o1, eCall_ap, rOne_o1, rOne_ap, rTwo_o2, rTwo_o1, rTwo_ap, iRevR_o1, iRevR_ap, nRng_o1, nRng_ap, iSeq_o1, iSeq_ap, iRev_o1, iRev_ap, eIsi_o1, eIsi_ap, eC_ap, aNil_ap, sNext_ap, sSeq_ap, sRetN_ap, tTru_ap, eUn_ap, eB_ap, nB_ap, noTest_ap, eDNew_ap, oNo_ap, gSet_ap, gsNil_ap, gsCons_ap, gsCons_o, gTupM_ap, sAsg_ap, sAsg_o1, sAsg_o2, sWhile_ap, asB_ap, asB_o, tAndM_ap, tAndM_t, tAndM_f, tOrM_ap, tOrM_t, tOrM_f, sIf_ap, sIf_t, sIf_f, eIf_ap, eIf_t, eIf_f, eAnd_ap, eAnd_o, eAnd_t, eAnd_f, eOr_ap, eOr_o, eOr_t, eOr_f, eNot_ap, eNot_o1, eNot_o2, oSome_ap, oSome_o, eChain_ap, eChain_o1, eChain_o2, eChain_t, eChain_f, eChain_o4, eChain3_ap, eChain3_o1, eChain3_o2, eChain3_t, eChain3_f, eChain3_o4, iEnum_ap, iZip_ap, eMt_ap, eMt_o2, isLst_lst, eTupRg_ap, eTupRg_o, ixt0, ixt1, ixt2, ixt3, ixt4, negD_i, slD_lst, eV_0, eV_s, Res.bind_ok, Res.bind_ex, Res.bind_bad, Res.on_ok, Res.on_ex, Res.on_bad, SRes.bind_nx, SRes.bind_rt, SRes.bind_ex, SRes.bind_bad, List.set_cons_zero, List.set_cons_succ, addD_i, subD_i, ltD_i, leD_i, gtD_i, geD_i, eqD_i, neD_i, lenB_scr, lenB_lst, lenB_tup, truD, tyD, Ty.le, isD, isntD, isNon, killE, List.foldl_cons, List.foldl_nil, List.length_cons, List.length_nil, Nat.reduceAdd, Nat.zero_add, Nat.reduceLeDiff, if_true, if_false, Bool.false_eq_true, Bool.not_true, Bool.not_false]
    rw [ixD_scr (by omega) (show ns[(k : Int).toNat]? = some (ns.getD k 0) by simpa using get_D hk2)]
    simp only [p18, aCons_o2, aCons_o1, aCons_ap, eTup_o1, eTup_ap, nLst_o1, nLst_ap, eFrz_o1, eFrz_ap, eNew_o1, eNew_ap, eOp_o2, eOp_o1, eOp_ap, tNotM_o1, tNotM_ap, sDrop_o1, sDrop_ap, sRet_o1, sRet_ap, sSet_o1, sSet_ap, sPut_o3, sPut_o2, sPut_o1, sPut_ap, nSl_o3, nSl_o2, nSl_o1, nSl_ap, eSl_o3, eSl_o2, eSl_o1, eSl_ap, nCat_o2, nCat_o1, nCat_ap, nRep_o2, nRep_o1, nRep_ap, sFor_o1, sFor_ap, nComp_o1, nComp_ap, eCall_o1, eCall_ap, rOne_o1, rOne_ap, rTwo_o2, rTwo_o1, rTwo_ap, iRevR_o1, iRevR_ap, nRng_o1, nRng_ap, iSeq_o1, iSeq_ap, iRev_o1, iRev_ap, eIsi_o1, eIsi_ap, eC_ap, aNil_ap, sNext_ap, sSeq_ap, sRetN_ap, tTru_ap, eUn_ap, eB_ap, nB_ap, noTest_ap, eDNew_ap, oNo_ap, gSet_ap, gsNil_ap, gsCons_ap, gsCons_o, gTupM_ap, sAsg_ap, sAsg_o1, sAsg_o2, sWhile_ap, asB_ap, asB_o, tAndM_ap, tAndM_t, tAndM_f, tOrM_ap, tOrM_t, tOrM_f, sIf_ap, sIf_t, sIf_f, eIf_ap, eIf_t, eIf_f, eAnd_ap, eAnd_o, eAnd_t, eAnd_f, eOr_ap, eOr_o, eOr_t, eOr_f, eNot_ap, eNot_o1, eNot_o2, oSome_ap, oSome_o, eChain_ap, eChain_o1, eChain_o2, eChain_t, eChain_f, eChain_o4, eChain3_ap, eChain3_o1, eChain3_o2, eChain3_t, eChain3_f, eChain3_o4, iEnum_ap, iZip_ap, eMt_ap, eMt_o2, isLst_lst, eTupRg_ap, eTupRg_o, ixt0, ixt1, ixt2, ixt3, ixt4, negD_i, slD_lst, eV_0, eV_s, Res.bind_ok, Res.bind_ex, Res.bind_bad, Res.on_ok, Res.on_ex, Res.on_bad, SRes.bind_nx, SRes.bind_rt, SRes.bind_ex, SRes.bind_bad, List.set_cons_zero, List.set_cons_succ, addD_i, subD_i, ltD_i, leD_i, gtD_i, geD_i, eqD_i, neD_i, lenB_scr, lenB_lst, lenB_tup, truD, tyD, Ty.le, isD, isntD, isNon, killE, List.foldl_cons, List.foldl_nil, List.length_cons, List.length_nil, Nat.reduceAdd, Nat.zero_add, Nat.reduceLeDiff, if_true, if_false, Bool.false_eq_true, Bool.not_true, Bool.not_false]
    rw [modD_i (by omega)]
    simp only [aCons_o2, aCons_o1, aCons_ap, eTup_o1, eTup_ap, nLst_o1, nLst_ap, eFrz_o1, eFrz_ap, eNew_o1, eNew_ap, eOp_o2, eOp_o1, eOp_ap, tNotM_o1, tNotM_ap, sDrop_o1, sDrop_ap, sRet_o1, sRet_ap, sSet_o1, sSet_ap, sPut_o3, sPut_o2, sPut_o1, sPut_ap, nSl_o3, nSl_o2, nSl_o1, nSl_ap, eSl_o3, eSl_o2, eSl_o1, eSl_ap, nCat_o2, nCat_o1, nCat_ap, nRep_o2, nRep_o1, nRep_ap, sFor_o1, sFor_ap, nComp_o1, nComp_ap, eCall_o1, eCall_ap, rOne_o1, rOne_ap, rTwo_o2, rTwo_o1, rTwo_ap, iRevR_o1, iRevR_ap, nRng_o1, nRng_ap, iSeq_o1, iSeq_ap, iRev_o1, iRev_ap, eIsi_o1, eIsi_ap, eC_ap, aNil_ap, sNext_ap, sSeq_ap, sRetN_ap, tTru_ap, eUn_ap, eB_ap, nB_ap, noTest_ap, eDNew_ap, oNo_ap, gSet_ap, gsNil_ap, gsCons_ap, gsCons_o, gTupM_ap, sAsg_ap, sAsg_o1, sAsg_o2, sWhile_ap, asB_ap, asB_o, tAndM_ap, tAndM_t, tAndM_f, tOrM_ap, tOrM_t, tOrM_f, sIf_ap, sIf_t, sIf_f, eIf_ap, eIf_t, eIf_f, eAnd_ap, eAnd_o, eAnd_t, eAnd_f, eOr_ap, eOr_o, eOr_t, eOr_f, eNot_ap, eNot_o1, eNot_o2, oSome_ap, oSome_o, eChain_ap, eChain_o1, eChain_o2, eChain_t, eChain_f, eChain_o4, eChain3_ap, eChain3_o1, eChain3_o2, eChain3_t, eChain3_f, eChain3_o4, iEnum_ap, iZip_ap, eMt_ap, eMt_o2, isLst_lst, eTupRg_ap, eTupRg_o, ixt0, ixt1, ixt2, ixt3, ixt4, negD_i, slD_lst, eV_0, eV_s, Res.bind_ok, Res.bind_ex, Res.bind_bad, Res.on_ok, Res.on_ex, Res.on_bad, SRes.bind_nx, SRes.bind_rt, SRes.bind_ex, SRes.bind_bad, List.set_cons_zero, List.set_cons_succ, addD_i, subD_i, ltD_i, leD_i, gtD_i, geD_i, eqD_i, neD_i, lenB_scr, lenB_lst, lenB_tup, truD, tyD, Ty.le, isD, isntD, isNon, killE, List.foldl_cons, List.foldl_nil, List.length_cons, List.length_nil, Nat.reduceAdd, Nat.zero_add, Nat.reduceLeDiff, if_true, if_false, Bool.false_eq_true, Bool.not_true, Bool.not_false]
    exact tail _ (by omega) (by omega)
  · have e0 : decide ((k : Int) < (ns.length : Int)) = false := decide_eq_false (by omega)
    simp only [e0, if_neg hk2, aCons_o2, aCons_o1, aCons_ap, eTup_o1, eTup_ap, nLst_o1, nLst_ap, eFrz_o1, eFrz_ap, eNew_o1, eNew_ap, eOp_o2, eOp_o1, eOp_ap, tNotM_o1, tNotM_ap, sDrop_o1, sDrop_ap, sRet_o1, sRet_ap, sSet_o1, sSet_ap, sPut_o3, sPut_o2, sPut_o1, sPut_ap, nSl_o3, nSl_o2, nSl_o1, nSl_ap, eSl_o3, eSl_o2, eSl_o1, eSl_ap, nCat_o2, nCat_o1, nCat_ap, nRep_o2, nRep_o1, nRep_ap, sFor_o1, sFor_ap, nComp_o1, nComp_ap, eCall_o1, eCall_ap, rOne_o1, rOne_ap, rTwo_o2, rTwo_o1, rTwo_ap, iRevR_o1, iRevR_ap, nRng_o1, nRng_ap, iSeq_o1, iSeq_ap, iRev_o1, iRev_ap, eIsi_o1, eIsi_ap, eC_ap, aNil_ap, sNext_ap, sSeq_ap, sRetN_ap, tTru_ap, eUn_ap, eB_ap, nB_ap, noTest_ap, eDNew_ap, oNo_ap, gSet_ap, gsNil_ap, gsCons_ap, gsCons_o, gTupM_ap, sAsg_ap, sAsg_o1, sAsg_o2, sWhile_ap, asB_ap, asB_o, tAndM_ap, tAndM_t, tAndM_f, tOrM_ap, tOrM_t, tOrM_f, sIf_ap, sIf_t, sIf_f, eIf_ap, eIf_t, eIf_f, eAnd_ap, eAnd_o, eAnd_t, eAnd_f, eOr_ap, eOr_o, eOr_t, eOr_f, eNot_ap, eNot_o1, eNot_o2, oSome_ap, oSome_o, eChain_ap, eChain_o1, eChain_o2, eChain_t, eChain_f, eChain_o4, eChain3_ap, eChain3_o1, eChain3_o2, eChain3_t, eChain3_f, eChain3_o4, iEnum_ap, iZip_ap, eMt_ap, eMt_o2, isLst_lst, eTupRg_ap, eTupRg_o, ixt0, ixt1, ixt2, ixt3, ixt4, negD_i, slD_lst, eV_0, eV_s, Res.bind_ok, Res.bind_ex, Res.bind_bad, Res.on_ok, Res.on_ex, Res.on_bad, SRes.bind_nx, SRes.bind_rt, SRes.bind_ex, SRes.bind_bad, List.set_cons_zero, List.set_cons_succ, addD_i, subD_i, ltD_i, leD_i, gtD_i, geD_i, eqD_i, neD_i, lenB_scr, lenB_lst, lenB_tup, truD, tyD, Ty.le, isD, isntD, isNon, killE, List.foldl_cons, List.foldl_nil, List.length_cons, List.length_nil, Nat.reduceAdd, Nat.zero_add, Nat.reduceLeDiff, if_true, if_false, Bool.false_eq_true, Bool.not_true, Bool.not_false]
    exact tail 0 (by omega) (by omega)
abbrev Box := Int × Int × Int × Int
def bxD (b : Box) : D := .tup [.int b.1, .int b.2.1, .int b.2.2.1, .int b.2.2.2]
def twoP (lo hi c : Int) : Int × Int := (lo + 1 + c % (hi - lo - 2), lo + 1 + c % (hi - lo - 2) + 1 + c / 7 % (hi - (lo + 1 + c % (hi - lo - 2)) - 1))
def wheelP (b : Box) (x y : Int × Int) (way : Int) : List Box :=
  (if way = 0 then [(b.1, b.2.1, x.2, y.1), (x.2, b.2.1, b.2.2.1, y.2), (x.1, y.2, b.2.2.1, b.2.2.2), (b.1, y.1, x.1, b.2.2.2)]
    else [(x.1, b.2.1, b.2.2.1, y.1), (x.2, y.1, b.2.2.1, b.2.2.2), (b.1, y.2, x.2, b.2.2.2), (b.1, b.2.1, x.1, y.2)]) ++ [(x.1, y.1, x.2, y.2)]
def brokenP (b : Box) (c : Int) : List Box :=
  if c % 5 = 4 ∧ 2 < b.2.2.1 - b.1 ∧ 2 < b.2.2.2 - b.2.1 then wheelP b (twoP b.1 b.2.2.1 (c / 5 / 2)) (twoP b.2.1 b.2.2.2 (c / 5 / 3)) (c / 5 % 2)
  else if c % 5 % 2 = 0 ∧ 1 < b.2.2.1 - b.1 then [(b.1, b.2.1, b.1 + 1 + c / 5 % (b.2.2.1 - b.1 - 1), b.2.2.2), (b.1 + 1 + c / 5 % (b.2.2.1 - b.1 - 1), b.2.1, b.2.2.1, b.2.2.2)]
  else if 1 < b.2.2.2 - b.2.1 then [(b.1, b.2.1, b.2.2.1, b.2.1 + 1 + c / 5 % (b.2.2.2 - b.2.1 - 1)), (b.1, b.2.1 + 1 + c / 5 % (b.2.2.2 - b.2.1 - 1), b.2.2.1, b.2.2.2)]
  else [b]
theorem two_eq {lo hi c : Int} {st : Sto} (h : 2 < hi - lo) : m_l_two [.int lo, .int hi, .int c] st = .ok (.tup [.int (twoP lo hi c).1, .int (twoP lo hi c).2]) st := by
  show fin true st (b_l_two [some (.int lo), some (.int hi), some (.int c), none] st) = _
  unfold b_l_two twoP
  have h1 : 0 ≤ c % (hi - lo - 2) := Int.emod_nonneg _ (by omega)
  have h2 : c % (hi - lo - 2) < hi - lo - 2 := Int.emod_lt_of_pos _ (by omega)
  have h3 : 0 < hi - lo - 2 := by omega
  generalize hz : c % (hi - lo - 2) = z at h1 h2
  have h4 : 0 < hi - (lo + 1 + z) - 1 := by omega
  have h7 : ∀ st, fdivD (.int c) (.int 7) st = .ok (.int (c / 7)) st := fun st => fdivD_i (by omega) (by decide)
  simp only [modD_i h3, hz, h7, modD_i h4, aCons_o2, aCons_o1, aCons_ap, eTup_o1, eTup_ap, nLst_o1, nLst_ap, eFrz_o1, eFrz_ap, eNew_o1, eNew_ap, eOp_o2, eOp_o1, eOp_ap, tNotM_o1, tNotM_ap, sDrop_o1, sDrop_ap, sRet_o1, sRet_ap, sSet_o1, sSet_ap, sPut_o3, sPut_o2, sPut_o1, sPut_ap, nSl_o3, nSl_o2, nSl_o1, nSl_ap, eSl_o3, eSl_o2, eSl_o1, eSl_ap, nCat_o2, nCat_o1, nCat_ap, nRep_o2, nRep_o1, nRep_ap, sFor_o1, sFor_ap, nComp_o1, nComp_ap, eCall_o1, eCall_ap, rOne_o1, rOne_ap, rTwo_o2, rTwo_o1, rTwo_ap, iRevR_o1, iRevR_ap, nRng_o1, nRng_ap, iSeq_o1, iSeq_ap, iRev_o1, iRev_ap, eIsi_o1, eIsi_ap, eC_ap, aNil_ap, sNext_ap, sSeq_ap, sRetN_ap, tTru_ap, eUn_ap, eB_ap, nB_ap, noTest_ap, eDNew_ap, oNo_ap, gSet_ap, gsNil_ap, gsCons_ap, gsCons_o, gTupM_ap, sAsg_ap, sAsg_o1, sAsg_o2, sWhile_ap, asB_ap, asB_o, tAndM_ap, tAndM_t, tAndM_f, tOrM_ap, tOrM_t, tOrM_f, sIf_ap, sIf_t, sIf_f, eIf_ap, eIf_t, eIf_f, eAnd_ap, eAnd_o, eAnd_t, eAnd_f, eOr_ap, eOr_o, eOr_t, eOr_f, eNot_ap, eNot_o1, eNot_o2, oSome_ap, oSome_o, eChain_ap, eChain_o1, eChain_o2, eChain_t, eChain_f, eChain_o4, eChain3_ap, eChain3_o1, eChain3_o2, eChain3_t, eChain3_f, eChain3_o4, iEnum_ap, iZip_ap, eMt_ap, eMt_o2, isLst_lst, eTupRg_ap, eTupRg_o, ixt0, ixt1, ixt2, ixt3, ixt4, negD_i, slD_lst, eV_0, eV_s, Res.bind_ok, Res.bind_ex, Res.bind_bad, Res.on_ok, Res.on_ex, Res.on_bad, SRes.bind_nx, SRes.bind_rt, SRes.bind_ex, SRes.bind_bad, List.set_cons_zero, List.set_cons_succ, addD_i, subD_i, ltD_i, leD_i, gtD_i, geD_i, eqD_i, neD_i, lenB_scr, lenB_lst, lenB_tup, truD, tyD, Ty.le, isD, isntD, isNon, killE, List.foldl_cons, List.foldl_nil, List.length_cons, List.length_nil, Nat.reduceAdd, Nat.zero_add, Nat.reduceLeDiff, if_true, if_false, Bool.false_eq_true, Bool.not_true, Bool.not_false]
  exact fin_rt rfl
theorem wheel_eq {b : Box} {x y : Int × Int} {way : Int} {st : Sto} : m_l_wheel [bxD b, .tup [.int x.1, .int x.2], .tup [.int y.1, .int y.2], .int way] st = .ok (.lst ((wheelP b x y way).map bxD)) st := by
  show fin true st (b_l_wheel [some (bxD b), some (.tup [.int x.1, .int x.2]), some (.tup [.int y.1, .int y.2]), some (.int way), none, none, none, none, none] st) = _
  unfold b_l_wheel wheelP bxD
  simp only [aCons_o2, aCons_o1, aCons_ap, eTup_o1, eTup_ap, nLst_o1, nLst_ap, eFrz_o1, eFrz_ap, eNew_o1, eNew_ap, eOp_o2, eOp_o1, eOp_ap, tNotM_o1, tNotM_ap, sDrop_o1, sDrop_ap, sRet_o1, sRet_ap, sSet_o1, sSet_ap, sPut_o3, sPut_o2, sPut_o1, sPut_ap, nSl_o3, nSl_o2, nSl_o1, nSl_ap, eSl_o3, eSl_o2, eSl_o1, eSl_ap, nCat_o2, nCat_o1, nCat_ap, nRep_o2, nRep_o1, nRep_ap, sFor_o1, sFor_ap, nComp_o1, nComp_ap, eCall_o1, eCall_ap, rOne_o1, rOne_ap, rTwo_o2, rTwo_o1, rTwo_ap, iRevR_o1, iRevR_ap, nRng_o1, nRng_ap, iSeq_o1, iSeq_ap, iRev_o1, iRev_ap, eIsi_o1, eIsi_ap, eC_ap, aNil_ap, sNext_ap, sSeq_ap, sRetN_ap, tTru_ap, eUn_ap, eB_ap, nB_ap, noTest_ap, eDNew_ap, oNo_ap, gSet_ap, gsNil_ap, gsCons_ap, gsCons_o, gTupM_ap, sAsg_ap, sAsg_o1, sAsg_o2, sWhile_ap, asB_ap, asB_o, tAndM_ap, tAndM_t, tAndM_f, tOrM_ap, tOrM_t, tOrM_f, sIf_ap, sIf_t, sIf_f, eIf_ap, eIf_t, eIf_f, eAnd_ap, eAnd_o, eAnd_t, eAnd_f, eOr_ap, eOr_o, eOr_t, eOr_f, eNot_ap, eNot_o1, eNot_o2, oSome_ap, oSome_o, eChain_ap, eChain_o1, eChain_o2, eChain_t, eChain_f, eChain_o4, eChain3_ap, eChain3_o1, eChain3_o2, eChain3_t, eChain3_f, eChain3_o4, iEnum_ap, iZip_ap, eMt_ap, eMt_o2, isLst_lst, eTupRg_ap, eTupRg_o, ixt0, ixt1, ixt2, ixt3, ixt4, negD_i, slD_lst, eV_0, eV_s, Res.bind_ok, Res.bind_ex, Res.bind_bad, Res.on_ok, Res.on_ex, Res.on_bad, SRes.bind_nx, SRes.bind_rt, SRes.bind_ex, SRes.bind_bad, List.set_cons_zero, List.set_cons_succ, addD_i, subD_i, ltD_i, leD_i, gtD_i, geD_i, eqD_i, neD_i, lenB_scr, lenB_lst, lenB_tup, truD, tyD, Ty.le, isD, isntD, isNon, killE, List.foldl_cons, List.foldl_nil, List.length_cons, List.length_nil, Nat.reduceAdd, Nat.zero_add, Nat.reduceLeDiff, if_true, if_false, Bool.false_eq_true, Bool.not_true, Bool.not_false]
  by_cases h : way = 0
  · have e : (way == 0) = true := by simpa using h
    simp only [e, if_pos h, addD_lst, aCons_o2, aCons_o1, aCons_ap, eTup_o1, eTup_ap, nLst_o1, nLst_ap, eFrz_o1, eFrz_ap, eNew_o1, eNew_ap, eOp_o2, eOp_o1, eOp_ap, tNotM_o1, tNotM_ap, sDrop_o1, sDrop_ap, sRet_o1, sRet_ap, sSet_o1, sSet_ap, sPut_o3, sPut_o2, sPut_o1, sPut_ap, nSl_o3, nSl_o2, nSl_o1, nSl_ap, eSl_o3, eSl_o2, eSl_o1, eSl_ap, nCat_o2, nCat_o1, nCat_ap, nRep_o2, nRep_o1, nRep_ap, sFor_o1, sFor_ap, nComp_o1, nComp_ap, eCall_o1, eCall_ap, rOne_o1, rOne_ap, rTwo_o2, rTwo_o1, rTwo_ap, iRevR_o1, iRevR_ap, nRng_o1, nRng_ap, iSeq_o1, iSeq_ap, iRev_o1, iRev_ap, eIsi_o1, eIsi_ap, eC_ap, aNil_ap, sNext_ap, sSeq_ap, sRetN_ap, tTru_ap, eUn_ap, eB_ap, nB_ap, noTest_ap, eDNew_ap, oNo_ap, gSet_ap, gsNil_ap, gsCons_ap, gsCons_o, gTupM_ap, sAsg_ap, sAsg_o1, sAsg_o2, sWhile_ap, asB_ap, asB_o, tAndM_ap, tAndM_t, tAndM_f, tOrM_ap, tOrM_t, tOrM_f, sIf_ap, sIf_t, sIf_f, eIf_ap, eIf_t, eIf_f, eAnd_ap, eAnd_o, eAnd_t, eAnd_f, eOr_ap, eOr_o, eOr_t, eOr_f, eNot_ap, eNot_o1, eNot_o2, oSome_ap, oSome_o, eChain_ap, eChain_o1, eChain_o2, eChain_t, eChain_f, eChain_o4, eChain3_ap, eChain3_o1, eChain3_o2, eChain3_t, eChain3_f, eChain3_o4, iEnum_ap, iZip_ap, eMt_ap, eMt_o2, isLst_lst, eTupRg_ap, eTupRg_o, ixt0, ixt1, ixt2, ixt3, ixt4, negD_i, slD_lst, eV_0, eV_s, Res.bind_ok, Res.bind_ex, Res.bind_bad, Res.on_ok, Res.on_ex, Res.on_bad, SRes.bind_nx, SRes.bind_rt, SRes.bind_ex, SRes.bind_bad, List.set_cons_zero, List.set_cons_succ, addD_i, subD_i, ltD_i, leD_i, gtD_i, geD_i, eqD_i, neD_i, lenB_scr, lenB_lst, lenB_tup, truD, tyD, Ty.le, isD, isntD, isNon, killE, List.foldl_cons, List.foldl_nil, List.length_cons, List.length_nil, Nat.reduceAdd, Nat.zero_add, Nat.reduceLeDiff, if_true, if_false, Bool.false_eq_true, Bool.not_true, Bool.not_false]
    exact fin_rt rfl
  · have e : (way == 0) = false := by simpa using h
    simp only [e, if_neg h, addD_lst, aCons_o2, aCons_o1, aCons_ap, eTup_o1, eTup_ap, nLst_o1, nLst_ap, eFrz_o1, eFrz_ap, eNew_o1, eNew_ap, eOp_o2, eOp_o1, eOp_ap, tNotM_o1, tNotM_ap, sDrop_o1, sDrop_ap, sRet_o1, sRet_ap, sSet_o1, sSet_ap, sPut_o3, sPut_o2, sPut_o1, sPut_ap, nSl_o3, nSl_o2, nSl_o1, nSl_ap, eSl_o3, eSl_o2, eSl_o1, eSl_ap, nCat_o2, nCat_o1, nCat_ap, nRep_o2, nRep_o1, nRep_ap, sFor_o1, sFor_ap, nComp_o1, nComp_ap, eCall_o1, eCall_ap, rOne_o1, rOne_ap, rTwo_o2, rTwo_o1, rTwo_ap, iRevR_o1, iRevR_ap, nRng_o1, nRng_ap, iSeq_o1, iSeq_ap, iRev_o1, iRev_ap, eIsi_o1, eIsi_ap, eC_ap, aNil_ap, sNext_ap, sSeq_ap, sRetN_ap, tTru_ap, eUn_ap, eB_ap, nB_ap, noTest_ap, eDNew_ap, oNo_ap, gSet_ap, gsNil_ap, gsCons_ap, gsCons_o, gTupM_ap, sAsg_ap, sAsg_o1, sAsg_o2, sWhile_ap, asB_ap, asB_o, tAndM_ap, tAndM_t, tAndM_f, tOrM_ap, tOrM_t, tOrM_f, sIf_ap, sIf_t, sIf_f, eIf_ap, eIf_t, eIf_f, eAnd_ap, eAnd_o, eAnd_t, eAnd_f, eOr_ap, eOr_o, eOr_t, eOr_f, eNot_ap, eNot_o1, eNot_o2, oSome_ap, oSome_o, eChain_ap, eChain_o1, eChain_o2, eChain_t, eChain_f, eChain_o4, eChain3_ap, eChain3_o1, eChain3_o2, eChain3_t, eChain3_f, eChain3_o4, iEnum_ap, iZip_ap, eMt_ap, eMt_o2, isLst_lst, eTupRg_ap, eTupRg_o, ixt0, ixt1, ixt2, ixt3, ixt4, negD_i, slD_lst, eV_0, eV_s, Res.bind_ok, Res.bind_ex, Res.bind_bad, Res.on_ok, Res.on_ex, Res.on_bad, SRes.bind_nx, SRes.bind_rt, SRes.bind_ex, SRes.bind_bad, List.set_cons_zero, List.set_cons_succ, addD_i, subD_i, ltD_i, leD_i, gtD_i, geD_i, eqD_i, neD_i, lenB_scr, lenB_lst, lenB_tup, truD, tyD, Ty.le, isD, isntD, isNon, killE, List.foldl_cons, List.foldl_nil, List.length_cons, List.length_nil, Nat.reduceAdd, Nat.zero_add, Nat.reduceLeDiff, if_true, if_false, Bool.false_eq_true, Bool.not_true, Bool.not_false]
    exact fin_rt rfl
def brokenB : SM4 := sSeq (sIf (tAndM (asB (eOp eqD (eOp modD (eV 6) (eC (.int 2))) (eC (.int 0)))) (asB (eOp gtD (eOp subD (eV 4) (eV 2)) (eC (.int 1))))) (sSeq (sSet 7 (eOp addD (eOp addD (eV 2) (eC (.int 1))) (eOp modD (eV 1) (eOp subD (eOp subD (eV 4) (eV 2)) (eC (.int 1)))))) (sRet (eFrz (nLst (aCons (eTup (aCons (eV 2) (aCons (eV 3) (aCons (eV 7) (aCons (eV 5) (aNil)))))) (aCons (eTup (aCons (eV 7) (aCons (eV 3) (aCons (eV 4) (aCons (eV 5) (aNil)))))) (aNil))))))) (sNext)) (sSeq (sIf (asB (eOp gtD (eOp subD (eV 5) (eV 3)) (eC (.int 1)))) (sSeq (sSet 8 (eOp addD (eOp addD (eV 3) (eC (.int 1))) (eOp modD (eV 1) (eOp subD (eOp subD (eV 5) (eV 3)) (eC (.int 1)))))) (sRet (eFrz (nLst (aCons (eTup (aCons (eV 2) (aCons (eV 3) (aCons (eV 4) (aCons (eV 8) (aNil)))))) (aCons (eTup (aCons (eV 2) (aCons (eV 8) (aCons (eV 4) (aCons (eV 5) (aNil)))))) (aNil))))))) (sNext)) (sRet (eFrz (nLst (aCons (eV 0) (aNil))))))
theorem fin_boxes {st : Sto} (l : List Box) : fin true st (.rt (.lst (l.map bxD)) st) = .ok (.lst (l.map bxD)) st := fin_rt (by
    apply D.cl_blw
    show D.cls _ = true
    exact cls_map (fun _ => rfl) l)
theorem brokenB_eq {b : Box} {c : Int} {st : Sto} {e7 e8 : Option D} : fin true st (brokenB [some (bxD b), some (.int (c / 5)), some (.int b.1), some (.int b.2.1), some (.int b.2.2.1), some (.int b.2.2.2), some (.int (c % 5)), e7, e8] st) =
    .ok (.lst ((if c % 5 % 2 = 0 ∧ 1 < b.2.2.1 - b.1 then [(b.1, b.2.1, b.1 + 1 + c / 5 % (b.2.2.1 - b.1 - 1), b.2.2.2), (b.1 + 1 + c / 5 % (b.2.2.1 - b.1 - 1), b.2.1, b.2.2.1, b.2.2.2)]
  else if 1 < b.2.2.2 - b.2.1 then [(b.1, b.2.1, b.2.2.1, b.2.1 + 1 + c / 5 % (b.2.2.2 - b.2.1 - 1)), (b.1, b.2.1 + 1 + c / 5 % (b.2.2.2 - b.2.1 - 1), b.2.2.1, b.2.2.2)]
  else [b]).map bxD)) st := by
  have m52 : ∀ st, modD (.int (c % 5)) (.int 2) st = .ok (.int (c % 5 % 2)) st := fun st => modD_i (by omega)
  have rest : ¬ (c % 5 % 2 = 0 ∧ 1 < b.2.2.1 - b.1) → fin true st (brokenB [some (bxD b), some (.int (c / 5)), some (.int b.1), some (.int b.2.1), some (.int b.2.2.1), some (.int b.2.2.2), some (.int (c % 5)), e7, e8] st) =
      .ok (.lst ((if 1 < b.2.2.2 - b.2.1 then [(b.1, b.2.1, b.2.2.1, b.2.1 + 1 + c / 5 % (b.2.2.2 - b.2.1 - 1)), (b.1, b.2.1 + 1 + c / 5 % (b.2.2.2 - b.2.1 - 1), b.2.2.1, b.2.2.2)]
  else [b]).map bxD)) st := by
    intro hn
    have et : tAndM (asB (eOp eqD (eOp modD (eV 6) (eC (.int 2))) (eC (.int 0)))) (asB (eOp gtD (eOp subD (eV 4) (eV 2)) (eC (.int 1)))) [some (bxD b), some (.int (c / 5)), some (.int b.1), some (.int b.2.1), some (.int b.2.2.1), some (.int b.2.2.2), some (.int (c % 5)), e7, e8] st = .ok false st := by
      simp only [m52, aCons_o2, aCons_o1, aCons_ap, eTup_o1, eTup_ap, nLst_o1, nLst_ap, eFrz_o1, eFrz_ap, eNew_o1, eNew_ap, eOp_o2, eOp_o1, eOp_ap, tNotM_o1, tNotM_ap, sDrop_o1, sDrop_ap, sRet_o1, sRet_ap, sSet_o1, sSet_ap, sPut_o3, sPut_o2, sPut_o1, sPut_ap, nSl_o3, nSl_o2, nSl_o1, nSl_ap, eSl_o3, eSl_o2, eSl_o1, eSl_ap, nCat_o2, nCat_o1, nCat_ap, nRep_o2, nRep_o1, nRep_ap, sFor_o1, sFor_ap, nComp_o1, nComp_ap, eCall_o1, eCall_ap, rOne_o1, rOne_ap, rTwo_o2, rTwo_o1, rTwo_ap, iRevR_o1, iRevR_ap, nRng_o1, nRng_ap, iSeq_o1, iSeq_ap, iRev_o1, iRev_ap, eIsi_o1, eIsi_ap, eC_ap, aNil_ap, sNext_ap, sSeq_ap, sRetN_ap, tTru_ap, eUn_ap, eB_ap, nB_ap, noTest_ap, eDNew_ap, oNo_ap, gSet_ap, gsNil_ap, gsCons_ap, gsCons_o, gTupM_ap, sAsg_ap, sAsg_o1, sAsg_o2, sWhile_ap, asB_ap, asB_o, tAndM_ap, tAndM_t, tAndM_f, tOrM_ap, tOrM_t, tOrM_f, sIf_ap, sIf_t, sIf_f, eIf_ap, eIf_t, eIf_f, eAnd_ap, eAnd_o, eAnd_t, eAnd_f, eOr_ap, eOr_o, eOr_t, eOr_f, eNot_ap, eNot_o1, eNot_o2, oSome_ap, oSome_o, eChain_ap, eChain_o1, eChain_o2, eChain_t, eChain_f, eChain_o4, eChain3_ap, eChain3_o1, eChain3_o2, eChain3_t, eChain3_f, eChain3_o4, iEnum_ap, iZip_ap, eMt_ap, eMt_o2, isLst_lst, eTupRg_ap, eTupRg_o, ixt0, ixt1, ixt2, ixt3, ixt4, negD_i, slD_lst, eV_0, eV_s, Res.bind_ok, Res.bind_ex, Res.bind_bad, Res.on_ok, Res.on_ex, Res.on_bad, SRes.bind_nx, SRes.bind_rt, SRes.bind_ex, SRes.bind_bad, List.set_cons_zero, List.set_cons_succ, addD_i, subD_i, ltD_i, leD_i, gtD_i, geD_i, eqD_i, neD_i, lenB_scr, lenB_lst, lenB_tup, truD, tyD, Ty.le, isD, isntD, isNon, killE, List.foldl_cons, List.foldl_nil, List.length_cons, List.length_nil, Nat.reduceAdd, Nat.zero_add, Nat.reduceLeDiff, if_true, if_false, Bool.false_eq_true, Bool.not_true, Bool.not_false]
      by_cases a1 : c % 5 % 2 = 0
      · have e1 : (c % 5 % 2 == 0) = true := by simpa using a1
        simp only [e1, aCons_o2, aCons_o1, aCons_ap, eTup_o1, eTup_ap, nLst_o1, nLst_ap, eFrz_o1, eFrz_ap, eNew_o1, eNew_ap, eOp_o2, eOp_o1, eOp_ap, tNotM_o1, tNotM_ap, sDrop_o1, sDrop_ap, sRet_o1, sRet_ap, sSet_o1, sSet_ap, sPut_o3, sPut_o2, sPut_o1, sPut_ap, nSl_o3, nSl_o2, nSl_o1, nSl_ap, eSl_o3, eSl_o2, eSl_o1, eSl_ap, nCat_o2, nCat_o1, nCat_ap, nRep_o2, nRep_o1, nRep_ap, sFor_o1, sFor_ap, nComp_o1, nComp_ap, eCall_o1, eCall_ap, rOne_o1, rOne_ap, rTwo_o2, rTwo_o1, rTwo_ap, iRevR_o1, iRevR_ap, nRng_o1, nRng_ap, iSeq_o1, iSeq_ap, iRev_o1, iRev_ap, eIsi_o1, eIsi_ap, eC_ap, aNil_ap, sNext_ap, sSeq_ap, sRetN_ap, tTru_ap, eUn_ap, eB_ap, nB_ap, noTest_ap, eDNew_ap, oNo_ap, gSet_ap, gsNil_ap, gsCons_ap, gsCons_o, gTupM_ap, sAsg_ap, sAsg_o1, sAsg_o2, sWhile_ap, asB_ap, asB_o, tAndM_ap, tAndM_t, tAndM_f, tOrM_ap, tOrM_t, tOrM_f, sIf_ap, sIf_t, sIf_f, eIf_ap, eIf_t, eIf_f, eAnd_ap, eAnd_o, eAnd_t, eAnd_f, eOr_ap, eOr_o, eOr_t, eOr_f, eNot_ap, eNot_o1, eNot_o2, oSome_ap, oSome_o, eChain_ap, eChain_o1, eChain_o2, eChain_t, eChain_f, eChain_o4, eChain3_ap, eChain3_o1, eChain3_o2, eChain3_t, eChain3_f, eChain3_o4, iEnum_ap, iZip_ap, eMt_ap, eMt_o2, isLst_lst, eTupRg_ap, eTupRg_o, ixt0, ixt1, ixt2, ixt3, ixt4, negD_i, slD_lst, eV_0, eV_s, Res.bind_ok, Res.bind_ex, Res.bind_bad, Res.on_ok, Res.on_ex, Res.on_bad, SRes.bind_nx, SRes.bind_rt, SRes.bind_ex, SRes.bind_bad, List.set_cons_zero, List.set_cons_succ, addD_i, subD_i, ltD_i, leD_i, gtD_i, geD_i, eqD_i, neD_i, lenB_scr, lenB_lst, lenB_tup, truD, tyD, Ty.le, isD, isntD, isNon, killE, List.foldl_cons, List.foldl_nil, List.length_cons, List.length_nil, Nat.reduceAdd, Nat.zero_add, Nat.reduceLeDiff, if_true, if_false, Bool.false_eq_true, Bool.not_true, Bool.not_false]
        rw [decide_eq_false (fun h => hn ⟨a1, h⟩)]
      · have e1 : (c % 5 % 2 == 0) = false := by simpa using a1
        simp only [e1, aCons_o2, aCons_o1, aCons_ap, eTup_o1, eTup_ap, nLst_o1, nLst_ap, eFrz_o1, eFrz_ap, eNew_o1, eNew_ap, eOp_o2, eOp_o1, eOp_ap, tNotM_o1, tNotM_ap, sDrop_o1, sDrop_ap, sRet_o1, sRet_ap, sSet_o1, sSet_ap, sPut_o3, sPut_o2, sPut_o1, sPut_ap, nSl_o3, nSl_o2, nSl_o1, nSl_ap, eSl_o3, eSl_o2, eSl_o1, eSl_ap, nCat_o2, nCat_o1, nCat_ap, nRep_o2, nRep_o1, nRep_ap, sFor_o1, sFor_ap, nComp_o1, nComp_ap, eCall_o1, eCall_ap, rOne_o1, rOne_ap, rTwo_o2, rTwo_o1, rTwo_ap, iRevR_o1, iRevR_ap, nRng_o1, nRng_ap, iSeq_o1, iSeq_ap, iRev_o1, iRev_ap, eIsi_o1, eIsi_ap, eC_ap, aNil_ap, sNext_ap, sSeq_ap, sRetN_ap, tTru_ap, eUn_ap, eB_ap, nB_ap, noTest_ap, eDNew_ap, oNo_ap, gSet_ap, gsNil_ap, gsCons_ap, gsCons_o, gTupM_ap, sAsg_ap, sAsg_o1, sAsg_o2, sWhile_ap, asB_ap, asB_o, tAndM_ap, tAndM_t, tAndM_f, tOrM_ap, tOrM_t, tOrM_f, sIf_ap, sIf_t, sIf_f, eIf_ap, eIf_t, eIf_f, eAnd_ap, eAnd_o, eAnd_t, eAnd_f, eOr_ap, eOr_o, eOr_t, eOr_f, eNot_ap, eNot_o1, eNot_o2, oSome_ap, oSome_o, eChain_ap, eChain_o1, eChain_o2, eChain_t, eChain_f, eChain_o4, eChain3_ap, eChain3_o1, eChain3_o2, eChain3_t, eChain3_f, eChain3_o4, iEnum_ap, iZip_ap, eMt_ap, eMt_o2, isLst_lst, eTupRg_ap, eTupRg_o, ixt0, ixt1, ixt2, ixt3, ixt4, negD_i, slD_lst, eV_0, eV_s, Res.bind_ok, Res.bind_ex, Res.bind_bad, Res.on_ok, Res.on_ex, Res.on_bad, SRes.bind_nx, SRes.bind_rt, SRes.bind_ex, SRes.bind_bad, List.set_cons_zero, List.set_cons_succ, addD_i, subD_i, ltD_i, leD_i, gtD_i, geD_i, eqD_i, neD_i, lenB_scr, lenB_lst, lenB_tup, truD, tyD, Ty.le, isD, isntD, isNon, killE, List.foldl_cons, List.foldl_nil, List.length_cons, List.length_nil, Nat.reduceAdd, Nat.zero_add, Nat.reduceLeDiff, if_true, if_false, Bool.false_eq_true, Bool.not_true, Bool.not_false]
    unfold brokenB
    rw [sSeq_ap, sIf_ap, et]
    by_cases h3 : 1 < b.2.2.2 - b.2.1
    · have m : ∀ st, modD (.int (c / 5)) (.int (b.2.2.2 - b.2.1 - 1)) st = .ok (.int (c / 5 % (b.2.2.2 - b.2.1 - 1))) st := fun st => modD_i (by omega)
      simp only [decide_eq_true h3, m, if_pos h3, aCons_o2, aCons_o1, aCons_ap, eTup_o1, eTup_ap, nLst_o1, nLst_ap, eFrz_o1, eFrz_ap, eNew_o1, eNew_ap, eOp_o2, eOp_o1, eOp_ap, tNotM_o1, tNotM_ap, sDrop_o1, sDrop_ap, sRet_o1, sRet_ap, sSet_o1, sSet_ap, sPut_o3, sPut_o2, sPut_o1, sPut_ap, nSl_o3, nSl_o2, nSl_o1, nSl_ap, eSl_o3, eSl_o2, eSl_o1, eSl_ap, nCat_o2, nCat_o1, nCat_ap, nRep_o2, nRep_o1, nRep_ap, sFor_o1, sFor_ap, nComp_o1, nComp_ap, eCall_o1, eCall_ap, rOne_o1, rOne_ap, rTwo_o2, rTwo_o1, rTwo_ap, iRevR_o1, iRevR_ap, nRng_o1, nRng_ap, iSeq_o1, iSeq_ap, iRev_o1, iRev_ap, eIsi_o1, eIsi_ap, eC_ap, aNil_ap, sNext_ap, sSeq_ap, sRetN_ap, tTru_ap, eUn_ap, eB_ap, nB_ap, noTest_ap, eDNew_ap, oNo_ap, gSet_ap, gsNil_ap, gsCons_ap, gsCons_o, gTupM_ap, sAsg_ap, sAsg_o1, sAsg_o2, sWhile_ap, asB_ap, asB_o, tAndM_ap, tAndM_t, tAndM_f, tOrM_ap, tOrM_t, tOrM_f, sIf_ap, sIf_t, sIf_f, eIf_ap, eIf_t, eIf_f, eAnd_ap, eAnd_o, eAnd_t, eAnd_f, eOr_ap, eOr_o, eOr_t, eOr_f, eNot_ap, eNot_o1, eNot_o2, oSome_ap, oSome_o, eChain_ap, eChain_o1, eChain_o2, eChain_t, eChain_f, eChain_o4, eChain3_ap, eChain3_o1, eChain3_o2, eChain3_t, eChain3_f, eChain3_o4, iEnum_ap, iZip_ap, eMt_ap, eMt_o2, isLst_lst, eTupRg_ap, eTupRg_o, ixt0, ixt1, ixt2, ixt3, ixt4, negD_i, slD_lst, eV_0, eV_s, Res.bind_ok, Res.bind_ex, Res.bind_bad, Res.on_ok, Res.on_ex, Res.on_bad, SRes.bind_nx, SRes.bind_rt, SRes.bind_ex, SRes.bind_bad, List.set_cons_zero, List.set_cons_succ, addD_i, subD_i, ltD_i, leD_i, gtD_i, geD_i, eqD_i, neD_i, lenB_scr, lenB_lst, lenB_tup, truD, tyD, Ty.le, isD, isntD, isNon, killE, List.foldl_cons, List.foldl_nil, List.length_cons, List.length_nil, Nat.reduceAdd, Nat.zero_add, Nat.reduceLeDiff, if_true, if_false, Bool.false_eq_true, Bool.not_true, Bool.not_false]
      exact fin_rt rfl
    · simp only [decide_eq_false h3, if_neg h3, aCons_o2, aCons_o1, aCons_ap, eTup_o1, eTup_ap, nLst_o1, nLst_ap, eFrz_o1, eFrz_ap, eNew_o1, eNew_ap, eOp_o2, eOp_o1, eOp_ap, tNotM_o1, tNotM_ap, sDrop_o1, sDrop_ap, sRet_o1, sRet_ap, sSet_o1, sSet_ap, sPut_o3, sPut_o2, sPut_o1, sPut_ap, nSl_o3, nSl_o2, nSl_o1, nSl_ap, eSl_o3, eSl_o2, eSl_o1, eSl_ap, nCat_o2, nCat_o1, nCat_ap, nRep_o2, nRep_o1, nRep_ap, sFor_o1, sFor_ap, nComp_o1, nComp_ap, eCall_o1, eCall_ap, rOne_o1, rOne_ap, rTwo_o2, rTwo_o1, rTwo_ap, iRevR_o1, iRevR_ap, nRng_o1, nRng_ap, iSeq_o1, iSeq_ap, iRev_o1, iRev_ap, eIsi_o1, eIsi_ap, eC_ap, aNil_ap, sNext_ap, sSeq_ap, sRetN_ap, tTru_ap, eUn_ap, eB_ap, nB_ap, noTest_ap, eDNew_ap, oNo_ap, gSet_ap, gsNil_ap, gsCons_ap, gsCons_o, gTupM_ap, sAsg_ap, sAsg_o1, sAsg_o2, sWhile_ap, asB_ap, asB_o, tAndM_ap, tAndM_t, tAndM_f, tOrM_ap, tOrM_t, tOrM_f, sIf_ap, sIf_t, sIf_f, eIf_ap, eIf_t, eIf_f, eAnd_ap, eAnd_o, eAnd_t, eAnd_f, eOr_ap, eOr_o, eOr_t, eOr_f, eNot_ap, eNot_o1, eNot_o2, oSome_ap, oSome_o, eChain_ap, eChain_o1, eChain_o2, eChain_t, eChain_f, eChain_o4, eChain3_ap, eChain3_o1, eChain3_o2, eChain3_t, eChain3_f, eChain3_o4, iEnum_ap, iZip_ap, eMt_ap, eMt_o2, isLst_lst, eTupRg_ap, eTupRg_o, ixt0, ixt1, ixt2, ixt3, ixt4, negD_i, slD_lst, eV_0, eV_s, Res.bind_ok, Res.bind_ex, Res.bind_bad, Res.on_ok, Res.on_ex, Res.on_bad, SRes.bind_nx, SRes.bind_rt, SRes.bind_ex, SRes.bind_bad, List.set_cons_zero, List.set_cons_succ, addD_i, subD_i, ltD_i, leD_i, gtD_i, geD_i, eqD_i, neD_i, lenB_scr, lenB_lst, lenB_tup, truD, tyD, Ty.le, isD, isntD, isNon, killE, List.foldl_cons, List.foldl_nil, List.length_cons, List.length_nil, Nat.reduceAdd, Nat.zero_add, Nat.reduceLeDiff, if_true, if_false, Bool.false_eq_true, Bool.not_true, Bool.not_false]
      exact fin_rt rfl
  by_cases h2 : c % 5 % 2 = 0 ∧ 1 < b.2.2.1 - b.1
  · rw [if_pos h2]
    have e1 : (c % 5 % 2 == 0) = true := by simpa using h2.1
    have h3 := h2.2
    have m : ∀ st, modD (.int (c / 5)) (.int (b.2.2.1 - b.1 - 1)) st = .ok (.int (c / 5 % (b.2.2.1 - b.1 - 1))) st := fun st => modD_i (by omega)
    unfold brokenB
    simp only [m52, e1, decide_eq_true h3, m, aCons_o2, aCons_o1, aCons_ap, eTup_o1, eTup_ap, nLst_o1, nLst_ap, eFrz_o1, eFrz_ap, eNew_o1, eNew_ap, eOp_o2, eOp_o1, eOp_ap, tNotM_o1, tNotM_ap, sDrop_o1, sDrop_ap, sRet_o1, sRet_ap, sSet_o1, sSet_ap, sPut_o3, sPut_o2, sPut_o1, sPut_ap, nSl_o3, nSl_o2, nSl_o1, nSl_ap, eSl_o3, eSl_o2, eSl_o1, eSl_ap, nCat_o2, nCat_o1, nCat_ap, nRep_o2, nRep_o1, nRep_ap, sFor_o1, sFor_ap, nComp_o1, nComp_ap, eCall_o1, eCall_ap, rOne_o1, rOne_ap, rTwo_o2, rTwo_o1, rTwo_ap, iRevR_o1, iRevR_ap, nRng_o1, nRng_ap, iSeq_o1, iSeq_ap, iRev_o1, iRev_ap, eIsi_o1, eIsi_ap, eC_ap, aNil_ap, sNext_ap, sSeq_ap, sRetN_ap, tTru_ap, eUn_ap, eB_ap, nB_ap, noTest_ap, eDNew_ap, oNo_ap, gSet_ap, gsNil_ap, gsCons_ap, gsCons_o, gTupM_ap, sAsg_ap, sAsg_o1, sAsg_o2, sWhile_ap, asB_ap, asB_o, tAndM_ap, tAndM_t, tAndM_f, tOrM_ap, tOrM_t, tOrM_f, sIf_ap, sIf_t, sIf_f, eIf_ap, eIf_t, eIf_f, eAnd_ap, eAnd_o, eAnd_t, eAnd_f, eOr_ap, eOr_o, eOr_t, eOr_f, eNot_ap, eNot_o1, eNot_o2, oSome_ap, oSome_o, eChain_ap, eChain_o1, eChain_o2, eChain_t, eChain_f, eChain_o4, eChain3_ap, eChain3_o1, eChain3_o2, eChain3_t, eChain3_f, eChain3_o4, iEnum_ap, iZip_ap, eMt_ap, eMt_o2, isLst_lst, eTupRg_ap, eTupRg_o, ixt0, ixt1, ixt2, ixt3, ixt4, negD_i, slD_lst, eV_0, eV_s, Res.bind_ok, Res.bind_ex, Res.bind_bad, Res.on_ok, Res.on_ex, Res.on_bad, SRes.bind_nx, SRes.bind_rt, SRes.bind_ex, SRes.bind_bad, List.set_cons_zero, List.set_cons_succ, addD_i, subD_i, ltD_i, leD_i, gtD_i, geD_i, eqD_i, neD_i, lenB_scr, lenB_lst, lenB_tup, truD, tyD, Ty.le, isD, isntD, isNon, killE, List.foldl_cons, List.foldl_nil, List.length_cons, List.length_nil, Nat.reduceAdd, Nat.zero_add, Nat.reduceLeDiff, if_true, if_false, Bool.false_eq_true, Bool.not_true, Bool.not_false]
    exact fin_rt rfl
  · rw [if_neg h2]
    exact rest h2
theorem broken_eq {b : Box} {c : Int} {st : Sto} : m_l_broken [bxD b, .int c] st = .ok (.lst ((brokenP b c).map bxD)) st := by
  show fin true st (b_l_broken [some (bxD b), some (.int c), none, none, none, none, none, none, none] st) = _
  have m5 : ∀ st, modD (.int c) (.int 5) st = .ok (.int (c % 5)) st := fun st => modD_i (by omega)
  have d5 : ∀ st, fdivD (.int c) (.int 5) st = .ok (.int (c / 5)) st := fun st => fdivD_i (by omega) (by decide)
  have d2 : ∀ st, fdivD (.int (c / 5)) (.int 2) st = .ok (.int (c / 5 / 2)) st := fun st => fdivD_i (by omega) (by decide)
  have d3 : ∀ st, fdivD (.int (c / 5)) (.int 3) st = .ok (.int (c / 5 / 3)) st := fun st => fdivD_i (by omega) (by decide)
  have m2 : ∀ st, modD (.int (c / 5)) (.int 2) st = .ok (.int (c / 5 % 2)) st := fun st => modD_i (by omega)
  have hbx : bxD b = .tup [.int b.1, .int b.2.1, .int b.2.2.1, .int b.2.2.2] := rfl
  have hb : b_l_broken = sSeq (sAsg (eV 0) (gTupM 4 (gsCons (gSet 2) (gsCons (gSet 3) (gsCons (gSet 4) (gsCons (gSet 5) (gsNil))))))) (sSeq (sSet 6 (eOp modD (eV 1) (eC (.int 5)))) (sSeq (sSet 1 (eOp fdivD (eV 1) (eC (.int 5)))) (sSeq (sIf (tAndM (asB (eOp eqD (eV 6) (eC (.int 4)))) (tAndM (asB (eOp gtD (eOp subD (eV 4) (eV 2)) (eC (.int 2)))) (asB (eOp gtD (eOp subD (eV 5) (eV 3)) (eC (.int 2)))))) (sSeq (sSet 7 (eCall 3 m_l_two (aCons (eV 2) (aCons (eV 4) (aCons (eOp fdivD (eV 1) (eC (.int 2))) (aNil)))))) (sSeq (sSet 8 (eCall 3 m_l_two (aCons (eV 3) (aCons (eV 5) (aCons (eOp fdivD (eV 1) (eC (.int 3))) (aNil)))))) (sRet (eCall 4 m_l_wheel (aCons (eV 0) (aCons (eV 7) (aCons (eV 8) (aCons (eOp modD (eV 1) (eC (.int 2))) (aNil))))))))) (sNext)) brokenB))) := rfl
  rw [hb]
  unfold brokenP
  rw [hbx]
  by_cases h1 : c % 5 = 4 ∧ 2 < b.2.2.1 - b.1 ∧ 2 < b.2.2.2 - b.2.1
  · have e1 : (c % 5 == 4) = true := by simpa using h1.1
    simp only [m5, d5, e1, decide_eq_true h1.2.1, decide_eq_true h1.2.2, d2, d3, m2, two_eq h1.2.1, two_eq h1.2.2, if_pos h1, aCons_o2, aCons_o1, aCons_ap, eTup_o1, eTup_ap, nLst_o1, nLst_ap, eFrz_o1, eFrz_ap, eNew_o1, eNew_ap, eOp_o2, eOp_o1, eOp_ap, tNotM_o1, tNotM_ap, sDrop_o1, sDrop_ap, sRet_o1, sRet_ap, sSet_o1, sSet_ap, sPut_o3, sPut_o2, sPut_o1, sPut_ap, nSl_o3, nSl_o2, nSl_o1, nSl_ap, eSl_o3, eSl_o2, eSl_o1, eSl_ap, nCat_o2, nCat_o1, nCat_ap, nRep_o2, nRep_o1, nRep_ap, sFor_o1, sFor_ap, nComp_o1, nComp_ap, eCall_o1, eCall_ap, rOne_o1, rOne_ap, rTwo_o2, rTwo_o1, rTwo_ap, iRevR_o1, iRevR_ap, nRng_o1, nRng_ap, iSeq_o1, iSeq_ap, iRev_o1, iRev_ap, eIsi_o1, eIsi_ap, eC_ap, aNil_ap, sNext_ap, sSeq_ap, sRetN_ap, tTru_ap, eUn_ap, eB_ap, nB_ap, noTest_ap, eDNew_ap, oNo_ap, gSet_ap, gsNil_ap, gsCons_ap, gsCons_o, gTupM_ap, sAsg_ap, sAsg_o1, sAsg_o2, sWhile_ap, asB_ap, asB_o, tAndM_ap, tAndM_t, tAndM_f, tOrM_ap, tOrM_t, tOrM_f, sIf_ap, sIf_t, sIf_f, eIf_ap, eIf_t, eIf_f, eAnd_ap, eAnd_o, eAnd_t, eAnd_f, eOr_ap, eOr_o, eOr_t, eOr_f, eNot_ap, eNot_o1, eNot_o2, oSome_ap, oSome_o, eChain_ap, eChain_o1, eChain_o2, eChain_t, eChain_f, eChain_o4, eChain3_ap, eChain3_o1, eChain3_o2, eChain3_t, eChain3_f, eChain3_o4, iEnum_ap, iZip_ap, eMt_ap, eMt_o2, isLst_lst, eTupRg_ap, eTupRg_o, ixt0, ixt1, ixt2, ixt3, ixt4, negD_i, slD_lst, eV_0, eV_s, Res.bind_ok, Res.bind_ex, Res.bind_bad, Res.on_ok, Res.on_ex, Res.on_bad, SRes.bind_nx, SRes.bind_rt, SRes.bind_ex, SRes.bind_bad, List.set_cons_zero, List.set_cons_succ, addD_i, subD_i, ltD_i, leD_i, gtD_i, geD_i, eqD_i, neD_i, lenB_scr, lenB_lst, lenB_tup, truD, tyD, Ty.le, isD, isntD, isNon, killE, List.foldl_cons, List.foldl_nil, List.length_cons, List.length_nil, Nat.reduceAdd, Nat.zero_add, Nat.reduceLeDiff, if_true, if_false, Bool.false_eq_true, Bool.not_true, Bool.not_false]
    rw [← hbx, wheel_eq]
    simp only [aCons_o2, aCons_o1, aCons_ap, eTup_o1, eTup_ap, nLst_o1, nLst_ap, eFrz_o1, eFrz_ap, eNew_o1, eNew_ap, eOp_o2, eOp_o1, eOp_ap, tNotM_o1, tNotM_ap, sDrop_o1, sDrop_ap, sRet_o1, sRet_ap, sSet_o1, sSet_ap, sPut_o3, sPut_o2, sPut_o1, sPut_ap, nSl_o3, nSl_o2, nSl_o1, nSl_ap, eSl_o3, eSl_o2, eSl_o1, eSl_ap, nCat_o2, nCat_o1, nCat_ap, nRep_o2, nRep_o1, nRep_ap, sFor_o1, sFor_ap, nComp_o1, nComp_ap, eCall_o1, eCall_ap, rOne_o1, rOne_ap, rTwo_o2, rTwo_o1, rTwo_ap, iRevR_o1, iRevR_ap, nRng_o1, nRng_ap, iSeq_o1, iSeq_ap, iRev_o1, iRev_ap, eIsi_o1, eIsi_ap, eC_ap, aNil_ap, sNext_ap, sSeq_ap, sRetN_ap, tTru_ap, eUn_ap, eB_ap, nB_ap, noTest_ap, eDNew_ap, oNo_ap, gSet_ap, gsNil_ap, gsCons_ap, gsCons_o, gTupM_ap, sAsg_ap, sAsg_o1, sAsg_o2, sWhile_ap, asB_ap, asB_o, tAndM_ap, tAndM_t, tAndM_f, tOrM_ap, tOrM_t, tOrM_f, sIf_ap, sIf_t, sIf_f, eIf_ap, eIf_t, eIf_f, eAnd_ap, eAnd_o, eAnd_t, eAnd_f, eOr_ap, eOr_o, eOr_t, eOr_f, eNot_ap, eNot_o1, eNot_o2, oSome_ap, oSome_o, eChain_ap, eChain_o1, eChain_o2, eChain_t, eChain_f, eChain_o4, eChain3_ap, eChain3_o1, eChain3_o2, eChain3_t, eChain3_f, eChain3_o4, iEnum_ap, iZip_ap, eMt_ap, eMt_o2, isLst_lst, eTupRg_ap, eTupRg_o, ixt0, ixt1, ixt2, ixt3, ixt4, negD_i, slD_lst, eV_0, eV_s, Res.bind_ok, Res.bind_ex, Res.bind_bad, Res.on_ok, Res.on_ex, Res.on_bad, SRes.bind_nx, SRes.bind_rt, SRes.bind_ex, SRes.bind_bad, List.set_cons_zero, List.set_cons_succ, addD_i, subD_i, ltD_i, leD_i, gtD_i, geD_i, eqD_i, neD_i, lenB_scr, lenB_lst, lenB_tup, truD, tyD, Ty.le, isD, isntD, isNon, killE, List.foldl_cons, List.foldl_nil, List.length_cons, List.length_nil, Nat.reduceAdd, Nat.zero_add, Nat.reduceLeDiff, if_true, if_false, Bool.false_eq_true, Bool.not_true, Bool.not_false]
    exact fin_boxes _
  · rw [if_neg h1]
    by_cases a1 : c % 5 = 4
    · have e1 : (c % 5 == 4) = true := by simpa using a1
      by_cases a2 : 2 < b.2.2.1 - b.1
      · have a3 : decide (2 < b.2.2.2 - b.2.1) = false := decide_eq_false fun h => h1 ⟨a1, a2, h⟩
        simp only [m5, d5, e1, decide_eq_true a2, a3, aCons_o2, aCons_o1, aCons_ap, eTup_o1, eTup_ap, nLst_o1, nLst_ap, eFrz_o1, eFrz_ap, eNew_o1, eNew_ap, eOp_o2, eOp_o1, eOp_ap, tNotM_o1, tNotM_ap, sDrop_o1, sDrop_ap, sRet_o1, sRet_ap, sSet_o1, sSet_ap, sPut_o3, sPut_o2, sPut_o1, sPut_ap, nSl_o3, nSl_o2, nSl_o1, nSl_ap, eSl_o3, eSl_o2, eSl_o1, eSl_ap, nCat_o2, nCat_o1, nCat_ap, nRep_o2, nRep_o1, nRep_ap, sFor_o1, sFor_ap, nComp_o1, nComp_ap, eCall_o1, eCall_ap, rOne_o1, rOne_ap, rTwo_o2, rTwo_o1, rTwo_ap, iRevR_o1, iRevR_ap, nRng_o1, nRng_ap, iSeq_o1, iSeq_ap, iRev_o1, iRev_ap, eIsi_o1, eIsi_ap, eC_ap, aNil_ap, sNext_ap, sSeq_ap, sRetN_ap, tTru_ap, eUn_ap, eB_ap, nB_ap, noTest_ap, eDNew_ap, oNo_ap, gSet_ap, gsNil_ap, gsCons_ap, gsCons_o, gTupM_ap, sAsg_ap, sAsg_o1, sAsg_o2, sWhile_ap, asB_ap, asB_o, tAndM_ap, tAndM_t, tAndM_f, tOrM_ap, tOrM_t, tOrM_f, sIf_ap, sIf_t, sIf_f, eIf_ap, eIf_t, eIf_f, eAnd_ap, eAnd_o, eAnd_t, eAnd_f, eOr_ap, eOr_o, eOr_t, eOr_f, eNot_ap, eNot_o1, eNot_o2, oSome_ap, oSome_o, eChain_ap, eChain_o1, eChain_o2, eChain_t, eChain_f, eChain_o4, eChain3_ap, eChain3_o1, eChain3_o2, eChain3_t, eChain3_f, eChain3_o4, iEnum_ap, iZip_ap, eMt_ap, eMt_o2, isLst_lst, eTupRg_ap, eTupRg_o, ixt0, ixt1, ixt2, ixt3, ixt4, negD_i, slD_lst, eV_0, eV_s, Res.bind_ok, Res.bind_ex, Res.bind_bad, Res.on_ok, Res.on_ex, Res.on_bad, SRes.bind_nx, SRes.bind_rt, SRes.bind_ex, SRes.bind_bad, List.set_cons_zero, List.set_cons_succ, addD_i, subD_i, ltD_i, leD_i, gtD_i, geD_i, eqD_i, neD_i, lenB_scr, lenB_lst, lenB_tup, truD, tyD, Ty.le, isD, isntD, isNon, killE, List.foldl_cons, List.foldl_nil, List.length_cons, List.length_nil, Nat.reduceAdd, Nat.zero_add, Nat.reduceLeDiff, if_true, if_false, Bool.false_eq_true, Bool.not_true, Bool.not_false]
        exact brokenB_eq
      · simp only [m5, d5, e1, decide_eq_false a2, aCons_o2, aCons_o1, aCons_ap, eTup_o1, eTup_ap, nLst_o1, nLst_ap, eFrz_o1, eFrz_ap, eNew_o1, eNew_ap, eOp_o2, eOp_o1, eOp_ap, tNotM_o1, tNotM_ap, sDrop_o1, sDrop_ap, sRet_o1, sRet_ap, sSet_o1, sSet_ap, sPut_o3, sPut_o2, sPut_o1, sPut_ap, nSl_o3, nSl_o2, nSl_o1, nSl_ap, eSl_o3, eSl_o2, eSl_o1, eSl_ap, nCat_o2, nCat_o1, nCat_ap, nRep_o2, nRep_o1, nRep_ap, sFor_o1, sFor_ap, nComp_o1, nComp_ap, eCall_o1, eCall_ap, rOne_o1, rOne_ap, rTwo_o2, rTwo_o1, rTwo_ap, iRevR_o1, iRevR_ap, nRng_o1, nRng_ap, iSeq_o1, iSeq_ap, iRev_o1, iRev_ap, eIsi_o1, eIsi_ap, eC_ap, aNil_ap, sNext_ap, sSeq_ap, sRetN_ap, tTru_ap, eUn_ap, eB_ap, nB_ap, noTest_ap, eDNew_ap, oNo_ap, gSet_ap, gsNil_ap, gsCons_ap, gsCons_o, gTupM_ap, sAsg_ap, sAsg_o1, sAsg_o2, sWhile_ap, asB_ap, asB_o, tAndM_ap, tAndM_t, tAndM_f, tOrM_ap, tOrM_t, tOrM_f, sIf_ap, sIf_t, sIf_f, eIf_ap, eIf_t, eIf_f, eAnd_ap, eAnd_o, eAnd_t, eAnd_f, eOr_ap, eOr_o, eOr_t, eOr_f, eNot_ap, eNot_o1, eNot_o2, oSome_ap, oSome_o, eChain_ap, eChain_o1, eChain_o2, eChain_t, eChain_f, eChain_o4, eChain3_ap, eChain3_o1, eChain3_o2, eChain3_t, eChain3_f, eChain3_o4, iEnum_ap, iZip_ap, eMt_ap, eMt_o2, isLst_lst, eTupRg_ap, eTupRg_o, ixt0, ixt1, ixt2, ixt3, ixt4, negD_i, slD_lst, eV_0, eV_s, Res.bind_ok, Res.bind_ex, Res.bind_bad, Res.on_ok, Res.on_ex, Res.on_bad, SRes.bind_nx, SRes.bind_rt, SRes.bind_ex, SRes.bind_bad, List.set_cons_zero, List.set_cons_succ, addD_i, subD_i, ltD_i, leD_i, gtD_i, geD_i, eqD_i, neD_i, lenB_scr, lenB_lst, lenB_tup, truD, tyD, Ty.le, isD, isntD, isNon, killE, List.foldl_cons, List.foldl_nil, List.length_cons, List.length_nil, Nat.reduceAdd, Nat.zero_add, Nat.reduceLeDiff, if_true, if_false, Bool.false_eq_true, Bool.not_true, Bool.not_false]
        exact brokenB_eq
    · have e1 : (c % 5 == 4) = false := by simpa using a1
      simp only [m5, d5, e1, aCons_o2, aCons_o1, aCons_ap, eTup_o1, eTup_ap, nLst_o1, nLst_ap, eFrz_o1, eFrz_ap, eNew_o1, eNew_ap, eOp_o2, eOp_o1, eOp_ap, tNotM_o1, tNotM_ap, sDrop_o1, sDrop_ap, sRet_o1, sRet_ap, sSet_o1, sSet_ap, sPut_o3, sPut_o2, sPut_o1, sPut_ap, nSl_o3, nSl_o2, nSl_o1, nSl_ap, eSl_o3, eSl_o2, eSl_o1, eSl_ap, nCat_o2, nCat_o1, nCat_ap, nRep_o2, nRep_o1, nRep_ap, sFor_o1, sFor_ap, nComp_o1, nComp_ap, eCall_o1, eCall_ap, rOne_o1, rOne_ap, rTwo_o2, rTwo_o1, rTwo_ap, iRevR_o1, iRevR_ap, nRng_o1, nRng_ap, iSeq_o1, iSeq_ap, iRev_o1, iRev_ap, eIsi_o1, eIsi_ap, eC_ap, aNil_ap, sNext_ap, sSeq_ap, sRetN_ap, tTru_ap, eUn_ap, eB_ap, nB_ap, noTest_ap, eDNew_ap, oNo_ap, gSet_ap, gsNil_ap, gsCons_ap, gsCons_o, gTupM_ap, sAsg_ap, sAsg_o1, sAsg_o2, sWhile_ap, asB_ap, asB_o, tAndM_ap, tAndM_t, tAndM_f, tOrM_ap, tOrM_t, tOrM_f, sIf_ap, sIf_t, sIf_f, eIf_ap, eIf_t, eIf_f, eAnd_ap, eAnd_o, eAnd_t, eAnd_f, eOr_ap, eOr_o, eOr_t, eOr_f, eNot_ap, eNot_o1, eNot_o2, oSome_ap, oSome_o, eChain_ap, eChain_o1, eChain_o2, eChain_t, eChain_f, eChain_o4, eChain3_ap, eChain3_o1, eChain3_o2, eChain3_t, eChain3_f, eChain3_o4, iEnum_ap, iZip_ap, eMt_ap, eMt_o2, isLst_lst, eTupRg_ap, eTupRg_o, ixt0, ixt1, ixt2, ixt3, ixt4, negD_i, slD_lst, eV_0, eV_s, Res.bind_ok, Res.bind_ex, Res.bind_bad, Res.on_ok, Res.on_ex, Res.on_bad, SRes.bind_nx, SRes.bind_rt, SRes.bind_ex, SRes.bind_bad, List.set_cons_zero, List.set_cons_succ, addD_i, subD_i, ltD_i, leD_i, gtD_i, geD_i, eqD_i, neD_i, lenB_scr, lenB_lst, lenB_tup, truD, tyD, Ty.le, isD, isntD, isNon, killE, List.foldl_cons, List.foldl_nil, List.length_cons, List.length_nil, Nat.reduceAdd, Nat.zero_add, Nat.reduceLeDiff, if_true, if_false, Bool.false_eq_true, Bool.not_true, Bool.not_false]
      exact brokenB_eq
/-- one turn of the builder -/
def stepP (ns : List Int) (most : Int) (bs : List Box) (k : Nat) : List Box :=
  if ((bs.length : Nat) : Int) + ((brokenP (bs.getD (cellv ns k % (bs.length : Nat)).toNat default) (cellv ns k / 14)).length : Nat) ≤ most + 1 then
    bs.take (cellv ns k % (bs.length : Nat)).toNat ++ [(brokenP (bs.getD (cellv ns k % (bs.length : Nat)).toNat default) (cellv ns k / 14)).getLastD default] ++ bs.drop ((cellv ns k % (bs.length : Nat)).toNat + 1) ++ (brokenP (bs.getD (cellv ns k % (bs.length : Nat)).toNat default) (cellv ns k / 14)).dropLast
  else bs
theorem broken_ne (b : Box) (c : Int) : ∃ l x, brokenP b c = l ++ [x] ∧ l.length ≤ 4 := by
  unfold brokenP
  split
  · unfold wheelP
    refine ⟨_, _, rfl, ?_⟩
    split <;> simp
  · split
    · exact ⟨[_], _, rfl, by simp⟩
    · split
      · exact ⟨[_], _, rfl, by simp⟩
      · exact ⟨[], _, rfl, by simp⟩
theorem step_ne {ns : List Int} {most : Int} {bs : List Box} {k : Nat} (h : bs ≠ []) : stepP ns most bs k ≠ [] := by
  unfold stepP
  split
  · simp
  · exact h
theorem step_len {ns : List Int} {most : Int} {bs : List Box} {k : Nat} (h : bs ≠ []) (hm : ((bs.length : Nat) : Int) ≤ most) : ((stepP ns most bs k).length : Int) ≤ most := by
  have hp : 0 < bs.length := List.length_pos_iff.mpr h
  have h0 := Int.emod_nonneg (cellv ns k) (show ((bs.length : Nat) : Int) ≠ 0 by omega)
  have h1 := Int.emod_lt_of_pos (cellv ns k) (show (0 : Int) < ((bs.length : Nat) : Int) by omega)
  unfold stepP
  split
  · rename_i hc
    obtain ⟨l, x, e, _⟩ := broken_ne (bs.getD (cellv ns k % (bs.length : Nat)).toNat default) (cellv ns k / 14)
    rw [e] at hc ⊢
    rw [List.length_append, List.length_singleton] at hc
    rw [List.dropLast_concat]
    simp only [List.length_append, List.length_take, List.length_drop, List.length_singleton]
    omega
  · exact hm
def builtP (ns : List Int) (most : Int) (ks : List Nat) (bs : List Box) : List Box := ks.foldl (stepP ns most) bs
theorem built_ne {ns : List Int} {most : Int} : ∀ {ks : List Nat} {bs : List Box}, bs ≠ [] → builtP ns most ks bs ≠ []
  | [], _, h => h
  | k :: ks, _, h => built_ne (ks := ks) (step_ne h)
theorem built_len {ns : List Int} {most : Int} : ∀ {ks : List Nat} {bs : List Box}, bs ≠ [] → ((bs.length : Nat) : Int) ≤ most → ((builtP ns most ks bs).length : Int) ≤ most
  | [], _, _, h => h
  | k :: ks, _, h, h2 => built_len (ks := ks) (step_ne h) (step_len h h2)
def builtB : SM4 := (sSeq (sSet 8 (eCall 2 m_l_cell_at (aCons (eV 0) (aCons (eV 7) (aNil))))) (sSeq (sSet 9 (eOp modD (eV 8) (eB lenB (aCons (eV 6) (aNil))))) (sSeq (sSet 10 (eCall 2 m_l_broken (aCons (eOp ixD (eV 6) (eV 9)) (aCons (eOp fdivD (eV 8) (eC (.int 14))) (aNil))))) (sIf (asB (eOp leD (eOp addD (eB lenB (aCons (eV 6) (aNil))) (eB lenB (aCons (eV 10) (aNil)))) (eOp addD (eV 5) (eC (.int 1))))) (sSet 6 (eOp addD (eOp addD (eOp addD (eSl (eV 6) (oNo) (oSome (eV 9))) (eFrz (nLst (aCons (eOp ixD (eV 10) (eUn negD (eC (.int 1)))) (aNil))))) (eSl (eV 6) (oSome (eOp addD (eV 9) (eC (.int 1)))) (oNo))) (eSl (eV 10) (oNo) (oSome (eUn negD (eC (.int 1))))))) (sNext)))))
theorem builtB_eq {ns : List Int} {bs : List Box} {most : Int} {k : Nat} {st : Sto} {e1 e2 e3 e4 : Option D} (hk : k < 1000) (hb : bs ≠ []) (hl : bs.length ≤ 1000) :
    ∃ e8 e9 e10, builtB [some (.scr ns), e1, e2, e3, e4, some (.int most), some (.lst (bs.map bxD)), some (.int k), none, none, none] st =
      .nx [some (.scr ns), e1, e2, e3, e4, some (.int most), some (.lst ((stepP ns most bs k).map bxD)), some (.int k), e8, e9, e10] st := by
  have hp : 0 < bs.length := List.length_pos_iff.mpr hb
  have h0 := Int.emod_nonneg (cellv ns k) (show ((bs.length : Nat) : Int) ≠ 0 by omega)
  have h1 := Int.emod_lt_of_pos (cellv ns k) (show (0 : Int) < ((bs.length : Nat) : Int) by omega)
  have hpos : (0 : Int) < ((bs.length : Nat) : Int) := by omega
  have d14 : ∀ st, fdivD (.int (cellv ns k)) (.int 14) st = .ok (.int (cellv ns k / 14)) st := fun st => fdivD_i (by omega) (by decide)
  unfold builtB stepP
  generalize hj : cellv ns k % (bs.length : Nat) = j at h0 h1
  have hix : ∀ st, ixD (.lst (bs.map bxD)) (.int j) st = .ok (bxD (bs.getD j.toNat default)) st := fun st => ixD_lst h0 (by
    rw [List.getElem?_map, List.getElem?_eq_getElem (by omega), List.getD_eq_getElem?_getD, List.getElem?_eq_getElem (by omega)]; rfl)
  obtain ⟨l, x, e, hl4⟩ := broken_ne (bs.getD j.toNat default) (cellv ns k / 14)
  have hmx : ∀ st, ixD (.lst ((l ++ [x]).map bxD)) (.int (-1)) st = .ok (bxD x) st := fun st => by
    rw [List.map_append]; exact ixD_m1
  simp only [cell_eq (show ((k : Nat) : Int) = (k : Int) from rfl) hk, List.length_map, modD_i hpos, hj, hix, d14, broken_eq, e, aCons_o2, aCons_o1, aCons_ap, eTup_o1, eTup_ap, nLst_o1, nLst_ap, eFrz_o1, eFrz_ap, eNew_o1, eNew_ap, eOp_o2, eOp_o1, eOp_ap, tNotM_o1, tNotM_ap, sDrop_o1, sDrop_ap, sRet_o1, sRet_ap, sSet_o1, sSet_ap, sPut_o3, sPut_o2, sPut_o1, sPut_ap, nSl_o3, nSl_o2, nSl_o1, nSl_ap, eSl_o3, eSl_o2, eSl_o1, eSl_ap, nCat_o2, nCat_o1, nCat_ap, nRep_o2, nRep_o1, nRep_ap, sFor_o1, sFor_ap, nComp_o1, nComp_ap, eCall_o1, eCall_ap, rOne_o1, rOne_ap, rTwo_o2, rTwo_o1, rTwo_ap, iRevR_o1, iRevR_ap, nRng_o1, nRng_ap, iSeq_o1, iSeq_ap, iRev_o1, iRev_ap, eIsi_o1, eIsi_ap, eC_ap, aNil_ap, sNext_ap, sSeq_ap, sRetN_ap, tTru_ap, eUn_ap, eB_ap, nB_ap, noTest_ap, eDNew_ap, oNo_ap, gSet_ap, gsNil_ap, gsCons_ap, gsCons_o, gTupM_ap, sAsg_ap, sAsg_o1, sAsg_o2, sWhile_ap, asB_ap, asB_o, tAndM_ap, tAndM_t, tAndM_f, tOrM_ap, tOrM_t, tOrM_f, sIf_ap, sIf_t, sIf_f, eIf_ap, eIf_t, eIf_f, eAnd_ap, eAnd_o, eAnd_t, eAnd_f, eOr_ap, eOr_o, eOr_t, eOr_f, eNot_ap, eNot_o1, eNot_o2, oSome_ap, oSome_o, eChain_ap, eChain_o1, eChain_o2, eChain_t, eChain_f, eChain_o4, eChain3_ap, eChain3_o1, eChain3_o2, eChain3_t, eChain3_f, eChain3_o4, iEnum_ap, iZip_ap, eMt_ap, eMt_o2, isLst_lst, eTupRg_ap, eTupRg_o, ixt0, ixt1, ixt2, ixt3, ixt4, negD_i, slD_lst, eV_0, eV_s, Res.bind_ok, Res.bind_ex, Res.bind_bad, Res.on_ok, Res.on_ex, Res.on_bad, SRes.bind_nx, SRes.bind_rt, SRes.bind_ex, SRes.bind_bad, List.set_cons_zero, List.set_cons_succ, addD_i, subD_i, ltD_i, leD_i, gtD_i, geD_i, eqD_i, neD_i, lenB_scr, lenB_lst, lenB_tup, truD, tyD, Ty.le, isD, isntD, isNon, killE, List.foldl_cons, List.foldl_nil, List.length_cons, List.length_nil, Nat.reduceAdd, Nat.zero_add, Nat.reduceLeDiff, if_true, if_false, Bool.false_eq_true, Bool.not_true, Bool.not_false]
  by_cases hc : ((bs.length : Nat) : Int) + ((l ++ [x]).length : Nat) ≤ most + 1
  · simp only [decide_eq_true hc, if_pos hc, aCons_o2, aCons_o1, aCons_ap, eTup_o1, eTup_ap, nLst_o1, nLst_ap, eFrz_o1, eFrz_ap, eNew_o1, eNew_ap, eOp_o2, eOp_o1, eOp_ap, tNotM_o1, tNotM_ap, sDrop_o1, sDrop_ap, sRet_o1, sRet_ap, sSet_o1, sSet_ap, sPut_o3, sPut_o2, sPut_o1, sPut_ap, nSl_o3, nSl_o2, nSl_o1, nSl_ap, eSl_o3, eSl_o2, eSl_o1, eSl_ap, nCat_o2, nCat_o1, nCat_ap, nRep_o2, nRep_o1, nRep_ap, sFor_o1, sFor_ap, nComp_o1, nComp_ap, eCall_o1, eCall_ap, rOne_o1, rOne_ap, rTwo_o2, rTwo_o1, rTwo_ap, iRevR_o1, iRevR_ap, nRng_o1, nRng_ap, iSeq_o1, iSeq_ap, iRev_o1, iRev_ap, eIsi_o1, eIsi_ap, eC_ap, aNil_ap, sNext_ap, sSeq_ap, sRetN_ap, tTru_ap, eUn_ap, eB_ap, nB_ap, noTest_ap, eDNew_ap, oNo_ap, gSet_ap, gsNil_ap, gsCons_ap, gsCons_o, gTupM_ap, sAsg_ap, sAsg_o1, sAsg_o2, sWhile_ap, asB_ap, asB_o, tAndM_ap, tAndM_t, tAndM_f, tOrM_ap, tOrM_t, tOrM_f, sIf_ap, sIf_t, sIf_f, eIf_ap, eIf_t, eIf_f, eAnd_ap, eAnd_o, eAnd_t, eAnd_f, eOr_ap, eOr_o, eOr_t, eOr_f, eNot_ap, eNot_o1, eNot_o2, oSome_ap, oSome_o, eChain_ap, eChain_o1, eChain_o2, eChain_t, eChain_f, eChain_o4, eChain3_ap, eChain3_o1, eChain3_o2, eChain3_t, eChain3_f, eChain3_o4, iEnum_ap, iZip_ap, eMt_ap, eMt_o2, isLst_lst, eTupRg_ap, eTupRg_o, ixt0, ixt1, ixt2, ixt3, ixt4, negD_i, slD_lst, eV_0, eV_s, Res.bind_ok, Res.bind_ex, Res.bind_bad, Res.on_ok, Res.on_ex, Res.on_bad, SRes.bind_nx, SRes.bind_rt, SRes.bind_ex, SRes.bind_bad, List.set_cons_zero, List.set_cons_succ, addD_i, subD_i, ltD_i, leD_i, gtD_i, geD_i, eqD_i, neD_i, lenB_scr, lenB_lst, lenB_tup, truD, tyD, Ty.le, isD, isntD, isNon, killE, List.foldl_cons, List.foldl_nil, List.length_cons, List.length_nil, Nat.reduceAdd, Nat.zero_add, Nat.reduceLeDiff, if_true, if_false, Bool.false_eq_true, Bool.not_true, Bool.not_false]
    simp only [hmx, aCons_o2, aCons_o1, aCons_ap, eTup_o1, eTup_ap, nLst_o1, nLst_ap, eFrz_o1, eFrz_ap, eNew_o1, eNew_ap, eOp_o2, eOp_o1, eOp_ap, tNotM_o1, tNotM_ap, sDrop_o1, sDrop_ap, sRet_o1, sRet_ap, sSet_o1, sSet_ap, sPut_o3, sPut_o2, sPut_o1, sPut_ap, nSl_o3, nSl_o2, nSl_o1, nSl_ap, eSl_o3, eSl_o2, eSl_o1, eSl_ap, nCat_o2, nCat_o1, nCat_ap, nRep_o2, nRep_o1, nRep_ap, sFor_o1, sFor_ap, nComp_o1, nComp_ap, eCall_o1, eCall_ap, rOne_o1, rOne_ap, rTwo_o2, rTwo_o1, rTwo_ap, iRevR_o1, iRevR_ap, nRng_o1, nRng_ap, iSeq_o1, iSeq_ap, iRev_o1, iRev_ap, eIsi_o1, eIsi_ap, eC_ap, aNil_ap, sNext_ap, sSeq_ap, sRetN_ap, tTru_ap, eUn_ap, eB_ap, nB_ap, noTest_ap, eDNew_ap, oNo_ap, gSet_ap, gsNil_ap, gsCons_ap, gsCons_o, gTupM_ap, sAsg_ap, sAsg_o1, sAsg_o2, sWhile_ap, asB_ap, asB_o, tAndM_ap, tAndM_t, tAndM_f, tOrM_ap, tOrM_t, tOrM_f, sIf_ap, sIf_t, sIf_f, eIf_ap, eIf_t, eIf_f, eAnd_ap, eAnd_o, eAnd_t, eAnd_f, eOr_ap, eOr_o, eOr_t, eOr_f, eNot_ap, eNot_o1, eNot_o2, oSome_ap, oSome_o, eChain_ap, eChain_o1, eChain_o2, eChain_t, eChain_f, eChain_o4, eChain3_ap, eChain3_o1, eChain3_o2, eChain3_t, eChain3_f, eChain3_o4, iEnum_ap, iZip_ap, eMt_ap, eMt_o2, isLst_lst, eTupRg_ap, eTupRg_o, ixt0, ixt1, ixt2, ixt3, ixt4, negD_i, slD_lst, eV_0, eV_s, Res.bind_ok, Res.bind_ex, Res.bind_bad, Res.on_ok, Res.on_ex, Res.on_bad, SRes.bind_nx, SRes.bind_rt, SRes.bind_ex, SRes.bind_bad, List.set_cons_zero, List.set_cons_succ, addD_i, subD_i, ltD_i, leD_i, gtD_i, geD_i, eqD_i, neD_i, lenB_scr, lenB_lst, lenB_tup, truD, tyD, Ty.le, isD, isntD, isNon, killE, List.foldl_cons, List.foldl_nil, List.length_cons, List.length_nil, Nat.reduceAdd, Nat.zero_add, Nat.reduceLeDiff, if_true, if_false, Bool.false_eq_true, Bool.not_true, Bool.not_false]
    rw [addD_lst (by simp only [cut_to h0, List.length_take, List.length_map, List.length_singleton]; omega)]
    simp only [aCons_o2, aCons_o1, aCons_ap, eTup_o1, eTup_ap, nLst_o1, nLst_ap, eFrz_o1, eFrz_ap, eNew_o1, eNew_ap, eOp_o2, eOp_o1, eOp_ap, tNotM_o1, tNotM_ap, sDrop_o1, sDrop_ap, sRet_o1, sRet_ap, sSet_o1, sSet_ap, sPut_o3, sPut_o2, sPut_o1, sPut_ap, nSl_o3, nSl_o2, nSl_o1, nSl_ap, eSl_o3, eSl_o2, eSl_o1, eSl_ap, nCat_o2, nCat_o1, nCat_ap, nRep_o2, nRep_o1, nRep_ap, sFor_o1, sFor_ap, nComp_o1, nComp_ap, eCall_o1, eCall_ap, rOne_o1, rOne_ap, rTwo_o2, rTwo_o1, rTwo_ap, iRevR_o1, iRevR_ap, nRng_o1, nRng_ap, iSeq_o1, iSeq_ap, iRev_o1, iRev_ap, eIsi_o1, eIsi_ap, eC_ap, aNil_ap, sNext_ap, sSeq_ap, sRetN_ap, tTru_ap, eUn_ap, eB_ap, nB_ap, noTest_ap, eDNew_ap, oNo_ap, gSet_ap, gsNil_ap, gsCons_ap, gsCons_o, gTupM_ap, sAsg_ap, sAsg_o1, sAsg_o2, sWhile_ap, asB_ap, asB_o, tAndM_ap, tAndM_t, tAndM_f, tOrM_ap, tOrM_t, tOrM_f, sIf_ap, sIf_t, sIf_f, eIf_ap, eIf_t, eIf_f, eAnd_ap, eAnd_o, eAnd_t, eAnd_f, eOr_ap, eOr_o, eOr_t, eOr_f, eNot_ap, eNot_o1, eNot_o2, oSome_ap, oSome_o, eChain_ap, eChain_o1, eChain_o2, eChain_t, eChain_f, eChain_o4, eChain3_ap, eChain3_o1, eChain3_o2, eChain3_t, eChain3_f, eChain3_o4, iEnum_ap, iZip_ap, eMt_ap, eMt_o2, isLst_lst, eTupRg_ap, eTupRg_o, ixt0, ixt1, ixt2, ixt3, ixt4, negD_i, slD_lst, eV_0, eV_s, Res.bind_ok, Res.bind_ex, Res.bind_bad, Res.on_ok, Res.on_ex, Res.on_bad, SRes.bind_nx, SRes.bind_rt, SRes.bind_ex, SRes.bind_bad, List.set_cons_zero, List.set_cons_succ, addD_i, subD_i, ltD_i, leD_i, gtD_i, geD_i, eqD_i, neD_i, lenB_scr, lenB_lst, lenB_tup, truD, tyD, Ty.le, isD, isntD, isNon, killE, List.foldl_cons, List.foldl_nil, List.length_cons, List.length_nil, Nat.reduceAdd, Nat.zero_add, Nat.reduceLeDiff, if_true, if_false, Bool.false_eq_true, Bool.not_true, Bool.not_false]
    have hj1 : (0 : Int) ≤ j + 1 := by omega
    rw [addD_lst (by simp only [cut_to h0, cut_from hj1, List.length_append, List.length_drop, List.length_take, List.length_map, List.length_singleton]; omega)]
    simp only [aCons_o2, aCons_o1, aCons_ap, eTup_o1, eTup_ap, nLst_o1, nLst_ap, eFrz_o1, eFrz_ap, eNew_o1, eNew_ap, eOp_o2, eOp_o1, eOp_ap, tNotM_o1, tNotM_ap, sDrop_o1, sDrop_ap, sRet_o1, sRet_ap, sSet_o1, sSet_ap, sPut_o3, sPut_o2, sPut_o1, sPut_ap, nSl_o3, nSl_o2, nSl_o1, nSl_ap, eSl_o3, eSl_o2, eSl_o1, eSl_ap, nCat_o2, nCat_o1, nCat_ap, nRep_o2, nRep_o1, nRep_ap, sFor_o1, sFor_ap, nComp_o1, nComp_ap, eCall_o1, eCall_ap, rOne_o1, rOne_ap, rTwo_o2, rTwo_o1, rTwo_ap, iRevR_o1, iRevR_ap, nRng_o1, nRng_ap, iSeq_o1, iSeq_ap, iRev_o1, iRev_ap, eIsi_o1, eIsi_ap, eC_ap, aNil_ap, sNext_ap, sSeq_ap, sRetN_ap, tTru_ap, eUn_ap, eB_ap, nB_ap, noTest_ap, eDNew_ap, oNo_ap, gSet_ap, gsNil_ap, gsCons_ap, gsCons_o, gTupM_ap, sAsg_ap, sAsg_o1, sAsg_o2, sWhile_ap, asB_ap, asB_o, tAndM_ap, tAndM_t, tAndM_f, tOrM_ap, tOrM_t, tOrM_f, sIf_ap, sIf_t, sIf_f, eIf_ap, eIf_t, eIf_f, eAnd_ap, eAnd_o, eAnd_t, eAnd_f, eOr_ap, eOr_o, eOr_t, eOr_f, eNot_ap, eNot_o1, eNot_o2, oSome_ap, oSome_o, eChain_ap, eChain_o1, eChain_o2, eChain_t, eChain_f, eChain_o4, eChain3_ap, eChain3_o1, eChain3_o2, eChain3_t, eChain3_f, eChain3_o4, iEnum_ap, iZip_ap, eMt_ap, eMt_o2, isLst_lst, eTupRg_ap, eTupRg_o, ixt0, ixt1, ixt2, ixt3, ixt4, negD_i, slD_lst, eV_0, eV_s, Res.bind_ok, Res.bind_ex, Res.bind_bad, Res.on_ok, Res.on_ex, Res.on_bad, SRes.bind_nx, SRes.bind_rt, SRes.bind_ex, SRes.bind_bad, List.set_cons_zero, List.set_cons_succ, addD_i, subD_i, ltD_i, leD_i, gtD_i, geD_i, eqD_i, neD_i, lenB_scr, lenB_lst, lenB_tup, truD, tyD, Ty.le, isD, isntD, isNon, killE, List.foldl_cons, List.foldl_nil, List.length_cons, List.length_nil, Nat.reduceAdd, Nat.zero_add, Nat.reduceLeDiff, if_true, if_false, Bool.false_eq_true, Bool.not_true, Bool.not_false]
    rw [addD_lst (by simp only [cut_to h0, cut_from hj1, cut_last, List.length_dropLast, List.length_append, List.length_drop, List.length_take, List.length_map, List.length_singleton]; omega)]
    refine ⟨some (.int (cellv ns k)), some (.int j), some (.lst ((l ++ [x]).map bxD)), ?_⟩
    simp only [aCons_o2, aCons_o1, aCons_ap, eTup_o1, eTup_ap, nLst_o1, nLst_ap, eFrz_o1, eFrz_ap, eNew_o1, eNew_ap, eOp_o2, eOp_o1, eOp_ap, tNotM_o1, tNotM_ap, sDrop_o1, sDrop_ap, sRet_o1, sRet_ap, sSet_o1, sSet_ap, sPut_o3, sPut_o2, sPut_o1, sPut_ap, nSl_o3, nSl_o2, nSl_o1, nSl_ap, eSl_o3, eSl_o2, eSl_o1, eSl_ap, nCat_o2, nCat_o1, nCat_ap, nRep_o2, nRep_o1, nRep_ap, sFor_o1, sFor_ap, nComp_o1, nComp_ap, eCall_o1, eCall_ap, rOne_o1, rOne_ap, rTwo_o2, rTwo_o1, rTwo_ap, iRevR_o1, iRevR_ap, nRng_o1, nRng_ap, iSeq_o1, iSeq_ap, iRev_o1, iRev_ap, eIsi_o1, eIsi_ap, eC_ap, aNil_ap, sNext_ap, sSeq_ap, sRetN_ap, tTru_ap, eUn_ap, eB_ap, nB_ap, noTest_ap, eDNew_ap, oNo_ap, gSet_ap, gsNil_ap, gsCons_ap, gsCons_o, gTupM_ap, sAsg_ap, sAsg_o1, sAsg_o2, sWhile_ap, asB_ap, asB_o, tAndM_ap, tAndM_t, tAndM_f, tOrM_ap, tOrM_t, tOrM_f, sIf_ap, sIf_t, sIf_f, eIf_ap, eIf_t, eIf_f, eAnd_ap, eAnd_o, eAnd_t, eAnd_f, eOr_ap, eOr_o, eOr_t, eOr_f, eNot_ap, eNot_o1, eNot_o2, oSome_ap, oSome_o, eChain_ap, eChain_o1, eChain_o2, eChain_t, eChain_f, eChain_o4, eChain3_ap, eChain3_o1, eChain3_o2, eChain3_t, eChain3_f, eChain3_o4, iEnum_ap, iZip_ap, eMt_ap, eMt_o2, isLst_lst, eTupRg_ap, eTupRg_o, ixt0, ixt1, ixt2, ixt3, ixt4, negD_i, slD_lst, eV_0, eV_s, Res.bind_ok, Res.bind_ex, Res.bind_bad, Res.on_ok, Res.on_ex, Res.on_bad, SRes.bind_nx, SRes.bind_rt, SRes.bind_ex, SRes.bind_bad, List.set_cons_zero, List.set_cons_succ, addD_i, subD_i, ltD_i, leD_i, gtD_i, geD_i, eqD_i, neD_i, lenB_scr, lenB_lst, lenB_tup, truD, tyD, Ty.le, isD, isntD, isNon, killE, List.foldl_cons, List.foldl_nil, List.length_cons, List.length_nil, Nat.reduceAdd, Nat.zero_add, Nat.reduceLeDiff, if_true, if_false, Bool.false_eq_true, Bool.not_true, Bool.not_false]
    rw [cut_to h0, cut_from hj1, cut_last, show (j + 1).toNat = j.toNat + 1 by omega]
    simp only [← List.map_take, ← List.map_drop, ← List.map_dropLast]
    rw [show [bxD x] = [x].map bxD from rfl, ← List.map_append, ← List.map_append, ← List.map_append]
    rw [List.getLastD_concat]
  · simp only [decide_eq_false hc, if_neg hc, aCons_o2, aCons_o1, aCons_ap, eTup_o1, eTup_ap, nLst_o1, nLst_ap, eFrz_o1, eFrz_ap, eNew_o1, eNew_ap, eOp_o2, eOp_o1, eOp_ap, tNotM_o1, tNotM_ap, sDrop_o1, sDrop_ap, sRet_o1, sRet_ap, sSet_o1, sSet_ap, sPut_o3, sPut_o2, sPut_o1, sPut_ap, nSl_o3, nSl_o2, nSl_o1, nSl_ap, eSl_o3, eSl_o2, eSl_o1, eSl_ap, nCat_o2, nCat_o1, nCat_ap, nRep_o2, nRep_o1, nRep_ap, sFor_o1, sFor_ap, nComp_o1, nComp_ap, eCall_o1, eCall_ap, rOne_o1, rOne_ap, rTwo_o2, rTwo_o1, rTwo_ap, iRevR_o1, iRevR_ap, nRng_o1, nRng_ap, iSeq_o1, iSeq_ap, iRev_o1, iRev_ap, eIsi_o1, eIsi_ap, eC_ap, aNil_ap, sNext_ap, sSeq_ap, sRetN_ap, tTru_ap, eUn_ap, eB_ap, nB_ap, noTest_ap, eDNew_ap, oNo_ap, gSet_ap, gsNil_ap, gsCons_ap, gsCons_o, gTupM_ap, sAsg_ap, sAsg_o1, sAsg_o2, sWhile_ap, asB_ap, asB_o, tAndM_ap, tAndM_t, tAndM_f, tOrM_ap, tOrM_t, tOrM_f, sIf_ap, sIf_t, sIf_f, eIf_ap, eIf_t, eIf_f, eAnd_ap, eAnd_o, eAnd_t, eAnd_f, eOr_ap, eOr_o, eOr_t, eOr_f, eNot_ap, eNot_o1, eNot_o2, oSome_ap, oSome_o, eChain_ap, eChain_o1, eChain_o2, eChain_t, eChain_f, eChain_o4, eChain3_ap, eChain3_o1, eChain3_o2, eChain3_t, eChain3_f, eChain3_o4, iEnum_ap, iZip_ap, eMt_ap, eMt_o2, isLst_lst, eTupRg_ap, eTupRg_o, ixt0, ixt1, ixt2, ixt3, ixt4, negD_i, slD_lst, eV_0, eV_s, Res.bind_ok, Res.bind_ex, Res.bind_bad, Res.on_ok, Res.on_ex, Res.on_bad, SRes.bind_nx, SRes.bind_rt, SRes.bind_ex, SRes.bind_bad, List.set_cons_zero, List.set_cons_succ, addD_i, subD_i, ltD_i, leD_i, gtD_i, geD_i, eqD_i, neD_i, lenB_scr, lenB_lst, lenB_tup, truD, tyD, Ty.le, isD, isntD, isNon, killE, List.foldl_cons, List.foldl_nil, List.length_cons, List.length_nil, Nat.reduceAdd, Nat.zero_add, Nat.reduceLeDiff, if_true, if_false, Bool.false_eq_true, Bool.not_true, Bool.not_false]
    exact ⟨_, _, _, rfl⟩

theorem small_of {i : Int} (h1 : -1000000 ≤ i) (h2 : i ≤ 1000000) : smallI i := ⟨by omega, by omega⟩
theorem built_eq {ns : List Int} {a b : Nat} {wide high most : Int} {st : Sto} (hl : ns.length ≤ 63) (ha : a ≤ 100) (hb : b ≤ 100) (hm : 1 ≤ most ∧ most ≤ 100) :
    m_l_built [.scr ns, .int (a : Nat), .int (b : Nat), .int wide, .int high, .int most] st = .ok (.lst ((builtP ns most ((List.range (min ns.length b - a)).map (a + ·)) [(0, 0, wide, high)]).map bxD)) st := by
  show fin true st (b_l_built [some (.scr ns), some (.int (a : Nat)), some (.int (b : Nat)), some (.int wide), some (.int high), some (.int most), none, none, none, none, none] st) = _
  have hB : b_l_built = sSeq (sSet 6 (eFrz (nLst (aCons (eTup (aCons (eC (.int 0)) (aCons (eC (.int 0)) (aCons (eV 3) (aCons (eV 4) (aNil)))))) (aNil))))) (sSeq (sFor (some [7, 8, 9, 10]) (iRange2 (aCons (eV 1) (aCons (eB minB (aCons (eB lenB (aCons (eV 0) (aNil))) (aCons (eV 2) (aNil)))) (aNil)))) (gSet 7) builtB) (sRet (eV 6))) := rfl
  rw [hB]
  have hmin : (if ((b : Nat) : Int) < ((ns.length : Nat) : Int) then ((b : Nat) : Int) else ((ns.length : Nat) : Int)) = ((min ns.length b : Nat) : Int) := by split <;> omega
  simp only [aCons_o2, aCons_o1, aCons_ap, eTup_o1, eTup_ap, nLst_o1, nLst_ap, eFrz_o1, eFrz_ap, eNew_o1, eNew_ap, eOp_o2, eOp_o1, eOp_ap, tNotM_o1, tNotM_ap, sDrop_o1, sDrop_ap, sRet_o1, sRet_ap, sSet_o1, sSet_ap, sPut_o3, sPut_o2, sPut_o1, sPut_ap, nSl_o3, nSl_o2, nSl_o1, nSl_ap, eSl_o3, eSl_o2, eSl_o1, eSl_ap, nCat_o2, nCat_o1, nCat_ap, nRep_o2, nRep_o1, nRep_ap, eCall_o1, eCall_ap, rOne_o1, rOne_ap, rTwo_o2, rTwo_o1, rTwo_ap, iRevR_o1, iRevR_ap, nRng_o1, nRng_ap, eIsi_o1, eIsi_ap, eC_ap, aNil_ap, sNext_ap, sSeq_ap, sRetN_ap, tTru_ap, eUn_ap, eB_ap, nB_ap, noTest_ap, eDNew_ap, oNo_ap, gSet_ap, gsNil_ap, gsCons_ap, gsCons_o, gTupM_ap, sAsg_ap, sAsg_o1, sAsg_o2, asB_ap, asB_o, tAndM_ap, tAndM_t, tAndM_f, tOrM_ap, tOrM_t, tOrM_f, sIf_ap, sIf_t, sIf_f, eIf_ap, eIf_t, eIf_f, eAnd_ap, eAnd_o, eAnd_t, eAnd_f, eOr_ap, eOr_o, eOr_t, eOr_f, eNot_ap, eNot_o1, eNot_o2, oSome_ap, oSome_o, eChain_ap, eChain_o1, eChain_o2, eChain_t, eChain_f, eChain_o4, eChain3_ap, eChain3_o1, eChain3_o2, eChain3_t, eChain3_f, eChain3_o4, eMt_ap, eMt_o2, isLst_lst, eTupRg_ap, eTupRg_o, ixt0, ixt1, ixt2, ixt3, ixt4, negD_i, slD_lst, eV_0, eV_s, Res.bind_ok, Res.bind_ex, Res.bind_bad, Res.on_ok, Res.on_ex, Res.on_bad, SRes.bind_nx, SRes.bind_rt, SRes.bind_ex, SRes.bind_bad, List.set_cons_zero, List.set_cons_succ, addD_i, subD_i, ltD_i, leD_i, gtD_i, geD_i, eqD_i, neD_i, lenB_scr, lenB_lst, lenB_tup, truD, tyD, Ty.le, isD, isntD, isNon, killE, List.foldl_cons, List.foldl_nil, List.length_cons, List.length_nil, Nat.reduceAdd, Nat.zero_add, Nat.reduceLeDiff, if_true, if_false, Bool.false_eq_true, Bool.not_true, Bool.not_false]
  rw [sFor_ap, iRange2_i (i := (a : Nat)) (j := ((min ns.length b : Nat) : Int)) (st1 := st) (by
    simp only [minB_i, aCons_o2, aCons_o1, aCons_ap, eTup_o1, eTup_ap, nLst_o1, nLst_ap, eFrz_o1, eFrz_ap, eNew_o1, eNew_ap, eOp_o2, eOp_o1, eOp_ap, tNotM_o1, tNotM_ap, sDrop_o1, sDrop_ap, sRet_o1, sRet_ap, sSet_o1, sSet_ap, sPut_o3, sPut_o2, sPut_o1, sPut_ap, nSl_o3, nSl_o2, nSl_o1, nSl_ap, eSl_o3, eSl_o2, eSl_o1, eSl_ap, nCat_o2, nCat_o1, nCat_ap, nRep_o2, nRep_o1, nRep_ap, eCall_o1, eCall_ap, rOne_o1, rOne_ap, rTwo_o2, rTwo_o1, rTwo_ap, iRevR_o1, iRevR_ap, nRng_o1, nRng_ap, eIsi_o1, eIsi_ap, eC_ap, aNil_ap, sNext_ap, sSeq_ap, sRetN_ap, tTru_ap, eUn_ap, eB_ap, nB_ap, noTest_ap, eDNew_ap, oNo_ap, gSet_ap, gsNil_ap, gsCons_ap, gsCons_o, gTupM_ap, sAsg_ap, sAsg_o1, sAsg_o2, asB_ap, asB_o, tAndM_ap, tAndM_t, tAndM_f, tOrM_ap, tOrM_t, tOrM_f, sIf_ap, sIf_t, sIf_f, eIf_ap, eIf_t, eIf_f, eAnd_ap, eAnd_o, eAnd_t, eAnd_f, eOr_ap, eOr_o, eOr_t, eOr_f, eNot_ap, eNot_o1, eNot_o2, oSome_ap, oSome_o, eChain_ap, eChain_o1, eChain_o2, eChain_t, eChain_f, eChain_o4, eChain3_ap, eChain3_o1, eChain3_o2, eChain3_t, eChain3_f, eChain3_o4, eMt_ap, eMt_o2, isLst_lst, eTupRg_ap, eTupRg_o, ixt0, ixt1, ixt2, ixt3, ixt4, negD_i, slD_lst, eV_0, eV_s, Res.bind_ok, Res.bind_ex, Res.bind_bad, Res.on_ok, Res.on_ex, Res.on_bad, SRes.bind_nx, SRes.bind_rt, SRes.bind_ex, SRes.bind_bad, List.set_cons_zero, List.set_cons_succ, addD_i, subD_i, ltD_i, leD_i, gtD_i, geD_i, eqD_i, neD_i, lenB_scr, lenB_lst, lenB_tup, truD, tyD, Ty.le, isD, isntD, isNon, killE, List.foldl_cons, List.foldl_nil, List.length_cons, List.length_nil, Nat.reduceAdd, Nat.zero_add, Nat.reduceLeDiff, if_true, if_false, Bool.false_eq_true, Bool.not_true, Bool.not_false]
    rw [hmin]) (small_of (by omega) (by omega)) (small_of (by omega) (by omega))]
  simp only [sFor_o1, killE, List.foldl_cons, List.foldl_nil, List.set_cons_zero, List.set_cons_succ]
  have hk : (((min ns.length b : Nat) : Int) - ((a : Nat) : Int)).toNat = min ns.length b - a := by omega
  rw [hk]
  generalize hn : min ns.length b - a = n
  have hn2 : n ≤ 100 := by omega
  refine loop_inv0 (fun i env st' => env = [some (.scr ns), some (.int (a : Nat)), some (.int (b : Nat)), some (.int wide), some (.int high), some (.int most), some (.lst ((builtP ns most ((List.range i).map (a + ·)) [(0, 0, wide, high)]).map bxD)), none, none, none, none] ∧ st' = st)
    (fun r => fin true st (r.bind (sRet (eV 6))) = .ok (.lst ((builtP ns most ((List.range n).map (a + ·)) [(0, 0, wide, high)]).map bxD)) st)
    (fun _ _ _ _ => rfl) (fun i d env st' hd hP => ?_) (fun env st' hP => ?_) ⟨rfl, rfl⟩
  · obtain ⟨rfl, rfl⟩ := hP
    rw [List.getElem?_map] at hd
    obtain ⟨k, hk, rfl⟩ := Option.map_eq_some_iff.mp hd
    obtain ⟨hk1, hk2⟩ := List.getElem?_eq_some_iff.mp hk
    rw [List.length_range] at hk1
    rw [List.getElem_range] at hk2
    subst hk2
    have hne := built_ne (ns := ns) (most := most) (ks := (List.range i).map (a + ·)) (bs := [(0, 0, wide, high)]) (by simp)
    have hle := built_len (ns := ns) (most := most) (ks := (List.range i).map (a + ·)) (bs := [(0, 0, wide, high)]) (by simp) (by simp; omega)
    obtain ⟨e8, e9, e10, he⟩ := builtB_eq (ns := ns) (most := most) (k := a + i) (st := st') (e1 := some (.int (a : Nat))) (e2 := some (.int (b : Nat))) (e3 := some (.int wide)) (e4 := some (.int high)) (by omega) hne (by omega)
    rw [show (((a + i : Nat) : Int)) = (a : Nat) + ((i : Nat) : Int) by omega] at he
    refine ⟨_, _, rfl, .inl ⟨_, _, he, ?_⟩⟩
    refine ⟨?_, after_same⟩
    simp only [kill, List.foldl_cons, List.foldl_nil, List.set_cons_zero, List.set_cons_succ]
    rw [List.range_succ, List.map_append]
    unfold builtP
    rw [List.foldl_append]
    rfl
  · obtain ⟨rfl, rfl⟩ := hP
    rw [List.length_map, List.length_range]
    simp only [aCons_o2, aCons_o1, aCons_ap, eTup_o1, eTup_ap, nLst_o1, nLst_ap, eFrz_o1, eFrz_ap, eNew_o1, eNew_ap, eOp_o2, eOp_o1, eOp_ap, tNotM_o1, tNotM_ap, sDrop_o1, sDrop_ap, sRet_o1, sRet_ap, sSet_o1, sSet_ap, sPut_o3, sPut_o2, sPut_o1, sPut_ap, nSl_o3, nSl_o2, nSl_o1, nSl_ap, eSl_o3, eSl_o2, eSl_o1, eSl_ap, nCat_o2, nCat_o1, nCat_ap, nRep_o2, nRep_o1, nRep_ap, sFor_o1, sFor_ap, nComp_o1, nComp_ap, eCall_o1, eCall_ap, rOne_o1, rOne_ap, rTwo_o2, rTwo_o1, rTwo_ap, iRevR_o1, iRevR_ap, nRng_o1, nRng_ap, iSeq_o1, iSeq_ap, iRev_o1, iRev_ap, eIsi_o1, eIsi_ap, eC_ap, aNil_ap, sNext_ap, sSeq_ap, sRetN_ap, tTru_ap, eUn_ap, eB_ap, nB_ap, noTest_ap, eDNew_ap, oNo_ap, gSet_ap, gsNil_ap, gsCons_ap, gsCons_o, gTupM_ap, sAsg_ap, sAsg_o1, sAsg_o2, sWhile_ap, asB_ap, asB_o, tAndM_ap, tAndM_t, tAndM_f, tOrM_ap, tOrM_t, tOrM_f, sIf_ap, sIf_t, sIf_f, eIf_ap, eIf_t, eIf_f, eAnd_ap, eAnd_o, eAnd_t, eAnd_f, eOr_ap, eOr_o, eOr_t, eOr_f, eNot_ap, eNot_o1, eNot_o2, oSome_ap, oSome_o, eChain_ap, eChain_o1, eChain_o2, eChain_t, eChain_f, eChain_o4, eChain3_ap, eChain3_o1, eChain3_o2, eChain3_t, eChain3_f, eChain3_o4, iEnum_ap, iZip_ap, eMt_ap, eMt_o2, isLst_lst, eTupRg_ap, eTupRg_o, ixt0, ixt1, ixt2, ixt3, ixt4, negD_i, slD_lst, eV_0, eV_s, Res.bind_ok, Res.bind_ex, Res.bind_bad, Res.on_ok, Res.on_ex, Res.on_bad, SRes.bind_nx, SRes.bind_rt, SRes.bind_ex, SRes.bind_bad, List.set_cons_zero, List.set_cons_succ, addD_i, subD_i, ltD_i, leD_i, gtD_i, geD_i, eqD_i, neD_i, lenB_scr, lenB_lst, lenB_tup, truD, tyD, Ty.le, isD, isntD, isNon, killE, List.foldl_cons, List.foldl_nil, List.length_cons, List.length_nil, Nat.reduceAdd, Nat.zero_add, Nat.reduceLeDiff, if_true, if_false, Bool.false_eq_true, Bool.not_true, Bool.not_false]
    exact fin_boxes _
end K50

namespace K50
open FL PySem
/-- the greatest common divisor, slots 2, 3 -/
theorem common_eq {a b : Int} {st : Sto} (hb : b.natAbs < 2 ^ 2000) : m_common [.int a, .int b] st = .ok (.int (Int.gcd a b : Nat)) st := by
  show fin true st (b_common [some (.int a), some (.int b), none, none, none] st) = _
  unfold b_common
  simp only [absB_i, aCons_o2, aCons_o1, aCons_ap, eTup_o1, eTup_ap, nLst_o1, nLst_ap, eFrz_o1, eFrz_ap, eNew_o1, eNew_ap, eOp_o2, eOp_o1, eOp_ap, tNotM_o1, tNotM_ap, sDrop_o1, sDrop_ap, sRet_o1, sRet_ap, sSet_o1, sSet_ap, sPut_o3, sPut_o2, sPut_o1, sPut_ap, nSl_o3, nSl_o2, nSl_o1, nSl_ap, eSl_o3, eSl_o2, eSl_o1, eSl_ap, nCat_o2, nCat_o1, nCat_ap, nRep_o2, nRep_o1, nRep_ap, sFor_o1, sFor_ap, nComp_o1, nComp_ap, eCall_o1, eCall_ap, rOne_o1, rOne_ap, rTwo_o2, rTwo_o1, rTwo_ap, iRevR_o1, iRevR_ap, nRng_o1, nRng_ap, iSeq_o1, iSeq_ap, iRev_o1, iRev_ap, eIsi_o1, eIsi_ap, eC_ap, aNil_ap, sNext_ap, sSeq_ap, sRetN_ap, tTru_ap, eUn_ap, eB_ap, nB_ap, noTest_ap, eDNew_ap, oNo_ap, gSet_ap, gsNil_ap, gsCons_ap, gsCons_o, gTupM_ap, sAsg_ap, sAsg_o1, sAsg_o2, sWhile_ap, asB_ap, asB_o, tAndM_ap, tAndM_t, tAndM_f, tOrM_ap, tOrM_t, tOrM_f, sIf_ap, sIf_t, sIf_f, eIf_ap, eIf_t, eIf_f, eAnd_ap, eAnd_o, eAnd_t, eAnd_f, eOr_ap, eOr_o, eOr_t, eOr_f, eNot_ap, eNot_o1, eNot_o2, oSome_ap, oSome_o, eChain_ap, eChain_o1, eChain_o2, eChain_t, eChain_f, eChain_o4, eChain3_ap, eChain3_o1, eChain3_o2, eChain3_t, eChain3_f, eChain3_o4, iEnum_ap, iZip_ap, eMt_ap, eMt_o2, isLst_lst, eTupRg_ap, eTupRg_o, ixt0, ixt1, ixt2, ixt3, ixt4, negD_i, slD_lst, eV_0, eV_s, Res.bind_ok, Res.bind_ex, Res.bind_bad, Res.on_ok, Res.on_ex, Res.on_bad, SRes.bind_nx, SRes.bind_rt, SRes.bind_ex, SRes.bind_bad, List.set_cons_zero, List.set_cons_succ, addD_i, subD_i, ltD_i, leD_i, gtD_i, geD_i, eqD_i, neD_i, lenB_scr, lenB_lst, lenB_tup, truD, tyD, Ty.le, isD, isntD, isNon, killE, List.foldl_cons, List.foldl_nil, List.length_cons, List.length_nil, Nat.reduceAdd, Nat.zero_add, Nat.reduceLeDiff, if_true, if_false, Bool.false_eq_true, Bool.not_true, Bool.not_false]
  refine while_inv (ks := [4]) (fun m env st' => ∃ x y : Nat, m = y ∧ Nat.gcd x y = Int.gcd a b ∧ st' = st ∧ env = [some (.int a), some (.int b), some (.int (x : Nat)), some (.int (y : Nat)), none])
    (fun r => fin true st (r.bind (sRet (eV 2))) = .ok (.int (Int.gcd a b : Nat)) st) (fun m env st' hP => ?_) fuelB b.natAbs _ _ (fuelB_lt hb) ⟨a.natAbs, b.natAbs, rfl, rfl, rfl, rfl⟩
  obtain ⟨x, y, rfl, hg, rfl, rfl⟩ := hP
  by_cases hy : 0 < m
  · have e1 : decide ((0 : Int) < (m : Int)) = true := decide_eq_true (by omega)
    refine .inr ⟨by simp only [aCons_o2, aCons_o1, aCons_ap, eTup_o1, eTup_ap, nLst_o1, nLst_ap, eFrz_o1, eFrz_ap, eNew_o1, eNew_ap, eOp_o2, eOp_o1, eOp_ap, tNotM_o1, tNotM_ap, sDrop_o1, sDrop_ap, sRet_o1, sRet_ap, sSet_o1, sSet_ap, sPut_o3, sPut_o2, sPut_o1, sPut_ap, nSl_o3, nSl_o2, nSl_o1, nSl_ap, eSl_o3, eSl_o2, eSl_o1, eSl_ap, nCat_o2, nCat_o1, nCat_ap, nRep_o2, nRep_o1, nRep_ap, sFor_o1, sFor_ap, nComp_o1, nComp_ap, eCall_o1, eCall_ap, rOne_o1, rOne_ap, rTwo_o2, rTwo_o1, rTwo_ap, iRevR_o1, iRevR_ap, nRng_o1, nRng_ap, iSeq_o1, iSeq_ap, iRev_o1, iRev_ap, eIsi_o1, eIsi_ap, eC_ap, aNil_ap, sNext_ap, sSeq_ap, sRetN_ap, tTru_ap, eUn_ap, eB_ap, nB_ap, noTest_ap, eDNew_ap, oNo_ap, gSet_ap, gsNil_ap, gsCons_ap, gsCons_o, gTupM_ap, sAsg_ap, sAsg_o1, sAsg_o2, sWhile_ap, asB_ap, asB_o, tAndM_ap, tAndM_t, tAndM_f, tOrM_ap, tOrM_t, tOrM_f, sIf_ap, sIf_t, sIf_f, eIf_ap, eIf_t, eIf_f, eAnd_ap, eAnd_o, eAnd_t, eAnd_f, eOr_ap, eOr_o, eOr_t, eOr_f, eNot_ap, eNot_o1, eNot_o2, oSome_ap, oSome_o, eChain_ap, eChain_o1, eChain_o2, eChain_t, eChain_f, eChain_o4, eChain3_ap, eChain3_o1, eChain3_o2, eChain3_t, eChain3_f, eChain3_o4, iEnum_ap, iZip_ap, eMt_ap, eMt_o2, isLst_lst, eTupRg_ap, eTupRg_o, ixt0, ixt1, ixt2, ixt3, ixt4, negD_i, slD_lst, eV_0, eV_s, Res.bind_ok, Res.bind_ex, Res.bind_bad, Res.on_ok, Res.on_ex, Res.on_bad, SRes.bind_nx, SRes.bind_rt, SRes.bind_ex, SRes.bind_bad, List.set_cons_zero, List.set_cons_succ, addD_i, subD_i, ltD_i, leD_i, gtD_i, geD_i, eqD_i, neD_i, lenB_scr, lenB_lst, lenB_tup, truD, tyD, Ty.le, isD, isntD, isNon, killE, List.foldl_cons, List.foldl_nil, List.length_cons, List.length_nil, Nat.reduceAdd, Nat.zero_add, Nat.reduceLeDiff, if_true, if_false, Bool.false_eq_true, Bool.not_true, Bool.not_false]; simp only [e1], .inl ⟨?e, ?s, x % m, ?h1, Nat.mod_lt _ hy, ?h2⟩⟩
    case h1 =>
      simp only [aCons_o2, aCons_o1, aCons_ap, eTup_o1, eTup_ap, nLst_o1, nLst_ap, eFrz_o1, eFrz_ap, eNew_o1, eNew_ap, eOp_o2, eOp_o1, eOp_ap, tNotM_o1, tNotM_ap, sDrop_o1, sDrop_ap, sRet_o1, sRet_ap, sSet_o1, sSet_ap, sPut_o3, sPut_o2, sPut_o1, sPut_ap, nSl_o3, nSl_o2, nSl_o1, nSl_ap, eSl_o3, eSl_o2, eSl_o1, eSl_ap, nCat_o2, nCat_o1, nCat_ap, nRep_o2, nRep_o1, nRep_ap, sFor_o1, sFor_ap, nComp_o1, nComp_ap, eCall_o1, eCall_ap, rOne_o1, rOne_ap, rTwo_o2, rTwo_o1, rTwo_ap, iRevR_o1, iRevR_ap, nRng_o1, nRng_ap, iSeq_o1, iSeq_ap, iRev_o1, iRev_ap, eIsi_o1, eIsi_ap, eC_ap, aNil_ap, sNext_ap, sSeq_ap, sRetN_ap, tTru_ap, eUn_ap, eB_ap, nB_ap, noTest_ap, eDNew_ap, oNo_ap, gSet_ap, gsNil_ap, gsCons_ap, gsCons_o, gTupM_ap, sAsg_ap, sAsg_o1, sAsg_o2, sWhile_ap, asB_ap, asB_o, tAndM_ap, tAndM_t, tAndM_f, tOrM_ap, tOrM_t, tOrM_f, sIf_ap, sIf_t, sIf_f, eIf_ap, eIf_t, eIf_f, eAnd_ap, eAnd_o, eAnd_t, eAnd_f, eOr_ap, eOr_o, eOr_t, eOr_f, eNot_ap, eNot_o1, eNot_o2, oSome_ap, oSome_o, eChain_ap, eChain_o1, eChain_o2, eChain_t, eChain_f, eChain_o4, eChain3_ap, eChain3_o1, eChain3_o2, eChain3_t, eChain3_f, eChain3_o4, iEnum_ap, iZip_ap, eMt_ap, eMt_o2, isLst_lst, eTupRg_ap, eTupRg_o, ixt0, ixt1, ixt2, ixt3, ixt4, negD_i, slD_lst, eV_0, eV_s, Res.bind_ok, Res.bind_ex, Res.bind_bad, Res.on_ok, Res.on_ex, Res.on_bad, SRes.bind_nx, SRes.bind_rt, SRes.bind_ex, SRes.bind_bad, List.set_cons_zero, List.set_cons_succ, addD_i, subD_i, ltD_i, leD_i, gtD_i, geD_i, eqD_i, neD_i, lenB_scr, lenB_lst, lenB_tup, truD, tyD, Ty.le, isD, isntD, isNon, killE, List.foldl_cons, List.foldl_nil, List.length_cons, List.length_nil, Nat.reduceAdd, Nat.zero_add, Nat.reduceLeDiff, if_true, if_false, Bool.false_eq_true, Bool.not_true, Bool.not_false]
      rw [modD_i (by omega)]
      simp only [aCons_o2, aCons_o1, aCons_ap, eTup_o1, eTup_ap, nLst_o1, nLst_ap, eFrz_o1, eFrz_ap, eNew_o1, eNew_ap, eOp_o2, eOp_o1, eOp_ap, tNotM_o1, tNotM_ap, sDrop_o1, sDrop_ap, sRet_o1, sRet_ap, sSet_o1, sSet_ap, sPut_o3, sPut_o2, sPut_o1, sPut_ap, nSl_o3, nSl_o2, nSl_o1, nSl_ap, eSl_o3, eSl_o2, eSl_o1, eSl_ap, nCat_o2, nCat_o1, nCat_ap, nRep_o2, nRep_o1, nRep_ap, sFor_o1, sFor_ap, nComp_o1, nComp_ap, eCall_o1, eCall_ap, rOne_o1, rOne_ap, rTwo_o2, rTwo_o1, rTwo_ap, iRevR_o1, iRevR_ap, nRng_o1, nRng_ap, iSeq_o1, iSeq_ap, iRev_o1, iRev_ap, eIsi_o1, eIsi_ap, eC_ap, aNil_ap, sNext_ap, sSeq_ap, sRetN_ap, tTru_ap, eUn_ap, eB_ap, nB_ap, noTest_ap, eDNew_ap, oNo_ap, gSet_ap, gsNil_ap, gsCons_ap, gsCons_o, gTupM_ap, sAsg_ap, sAsg_o1, sAsg_o2, sWhile_ap, asB_ap, asB_o, tAndM_ap, tAndM_t, tAndM_f, tOrM_ap, tOrM_t, tOrM_f, sIf_ap, sIf_t, sIf_f, eIf_ap, eIf_t, eIf_f, eAnd_ap, eAnd_o, eAnd_t, eAnd_f, eOr_ap, eOr_o, eOr_t, eOr_f, eNot_ap, eNot_o1, eNot_o2, oSome_ap, oSome_o, eChain_ap, eChain_o1, eChain_o2, eChain_t, eChain_f, eChain_o4, eChain3_ap, eChain3_o1, eChain3_o2, eChain3_t, eChain3_f, eChain3_o4, iEnum_ap, iZip_ap, eMt_ap, eMt_o2, isLst_lst, eTupRg_ap, eTupRg_o, ixt0, ixt1, ixt2, ixt3, ixt4, negD_i, slD_lst, eV_0, eV_s, Res.bind_ok, Res.bind_ex, Res.bind_bad, Res.on_ok, Res.on_ex, Res.on_bad, SRes.bind_nx, SRes.bind_rt, SRes.bind_ex, SRes.bind_bad, List.set_cons_zero, List.set_cons_succ, addD_i, subD_i, ltD_i, leD_i, gtD_i, geD_i, eqD_i, neD_i, lenB_scr, lenB_lst, lenB_tup, truD, tyD, Ty.le, isD, isntD, isNon, killE, List.foldl_cons, List.foldl_nil, List.length_cons, List.length_nil, Nat.reduceAdd, Nat.zero_add, Nat.reduceLeDiff, if_true, if_false, Bool.false_eq_true, Bool.not_true, Bool.not_false]
      rfl
    case h2 =>
      refine ⟨m, x % m, rfl, by rw [gcd_step hy]; exact hg, after_same, ?_⟩
      simp only [kill, aCons_o2, aCons_o1, aCons_ap, eTup_o1, eTup_ap, nLst_o1, nLst_ap, eFrz_o1, eFrz_ap, eNew_o1, eNew_ap, eOp_o2, eOp_o1, eOp_ap, tNotM_o1, tNotM_ap, sDrop_o1, sDrop_ap, sRet_o1, sRet_ap, sSet_o1, sSet_ap, sPut_o3, sPut_o2, sPut_o1, sPut_ap, nSl_o3, nSl_o2, nSl_o1, nSl_ap, eSl_o3, eSl_o2, eSl_o1, eSl_ap, nCat_o2, nCat_o1, nCat_ap, nRep_o2, nRep_o1, nRep_ap, sFor_o1, sFor_ap, nComp_o1, nComp_ap, eCall_o1, eCall_ap, rOne_o1, rOne_ap, rTwo_o2, rTwo_o1, rTwo_ap, iRevR_o1, iRevR_ap, nRng_o1, nRng_ap, iSeq_o1, iSeq_ap, iRev_o1, iRev_ap, eIsi_o1, eIsi_ap, eC_ap, aNil_ap, sNext_ap, sSeq_ap, sRetN_ap, tTru_ap, eUn_ap, eB_ap, nB_ap, noTest_ap, eDNew_ap, oNo_ap, gSet_ap, gsNil_ap, gsCons_ap, gsCons_o, gTupM_ap, sAsg_ap, sAsg_o1, sAsg_o2, sWhile_ap, asB_ap, asB_o, tAndM_ap, tAndM_t, tAndM_f, tOrM_ap, tOrM_t, tOrM_f, sIf_ap, sIf_t, sIf_f, eIf_ap, eIf_t, eIf_f, eAnd_ap, eAnd_o, eAnd_t, eAnd_f, eOr_ap, eOr_o, eOr_t, eOr_f, eNot_ap, eNot_o1, eNot_o2, oSome_ap, oSome_o, eChain_ap, eChain_o1, eChain_o2, eChain_t, eChain_f, eChain_o4, eChain3_ap, eChain3_o1, eChain3_o2, eChain3_t, eChain3_f, eChain3_o4, iEnum_ap, iZip_ap, eMt_ap, eMt_o2, isLst_lst, eTupRg_ap, eTupRg_o, ixt0, ixt1, ixt2, ixt3, ixt4, negD_i, slD_lst, eV_0, eV_s, Res.bind_ok, Res.bind_ex, Res.bind_bad, Res.on_ok, Res.on_ex, Res.on_bad, SRes.bind_nx, SRes.bind_rt, SRes.bind_ex, SRes.bind_bad, List.set_cons_zero, List.set_cons_succ, addD_i, subD_i, ltD_i, leD_i, gtD_i, geD_i, eqD_i, neD_i, lenB_scr, lenB_lst, lenB_tup, truD, tyD, Ty.le, isD, isntD, isNon, killE, List.foldl_cons, List.foldl_nil, List.length_cons, List.length_nil, Nat.reduceAdd, Nat.zero_add, Nat.reduceLeDiff, if_true, if_false, Bool.false_eq_true, Bool.not_true, Bool.not_false, Int.natCast_emod]
  · have e1 : decide ((0 : Int) < (m : Int)) = false := decide_eq_false (by omega)
    refine .inl ⟨by simp only [aCons_o2, aCons_o1, aCons_ap, eTup_o1, eTup_ap, nLst_o1, nLst_ap, eFrz_o1, eFrz_ap, eNew_o1, eNew_ap, eOp_o2, eOp_o1, eOp_ap, tNotM_o1, tNotM_ap, sDrop_o1, sDrop_ap, sRet_o1, sRet_ap, sSet_o1, sSet_ap, sPut_o3, sPut_o2, sPut_o1, sPut_ap, nSl_o3, nSl_o2, nSl_o1, nSl_ap, eSl_o3, eSl_o2, eSl_o1, eSl_ap, nCat_o2, nCat_o1, nCat_ap, nRep_o2, nRep_o1, nRep_ap, sFor_o1, sFor_ap, nComp_o1, nComp_ap, eCall_o1, eCall_ap, rOne_o1, rOne_ap, rTwo_o2, rTwo_o1, rTwo_ap, iRevR_o1, iRevR_ap, nRng_o1, nRng_ap, iSeq_o1, iSeq_ap, iRev_o1, iRev_ap, eIsi_o1, eIsi_ap, eC_ap, aNil_ap, sNext_ap, sSeq_ap, sRetN_ap, tTru_ap, eUn_ap, eB_ap, nB_ap, noTest_ap, eDNew_ap, oNo_ap, gSet_ap, gsNil_ap, gsCons_ap, gsCons_o, gTupM_ap, sAsg_ap, sAsg_o1, sAsg_o2, sWhile_ap, asB_ap, asB_o, tAndM_ap, tAndM_t, tAndM_f, tOrM_ap, tOrM_t, tOrM_f, sIf_ap, sIf_t, sIf_f, eIf_ap, eIf_t, eIf_f, eAnd_ap, eAnd_o, eAnd_t, eAnd_f, eOr_ap, eOr_o, eOr_t, eOr_f, eNot_ap, eNot_o1, eNot_o2, oSome_ap, oSome_o, eChain_ap, eChain_o1, eChain_o2, eChain_t, eChain_f, eChain_o4, eChain3_ap, eChain3_o1, eChain3_o2, eChain3_t, eChain3_f, eChain3_o4, iEnum_ap, iZip_ap, eMt_ap, eMt_o2, isLst_lst, eTupRg_ap, eTupRg_o, ixt0, ixt1, ixt2, ixt3, ixt4, negD_i, slD_lst, eV_0, eV_s, Res.bind_ok, Res.bind_ex, Res.bind_bad, Res.on_ok, Res.on_ex, Res.on_bad, SRes.bind_nx, SRes.bind_rt, SRes.bind_ex, SRes.bind_bad, List.set_cons_zero, List.set_cons_succ, addD_i, subD_i, ltD_i, leD_i, gtD_i, geD_i, eqD_i, neD_i, lenB_scr, lenB_lst, lenB_tup, truD, tyD, Ty.le, isD, isntD, isNon, killE, List.foldl_cons, List.foldl_nil, List.length_cons, List.length_nil, Nat.reduceAdd, Nat.zero_add, Nat.reduceLeDiff, if_true, if_false, Bool.false_eq_true, Bool.not_true, Bool.not_false]; simp only [e1], ?_⟩
    have e0 : m = 0 := by omega
    subst e0
    rw [Nat.gcd_zero_right] at hg
    simp only [aCons_o2, aCons_o1, aCons_ap, eTup_o1, eTup_ap, nLst_o1, nLst_ap, eFrz_o1, eFrz_ap, eNew_o1, eNew_ap, eOp_o2, eOp_o1, eOp_ap, tNotM_o1, tNotM_ap, sDrop_o1, sDrop_ap, sRet_o1, sRet_ap, sSet_o1, sSet_ap, sPut_o3, sPut_o2, sPut_o1, sPut_ap, nSl_o3, nSl_o2, nSl_o1, nSl_ap, eSl_o3, eSl_o2, eSl_o1, eSl_ap, nCat_o2, nCat_o1, nCat_ap, nRep_o2, nRep_o1, nRep_ap, sFor_o1, sFor_ap, nComp_o1, nComp_ap, eCall_o1, eCall_ap, rOne_o1, rOne_ap, rTwo_o2, rTwo_o1, rTwo_ap, iRevR_o1, iRevR_ap, nRng_o1, nRng_ap, iSeq_o1, iSeq_ap, iRev_o1, iRev_ap, eIsi_o1, eIsi_ap, eC_ap, aNil_ap, sNext_ap, sSeq_ap, sRetN_ap, tTru_ap, eUn_ap, eB_ap, nB_ap, noTest_ap, eDNew_ap, oNo_ap, gSet_ap, gsNil_ap, gsCons_ap, gsCons_o, gTupM_ap, sAsg_ap, sAsg_o1, sAsg_o2, sWhile_ap, asB_ap, asB_o, tAndM_ap, tAndM_t, tAndM_f, tOrM_ap, tOrM_t, tOrM_f, sIf_ap, sIf_t, sIf_f, eIf_ap, eIf_t, eIf_f, eAnd_ap, eAnd_o, eAnd_t, eAnd_f, eOr_ap, eOr_o, eOr_t, eOr_f, eNot_ap, eNot_o1, eNot_o2, oSome_ap, oSome_o, eChain_ap, eChain_o1, eChain_o2, eChain_t, eChain_f, eChain_o4, eChain3_ap, eChain3_o1, eChain3_o2, eChain3_t, eChain3_f, eChain3_o4, iEnum_ap, iZip_ap, eMt_ap, eMt_o2, isLst_lst, eTupRg_ap, eTupRg_o, ixt0, ixt1, ixt2, ixt3, ixt4, negD_i, slD_lst, eV_0, eV_s, Res.bind_ok, Res.bind_ex, Res.bind_bad, Res.on_ok, Res.on_ex, Res.on_bad, SRes.bind_nx, SRes.bind_rt, SRes.bind_ex, SRes.bind_bad, List.set_cons_zero, List.set_cons_succ, addD_i, subD_i, ltD_i, leD_i, gtD_i, geD_i, eqD_i, neD_i, lenB_scr, lenB_lst, lenB_tup, truD, tyD, Ty.le, isD, isntD, isNon, killE, List.foldl_cons, List.foldl_nil, List.length_cons, List.length_nil, Nat.reduceAdd, Nat.zero_add, Nat.reduceLeDiff, if_true, if_false, Bool.false_eq_true, Bool.not_true, Bool.not_false]
    rw [hg]
    exact fin_rt rfl
/-- a fraction, lowered -/
def sh (t b : Int) : Int := if b < 0 then -(Int.gcd t b : Int) else (Int.gcd t b : Int)
def fr (t b : Int) : D := .tup [.int (t.fdiv (sh t b)), .int (b.fdiv (sh t b))]
theorem gcd_pos {t b : Int} (hb : b ≠ 0) : 0 < Int.gcd t b := Int.gcd_pos_of_ne_zero_right _ hb
theorem gcd_le {t b : Int} (hb : b ≠ 0) : Int.gcd t b ≤ b.natAbs := Nat.gcd_le_right _ (by omega)
theorem sh_ne {t b : Int} (hb : b ≠ 0) : sh t b ≠ 0 := by
  have := gcd_pos (t := t) hb
  unfold sh
  split <;> omega
theorem sh_lt {t b : Int} (hb : b ≠ 0) (hl : b.natAbs < 2 ^ 2000) : (sh t b).natAbs < 2 ^ 2000 := by
  have := gcd_le (t := t) hb
  unfold sh
  split <;> omega
theorem fraction_eq {t b : Int} {st : Sto} (hb : b ≠ 0) (hl : b.natAbs < 2 ^ 2000) : m_fraction [.int t, .int b] st = .ok (fr t b) st := by
  show fin true st (b_fraction [some (.int t), some (.int b), none] st) = _
  have e0 : (b == 0) = false := by simpa using hb
  unfold b_fraction
  simp only [e0, aCons_o2, aCons_o1, aCons_ap, eTup_o1, eTup_ap, nLst_o1, nLst_ap, eFrz_o1, eFrz_ap, eNew_o1, eNew_ap, eOp_o2, eOp_o1, eOp_ap, tNotM_o1, tNotM_ap, sDrop_o1, sDrop_ap, sRet_o1, sRet_ap, sSet_o1, sSet_ap, sPut_o3, sPut_o2, sPut_o1, sPut_ap, nSl_o3, nSl_o2, nSl_o1, nSl_ap, eSl_o3, eSl_o2, eSl_o1, eSl_ap, nCat_o2, nCat_o1, nCat_ap, nRep_o2, nRep_o1, nRep_ap, sFor_o1, sFor_ap, nComp_o1, nComp_ap, eCall_o1, eCall_ap, rOne_o1, rOne_ap, rTwo_o2, rTwo_o1, rTwo_ap, iRevR_o1, iRevR_ap, nRng_o1, nRng_ap, iSeq_o1, iSeq_ap, iRev_o1, iRev_ap, eIsi_o1, eIsi_ap, eC_ap, aNil_ap, sNext_ap, sSeq_ap, sRetN_ap, tTru_ap, eUn_ap, eB_ap, nB_ap, noTest_ap, eDNew_ap, oNo_ap, gSet_ap, gsNil_ap, gsCons_ap, gsCons_o, gTupM_ap, sAsg_ap, sAsg_o1, sAsg_o2, sWhile_ap, asB_ap, asB_o, tAndM_ap, tAndM_t, tAndM_f, tOrM_ap, tOrM_t, tOrM_f, sIf_ap, sIf_t, sIf_f, eIf_ap, eIf_t, eIf_f, eAnd_ap, eAnd_o, eAnd_t, eAnd_f, eOr_ap, eOr_o, eOr_t, eOr_f, eNot_ap, eNot_o1, eNot_o2, oSome_ap, oSome_o, eChain_ap, eChain_o1, eChain_o2, eChain_t, eChain_f, eChain_o4, eChain3_ap, eChain3_o1, eChain3_o2, eChain3_t, eChain3_f, eChain3_o4, iEnum_ap, iZip_ap, eMt_ap, eMt_o2, isLst_lst, eTupRg_ap, eTupRg_o, ixt0, ixt1, ixt2, ixt3, ixt4, negD_i, slD_lst, eV_0, eV_s, Res.bind_ok, Res.bind_ex, Res.bind_bad, Res.on_ok, Res.on_ex, Res.on_bad, SRes.bind_nx, SRes.bind_rt, SRes.bind_ex, SRes.bind_bad, List.set_cons_zero, List.set_cons_succ, addD_i, subD_i, ltD_i, leD_i, gtD_i, geD_i, eqD_i, neD_i, lenB_scr, lenB_lst, lenB_tup, truD, tyD, Ty.le, isD, isntD, isNon, killE, List.foldl_cons, List.foldl_nil, List.length_cons, List.length_nil, Nat.reduceAdd, Nat.zero_add, Nat.reduceLeDiff, if_true, if_false, Bool.false_eq_true, Bool.not_true, Bool.not_false]
  rw [common_eq hl]
  simp only [aCons_o2, aCons_o1, aCons_ap, eTup_o1, eTup_ap, nLst_o1, nLst_ap, eFrz_o1, eFrz_ap, eNew_o1, eNew_ap, eOp_o2, eOp_o1, eOp_ap, tNotM_o1, tNotM_ap, sDrop_o1, sDrop_ap, sRet_o1, sRet_ap, sSet_o1, sSet_ap, sPut_o3, sPut_o2, sPut_o1, sPut_ap, nSl_o3, nSl_o2, nSl_o1, nSl_ap, eSl_o3, eSl_o2, eSl_o1, eSl_ap, nCat_o2, nCat_o1, nCat_ap, nRep_o2, nRep_o1, nRep_ap, sFor_o1, sFor_ap, nComp_o1, nComp_ap, eCall_o1, eCall_ap, rOne_o1, rOne_ap, rTwo_o2, rTwo_o1, rTwo_ap, iRevR_o1, iRevR_ap, nRng_o1, nRng_ap, iSeq_o1, iSeq_ap, iRev_o1, iRev_ap, eIsi_o1, eIsi_ap, eC_ap, aNil_ap, sNext_ap, sSeq_ap, sRetN_ap, tTru_ap, eUn_ap, eB_ap, nB_ap, noTest_ap, eDNew_ap, oNo_ap, gSet_ap, gsNil_ap, gsCons_ap, gsCons_o, gTupM_ap, sAsg_ap, sAsg_o1, sAsg_o2, sWhile_ap, asB_ap, asB_o, tAndM_ap, tAndM_t, tAndM_f, tOrM_ap, tOrM_t, tOrM_f, sIf_ap, sIf_t, sIf_f, eIf_ap, eIf_t, eIf_f, eAnd_ap, eAnd_o, eAnd_t, eAnd_f, eOr_ap, eOr_o, eOr_t, eOr_f, eNot_ap, eNot_o1, eNot_o2, oSome_ap, oSome_o, eChain_ap, eChain_o1, eChain_o2, eChain_t, eChain_f, eChain_o4, eChain3_ap, eChain3_o1, eChain3_o2, eChain3_t, eChain3_f, eChain3_o4, iEnum_ap, iZip_ap, eMt_ap, eMt_o2, isLst_lst, eTupRg_ap, eTupRg_o, ixt0, ixt1, ixt2, ixt3, ixt4, negD_i, slD_lst, eV_0, eV_s, Res.bind_ok, Res.bind_ex, Res.bind_bad, Res.on_ok, Res.on_ex, Res.on_bad, SRes.bind_nx, SRes.bind_rt, SRes.bind_ex, SRes.bind_bad, List.set_cons_zero, List.set_cons_succ, addD_i, subD_i, ltD_i, leD_i, gtD_i, geD_i, eqD_i, neD_i, lenB_scr, lenB_lst, lenB_tup, truD, tyD, Ty.le, isD, isntD, isNon, killE, List.foldl_cons, List.foldl_nil, List.length_cons, List.length_nil, Nat.reduceAdd, Nat.zero_add, Nat.reduceLeDiff, if_true, if_false, Bool.false_eq_true, Bool.not_true, Bool.not_false]
  have n1 : ∀ i : Int, negD (.int i) st = .ok (.int (-i)) st := fun _ => rfl
  have f1 := sh_ne (t := t) hb
  have f2 := sh_lt (t := t) hb hl
  unfold fr
  by_cases hs : b < 0
  · have e1 : sh t b = -(Int.gcd t b : Int) := if_pos hs
    rw [e1] at f1 f2 ⊢
    simp only [decide_eq_true hs, n1, aCons_o2, aCons_o1, aCons_ap, eTup_o1, eTup_ap, nLst_o1, nLst_ap, eFrz_o1, eFrz_ap, eNew_o1, eNew_ap, eOp_o2, eOp_o1, eOp_ap, tNotM_o1, tNotM_ap, sDrop_o1, sDrop_ap, sRet_o1, sRet_ap, sSet_o1, sSet_ap, sPut_o3, sPut_o2, sPut_o1, sPut_ap, nSl_o3, nSl_o2, nSl_o1, nSl_ap, eSl_o3, eSl_o2, eSl_o1, eSl_ap, nCat_o2, nCat_o1, nCat_ap, nRep_o2, nRep_o1, nRep_ap, sFor_o1, sFor_ap, nComp_o1, nComp_ap, eCall_o1, eCall_ap, rOne_o1, rOne_ap, rTwo_o2, rTwo_o1, rTwo_ap, iRevR_o1, iRevR_ap, nRng_o1, nRng_ap, iSeq_o1, iSeq_ap, iRev_o1, iRev_ap, eIsi_o1, eIsi_ap, eC_ap, aNil_ap, sNext_ap, sSeq_ap, sRetN_ap, tTru_ap, eUn_ap, eB_ap, nB_ap, noTest_ap, eDNew_ap, oNo_ap, gSet_ap, gsNil_ap, gsCons_ap, gsCons_o, gTupM_ap, sAsg_ap, sAsg_o1, sAsg_o2, sWhile_ap, asB_ap, asB_o, tAndM_ap, tAndM_t, tAndM_f, tOrM_ap, tOrM_t, tOrM_f, sIf_ap, sIf_t, sIf_f, eIf_ap, eIf_t, eIf_f, eAnd_ap, eAnd_o, eAnd_t, eAnd_f, eOr_ap, eOr_o, eOr_t, eOr_f, eNot_ap, eNot_o1, eNot_o2, oSome_ap, oSome_o, eChain_ap, eChain_o1, eChain_o2, eChain_t, eChain_f, eChain_o4, eChain3_ap, eChain3_o1, eChain3_o2, eChain3_t, eChain3_f, eChain3_o4, iEnum_ap, iZip_ap, eMt_ap, eMt_o2, isLst_lst, eTupRg_ap, eTupRg_o, ixt0, ixt1, ixt2, ixt3, ixt4, negD_i, slD_lst, eV_0, eV_s, Res.bind_ok, Res.bind_ex, Res.bind_bad, Res.on_ok, Res.on_ex, Res.on_bad, SRes.bind_nx, SRes.bind_rt, SRes.bind_ex, SRes.bind_bad, List.set_cons_zero, List.set_cons_succ, addD_i, subD_i, ltD_i, leD_i, gtD_i, geD_i, eqD_i, neD_i, lenB_scr, lenB_lst, lenB_tup, truD, tyD, Ty.le, isD, isntD, isNon, killE, List.foldl_cons, List.foldl_nil, List.length_cons, List.length_nil, Nat.reduceAdd, Nat.zero_add, Nat.reduceLeDiff, if_true, if_false, Bool.false_eq_true, Bool.not_true, Bool.not_false]
    rw [fdivD_n f1 f2]
    simp only [aCons_o2, aCons_o1, aCons_ap, eTup_o1, eTup_ap, nLst_o1, nLst_ap, eFrz_o1, eFrz_ap, eNew_o1, eNew_ap, eOp_o2, eOp_o1, eOp_ap, tNotM_o1, tNotM_ap, sDrop_o1, sDrop_ap, sRet_o1, sRet_ap, sSet_o1, sSet_ap, sPut_o3, sPut_o2, sPut_o1, sPut_ap, nSl_o3, nSl_o2, nSl_o1, nSl_ap, eSl_o3, eSl_o2, eSl_o1, eSl_ap, nCat_o2, nCat_o1, nCat_ap, nRep_o2, nRep_o1, nRep_ap, sFor_o1, sFor_ap, nComp_o1, nComp_ap, eCall_o1, eCall_ap, rOne_o1, rOne_ap, rTwo_o2, rTwo_o1, rTwo_ap, iRevR_o1, iRevR_ap, nRng_o1, nRng_ap, iSeq_o1, iSeq_ap, iRev_o1, iRev_ap, eIsi_o1, eIsi_ap, eC_ap, aNil_ap, sNext_ap, sSeq_ap, sRetN_ap, tTru_ap, eUn_ap, eB_ap, nB_ap, noTest_ap, eDNew_ap, oNo_ap, gSet_ap, gsNil_ap, gsCons_ap, gsCons_o, gTupM_ap, sAsg_ap, sAsg_o1, sAsg_o2, sWhile_ap, asB_ap, asB_o, tAndM_ap, tAndM_t, tAndM_f, tOrM_ap, tOrM_t, tOrM_f, sIf_ap, sIf_t, sIf_f, eIf_ap, eIf_t, eIf_f, eAnd_ap, eAnd_o, eAnd_t, eAnd_f, eOr_ap, eOr_o, eOr_t, eOr_f, eNot_ap, eNot_o1, eNot_o2, oSome_ap, oSome_o, eChain_ap, eChain_o1, eChain_o2, eChain_t, eChain_f, eChain_o4, eChain3_ap, eChain3_o1, eChain3_o2, eChain3_t, eChain3_f, eChain3_o4, iEnum_ap, iZip_ap, eMt_ap, eMt_o2, isLst_lst, eTupRg_ap, eTupRg_o, ixt0, ixt1, ixt2, ixt3, ixt4, negD_i, slD_lst, eV_0, eV_s, Res.bind_ok, Res.bind_ex, Res.bind_bad, Res.on_ok, Res.on_ex, Res.on_bad, SRes.bind_nx, SRes.bind_rt, SRes.bind_ex, SRes.bind_bad, List.set_cons_zero, List.set_cons_succ, addD_i, subD_i, ltD_i, leD_i, gtD_i, geD_i, eqD_i, neD_i, lenB_scr, lenB_lst, lenB_tup, truD, tyD, Ty.le, isD, isntD, isNon, killE, List.foldl_cons, List.foldl_nil, List.length_cons, List.length_nil, Nat.reduceAdd, Nat.zero_add, Nat.reduceLeDiff, if_true, if_false, Bool.false_eq_true, Bool.not_true, Bool.not_false]
    rw [fdivD_n f1 f2]
    simp only [aCons_o2, aCons_o1, aCons_ap, eTup_o1, eTup_ap, nLst_o1, nLst_ap, eFrz_o1, eFrz_ap, eNew_o1, eNew_ap, eOp_o2, eOp_o1, eOp_ap, tNotM_o1, tNotM_ap, sDrop_o1, sDrop_ap, sRet_o1, sRet_ap, sSet_o1, sSet_ap, sPut_o3, sPut_o2, sPut_o1, sPut_ap, nSl_o3, nSl_o2, nSl_o1, nSl_ap, eSl_o3, eSl_o2, eSl_o1, eSl_ap, nCat_o2, nCat_o1, nCat_ap, nRep_o2, nRep_o1, nRep_ap, sFor_o1, sFor_ap, nComp_o1, nComp_ap, eCall_o1, eCall_ap, rOne_o1, rOne_ap, rTwo_o2, rTwo_o1, rTwo_ap, iRevR_o1, iRevR_ap, nRng_o1, nRng_ap, iSeq_o1, iSeq_ap, iRev_o1, iRev_ap, eIsi_o1, eIsi_ap, eC_ap, aNil_ap, sNext_ap, sSeq_ap, sRetN_ap, tTru_ap, eUn_ap, eB_ap, nB_ap, noTest_ap, eDNew_ap, oNo_ap, gSet_ap, gsNil_ap, gsCons_ap, gsCons_o, gTupM_ap, sAsg_ap, sAsg_o1, sAsg_o2, sWhile_ap, asB_ap, asB_o, tAndM_ap, tAndM_t, tAndM_f, tOrM_ap, tOrM_t, tOrM_f, sIf_ap, sIf_t, sIf_f, eIf_ap, eIf_t, eIf_f, eAnd_ap, eAnd_o, eAnd_t, eAnd_f, eOr_ap, eOr_o, eOr_t, eOr_f, eNot_ap, eNot_o1, eNot_o2, oSome_ap, oSome_o, eChain_ap, eChain_o1, eChain_o2, eChain_t, eChain_f, eChain_o4, eChain3_ap, eChain3_o1, eChain3_o2, eChain3_t, eChain3_f, eChain3_o4, iEnum_ap, iZip_ap, eMt_ap, eMt_o2, isLst_lst, eTupRg_ap, eTupRg_o, ixt0, ixt1, ixt2, ixt3, ixt4, negD_i, slD_lst, eV_0, eV_s, Res.bind_ok, Res.bind_ex, Res.bind_bad, Res.on_ok, Res.on_ex, Res.on_bad, SRes.bind_nx, SRes.bind_rt, SRes.bind_ex, SRes.bind_bad, List.set_cons_zero, List.set_cons_succ, addD_i, subD_i, ltD_i, leD_i, gtD_i, geD_i, eqD_i, neD_i, lenB_scr, lenB_lst, lenB_tup, truD, tyD, Ty.le, isD, isntD, isNon, killE, List.foldl_cons, List.foldl_nil, List.length_cons, List.length_nil, Nat.reduceAdd, Nat.zero_add, Nat.reduceLeDiff, if_true, if_false, Bool.false_eq_true, Bool.not_true, Bool.not_false]
    exact fin_rt rfl
  · have e1 : sh t b = (Int.gcd t b : Int) := if_neg hs
    rw [e1] at f1 f2 ⊢
    simp only [decide_eq_false hs, aCons_o2, aCons_o1, aCons_ap, eTup_o1, eTup_ap, nLst_o1, nLst_ap, eFrz_o1, eFrz_ap, eNew_o1, eNew_ap, eOp_o2, eOp_o1, eOp_ap, tNotM_o1, tNotM_ap, sDrop_o1, sDrop_ap, sRet_o1, sRet_ap, sSet_o1, sSet_ap, sPut_o3, sPut_o2, sPut_o1, sPut_ap, nSl_o3, nSl_o2, nSl_o1, nSl_ap, eSl_o3, eSl_o2, eSl_o1, eSl_ap, nCat_o2, nCat_o1, nCat_ap, nRep_o2, nRep_o1, nRep_ap, sFor_o1, sFor_ap, nComp_o1, nComp_ap, eCall_o1, eCall_ap, rOne_o1, rOne_ap, rTwo_o2, rTwo_o1, rTwo_ap, iRevR_o1, iRevR_ap, nRng_o1, nRng_ap, iSeq_o1, iSeq_ap, iRev_o1, iRev_ap, eIsi_o1, eIsi_ap, eC_ap, aNil_ap, sNext_ap, sSeq_ap, sRetN_ap, tTru_ap, eUn_ap, eB_ap, nB_ap, noTest_ap, eDNew_ap, oNo_ap, gSet_ap, gsNil_ap, gsCons_ap, gsCons_o, gTupM_ap, sAsg_ap, sAsg_o1, sAsg_o2, sWhile_ap, asB_ap, asB_o, tAndM_ap, tAndM_t, tAndM_f, tOrM_ap, tOrM_t, tOrM_f, sIf_ap, sIf_t, sIf_f, eIf_ap, eIf_t, eIf_f, eAnd_ap, eAnd_o, eAnd_t, eAnd_f, eOr_ap, eOr_o, eOr_t, eOr_f, eNot_ap, eNot_o1, eNot_o2, oSome_ap, oSome_o, eChain_ap, eChain_o1, eChain_o2, eChain_t, eChain_f, eChain_o4, eChain3_ap, eChain3_o1, eChain3_o2, eChain3_t, eChain3_f, eChain3_o4, iEnum_ap, iZip_ap, eMt_ap, eMt_o2, isLst_lst, eTupRg_ap, eTupRg_o, ixt0, ixt1, ixt2, ixt3, ixt4, negD_i, slD_lst, eV_0, eV_s, Res.bind_ok, Res.bind_ex, Res.bind_bad, Res.on_ok, Res.on_ex, Res.on_bad, SRes.bind_nx, SRes.bind_rt, SRes.bind_ex, SRes.bind_bad, List.set_cons_zero, List.set_cons_succ, addD_i, subD_i, ltD_i, leD_i, gtD_i, geD_i, eqD_i, neD_i, lenB_scr, lenB_lst, lenB_tup, truD, tyD, Ty.le, isD, isntD, isNon, killE, List.foldl_cons, List.foldl_nil, List.length_cons, List.length_nil, Nat.reduceAdd, Nat.zero_add, Nat.reduceLeDiff, if_true, if_false, Bool.false_eq_true, Bool.not_true, Bool.not_false]
    rw [fdivD_n f1 f2]
    simp only [aCons_o2, aCons_o1, aCons_ap, eTup_o1, eTup_ap, nLst_o1, nLst_ap, eFrz_o1, eFrz_ap, eNew_o1, eNew_ap, eOp_o2, eOp_o1, eOp_ap, tNotM_o1, tNotM_ap, sDrop_o1, sDrop_ap, sRet_o1, sRet_ap, sSet_o1, sSet_ap, sPut_o3, sPut_o2, sPut_o1, sPut_ap, nSl_o3, nSl_o2, nSl_o1, nSl_ap, eSl_o3, eSl_o2, eSl_o1, eSl_ap, nCat_o2, nCat_o1, nCat_ap, nRep_o2, nRep_o1, nRep_ap, sFor_o1, sFor_ap, nComp_o1, nComp_ap, eCall_o1, eCall_ap, rOne_o1, rOne_ap, rTwo_o2, rTwo_o1, rTwo_ap, iRevR_o1, iRevR_ap, nRng_o1, nRng_ap, iSeq_o1, iSeq_ap, iRev_o1, iRev_ap, eIsi_o1, eIsi_ap, eC_ap, aNil_ap, sNext_ap, sSeq_ap, sRetN_ap, tTru_ap, eUn_ap, eB_ap, nB_ap, noTest_ap, eDNew_ap, oNo_ap, gSet_ap, gsNil_ap, gsCons_ap, gsCons_o, gTupM_ap, sAsg_ap, sAsg_o1, sAsg_o2, sWhile_ap, asB_ap, asB_o, tAndM_ap, tAndM_t, tAndM_f, tOrM_ap, tOrM_t, tOrM_f, sIf_ap, sIf_t, sIf_f, eIf_ap, eIf_t, eIf_f, eAnd_ap, eAnd_o, eAnd_t, eAnd_f, eOr_ap, eOr_o, eOr_t, eOr_f, eNot_ap, eNot_o1, eNot_o2, oSome_ap, oSome_o, eChain_ap, eChain_o1, eChain_o2, eChain_t, eChain_f, eChain_o4, eChain3_ap, eChain3_o1, eChain3_o2, eChain3_t, eChain3_f, eChain3_o4, iEnum_ap, iZip_ap, eMt_ap, eMt_o2, isLst_lst, eTupRg_ap, eTupRg_o, ixt0, ixt1, ixt2, ixt3, ixt4, negD_i, slD_lst, eV_0, eV_s, Res.bind_ok, Res.bind_ex, Res.bind_bad, Res.on_ok, Res.on_ex, Res.on_bad, SRes.bind_nx, SRes.bind_rt, SRes.bind_ex, SRes.bind_bad, List.set_cons_zero, List.set_cons_succ, addD_i, subD_i, ltD_i, leD_i, gtD_i, geD_i, eqD_i, neD_i, lenB_scr, lenB_lst, lenB_tup, truD, tyD, Ty.le, isD, isntD, isNon, killE, List.foldl_cons, List.foldl_nil, List.length_cons, List.length_nil, Nat.reduceAdd, Nat.zero_add, Nat.reduceLeDiff, if_true, if_false, Bool.false_eq_true, Bool.not_true, Bool.not_false]
    rw [fdivD_n f1 f2]
    simp only [aCons_o2, aCons_o1, aCons_ap, eTup_o1, eTup_ap, nLst_o1, nLst_ap, eFrz_o1, eFrz_ap, eNew_o1, eNew_ap, eOp_o2, eOp_o1, eOp_ap, tNotM_o1, tNotM_ap, sDrop_o1, sDrop_ap, sRet_o1, sRet_ap, sSet_o1, sSet_ap, sPut_o3, sPut_o2, sPut_o1, sPut_ap, nSl_o3, nSl_o2, nSl_o1, nSl_ap, eSl_o3, eSl_o2, eSl_o1, eSl_ap, nCat_o2, nCat_o1, nCat_ap, nRep_o2, nRep_o1, nRep_ap, sFor_o1, sFor_ap, nComp_o1, nComp_ap, eCall_o1, eCall_ap, rOne_o1, rOne_ap, rTwo_o2, rTwo_o1, rTwo_ap, iRevR_o1, iRevR_ap, nRng_o1, nRng_ap, iSeq_o1, iSeq_ap, iRev_o1, iRev_ap, eIsi_o1, eIsi_ap, eC_ap, aNil_ap, sNext_ap, sSeq_ap, sRetN_ap, tTru_ap, eUn_ap, eB_ap, nB_ap, noTest_ap, eDNew_ap, oNo_ap, gSet_ap, gsNil_ap, gsCons_ap, gsCons_o, gTupM_ap, sAsg_ap, sAsg_o1, sAsg_o2, sWhile_ap, asB_ap, asB_o, tAndM_ap, tAndM_t, tAndM_f, tOrM_ap, tOrM_t, tOrM_f, sIf_ap, sIf_t, sIf_f, eIf_ap, eIf_t, eIf_f, eAnd_ap, eAnd_o, eAnd_t, eAnd_f, eOr_ap, eOr_o, eOr_t, eOr_f, eNot_ap, eNot_o1, eNot_o2, oSome_ap, oSome_o, eChain_ap, eChain_o1, eChain_o2, eChain_t, eChain_f, eChain_o4, eChain3_ap, eChain3_o1, eChain3_o2, eChain3_t, eChain3_f, eChain3_o4, iEnum_ap, iZip_ap, eMt_ap, eMt_o2, isLst_lst, eTupRg_ap, eTupRg_o, ixt0, ixt1, ixt2, ixt3, ixt4, negD_i, slD_lst, eV_0, eV_s, Res.bind_ok, Res.bind_ex, Res.bind_bad, Res.on_ok, Res.on_ex, Res.on_bad, SRes.bind_nx, SRes.bind_rt, SRes.bind_ex, SRes.bind_bad, List.set_cons_zero, List.set_cons_succ, addD_i, subD_i, ltD_i, leD_i, gtD_i, geD_i, eqD_i, neD_i, lenB_scr, lenB_lst, lenB_tup, truD, tyD, Ty.le, isD, isntD, isNon, killE, List.foldl_cons, List.foldl_nil, List.length_cons, List.length_nil, Nat.reduceAdd, Nat.zero_add, Nat.reduceLeDiff, if_true, if_false, Bool.false_eq_true, Bool.not_true, Bool.not_false]
    exact fin_rt rfl
theorem fraction_ex {t : Int} {st : Sto} : m_fraction [.int t, .int 0] st = .ex ⟨"NoNumber", []⟩ st := by
  show fin true st (b_fraction [some (.int t), some (.int 0), none] st) = _
  have e0 : ((0 : Int) == 0) = true := rfl
  unfold b_fraction
  simp only [e0, aCons_o2, aCons_o1, aCons_ap, eTup_o1, eTup_ap, nLst_o1, nLst_ap, eFrz_o1, eFrz_ap, eNew_o1, eNew_ap, eOp_o2, eOp_o1, eOp_ap, tNotM_o1, tNotM_ap, sDrop_o1, sDrop_ap, sRet_o1, sRet_ap, sSet_o1, sSet_ap, sPut_o3, sPut_o2, sPut_o1, sPut_ap, nSl_o3, nSl_o2, nSl_o1, nSl_ap, eSl_o3, eSl_o2, eSl_o1, eSl_ap, nCat_o2, nCat_o1, nCat_ap, nRep_o2, nRep_o1, nRep_ap, sFor_o1, sFor_ap, nComp_o1, nComp_ap, eCall_o1, eCall_ap, rOne_o1, rOne_ap, rTwo_o2, rTwo_o1, rTwo_ap, iRevR_o1, iRevR_ap, nRng_o1, nRng_ap, iSeq_o1, iSeq_ap, iRev_o1, iRev_ap, eIsi_o1, eIsi_ap, eC_ap, aNil_ap, sNext_ap, sSeq_ap, sRetN_ap, tTru_ap, eUn_ap, eB_ap, nB_ap, noTest_ap, eDNew_ap, oNo_ap, gSet_ap, gsNil_ap, gsCons_ap, gsCons_o, gTupM_ap, sAsg_ap, sAsg_o1, sAsg_o2, sWhile_ap, asB_ap, asB_o, tAndM_ap, tAndM_t, tAndM_f, tOrM_ap, tOrM_t, tOrM_f, sIf_ap, sIf_t, sIf_f, eIf_ap, eIf_t, eIf_f, eAnd_ap, eAnd_o, eAnd_t, eAnd_f, eOr_ap, eOr_o, eOr_t, eOr_f, eNot_ap, eNot_o1, eNot_o2, oSome_ap, oSome_o, eChain_ap, eChain_o1, eChain_o2, eChain_t, eChain_f, eChain_o4, eChain3_ap, eChain3_o1, eChain3_o2, eChain3_t, eChain3_f, eChain3_o4, iEnum_ap, iZip_ap, eMt_ap, eMt_o2, isLst_lst, eTupRg_ap, eTupRg_o, ixt0, ixt1, ixt2, ixt3, ixt4, negD_i, slD_lst, eV_0, eV_s, Res.bind_ok, Res.bind_ex, Res.bind_bad, Res.on_ok, Res.on_ex, Res.on_bad, SRes.bind_nx, SRes.bind_rt, SRes.bind_ex, SRes.bind_bad, List.set_cons_zero, List.set_cons_succ, addD_i, subD_i, ltD_i, leD_i, gtD_i, geD_i, eqD_i, neD_i, lenB_scr, lenB_lst, lenB_tup, truD, tyD, Ty.le, isD, isntD, isNon, killE, List.foldl_cons, List.foldl_nil, List.length_cons, List.length_nil, Nat.reduceAdd, Nat.zero_add, Nat.reduceLeDiff, if_true, if_false, Bool.false_eq_true, Bool.not_true, Bool.not_false]
  show Res.ex _ (shrink st st _) = _
  rw [shrink_self]
abbrev pr (a b : Int) : D := .tup [.int a, .int b]
theorem ix0 {a b : Int} {st : Sto} : ixD (pr a b) (.int 0) st = .ok (.int a) st := rfl
theorem ix1 {a b : Int} {st : Sto} : ixD (pr a b) (.int 1) st = .ok (.int b) st := rfl
theorem m400 {a b : Int} {st : Sto} (ha : a.natAbs < 2 ^ 400) (hb : b.natAbs < 2 ^ 400) : mulD (.int a) (.int b) st = .ok (.int (a * b)) st := mulD_b (lt_mono ha (by decide)) (lt_mono hb (by decide))
theorem m2000 {a b : Int} (ha : a.natAbs < 2 ^ 400) (hb : b.natAbs < 2 ^ 400) : (a * b).natAbs < 2 ^ 2000 := lt_mono (mul_lt ha hb) (by decide)
theorem neg_mul_neg_pos {s v : Int} (hs : s < 0) (h : s * v < 0) : 0 < v := by
  rcases Int.lt_or_le 0 v with h1 | h1
  · exact h1
  · have := Int.mul_nonneg_of_nonpos_of_nonpos (Int.le_of_lt hs) h1
    omega
theorem pos_mul_pos {s v : Int} (hs : 0 < s) (h : 0 < s * v) : 0 < v := by
  rcases Int.lt_or_le 0 v with h1 | h1
  · exact h1
  · have := Int.mul_nonpos_of_nonneg_of_nonpos (Int.le_of_lt hs) h1
    omega
/-- what a lowered fraction is -/
theorem fr_facts {t b : Int} (hb : b ≠ 0) : ∃ x y, fr t b = pr x y ∧ 1 ≤ y ∧ Int.gcd x y = 1 ∧ x * b = t * y ∧ x.natAbs ≤ t.natAbs ∧ y.natAbs ≤ b.natAbs := by
  have hg := gcd_pos (t := t) hb
  have hs := sh_ne (t := t) hb
  have ea : (sh t b).natAbs = Int.gcd t b := by unfold sh; split <;> omega
  have d1 : sh t b ∣ t := by
    rw [← Int.natAbs_dvd_natAbs, ea]
    exact Nat.gcd_dvd_left _ _
  have d2 : sh t b ∣ b := by
    rw [← Int.natAbs_dvd_natAbs, ea]
    exact Nat.gcd_dvd_right _ _
  obtain ⟨u, hu⟩ := d1
  obtain ⟨v, hv⟩ := d2
  have ex : t.fdiv (sh t b) = u := by
    conv => lhs; rw [hu]
    have : (sh t b * u).fdiv (sh t b) = u := Int.mul_fdiv_cancel_left _ hs
    rw [← hu] at this ⊢
    exact this
  have ey : b.fdiv (sh t b) = v := by
    have : (sh t b * v).fdiv (sh t b) = v := Int.mul_fdiv_cancel_left _ hs
    rw [← hv] at this
    exact this
  have hp : 0 < v := by
    by_cases hneg : b < 0
    · have : sh t b < 0 := by unfold sh; rw [if_pos hneg]; omega
      exact neg_mul_neg_pos this (by rw [← hv]; exact hneg)
    · have : 0 < sh t b := by unfold sh; rw [if_neg hneg]; omega
      exact pos_mul_pos this (by rw [← hv]; omega)
  refine ⟨u, v, by unfold fr; rw [ex, ey], by omega, ?_, ?_, ?_, ?_⟩
  · have h1 : Int.gcd (sh t b * u) (sh t b * v) = (sh t b).natAbs * Int.gcd u v := Int.gcd_mul_left ..
    rw [← hu, ← hv, ea] at h1
    have h2 : Int.gcd t b * 1 = Int.gcd t b * Int.gcd u v := by rw [Nat.mul_one]; exact h1
    exact (Nat.eq_of_mul_eq_mul_left hg h2).symm
  · calc u * b = u * (sh t b * v) := by rw [← hv]
      _ = (sh t b * u) * v := by rw [← Int.mul_assoc, Int.mul_comm u]
      _ = t * v := by rw [← hu]
  · have : t.natAbs = (sh t b).natAbs * u.natAbs := by conv => lhs; rw [hu, Int.natAbs_mul]
    rw [this]
    exact Nat.le_mul_of_pos_left _ (by omega)
  · have : b.natAbs = (sh t b).natAbs * v.natAbs := by conv => lhs; rw [hv, Int.natAbs_mul]
    rw [this]
    exact Nat.le_mul_of_pos_left _ (by omega)
theorem fr_low {x y : Int} (hy : 1 ≤ y) (hg : Int.gcd x y = 1) : fr x y = pr x y := by
  have e : sh x y = 1 := by unfold sh; rw [if_neg (by omega), hg]; rfl
  unfold fr
  rw [e, Int.fdiv_one, Int.fdiv_one]
theorem lowest_eq {t b : Int} {st : Sto} (hb : 0 < b) (hl : b.natAbs < 2 ^ 2000) : m_l_lowest [.int t, .int b] st = .ok (fr t b) st := by
  have hsh : sh t b = ((Int.gcd t b : Nat) : Int) := if_neg (by omega)
  have f1 := sh_ne (t := t) (show b ≠ 0 by omega)
  have f2 := sh_lt (t := t) (show b ≠ 0 by omega) hl
  show fin true st (b_l_lowest [some (.int t), some (.int b), none, none, none] st) = _
  unfold b_l_lowest
  simp only [absB_i, aCons_o2, aCons_o1, aCons_ap, eTup_o1, eTup_ap, nLst_o1, nLst_ap, eFrz_o1, eFrz_ap, eNew_o1, eNew_ap, eOp_o2, eOp_o1, eOp_ap, tNotM_o1, tNotM_ap, sDrop_o1, sDrop_ap, sRet_o1, sRet_ap, sSet_o1, sSet_ap, sPut_o3, sPut_o2, sPut_o1, sPut_ap, nSl_o3, nSl_o2, nSl_o1, nSl_ap, eSl_o3, eSl_o2, eSl_o1, eSl_ap, nCat_o2, nCat_o1, nCat_ap, nRep_o2, nRep_o1, nRep_ap, sFor_o1, sFor_ap, nComp_o1, nComp_ap, eCall_o1, eCall_ap, rOne_o1, rOne_ap, rTwo_o2, rTwo_o1, rTwo_ap, iRevR_o1, iRevR_ap, nRng_o1, nRng_ap, iSeq_o1, iSeq_ap, iRev_o1, iRev_ap, eIsi_o1, eIsi_ap, eC_ap, aNil_ap, sNext_ap, sSeq_ap, sRetN_ap, tTru_ap, eUn_ap, eB_ap, nB_ap, noTest_ap, eDNew_ap, oNo_ap, gSet_ap, gsNil_ap, gsCons_ap, gsCons_o, gTupM_ap, sAsg_ap, sAsg_o1, sAsg_o2, sWhile_ap, asB_ap, asB_o, tAndM_ap, tAndM_t, tAndM_f, tOrM_ap, tOrM_t, tOrM_f, sIf_ap, sIf_t, sIf_f, eIf_ap, eIf_t, eIf_f, eAnd_ap, eAnd_o, eAnd_t, eAnd_f, eOr_ap, eOr_o, eOr_t, eOr_f, eNot_ap, eNot_o1, eNot_o2, oSome_ap, oSome_o, eChain_ap, eChain_o1, eChain_o2, eChain_t, eChain_f, eChain_o4, eChain3_ap, eChain3_o1, eChain3_o2, eChain3_t, eChain3_f, eChain3_o4, iEnum_ap, iZip_ap, eMt_ap, eMt_o2, isLst_lst, eTupRg_ap, eTupRg_o, ixt0, ixt1, ixt2, ixt3, ixt4, negD_i, slD_lst, eV_0, eV_s, Res.bind_ok, Res.bind_ex, Res.bind_bad, Res.on_ok, Res.on_ex, Res.on_bad, SRes.bind_nx, SRes.bind_rt, SRes.bind_ex, SRes.bind_bad, List.set_cons_zero, List.set_cons_succ, addD_i, subD_i, ltD_i, leD_i, gtD_i, geD_i, eqD_i, neD_i, lenB_scr, lenB_lst, lenB_tup, truD, tyD, Ty.le, isD, isntD, isNon, killE, List.foldl_cons, List.foldl_nil, List.length_cons, List.length_nil, Nat.reduceAdd, Nat.zero_add, Nat.reduceLeDiff, if_true, if_false, Bool.false_eq_true, Bool.not_true, Bool.not_false]
  refine while_inv (ks := [4]) (fun m env st' => ∃ x y : Nat, m = y ∧ Nat.gcd x y = Int.gcd t b ∧ st' = st ∧ env = [some (.int t), some (.int b), some (.int (x : Nat)), some (.int (y : Nat)), none])
    (fun r => fin true st (r.bind (sRet (eTup (aCons (eOp fdivD (eV 0) (eV 2)) (aCons (eOp fdivD (eV 1) (eV 2)) (aNil)))))) = .ok (fr t b) st) (fun m env st' hP => ?_) fuelB b.natAbs _ _ (fuelB_lt hl) ⟨t.natAbs, b.natAbs, rfl, rfl, rfl, by rw [show ((b.natAbs : Nat) : Int) = b by omega]⟩
  obtain ⟨x, y, rfl, hg, rfl, rfl⟩ := hP
  by_cases hy : 0 < m
  · have e1 : decide ((0 : Int) < (m : Int)) = true := decide_eq_true (by omega)
    refine .inr ⟨by simp only [aCons_o2, aCons_o1, aCons_ap, eTup_o1, eTup_ap, nLst_o1, nLst_ap, eFrz_o1, eFrz_ap, eNew_o1, eNew_ap, eOp_o2, eOp_o1, eOp_ap, tNotM_o1, tNotM_ap, sDrop_o1, sDrop_ap, sRet_o1, sRet_ap, sSet_o1, sSet_ap, sPut_o3, sPut_o2, sPut_o1, sPut_ap, nSl_o3, nSl_o2, nSl_o1, nSl_ap, eSl_o3, eSl_o2, eSl_o1, eSl_ap, nCat_o2, nCat_o1, nCat_ap, nRep_o2, nRep_o1, nRep_ap, sFor_o1, sFor_ap, nComp_o1, nComp_ap, eCall_o1, eCall_ap, rOne_o1, rOne_ap, rTwo_o2, rTwo_o1, rTwo_ap, iRevR_o1, iRevR_ap, nRng_o1, nRng_ap, iSeq_o1, iSeq_ap, iRev_o1, iRev_ap, eIsi_o1, eIsi_ap, eC_ap, aNil_ap, sNext_ap, sSeq_ap, sRetN_ap, tTru_ap, eUn_ap, eB_ap, nB_ap, noTest_ap, eDNew_ap, oNo_ap, gSet_ap, gsNil_ap, gsCons_ap, gsCons_o, gTupM_ap, sAsg_ap, sAsg_o1, sAsg_o2, sWhile_ap, asB_ap, asB_o, tAndM_ap, tAndM_t, tAndM_f, tOrM_ap, tOrM_t, tOrM_f, sIf_ap, sIf_t, sIf_f, eIf_ap, eIf_t, eIf_f, eAnd_ap, eAnd_o, eAnd_t, eAnd_f, eOr_ap, eOr_o, eOr_t, eOr_f, eNot_ap, eNot_o1, eNot_o2, oSome_ap, oSome_o, eChain_ap, eChain_o1, eChain_o2, eChain_t, eChain_f, eChain_o4, eChain3_ap, eChain3_o1, eChain3_o2, eChain3_t, eChain3_f, eChain3_o4, iEnum_ap, iZip_ap, eMt_ap, eMt_o2, isLst_lst, eTupRg_ap, eTupRg_o, ixt0, ixt1, ixt2, ixt3, ixt4, negD_i, slD_lst, eV_0, eV_s, Res.bind_ok, Res.bind_ex, Res.bind_bad, Res.on_ok, Res.on_ex, Res.on_bad, SRes.bind_nx, SRes.bind_rt, SRes.bind_ex, SRes.bind_bad, List.set_cons_zero, List.set_cons_succ, addD_i, subD_i, ltD_i, leD_i, gtD_i, geD_i, eqD_i, neD_i, lenB_scr, lenB_lst, lenB_tup, truD, tyD, Ty.le, isD, isntD, isNon, killE, List.foldl_cons, List.foldl_nil, List.length_cons, List.length_nil, Nat.reduceAdd, Nat.zero_add, Nat.reduceLeDiff, if_true, if_false, Bool.false_eq_true, Bool.not_true, Bool.not_false]; simp only [e1], .inl ⟨?e, ?s, x % m, ?h1, Nat.mod_lt _ hy, ?h2⟩⟩
    case h1 =>
      simp only [aCons_o2, aCons_o1, aCons_ap, eTup_o1, eTup_ap, nLst_o1, nLst_ap, eFrz_o1, eFrz_ap, eNew_o1, eNew_ap, eOp_o2, eOp_o1, eOp_ap, tNotM_o1, tNotM_ap, sDrop_o1, sDrop_ap, sRet_o1, sRet_ap, sSet_o1, sSet_ap, sPut_o3, sPut_o2, sPut_o1, sPut_ap, nSl_o3, nSl_o2, nSl_o1, nSl_ap, eSl_o3, eSl_o2, eSl_o1, eSl_ap, nCat_o2, nCat_o1, nCat_ap, nRep_o2, nRep_o1, nRep_ap, sFor_o1, sFor_ap, nComp_o1, nComp_ap, eCall_o1, eCall_ap, rOne_o1, rOne_ap, rTwo_o2, rTwo_o1, rTwo_ap, iRevR_o1, iRevR_ap, nRng_o1, nRng_ap, iSeq_o1, iSeq_ap, iRev_o1, iRev_ap, eIsi_o1, eIsi_ap, eC_ap, aNil_ap, sNext_ap, sSeq_ap, sRetN_ap, tTru_ap, eUn_ap, eB_ap, nB_ap, noTest_ap, eDNew_ap, oNo_ap, gSet_ap, gsNil_ap, gsCons_ap, gsCons_o, gTupM_ap, sAsg_ap, sAsg_o1, sAsg_o2, sWhile_ap, asB_ap, asB_o, tAndM_ap, tAndM_t, tAndM_f, tOrM_ap, tOrM_t, tOrM_f, sIf_ap, sIf_t, sIf_f, eIf_ap, eIf_t, eIf_f, eAnd_ap, eAnd_o, eAnd_t, eAnd_f, eOr_ap, eOr_o, eOr_t, eOr_f, eNot_ap, eNot_o1, eNot_o2, oSome_ap, oSome_o, eChain_ap, eChain_o1, eChain_o2, eChain_t, eChain_f, eChain_o4, eChain3_ap, eChain3_o1, eChain3_o2, eChain3_t, eChain3_f, eChain3_o4, iEnum_ap, iZip_ap, eMt_ap, eMt_o2, isLst_lst, eTupRg_ap, eTupRg_o, ixt0, ixt1, ixt2, ixt3, ixt4, negD_i, slD_lst, eV_0, eV_s, Res.bind_ok, Res.bind_ex, Res.bind_bad, Res.on_ok, Res.on_ex, Res.on_bad, SRes.bind_nx, SRes.bind_rt, SRes.bind_ex, SRes.bind_bad, List.set_cons_zero, List.set_cons_succ, addD_i, subD_i, ltD_i, leD_i, gtD_i, geD_i, eqD_i, neD_i, lenB_scr, lenB_lst, lenB_tup, truD, tyD, Ty.le, isD, isntD, isNon, killE, List.foldl_cons, List.foldl_nil, List.length_cons, List.length_nil, Nat.reduceAdd, Nat.zero_add, Nat.reduceLeDiff, if_true, if_false, Bool.false_eq_true, Bool.not_true, Bool.not_false]
      rw [modD_i (by omega)]
      simp only [aCons_o2, aCons_o1, aCons_ap, eTup_o1, eTup_ap, nLst_o1, nLst_ap, eFrz_o1, eFrz_ap, eNew_o1, eNew_ap, eOp_o2, eOp_o1, eOp_ap, tNotM_o1, tNotM_ap, sDrop_o1, sDrop_ap, sRet_o1, sRet_ap, sSet_o1, sSet_ap, sPut_o3, sPut_o2, sPut_o1, sPut_ap, nSl_o3, nSl_o2, nSl_o1, nSl_ap, eSl_o3, eSl_o2, eSl_o1, eSl_ap, nCat_o2, nCat_o1, nCat_ap, nRep_o2, nRep_o1, nRep_ap, sFor_o1, sFor_ap, nComp_o1, nComp_ap, eCall_o1, eCall_ap, rOne_o1, rOne_ap, rTwo_o2, rTwo_o1, rTwo_ap, iRevR_o1, iRevR_ap, nRng_o1, nRng_ap, iSeq_o1, iSeq_ap, iRev_o1, iRev_ap, eIsi_o1, eIsi_ap, eC_ap, aNil_ap, sNext_ap, sSeq_ap, sRetN_ap, tTru_ap, eUn_ap, eB_ap, nB_ap, noTest_ap, eDNew_ap, oNo_ap, gSet_ap, gsNil_ap, gsCons_ap, gsCons_o, gTupM_ap, sAsg_ap, sAsg_o1, sAsg_o2, sWhile_ap, asB_ap, asB_o, tAndM_ap, tAndM_t, tAndM_f, tOrM_ap, tOrM_t, tOrM_f, sIf_ap, sIf_t, sIf_f, eIf_ap, eIf_t, eIf_f, eAnd_ap, eAnd_o, eAnd_t, eAnd_f, eOr_ap, eOr_o, eOr_t, eOr_f, eNot_ap, eNot_o1, eNot_o2, oSome_ap, oSome_o, eChain_ap, eChain_o1, eChain_o2, eChain_t, eChain_f, eChain_o4, eChain3_ap, eChain3_o1, eChain3_o2, eChain3_t, eChain3_f, eChain3_o4, iEnum_ap, iZip_ap, eMt_ap, eMt_o2, isLst_lst, eTupRg_ap, eTupRg_o, ixt0, ixt1, ixt2, ixt3, ixt4, negD_i, slD_lst, eV_0, eV_s, Res.bind_ok, Res.bind_ex, Res.bind_bad, Res.on_ok, Res.on_ex, Res.on_bad, SRes.bind_nx, SRes.bind_rt, SRes.bind_ex, SRes.bind_bad, List.set_cons_zero, List.set_cons_succ, addD_i, subD_i, ltD_i, leD_i, gtD_i, geD_i, eqD_i, neD_i, lenB_scr, lenB_lst, lenB_tup, truD, tyD, Ty.le, isD, isntD, isNon, killE, List.foldl_cons, List.foldl_nil, List.length_cons, List.length_nil, Nat.reduceAdd, Nat.zero_add, Nat.reduceLeDiff, if_true, if_false, Bool.false_eq_true, Bool.not_true, Bool.not_false]
      rfl
    case h2 =>
      refine ⟨m, x % m, rfl, by rw [gcd_step hy]; exact hg, after_same, ?_⟩
      simp only [kill, aCons_o2, aCons_o1, aCons_ap, eTup_o1, eTup_ap, nLst_o1, nLst_ap, eFrz_o1, eFrz_ap, eNew_o1, eNew_ap, eOp_o2, eOp_o1, eOp_ap, tNotM_o1, tNotM_ap, sDrop_o1, sDrop_ap, sRet_o1, sRet_ap, sSet_o1, sSet_ap, sPut_o3, sPut_o2, sPut_o1, sPut_ap, nSl_o3, nSl_o2, nSl_o1, nSl_ap, eSl_o3, eSl_o2, eSl_o1, eSl_ap, nCat_o2, nCat_o1, nCat_ap, nRep_o2, nRep_o1, nRep_ap, sFor_o1, sFor_ap, nComp_o1, nComp_ap, eCall_o1, eCall_ap, rOne_o1, rOne_ap, rTwo_o2, rTwo_o1, rTwo_ap, iRevR_o1, iRevR_ap, nRng_o1, nRng_ap, iSeq_o1, iSeq_ap, iRev_o1, iRev_ap, eIsi_o1, eIsi_ap, eC_ap, aNil_ap, sNext_ap, sSeq_ap, sRetN_ap, tTru_ap, eUn_ap, eB_ap, nB_ap, noTest_ap, eDNew_ap, oNo_ap, gSet_ap, gsNil_ap, gsCons_ap, gsCons_o, gTupM_ap, sAsg_ap, sAsg_o1, sAsg_o2, sWhile_ap, asB_ap, asB_o, tAndM_ap, tAndM_t, tAndM_f, tOrM_ap, tOrM_t, tOrM_f, sIf_ap, sIf_t, sIf_f, eIf_ap, eIf_t, eIf_f, eAnd_ap, eAnd_o, eAnd_t, eAnd_f, eOr_ap, eOr_o, eOr_t, eOr_f, eNot_ap, eNot_o1, eNot_o2, oSome_ap, oSome_o, eChain_ap, eChain_o1, eChain_o2, eChain_t, eChain_f, eChain_o4, eChain3_ap, eChain3_o1, eChain3_o2, eChain3_t, eChain3_f, eChain3_o4, iEnum_ap, iZip_ap, eMt_ap, eMt_o2, isLst_lst, eTupRg_ap, eTupRg_o, ixt0, ixt1, ixt2, ixt3, ixt4, negD_i, slD_lst, eV_0, eV_s, Res.bind_ok, Res.bind_ex, Res.bind_bad, Res.on_ok, Res.on_ex, Res.on_bad, SRes.bind_nx, SRes.bind_rt, SRes.bind_ex, SRes.bind_bad, List.set_cons_zero, List.set_cons_succ, addD_i, subD_i, ltD_i, leD_i, gtD_i, geD_i, eqD_i, neD_i, lenB_scr, lenB_lst, lenB_tup, truD, tyD, Ty.le, isD, isntD, isNon, killE, List.foldl_cons, List.foldl_nil, List.length_cons, List.length_nil, Nat.reduceAdd, Nat.zero_add, Nat.reduceLeDiff, if_true, if_false, Bool.false_eq_true, Bool.not_true, Bool.not_false, Int.natCast_emod]
  · have e1 : decide ((0 : Int) < (m : Int)) = false := decide_eq_false (by omega)
    refine .inl ⟨by simp only [aCons_o2, aCons_o1, aCons_ap, eTup_o1, eTup_ap, nLst_o1, nLst_ap, eFrz_o1, eFrz_ap, eNew_o1, eNew_ap, eOp_o2, eOp_o1, eOp_ap, tNotM_o1, tNotM_ap, sDrop_o1, sDrop_ap, sRet_o1, sRet_ap, sSet_o1, sSet_ap, sPut_o3, sPut_o2, sPut_o1, sPut_ap, nSl_o3, nSl_o2, nSl_o1, nSl_ap, eSl_o3, eSl_o2, eSl_o1, eSl_ap, nCat_o2, nCat_o1, nCat_ap, nRep_o2, nRep_o1, nRep_ap, sFor_o1, sFor_ap, nComp_o1, nComp_ap, eCall_o1, eCall_ap, rOne_o1, rOne_ap, rTwo_o2, rTwo_o1, rTwo_ap, iRevR_o1, iRevR_ap, nRng_o1, nRng_ap, iSeq_o1, iSeq_ap, iRev_o1, iRev_ap, eIsi_o1, eIsi_ap, eC_ap, aNil_ap, sNext_ap, sSeq_ap, sRetN_ap, tTru_ap, eUn_ap, eB_ap, nB_ap, noTest_ap, eDNew_ap, oNo_ap, gSet_ap, gsNil_ap, gsCons_ap, gsCons_o, gTupM_ap, sAsg_ap, sAsg_o1, sAsg_o2, sWhile_ap, asB_ap, asB_o, tAndM_ap, tAndM_t, tAndM_f, tOrM_ap, tOrM_t, tOrM_f, sIf_ap, sIf_t, sIf_f, eIf_ap, eIf_t, eIf_f, eAnd_ap, eAnd_o, eAnd_t, eAnd_f, eOr_ap, eOr_o, eOr_t, eOr_f, eNot_ap, eNot_o1, eNot_o2, oSome_ap, oSome_o, eChain_ap, eChain_o1, eChain_o2, eChain_t, eChain_f, eChain_o4, eChain3_ap, eChain3_o1, eChain3_o2, eChain3_t, eChain3_f, eChain3_o4, iEnum_ap, iZip_ap, eMt_ap, eMt_o2, isLst_lst, eTupRg_ap, eTupRg_o, ixt0, ixt1, ixt2, ixt3, ixt4, negD_i, slD_lst, eV_0, eV_s, Res.bind_ok, Res.bind_ex, Res.bind_bad, Res.on_ok, Res.on_ex, Res.on_bad, SRes.bind_nx, SRes.bind_rt, SRes.bind_ex, SRes.bind_bad, List.set_cons_zero, List.set_cons_succ, addD_i, subD_i, ltD_i, leD_i, gtD_i, geD_i, eqD_i, neD_i, lenB_scr, lenB_lst, lenB_tup, truD, tyD, Ty.le, isD, isntD, isNon, killE, List.foldl_cons, List.foldl_nil, List.length_cons, List.length_nil, Nat.reduceAdd, Nat.zero_add, Nat.reduceLeDiff, if_true, if_false, Bool.false_eq_true, Bool.not_true, Bool.not_false]; simp only [e1], ?_⟩
    have e0 : m = 0 := by omega
    subst e0
    rw [Nat.gcd_zero_right] at hg
    subst hg
    unfold fr
    rw [hsh] at f1 f2 ⊢
    simp only [aCons_o2, aCons_o1, aCons_ap, eTup_o1, eTup_ap, nLst_o1, nLst_ap, eFrz_o1, eFrz_ap, eNew_o1, eNew_ap, eOp_o2, eOp_o1, eOp_ap, tNotM_o1, tNotM_ap, sDrop_o1, sDrop_ap, sRet_o1, sRet_ap, sSet_o1, sSet_ap, sPut_o3, sPut_o2, sPut_o1, sPut_ap, nSl_o3, nSl_o2, nSl_o1, nSl_ap, eSl_o3, eSl_o2, eSl_o1, eSl_ap, nCat_o2, nCat_o1, nCat_ap, nRep_o2, nRep_o1, nRep_ap, sFor_o1, sFor_ap, nComp_o1, nComp_ap, eCall_o1, eCall_ap, rOne_o1, rOne_ap, rTwo_o2, rTwo_o1, rTwo_ap, iRevR_o1, iRevR_ap, nRng_o1, nRng_ap, iSeq_o1, iSeq_ap, iRev_o1, iRev_ap, eIsi_o1, eIsi_ap, eC_ap, aNil_ap, sNext_ap, sSeq_ap, sRetN_ap, tTru_ap, eUn_ap, eB_ap, nB_ap, noTest_ap, eDNew_ap, oNo_ap, gSet_ap, gsNil_ap, gsCons_ap, gsCons_o, gTupM_ap, sAsg_ap, sAsg_o1, sAsg_o2, sWhile_ap, asB_ap, asB_o, tAndM_ap, tAndM_t, tAndM_f, tOrM_ap, tOrM_t, tOrM_f, sIf_ap, sIf_t, sIf_f, eIf_ap, eIf_t, eIf_f, eAnd_ap, eAnd_o, eAnd_t, eAnd_f, eOr_ap, eOr_o, eOr_t, eOr_f, eNot_ap, eNot_o1, eNot_o2, oSome_ap, oSome_o, eChain_ap, eChain_o1, eChain_o2, eChain_t, eChain_f, eChain_o4, eChain3_ap, eChain3_o1, eChain3_o2, eChain3_t, eChain3_f, eChain3_o4, iEnum_ap, iZip_ap, eMt_ap, eMt_o2, isLst_lst, eTupRg_ap, eTupRg_o, ixt0, ixt1, ixt2, ixt3, ixt4, negD_i, slD_lst, eV_0, eV_s, Res.bind_ok, Res.bind_ex, Res.bind_bad, Res.on_ok, Res.on_ex, Res.on_bad, SRes.bind_nx, SRes.bind_rt, SRes.bind_ex, SRes.bind_bad, List.set_cons_zero, List.set_cons_succ, addD_i, subD_i, ltD_i, leD_i, gtD_i, geD_i, eqD_i, neD_i, lenB_scr, lenB_lst, lenB_tup, truD, tyD, Ty.le, isD, isntD, isNon, killE, List.foldl_cons, List.foldl_nil, List.length_cons, List.length_nil, Nat.reduceAdd, Nat.zero_add, Nat.reduceLeDiff, if_true, if_false, Bool.false_eq_true, Bool.not_true, Bool.not_false]
    rw [fdivD_n f1 f2]
    simp only [aCons_o2, aCons_o1, aCons_ap, eTup_o1, eTup_ap, nLst_o1, nLst_ap, eFrz_o1, eFrz_ap, eNew_o1, eNew_ap, eOp_o2, eOp_o1, eOp_ap, tNotM_o1, tNotM_ap, sDrop_o1, sDrop_ap, sRet_o1, sRet_ap, sSet_o1, sSet_ap, sPut_o3, sPut_o2, sPut_o1, sPut_ap, nSl_o3, nSl_o2, nSl_o1, nSl_ap, eSl_o3, eSl_o2, eSl_o1, eSl_ap, nCat_o2, nCat_o1, nCat_ap, nRep_o2, nRep_o1, nRep_ap, sFor_o1, sFor_ap, nComp_o1, nComp_ap, eCall_o1, eCall_ap, rOne_o1, rOne_ap, rTwo_o2, rTwo_o1, rTwo_ap, iRevR_o1, iRevR_ap, nRng_o1, nRng_ap, iSeq_o1, iSeq_ap, iRev_o1, iRev_ap, eIsi_o1, eIsi_ap, eC_ap, aNil_ap, sNext_ap, sSeq_ap, sRetN_ap, tTru_ap, eUn_ap, eB_ap, nB_ap, noTest_ap, eDNew_ap, oNo_ap, gSet_ap, gsNil_ap, gsCons_ap, gsCons_o, gTupM_ap, sAsg_ap, sAsg_o1, sAsg_o2, sWhile_ap, asB_ap, asB_o, tAndM_ap, tAndM_t, tAndM_f, tOrM_ap, tOrM_t, tOrM_f, sIf_ap, sIf_t, sIf_f, eIf_ap, eIf_t, eIf_f, eAnd_ap, eAnd_o, eAnd_t, eAnd_f, eOr_ap, eOr_o, eOr_t, eOr_f, eNot_ap, eNot_o1, eNot_o2, oSome_ap, oSome_o, eChain_ap, eChain_o1, eChain_o2, eChain_t, eChain_f, eChain_o4, eChain3_ap, eChain3_o1, eChain3_o2, eChain3_t, eChain3_f, eChain3_o4, iEnum_ap, iZip_ap, eMt_ap, eMt_o2, isLst_lst, eTupRg_ap, eTupRg_o, ixt0, ixt1, ixt2, ixt3, ixt4, negD_i, slD_lst, eV_0, eV_s, Res.bind_ok, Res.bind_ex, Res.bind_bad, Res.on_ok, Res.on_ex, Res.on_bad, SRes.bind_nx, SRes.bind_rt, SRes.bind_ex, SRes.bind_bad, List.set_cons_zero, List.set_cons_succ, addD_i, subD_i, ltD_i, leD_i, gtD_i, geD_i, eqD_i, neD_i, lenB_scr, lenB_lst, lenB_tup, truD, tyD, Ty.le, isD, isntD, isNon, killE, List.foldl_cons, List.foldl_nil, List.length_cons, List.length_nil, Nat.reduceAdd, Nat.zero_add, Nat.reduceLeDiff, if_true, if_false, Bool.false_eq_true, Bool.not_true, Bool.not_false]
    rw [fdivD_n f1 f2]
    simp only [aCons_o2, aCons_o1, aCons_ap, eTup_o1, eTup_ap, nLst_o1, nLst_ap, eFrz_o1, eFrz_ap, eNew_o1, eNew_ap, eOp_o2, eOp_o1, eOp_ap, tNotM_o1, tNotM_ap, sDrop_o1, sDrop_ap, sRet_o1, sRet_ap, sSet_o1, sSet_ap, sPut_o3, sPut_o2, sPut_o1, sPut_ap, nSl_o3, nSl_o2, nSl_o1, nSl_ap, eSl_o3, eSl_o2, eSl_o1, eSl_ap, nCat_o2, nCat_o1, nCat_ap, nRep_o2, nRep_o1, nRep_ap, sFor_o1, sFor_ap, nComp_o1, nComp_ap, eCall_o1, eCall_ap, rOne_o1, rOne_ap, rTwo_o2, rTwo_o1, rTwo_ap, iRevR_o1, iRevR_ap, nRng_o1, nRng_ap, iSeq_o1, iSeq_ap, iRev_o1, iRev_ap, eIsi_o1, eIsi_ap, eC_ap, aNil_ap, sNext_ap, sSeq_ap, sRetN_ap, tTru_ap, eUn_ap, eB_ap, nB_ap, noTest_ap, eDNew_ap, oNo_ap, gSet_ap, gsNil_ap, gsCons_ap, gsCons_o, gTupM_ap, sAsg_ap, sAsg_o1, sAsg_o2, sWhile_ap, asB_ap, asB_o, tAndM_ap, tAndM_t, tAndM_f, tOrM_ap, tOrM_t, tOrM_f, sIf_ap, sIf_t, sIf_f, eIf_ap, eIf_t, eIf_f, eAnd_ap, eAnd_o, eAnd_t, eAnd_f, eOr_ap, eOr_o, eOr_t, eOr_f, eNot_ap, eNot_o1, eNot_o2, oSome_ap, oSome_o, eChain_ap, eChain_o1, eChain_o2, eChain_t, eChain_f, eChain_o4, eChain3_ap, eChain3_o1, eChain3_o2, eChain3_t, eChain3_f, eChain3_o4, iEnum_ap, iZip_ap, eMt_ap, eMt_o2, isLst_lst, eTupRg_ap, eTupRg_o, ixt0, ixt1, ixt2, ixt3, ixt4, negD_i, slD_lst, eV_0, eV_s, Res.bind_ok, Res.bind_ex, Res.bind_bad, Res.on_ok, Res.on_ex, Res.on_bad, SRes.bind_nx, SRes.bind_rt, SRes.bind_ex, SRes.bind_bad, List.set_cons_zero, List.set_cons_succ, addD_i, subD_i, ltD_i, leD_i, gtD_i, geD_i, eqD_i, neD_i, lenB_scr, lenB_lst, lenB_tup, truD, tyD, Ty.le, isD, isntD, isNon, killE, List.foldl_cons, List.foldl_nil, List.length_cons, List.length_nil, Nat.reduceAdd, Nat.zero_add, Nat.reduceLeDiff, if_true, if_false, Bool.false_eq_true, Bool.not_true, Bool.not_false]
    exact fin_rt rfl
abbrev Pt := Int × Int
def prD (p : Pt) : D := .tup [.int p.1, .int p.2]
def low (t b : Int) : Pt := (t.fdiv (sh t b), b.fdiv (sh t b))
theorem fr_prD (t b : Int) : fr t b = prD (low t b) := rfl
theorem ixp0 {p : Pt} {st : Sto} : ixD (prD p) (.int 0) st = .ok (.int p.1) st := ixt0
theorem ixp1 {p : Pt} {st : Sto} : ixD (prD p) (.int 1) st = .ok (.int p.2) st := ixt1
def rcD (r : List Pt) : D := .tup (r.map prD)
def flD (w h : Pt) (rs : List (List Pt)) : D := .tup [prD w, prD h, .tup (rs.map rcD)]
theorem ixf0 {w h : Pt} {rs : List (List Pt)} {st : Sto} : ixD (flD w h rs) (.int 0) st = .ok (prD w) st := ixt0
theorem ixf1 {w h : Pt} {rs : List (List Pt)} {st : Sto} : ixD (flD w h rs) (.int 1) st = .ok (prD h) st := ixt1
theorem ixf2 {w h : Pt} {rs : List (List Pt)} {st : Sto} : ixD (flD w h rs) (.int 2) st = .ok (.tup (rs.map rcD)) st := ixt2
theorem prD_cl (p : Pt) : (prD p).cl = true := rfl
theorem rcD_cl (r : List Pt) : (rcD r).cl = true := cls_map prD_cl r
theorem rcs_cl (rs : List (List Pt)) : D.cls (rs.map rcD) = true := cls_map rcD_cl rs
theorem flD_cl (w h : Pt) (rs : List (List Pt)) : (flD w h rs).cl = true := by
  unfold flD
  simp only [D.cl, D.cls, prD_cl, rcs_cl, Bool.and_self]
theorem fin_cl {st : Sto} {d : D} {fz : Bool} (h : d.cl = true) : fin fz st (.rt d st) = .ok d st := fin_rt (D.cl_blw _ _ h)
theorem z_lt {i : Int} (h1 : -(2 ^ 100) < i) (h2 : i < 2 ^ 100) {k : Nat} (hk : 100 ≤ k) : i.natAbs < 2 ^ k := lt_mono (a := 100) (by omega) hk
theorem scone_eq {n s t : Int} {st : Sto} (hn : Sz 1000 n) (hs : Sz 1000 s) (ht : 0 < t) (hz : Sz 2000 t) : m_l_scaled_one [.int n, prD (s, t)] st = .ok (prD (low (n * s) t)) st := by
  show fin true st (b_l_scaled_one [some (.int n), some (prD (s, t))] st) = _
  unfold b_l_scaled_one
  simp only [ixp0, ixp1, aCons_o2, aCons_o1, aCons_ap, eTup_o1, eTup_ap, nLst_o1, nLst_ap, eFrz_o1, eFrz_ap, eNew_o1, eNew_ap, eOp_o2, eOp_o1, eOp_ap, tNotM_o1, tNotM_ap, sDrop_o1, sDrop_ap, sRet_o1, sRet_ap, sSet_o1, sSet_ap, sPut_o3, sPut_o2, sPut_o1, sPut_ap, nSl_o3, nSl_o2, nSl_o1, nSl_ap, eSl_o3, eSl_o2, eSl_o1, eSl_ap, nCat_o2, nCat_o1, nCat_ap, nRep_o2, nRep_o1, nRep_ap, sFor_o1, sFor_ap, nComp_o1, nComp_ap, eCall_o1, eCall_ap, rOne_o1, rOne_ap, rTwo_o2, rTwo_o1, rTwo_ap, iRevR_o1, iRevR_ap, nRng_o1, nRng_ap, iSeq_o1, iSeq_ap, iRev_o1, iRev_ap, eIsi_o1, eIsi_ap, eC_ap, aNil_ap, sNext_ap, sSeq_ap, sRetN_ap, tTru_ap, eUn_ap, eB_ap, nB_ap, noTest_ap, eDNew_ap, oNo_ap, gSet_ap, gsNil_ap, gsCons_ap, gsCons_o, gTupM_ap, sAsg_ap, sAsg_o1, sAsg_o2, sWhile_ap, asB_ap, asB_o, tAndM_ap, tAndM_t, tAndM_f, tOrM_ap, tOrM_t, tOrM_f, sIf_ap, sIf_t, sIf_f, eIf_ap, eIf_t, eIf_f, eAnd_ap, eAnd_o, eAnd_t, eAnd_f, eOr_ap, eOr_o, eOr_t, eOr_f, eNot_ap, eNot_o1, eNot_o2, oSome_ap, oSome_o, eChain_ap, eChain_o1, eChain_o2, eChain_t, eChain_f, eChain_o4, eChain3_ap, eChain3_o1, eChain3_o2, eChain3_t, eChain3_f, eChain3_o4, iEnum_ap, iZip_ap, eMt_ap, eMt_o2, isLst_lst, eTupRg_ap, eTupRg_o, ixt0, ixt1, ixt2, ixt3, ixt4, negD_i, slD_lst, eV_0, eV_s, Res.bind_ok, Res.bind_ex, Res.bind_bad, Res.on_ok, Res.on_ex, Res.on_bad, SRes.bind_nx, SRes.bind_rt, SRes.bind_ex, SRes.bind_bad, List.set_cons_zero, List.set_cons_succ, addD_i, subD_i, ltD_i, leD_i, gtD_i, geD_i, eqD_i, neD_i, lenB_scr, lenB_lst, lenB_tup, truD, tyD, Ty.le, isD, isntD, isNon, killE, List.foldl_cons, List.foldl_nil, List.length_cons, List.length_nil, Nat.reduceAdd, Nat.zero_add, Nat.reduceLeDiff, if_true, if_false, Bool.false_eq_true, Bool.not_true, Bool.not_false]
  rw [mulD_z (lt_mono hn (by decide)) (lt_mono hs (by decide))]
  simp only [ixp0, ixp1, aCons_o2, aCons_o1, aCons_ap, eTup_o1, eTup_ap, nLst_o1, nLst_ap, eFrz_o1, eFrz_ap, eNew_o1, eNew_ap, eOp_o2, eOp_o1, eOp_ap, tNotM_o1, tNotM_ap, sDrop_o1, sDrop_ap, sRet_o1, sRet_ap, sSet_o1, sSet_ap, sPut_o3, sPut_o2, sPut_o1, sPut_ap, nSl_o3, nSl_o2, nSl_o1, nSl_ap, eSl_o3, eSl_o2, eSl_o1, eSl_ap, nCat_o2, nCat_o1, nCat_ap, nRep_o2, nRep_o1, nRep_ap, sFor_o1, sFor_ap, nComp_o1, nComp_ap, eCall_o1, eCall_ap, rOne_o1, rOne_ap, rTwo_o2, rTwo_o1, rTwo_ap, iRevR_o1, iRevR_ap, nRng_o1, nRng_ap, iSeq_o1, iSeq_ap, iRev_o1, iRev_ap, eIsi_o1, eIsi_ap, eC_ap, aNil_ap, sNext_ap, sSeq_ap, sRetN_ap, tTru_ap, eUn_ap, eB_ap, nB_ap, noTest_ap, eDNew_ap, oNo_ap, gSet_ap, gsNil_ap, gsCons_ap, gsCons_o, gTupM_ap, sAsg_ap, sAsg_o1, sAsg_o2, sWhile_ap, asB_ap, asB_o, tAndM_ap, tAndM_t, tAndM_f, tOrM_ap, tOrM_t, tOrM_f, sIf_ap, sIf_t, sIf_f, eIf_ap, eIf_t, eIf_f, eAnd_ap, eAnd_o, eAnd_t, eAnd_f, eOr_ap, eOr_o, eOr_t, eOr_f, eNot_ap, eNot_o1, eNot_o2, oSome_ap, oSome_o, eChain_ap, eChain_o1, eChain_o2, eChain_t, eChain_f, eChain_o4, eChain3_ap, eChain3_o1, eChain3_o2, eChain3_t, eChain3_f, eChain3_o4, iEnum_ap, iZip_ap, eMt_ap, eMt_o2, isLst_lst, eTupRg_ap, eTupRg_o, ixt0, ixt1, ixt2, ixt3, ixt4, negD_i, slD_lst, eV_0, eV_s, Res.bind_ok, Res.bind_ex, Res.bind_bad, Res.on_ok, Res.on_ex, Res.on_bad, SRes.bind_nx, SRes.bind_rt, SRes.bind_ex, SRes.bind_bad, List.set_cons_zero, List.set_cons_succ, addD_i, subD_i, ltD_i, leD_i, gtD_i, geD_i, eqD_i, neD_i, lenB_scr, lenB_lst, lenB_tup, truD, tyD, Ty.le, isD, isntD, isNon, killE, List.foldl_cons, List.foldl_nil, List.length_cons, List.length_nil, Nat.reduceAdd, Nat.zero_add, Nat.reduceLeDiff, if_true, if_false, Bool.false_eq_true, Bool.not_true, Bool.not_false]
  rw [lowest_eq ht hz]
  simp only [aCons_o2, aCons_o1, aCons_ap, eTup_o1, eTup_ap, nLst_o1, nLst_ap, eFrz_o1, eFrz_ap, eNew_o1, eNew_ap, eOp_o2, eOp_o1, eOp_ap, tNotM_o1, tNotM_ap, sDrop_o1, sDrop_ap, sRet_o1, sRet_ap, sSet_o1, sSet_ap, sPut_o3, sPut_o2, sPut_o1, sPut_ap, nSl_o3, nSl_o2, nSl_o1, nSl_ap, eSl_o3, eSl_o2, eSl_o1, eSl_ap, nCat_o2, nCat_o1, nCat_ap, nRep_o2, nRep_o1, nRep_ap, sFor_o1, sFor_ap, nComp_o1, nComp_ap, eCall_o1, eCall_ap, rOne_o1, rOne_ap, rTwo_o2, rTwo_o1, rTwo_ap, iRevR_o1, iRevR_ap, nRng_o1, nRng_ap, iSeq_o1, iSeq_ap, iRev_o1, iRev_ap, eIsi_o1, eIsi_ap, eC_ap, aNil_ap, sNext_ap, sSeq_ap, sRetN_ap, tTru_ap, eUn_ap, eB_ap, nB_ap, noTest_ap, eDNew_ap, oNo_ap, gSet_ap, gsNil_ap, gsCons_ap, gsCons_o, gTupM_ap, sAsg_ap, sAsg_o1, sAsg_o2, sWhile_ap, asB_ap, asB_o, tAndM_ap, tAndM_t, tAndM_f, tOrM_ap, tOrM_t, tOrM_f, sIf_ap, sIf_t, sIf_f, eIf_ap, eIf_t, eIf_f, eAnd_ap, eAnd_o, eAnd_t, eAnd_f, eOr_ap, eOr_o, eOr_t, eOr_f, eNot_ap, eNot_o1, eNot_o2, oSome_ap, oSome_o, eChain_ap, eChain_o1, eChain_o2, eChain_t, eChain_f, eChain_o4, eChain3_ap, eChain3_o1, eChain3_o2, eChain3_t, eChain3_f, eChain3_o4, iEnum_ap, iZip_ap, eMt_ap, eMt_o2, isLst_lst, eTupRg_ap, eTupRg_o, ixt0, ixt1, ixt2, ixt3, ixt4, negD_i, slD_lst, eV_0, eV_s, Res.bind_ok, Res.bind_ex, Res.bind_bad, Res.on_ok, Res.on_ex, Res.on_bad, SRes.bind_nx, SRes.bind_rt, SRes.bind_ex, SRes.bind_bad, List.set_cons_zero, List.set_cons_succ, addD_i, subD_i, ltD_i, leD_i, gtD_i, geD_i, eqD_i, neD_i, lenB_scr, lenB_lst, lenB_tup, truD, tyD, Ty.le, isD, isntD, isNon, killE, List.foldl_cons, List.foldl_nil, List.length_cons, List.length_nil, Nat.reduceAdd, Nat.zero_add, Nat.reduceLeDiff, if_true, if_false, Bool.false_eq_true, Bool.not_true, Bool.not_false]
  exact fin_cl rfl
def scP (s t : Int) (b : Box) : List Pt := [low (b.1 * s) t, low (b.2.1 * s) t, low (b.2.2.1 * s) t, low (b.2.2.2 * s) t]
def BxS (b : Box) : Prop := Sz 1000 b.1 ∧ Sz 1000 b.2.1 ∧ Sz 1000 b.2.2.1 ∧ Sz 1000 b.2.2.2
theorem scaled_eq {b : Box} {s t : Int} {st : Sto} (hb : BxS b) (hs : Sz 1000 s) (ht : 0 < t) (hz : Sz 2000 t) : m_l_scaled [bxD b, prD (s, t)] st = .ok (rcD (scP s t b)) st := by
  show fin true st (b_l_scaled [some (bxD b), some (prD (s, t)), none] st) = _
  unfold b_l_scaled
  have hc : nComp [2] (iSeq (eV 0)) (gSet 2) (noTest) (eCall 2 m_l_scaled_one (aCons (eV 2) (aCons (eV 1) (aNil)))) [some (bxD b), some (prD (s, t)), none] st = .ok ((scP s t b).map prD) st := by
    rw [nComp_ap, iSeq_tup (ds := [.int b.1, .int b.2.1, .int b.2.2.1, .int b.2.2.2]) (st1 := st) rfl, nComp_o1]
    rw [comp_run (g := gSet 2) (te := eCall 2 m_l_scaled_one (aCons (eV 2) (aCons (eV 1) (aNil)))) (f := fun d => match d with | .int n => prD (low (n * s) t) | _ => .non) (fun d hd => ?_) (by simp)]
    · rfl
    · have key : ∀ n : Int, Sz 1000 n → ∃ env1, gSet 2 (.int n) (wipeE [some (bxD b), some (prD (s, t)), none] [2]) st = .ok env1 st ∧ eCall 2 m_l_scaled_one (aCons (eV 2) (aCons (eV 1) (aNil))) env1 st = .ok (prD (low (n * s) t)) st := by
        intro n hn
        refine ⟨[some (bxD b), some (prD (s, t)), some (.int n)], rfl, ?_⟩
        simp only [aCons_o2, aCons_o1, aCons_ap, eTup_o1, eTup_ap, nLst_o1, nLst_ap, eFrz_o1, eFrz_ap, eNew_o1, eNew_ap, eOp_o2, eOp_o1, eOp_ap, tNotM_o1, tNotM_ap, sDrop_o1, sDrop_ap, sRet_o1, sRet_ap, sSet_o1, sSet_ap, sPut_o3, sPut_o2, sPut_o1, sPut_ap, nSl_o3, nSl_o2, nSl_o1, nSl_ap, eSl_o3, eSl_o2, eSl_o1, eSl_ap, nCat_o2, nCat_o1, nCat_ap, nRep_o2, nRep_o1, nRep_ap, sFor_o1, sFor_ap, nComp_o1, nComp_ap, eCall_o1, eCall_ap, rOne_o1, rOne_ap, rTwo_o2, rTwo_o1, rTwo_ap, iRevR_o1, iRevR_ap, nRng_o1, nRng_ap, iSeq_o1, iSeq_ap, iRev_o1, iRev_ap, eIsi_o1, eIsi_ap, eC_ap, aNil_ap, sNext_ap, sSeq_ap, sRetN_ap, tTru_ap, eUn_ap, eB_ap, nB_ap, noTest_ap, eDNew_ap, oNo_ap, gSet_ap, gsNil_ap, gsCons_ap, gsCons_o, gTupM_ap, sAsg_ap, sAsg_o1, sAsg_o2, sWhile_ap, asB_ap, asB_o, tAndM_ap, tAndM_t, tAndM_f, tOrM_ap, tOrM_t, tOrM_f, sIf_ap, sIf_t, sIf_f, eIf_ap, eIf_t, eIf_f, eAnd_ap, eAnd_o, eAnd_t, eAnd_f, eOr_ap, eOr_o, eOr_t, eOr_f, eNot_ap, eNot_o1, eNot_o2, oSome_ap, oSome_o, eChain_ap, eChain_o1, eChain_o2, eChain_t, eChain_f, eChain_o4, eChain3_ap, eChain3_o1, eChain3_o2, eChain3_t, eChain3_f, eChain3_o4, iEnum_ap, iZip_ap, eMt_ap, eMt_o2, isLst_lst, eTupRg_ap, eTupRg_o, ixt0, ixt1, ixt2, ixt3, ixt4, negD_i, slD_lst, eV_0, eV_s, Res.bind_ok, Res.bind_ex, Res.bind_bad, Res.on_ok, Res.on_ex, Res.on_bad, SRes.bind_nx, SRes.bind_rt, SRes.bind_ex, SRes.bind_bad, List.set_cons_zero, List.set_cons_succ, addD_i, subD_i, ltD_i, leD_i, gtD_i, geD_i, eqD_i, neD_i, lenB_scr, lenB_lst, lenB_tup, truD, tyD, Ty.le, isD, isntD, isNon, killE, List.foldl_cons, List.foldl_nil, List.length_cons, List.length_nil, Nat.reduceAdd, Nat.zero_add, Nat.reduceLeDiff, if_true, if_false, Bool.false_eq_true, Bool.not_true, Bool.not_false]
        rw [scone_eq hn hs ht hz]
      simp only [List.mem_cons, List.not_mem_nil, or_false] at hd
      rcases hd with rfl | rfl | rfl | rfl
      · exact key _ hb.1
      · exact key _ hb.2.1
      · exact key _ hb.2.2.1
      · exact key _ hb.2.2.2
  rw [sRet_ap, eB_ap, aCons_ap, eFrz_ap, hc]
  simp only [tupB_lst, aCons_o2, aCons_o1, aCons_ap, eTup_o1, eTup_ap, nLst_o1, nLst_ap, eFrz_o1, eFrz_ap, eNew_o1, eNew_ap, eOp_o2, eOp_o1, eOp_ap, tNotM_o1, tNotM_ap, sDrop_o1, sDrop_ap, sRet_o1, sRet_ap, sSet_o1, sSet_ap, sPut_o3, sPut_o2, sPut_o1, sPut_ap, nSl_o3, nSl_o2, nSl_o1, nSl_ap, eSl_o3, eSl_o2, eSl_o1, eSl_ap, nCat_o2, nCat_o1, nCat_ap, nRep_o2, nRep_o1, nRep_ap, sFor_o1, sFor_ap, nComp_o1, nComp_ap, eCall_o1, eCall_ap, rOne_o1, rOne_ap, rTwo_o2, rTwo_o1, rTwo_ap, iRevR_o1, iRevR_ap, nRng_o1, nRng_ap, iSeq_o1, iSeq_ap, iRev_o1, iRev_ap, eIsi_o1, eIsi_ap, eC_ap, aNil_ap, sNext_ap, sSeq_ap, sRetN_ap, tTru_ap, eUn_ap, eB_ap, nB_ap, noTest_ap, eDNew_ap, oNo_ap, gSet_ap, gsNil_ap, gsCons_ap, gsCons_o, gTupM_ap, sAsg_ap, sAsg_o1, sAsg_o2, sWhile_ap, asB_ap, asB_o, tAndM_ap, tAndM_t, tAndM_f, tOrM_ap, tOrM_t, tOrM_f, sIf_ap, sIf_t, sIf_f, eIf_ap, eIf_t, eIf_f, eAnd_ap, eAnd_o, eAnd_t, eAnd_f, eOr_ap, eOr_o, eOr_t, eOr_f, eNot_ap, eNot_o1, eNot_o2, oSome_ap, oSome_o, eChain_ap, eChain_o1, eChain_o2, eChain_t, eChain_f, eChain_o4, eChain3_ap, eChain3_o1, eChain3_o2, eChain3_t, eChain3_f, eChain3_o4, iEnum_ap, iZip_ap, eMt_ap, eMt_o2, isLst_lst, eTupRg_ap, eTupRg_o, ixt0, ixt1, ixt2, ixt3, ixt4, negD_i, slD_lst, eV_0, eV_s, Res.bind_ok, Res.bind_ex, Res.bind_bad, Res.on_ok, Res.on_ex, Res.on_bad, SRes.bind_nx, SRes.bind_rt, SRes.bind_ex, SRes.bind_bad, List.set_cons_zero, List.set_cons_succ, addD_i, subD_i, ltD_i, leD_i, gtD_i, geD_i, eqD_i, neD_i, lenB_scr, lenB_lst, lenB_tup, truD, tyD, Ty.le, isD, isntD, isNon, killE, List.foldl_cons, List.foldl_nil, List.length_cons, List.length_nil, Nat.reduceAdd, Nat.zero_add, Nat.reduceLeDiff, if_true, if_false, Bool.false_eq_true, Bool.not_true, Bool.not_false]
  exact fin_cl (rcD_cl (scP s t b))
theorem floor_of_eq {bs : List Box} {w h s t : Int} {st : Sto} (hb : ∀ b ∈ bs, BxS b) (hl : bs.length ≤ 1000) (hw : Sz 1000 w) (hh : Sz 1000 h) (hs : Sz 1000 s) (ht : 0 < t) (hz : Sz 2000 t) :
    m_l_floor_of [.lst (bs.map bxD), .int w, .int h, prD (s, t)] st = .ok (flD (low (w * s) t) (low (h * s) t) (bs.map (scP s t))) st := by
  show fin true st (b_l_floor_of [some (.lst (bs.map bxD)), some (.int w), some (.int h), some (prD (s, t)), none, none] st) = _
  unfold b_l_floor_of
  have hc : nComp [5] (iSeq (eV 0)) (gSet 5) (noTest) (eCall 2 m_l_scaled (aCons (eV 5) (aCons (eV 3) (aNil)))) [some (.lst (bs.map bxD)), some (.int w), some (.int h), some (prD (s, t)), none, none] st = .ok ((bs.map (scP s t)).map rcD) st := by
    rw [nComp_ap, iSeq_lst (ds := bs.map bxD) (st1 := st) rfl, nComp_o1]
    rw [comp_run (g := gSet 5) (te := eCall 2 m_l_scaled (aCons (eV 5) (aCons (eV 3) (aNil)))) (f := fun d => match d with | .tup [.int a, .int b, .int c, .int e] => rcD (scP s t (a, b, c, e)) | _ => .non) (fun d hd => ?_) (by simp; omega)]
    · simp only [List.map_map, List.nil_append]
      rfl
    · obtain ⟨b, hbm, rfl⟩ := List.mem_map.mp hd
      refine ⟨[some (.lst (bs.map bxD)), some (.int w), some (.int h), some (prD (s, t)), none, some (bxD b)], rfl, ?_⟩
      simp only [aCons_o2, aCons_o1, aCons_ap, eTup_o1, eTup_ap, nLst_o1, nLst_ap, eFrz_o1, eFrz_ap, eNew_o1, eNew_ap, eOp_o2, eOp_o1, eOp_ap, tNotM_o1, tNotM_ap, sDrop_o1, sDrop_ap, sRet_o1, sRet_ap, sSet_o1, sSet_ap, sPut_o3, sPut_o2, sPut_o1, sPut_ap, nSl_o3, nSl_o2, nSl_o1, nSl_ap, eSl_o3, eSl_o2, eSl_o1, eSl_ap, nCat_o2, nCat_o1, nCat_ap, nRep_o2, nRep_o1, nRep_ap, sFor_o1, sFor_ap, nComp_o1, nComp_ap, eCall_o1, eCall_ap, rOne_o1, rOne_ap, rTwo_o2, rTwo_o1, rTwo_ap, iRevR_o1, iRevR_ap, nRng_o1, nRng_ap, iSeq_o1, iSeq_ap, iRev_o1, iRev_ap, eIsi_o1, eIsi_ap, eC_ap, aNil_ap, sNext_ap, sSeq_ap, sRetN_ap, tTru_ap, eUn_ap, eB_ap, nB_ap, noTest_ap, eDNew_ap, oNo_ap, gSet_ap, gsNil_ap, gsCons_ap, gsCons_o, gTupM_ap, sAsg_ap, sAsg_o1, sAsg_o2, sWhile_ap, asB_ap, asB_o, tAndM_ap, tAndM_t, tAndM_f, tOrM_ap, tOrM_t, tOrM_f, sIf_ap, sIf_t, sIf_f, eIf_ap, eIf_t, eIf_f, eAnd_ap, eAnd_o, eAnd_t, eAnd_f, eOr_ap, eOr_o, eOr_t, eOr_f, eNot_ap, eNot_o1, eNot_o2, oSome_ap, oSome_o, eChain_ap, eChain_o1, eChain_o2, eChain_t, eChain_f, eChain_o4, eChain3_ap, eChain3_o1, eChain3_o2, eChain3_t, eChain3_f, eChain3_o4, iEnum_ap, iZip_ap, eMt_ap, eMt_o2, isLst_lst, eTupRg_ap, eTupRg_o, ixt0, ixt1, ixt2, ixt3, ixt4, negD_i, slD_lst, eV_0, eV_s, Res.bind_ok, Res.bind_ex, Res.bind_bad, Res.on_ok, Res.on_ex, Res.on_bad, SRes.bind_nx, SRes.bind_rt, SRes.bind_ex, SRes.bind_bad, List.set_cons_zero, List.set_cons_succ, addD_i, subD_i, ltD_i, leD_i, gtD_i, geD_i, eqD_i, neD_i, lenB_scr, lenB_lst, lenB_tup, truD, tyD, Ty.le, isD, isntD, isNon, killE, List.foldl_cons, List.foldl_nil, List.length_cons, List.length_nil, Nat.reduceAdd, Nat.zero_add, Nat.reduceLeDiff, if_true, if_false, Bool.false_eq_true, Bool.not_true, Bool.not_false]
      rw [scaled_eq (hb b hbm) hs ht hz]
      rfl
  rw [sSeq_ap, sSet_ap, eFrz_ap, hc]
  simp only [scone_eq hw hs ht hz, scone_eq hh hs ht hz, tupB_lst, aCons_o2, aCons_o1, aCons_ap, eTup_o1, eTup_ap, nLst_o1, nLst_ap, eFrz_o1, eFrz_ap, eNew_o1, eNew_ap, eOp_o2, eOp_o1, eOp_ap, tNotM_o1, tNotM_ap, sDrop_o1, sDrop_ap, sRet_o1, sRet_ap, sSet_o1, sSet_ap, sPut_o3, sPut_o2, sPut_o1, sPut_ap, nSl_o3, nSl_o2, nSl_o1, nSl_ap, eSl_o3, eSl_o2, eSl_o1, eSl_ap, nCat_o2, nCat_o1, nCat_ap, nRep_o2, nRep_o1, nRep_ap, sFor_o1, sFor_ap, nComp_o1, nComp_ap, eCall_o1, eCall_ap, rOne_o1, rOne_ap, rTwo_o2, rTwo_o1, rTwo_ap, iRevR_o1, iRevR_ap, nRng_o1, nRng_ap, iSeq_o1, iSeq_ap, iRev_o1, iRev_ap, eIsi_o1, eIsi_ap, eC_ap, aNil_ap, sNext_ap, sSeq_ap, sRetN_ap, tTru_ap, eUn_ap, eB_ap, nB_ap, noTest_ap, eDNew_ap, oNo_ap, gSet_ap, gsNil_ap, gsCons_ap, gsCons_o, gTupM_ap, sAsg_ap, sAsg_o1, sAsg_o2, sWhile_ap, asB_ap, asB_o, tAndM_ap, tAndM_t, tAndM_f, tOrM_ap, tOrM_t, tOrM_f, sIf_ap, sIf_t, sIf_f, eIf_ap, eIf_t, eIf_f, eAnd_ap, eAnd_o, eAnd_t, eAnd_f, eOr_ap, eOr_o, eOr_t, eOr_f, eNot_ap, eNot_o1, eNot_o2, oSome_ap, oSome_o, eChain_ap, eChain_o1, eChain_o2, eChain_t, eChain_f, eChain_o4, eChain3_ap, eChain3_o1, eChain3_o2, eChain3_t, eChain3_f, eChain3_o4, iEnum_ap, iZip_ap, eMt_ap, eMt_o2, isLst_lst, eTupRg_ap, eTupRg_o, ixt0, ixt1, ixt2, ixt3, ixt4, negD_i, slD_lst, eV_0, eV_s, Res.bind_ok, Res.bind_ex, Res.bind_bad, Res.on_ok, Res.on_ex, Res.on_bad, SRes.bind_nx, SRes.bind_rt, SRes.bind_ex, SRes.bind_bad, List.set_cons_zero, List.set_cons_succ, addD_i, subD_i, ltD_i, leD_i, gtD_i, geD_i, eqD_i, neD_i, lenB_scr, lenB_lst, lenB_tup, truD, tyD, Ty.le, isD, isntD, isNon, killE, List.foldl_cons, List.foldl_nil, List.length_cons, List.length_nil, Nat.reduceAdd, Nat.zero_add, Nat.reduceLeDiff, if_true, if_false, Bool.false_eq_true, Bool.not_true, Bool.not_false]
  exact fin_cl (flD_cl _ _ _)
theorem side_eq {c : Int} {st : Sto} (h0 : 0 ≤ c) : ∃ v : Int, 4 ≤ v ∧ v ≤ 10000 ∧ m_l_side [.int c] st = .ok (.int v) st := by
  have m3 : ∀ st, modD (.int c) (.int 3) st = .ok (.int (c % 3)) st := fun st => modD_i (by omega)
  have d3 : ∀ st, fdivD (.int c) (.int 3) st = .ok (.int (c / 3)) st := fun st => fdivD_i (by omega) (by decide)
  have m9 : ∀ st, modD (.int (c / 3)) (.int 9) st = .ok (.int (c / 3 % 9)) st := fun st => modD_i (by omega)
  have m9000 : ∀ st, modD (.int (c / 3)) (.int 9000) st = .ok (.int (c / 3 % 9000)) st := fun st => modD_i (by omega)
  by_cases h : 0 < c % 3
  · refine ⟨4 + c / 3 % 9, by omega, by omega, ?_⟩
    show fin true st (b_l_side [some (.int c)] st) = _
    unfold b_l_side
    simp only [m3, d3, m9, decide_eq_true h, aCons_o2, aCons_o1, aCons_ap, eTup_o1, eTup_ap, nLst_o1, nLst_ap, eFrz_o1, eFrz_ap, eNew_o1, eNew_ap, eOp_o2, eOp_o1, eOp_ap, tNotM_o1, tNotM_ap, sDrop_o1, sDrop_ap, sRet_o1, sRet_ap, sSet_o1, sSet_ap, sPut_o3, sPut_o2, sPut_o1, sPut_ap, nSl_o3, nSl_o2, nSl_o1, nSl_ap, eSl_o3, eSl_o2, eSl_o1, eSl_ap, nCat_o2, nCat_o1, nCat_ap, nRep_o2, nRep_o1, nRep_ap, sFor_o1, sFor_ap, nComp_o1, nComp_ap, eCall_o1, eCall_ap, rOne_o1, rOne_ap, rTwo_o2, rTwo_o1, rTwo_ap, iRevR_o1, iRevR_ap, nRng_o1, nRng_ap, iSeq_o1, iSeq_ap, iRev_o1, iRev_ap, eIsi_o1, eIsi_ap, eC_ap, aNil_ap, sNext_ap, sSeq_ap, sRetN_ap, tTru_ap, eUn_ap, eB_ap, nB_ap, noTest_ap, eDNew_ap, oNo_ap, gSet_ap, gsNil_ap, gsCons_ap, gsCons_o, gTupM_ap, sAsg_ap, sAsg_o1, sAsg_o2, sWhile_ap, asB_ap, asB_o, tAndM_ap, tAndM_t, tAndM_f, tOrM_ap, tOrM_t, tOrM_f, sIf_ap, sIf_t, sIf_f, eIf_ap, eIf_t, eIf_f, eAnd_ap, eAnd_o, eAnd_t, eAnd_f, eOr_ap, eOr_o, eOr_t, eOr_f, eNot_ap, eNot_o1, eNot_o2, oSome_ap, oSome_o, eChain_ap, eChain_o1, eChain_o2, eChain_t, eChain_f, eChain_o4, eChain3_ap, eChain3_o1, eChain3_o2, eChain3_t, eChain3_f, eChain3_o4, iEnum_ap, iZip_ap, eMt_ap, eMt_o2, isLst_lst, eTupRg_ap, eTupRg_o, ixt0, ixt1, ixt2, ixt3, ixt4, negD_i, slD_lst, eV_0, eV_s, Res.bind_ok, Res.bind_ex, Res.bind_bad, Res.on_ok, Res.on_ex, Res.on_bad, SRes.bind_nx, SRes.bind_rt, SRes.bind_ex, SRes.bind_bad, List.set_cons_zero, List.set_cons_succ, addD_i, subD_i, ltD_i, leD_i, gtD_i, geD_i, eqD_i, neD_i, lenB_scr, lenB_lst, lenB_tup, truD, tyD, Ty.le, isD, isntD, isNon, killE, List.foldl_cons, List.foldl_nil, List.length_cons, List.length_nil, Nat.reduceAdd, Nat.zero_add, Nat.reduceLeDiff, if_true, if_false, Bool.false_eq_true, Bool.not_true, Bool.not_false]
    exact fin_rt rfl
  · refine ⟨200 + c / 3 % 9000, by omega, by omega, ?_⟩
    show fin true st (b_l_side [some (.int c)] st) = _
    unfold b_l_side
    simp only [m3, d3, m9000, decide_eq_false h, aCons_o2, aCons_o1, aCons_ap, eTup_o1, eTup_ap, nLst_o1, nLst_ap, eFrz_o1, eFrz_ap, eNew_o1, eNew_ap, eOp_o2, eOp_o1, eOp_ap, tNotM_o1, tNotM_ap, sDrop_o1, sDrop_ap, sRet_o1, sRet_ap, sSet_o1, sSet_ap, sPut_o3, sPut_o2, sPut_o1, sPut_ap, nSl_o3, nSl_o2, nSl_o1, nSl_ap, eSl_o3, eSl_o2, eSl_o1, eSl_ap, nCat_o2, nCat_o1, nCat_ap, nRep_o2, nRep_o1, nRep_ap, sFor_o1, sFor_ap, nComp_o1, nComp_ap, eCall_o1, eCall_ap, rOne_o1, rOne_ap, rTwo_o2, rTwo_o1, rTwo_ap, iRevR_o1, iRevR_ap, nRng_o1, nRng_ap, iSeq_o1, iSeq_ap, iRev_o1, iRev_ap, eIsi_o1, eIsi_ap, eC_ap, aNil_ap, sNext_ap, sSeq_ap, sRetN_ap, tTru_ap, eUn_ap, eB_ap, nB_ap, noTest_ap, eDNew_ap, oNo_ap, gSet_ap, gsNil_ap, gsCons_ap, gsCons_o, gTupM_ap, sAsg_ap, sAsg_o1, sAsg_o2, sWhile_ap, asB_ap, asB_o, tAndM_ap, tAndM_t, tAndM_f, tOrM_ap, tOrM_t, tOrM_f, sIf_ap, sIf_t, sIf_f, eIf_ap, eIf_t, eIf_f, eAnd_ap, eAnd_o, eAnd_t, eAnd_f, eOr_ap, eOr_o, eOr_t, eOr_f, eNot_ap, eNot_o1, eNot_o2, oSome_ap, oSome_o, eChain_ap, eChain_o1, eChain_o2, eChain_t, eChain_f, eChain_o4, eChain3_ap, eChain3_o1, eChain3_o2, eChain3_t, eChain3_f, eChain3_o4, iEnum_ap, iZip_ap, eMt_ap, eMt_o2, isLst_lst, eTupRg_ap, eTupRg_o, ixt0, ixt1, ixt2, ixt3, ixt4, negD_i, slD_lst, eV_0, eV_s, Res.bind_ok, Res.bind_ex, Res.bind_bad, Res.on_ok, Res.on_ex, Res.on_bad, SRes.bind_nx, SRes.bind_rt, SRes.bind_ex, SRes.bind_bad, List.set_cons_zero, List.set_cons_succ, addD_i, subD_i, ltD_i, leD_i, gtD_i, geD_i, eqD_i, neD_i, lenB_scr, lenB_lst, lenB_tup, truD, tyD, Ty.le, isD, isntD, isNon, killE, List.foldl_cons, List.foldl_nil, List.length_cons, List.length_nil, Nat.reduceAdd, Nat.zero_add, Nat.reduceLeDiff, if_true, if_false, Bool.false_eq_true, Bool.not_true, Bool.not_false]
    exact fin_rt rfl
end K50

namespace K50
open FL PySem
theorem lnumbers_same : m_l_numbers = m_numbers_of := rfl
def nums (w h : Pt) (rs : List (List Pt)) : List Pt := w :: h :: rs.flatten
theorem nums_fin {st : Sto} (l : List Pt) : fin true st (.rt (.loc st.length) (st ++ [.lst (l.map prD)])) = .ok (.lst (l.map prD)) st :=
  fin_list (k := 1) (by simp) (flt_map (fun _ => rfl) l) (by decide)
theorem numbers_eq {w h : Pt} {rs : List (List Pt)} {st : Sto} (hl : rs.flatten.length ≤ 1000) (hl2 : rs.length ≤ 1000) (h4 : ∀ r ∈ rs, r.length ≤ 100) :
    m_numbers_of [flD w h rs] st = .ok (.lst ((nums w h rs).map prD)) st := by
  show fin true st (b_numbers_of [some (flD w h rs), none, none] st) = _
  unfold b_numbers_of
  simp only [ixf0, ixf1, aCons_o2, aCons_o1, aCons_ap, eTup_o1, eTup_ap, nLst_o1, nLst_ap, eFrz_o1, eFrz_ap, eNew_o1, eNew_ap, eOp_o2, eOp_o1, eOp_ap, tNotM_o1, tNotM_ap, sDrop_o1, sDrop_ap, sRet_o1, sRet_ap, sSet_o1, sSet_ap, sPut_o3, sPut_o2, sPut_o1, sPut_ap, nSl_o3, nSl_o2, nSl_o1, nSl_ap, eSl_o3, eSl_o2, eSl_o1, eSl_ap, nCat_o2, nCat_o1, nCat_ap, nRep_o2, nRep_o1, nRep_ap, eCall_o1, eCall_ap, rOne_o1, rOne_ap, rTwo_o2, rTwo_o1, rTwo_ap, iRevR_o1, iRevR_ap, nRng_o1, nRng_ap, eIsi_o1, eIsi_ap, eC_ap, aNil_ap, sNext_ap, sSeq_ap, sRetN_ap, tTru_ap, eUn_ap, eB_ap, nB_ap, noTest_ap, eDNew_ap, oNo_ap, gSet_ap, gsNil_ap, gsCons_ap, gsCons_o, gTupM_ap, sAsg_ap, sAsg_o1, sAsg_o2, asB_ap, asB_o, tAndM_ap, tAndM_t, tAndM_f, tOrM_ap, tOrM_t, tOrM_f, sIf_ap, sIf_t, sIf_f, eIf_ap, eIf_t, eIf_f, eAnd_ap, eAnd_o, eAnd_t, eAnd_f, eOr_ap, eOr_o, eOr_t, eOr_f, eNot_ap, eNot_o1, eNot_o2, oSome_ap, oSome_o, eChain_ap, eChain_o1, eChain_o2, eChain_t, eChain_f, eChain_o4, eChain3_ap, eChain3_o1, eChain3_o2, eChain3_t, eChain3_f, eChain3_o4, eMt_ap, eMt_o2, isLst_lst, eTupRg_ap, eTupRg_o, ixt0, ixt1, ixt2, ixt3, ixt4, negD_i, slD_lst, eV_0, eV_s, Res.bind_ok, Res.bind_ex, Res.bind_bad, Res.on_ok, Res.on_ex, Res.on_bad, SRes.bind_nx, SRes.bind_rt, SRes.bind_ex, SRes.bind_bad, List.set_cons_zero, List.set_cons_succ, addD_i, subD_i, ltD_i, leD_i, gtD_i, geD_i, eqD_i, neD_i, lenB_scr, lenB_lst, lenB_tup, truD, tyD, Ty.le, isD, isntD, isNon, killE, List.foldl_cons, List.foldl_nil, List.length_cons, List.length_nil, Nat.reduceAdd, Nat.zero_add, Nat.reduceLeDiff, if_true, if_false, Bool.false_eq_true, Bool.not_true, Bool.not_false]
  rw [sFor_ap, iSeq_tup (ds := rs.map rcD) (st1 := st ++ [.lst [prD w, prD h]]) (by simp only [ixf2, aCons_o2, aCons_o1, aCons_ap, eTup_o1, eTup_ap, nLst_o1, nLst_ap, eFrz_o1, eFrz_ap, eNew_o1, eNew_ap, eOp_o2, eOp_o1, eOp_ap, tNotM_o1, tNotM_ap, sDrop_o1, sDrop_ap, sRet_o1, sRet_ap, sSet_o1, sSet_ap, sPut_o3, sPut_o2, sPut_o1, sPut_ap, nSl_o3, nSl_o2, nSl_o1, nSl_ap, eSl_o3, eSl_o2, eSl_o1, eSl_ap, nCat_o2, nCat_o1, nCat_ap, nRep_o2, nRep_o1, nRep_ap, sFor_o1, sFor_ap, nComp_o1, nComp_ap, eCall_o1, eCall_ap, rOne_o1, rOne_ap, rTwo_o2, rTwo_o1, rTwo_ap, iRevR_o1, iRevR_ap, nRng_o1, nRng_ap, iSeq_o1, iSeq_ap, iRev_o1, iRev_ap, eIsi_o1, eIsi_ap, eC_ap, aNil_ap, sNext_ap, sSeq_ap, sRetN_ap, tTru_ap, eUn_ap, eB_ap, nB_ap, noTest_ap, eDNew_ap, oNo_ap, gSet_ap, gsNil_ap, gsCons_ap, gsCons_o, gTupM_ap, sAsg_ap, sAsg_o1, sAsg_o2, sWhile_ap, asB_ap, asB_o, tAndM_ap, tAndM_t, tAndM_f, tOrM_ap, tOrM_t, tOrM_f, sIf_ap, sIf_t, sIf_f, eIf_ap, eIf_t, eIf_f, eAnd_ap, eAnd_o, eAnd_t, eAnd_f, eOr_ap, eOr_o, eOr_t, eOr_f, eNot_ap, eNot_o1, eNot_o2, oSome_ap, oSome_o, eChain_ap, eChain_o1, eChain_o2, eChain_t, eChain_f, eChain_o4, eChain3_ap, eChain3_o1, eChain3_o2, eChain3_t, eChain3_f, eChain3_o4, iEnum_ap, iZip_ap, eMt_ap, eMt_o2, isLst_lst, eTupRg_ap, eTupRg_o, ixt0, ixt1, ixt2, ixt3, ixt4, negD_i, slD_lst, eV_0, eV_s, Res.bind_ok, Res.bind_ex, Res.bind_bad, Res.on_ok, Res.on_ex, Res.on_bad, SRes.bind_nx, SRes.bind_rt, SRes.bind_ex, SRes.bind_bad, List.set_cons_zero, List.set_cons_succ, addD_i, subD_i, ltD_i, leD_i, gtD_i, geD_i, eqD_i, neD_i, lenB_scr, lenB_lst, lenB_tup, truD, tyD, Ty.le, isD, isntD, isNon, killE, List.foldl_cons, List.foldl_nil, List.length_cons, List.length_nil, Nat.reduceAdd, Nat.zero_add, Nat.reduceLeDiff, if_true, if_false, Bool.false_eq_true, Bool.not_true, Bool.not_false])]
  simp only [sFor_o1, killE, List.foldl_cons, List.foldl_nil, List.set_cons_zero, List.set_cons_succ]
  refine loop_inv0 (fun i env st' => env = [some (flD w h rs), some (.loc st.length), none] ∧ st' = st ++ [.lst ((w :: h :: (rs.take i).flatten).map prD)])
    (fun r => fin true st (r.bind (sRet (eV 1))) = .ok (.lst ((nums w h rs).map prD)) st)
    (fun _ _ _ _ => rfl) (fun i d env st' hd hP => ?_) (fun env st' hP => ?_) ⟨rfl, rfl⟩
  · obtain ⟨rfl, rfl⟩ := hP
    rw [List.getElem?_map] at hd
    obtain ⟨r, hr, rfl⟩ := Option.map_eq_some_iff.mp hd
    obtain ⟨hr1, hr2⟩ := List.getElem?_eq_some_iff.mp hr
    have hrm : r ∈ rs := List.mem_of_getElem? hr
    have hfl : ((rs.take i).flatten).length ≤ rs.flatten.length := by
      conv => rhs; rw [← List.take_append_drop i rs]
      rw [List.flatten_append, List.length_append]; omega
    refine ⟨_, _, rfl, .inl ⟨?e, ?s, ?h1, ?h2⟩⟩
    case h1 =>
      rw [sDrop_ap, eMt_ap]
      simp only [aCons_o2, aCons_o1, aCons_ap, eTup_o1, eTup_ap, nLst_o1, nLst_ap, eFrz_o1, eFrz_ap, eNew_o1, eNew_ap, eOp_o2, eOp_o1, eOp_ap, tNotM_o1, tNotM_ap, sDrop_o1, sDrop_ap, sRet_o1, sRet_ap, sSet_o1, sSet_ap, sPut_o3, sPut_o2, sPut_o1, sPut_ap, nSl_o3, nSl_o2, nSl_o1, nSl_ap, eSl_o3, eSl_o2, eSl_o1, eSl_ap, nCat_o2, nCat_o1, nCat_ap, nRep_o2, nRep_o1, nRep_ap, eCall_o1, eCall_ap, rOne_o1, rOne_ap, rTwo_o2, rTwo_o1, rTwo_ap, iRevR_o1, iRevR_ap, nRng_o1, nRng_ap, eIsi_o1, eIsi_ap, eC_ap, aNil_ap, sNext_ap, sSeq_ap, sRetN_ap, tTru_ap, eUn_ap, eB_ap, nB_ap, noTest_ap, eDNew_ap, oNo_ap, gSet_ap, gsNil_ap, gsCons_ap, gsCons_o, gTupM_ap, sAsg_ap, sAsg_o1, sAsg_o2, asB_ap, asB_o, tAndM_ap, tAndM_t, tAndM_f, tOrM_ap, tOrM_t, tOrM_f, sIf_ap, sIf_t, sIf_f, eIf_ap, eIf_t, eIf_f, eAnd_ap, eAnd_o, eAnd_t, eAnd_f, eOr_ap, eOr_o, eOr_t, eOr_f, eNot_ap, eNot_o1, eNot_o2, oSome_ap, oSome_o, eChain_ap, eChain_o1, eChain_o2, eChain_t, eChain_f, eChain_o4, eChain3_ap, eChain3_o1, eChain3_o2, eChain3_t, eChain3_f, eChain3_o4, eMt_ap, eMt_o2, isLst_lst, eTupRg_ap, eTupRg_o, ixt0, ixt1, ixt2, ixt3, ixt4, negD_i, slD_lst, eV_0, eV_s, Res.bind_ok, Res.bind_ex, Res.bind_bad, Res.on_ok, Res.on_ex, Res.on_bad, SRes.bind_nx, SRes.bind_rt, SRes.bind_ex, SRes.bind_bad, List.set_cons_zero, List.set_cons_succ, addD_i, subD_i, ltD_i, leD_i, gtD_i, geD_i, eqD_i, neD_i, lenB_scr, lenB_lst, lenB_tup, truD, tyD, Ty.le, isD, isntD, isNon, killE, List.foldl_cons, List.foldl_nil, List.length_cons, List.length_nil, Nat.reduceAdd, Nat.zero_add, Nat.reduceLeDiff, if_true, if_false, Bool.false_eq_true, Bool.not_true, Bool.not_false]
      rw [eMt_o1 _ _ _ _ _ _ (isLst_loc (ds := (w :: h :: (rs.take i).flatten).map prD) (by simp))]
      simp only [rcD, lstB_tup, aCons_o2, aCons_o1, aCons_ap, eTup_o1, eTup_ap, nLst_o1, nLst_ap, eFrz_o1, eFrz_ap, eNew_o1, eNew_ap, eOp_o2, eOp_o1, eOp_ap, tNotM_o1, tNotM_ap, sDrop_o1, sDrop_ap, sRet_o1, sRet_ap, sSet_o1, sSet_ap, sPut_o3, sPut_o2, sPut_o1, sPut_ap, nSl_o3, nSl_o2, nSl_o1, nSl_ap, eSl_o3, eSl_o2, eSl_o1, eSl_ap, nCat_o2, nCat_o1, nCat_ap, nRep_o2, nRep_o1, nRep_ap, eCall_o1, eCall_ap, rOne_o1, rOne_ap, rTwo_o2, rTwo_o1, rTwo_ap, iRevR_o1, iRevR_ap, nRng_o1, nRng_ap, eIsi_o1, eIsi_ap, eC_ap, aNil_ap, sNext_ap, sSeq_ap, sRetN_ap, tTru_ap, eUn_ap, eB_ap, nB_ap, noTest_ap, eDNew_ap, oNo_ap, gSet_ap, gsNil_ap, gsCons_ap, gsCons_o, gTupM_ap, sAsg_ap, sAsg_o1, sAsg_o2, asB_ap, asB_o, tAndM_ap, tAndM_t, tAndM_f, tOrM_ap, tOrM_t, tOrM_f, sIf_ap, sIf_t, sIf_f, eIf_ap, eIf_t, eIf_f, eAnd_ap, eAnd_o, eAnd_t, eAnd_f, eOr_ap, eOr_o, eOr_t, eOr_f, eNot_ap, eNot_o1, eNot_o2, oSome_ap, oSome_o, eChain_ap, eChain_o1, eChain_o2, eChain_t, eChain_f, eChain_o4, eChain3_ap, eChain3_o1, eChain3_o2, eChain3_t, eChain3_f, eChain3_o4, eMt_ap, eMt_o2, isLst_lst, eTupRg_ap, eTupRg_o, ixt0, ixt1, ixt2, ixt3, ixt4, negD_i, slD_lst, eV_0, eV_s, Res.bind_ok, Res.bind_ex, Res.bind_bad, Res.on_ok, Res.on_ex, Res.on_bad, SRes.bind_nx, SRes.bind_rt, SRes.bind_ex, SRes.bind_bad, List.set_cons_zero, List.set_cons_succ, addD_i, subD_i, ltD_i, leD_i, gtD_i, geD_i, eqD_i, neD_i, lenB_scr, lenB_lst, lenB_tup, truD, tyD, Ty.le, isD, isntD, isNon, killE, List.foldl_cons, List.foldl_nil, List.length_cons, List.length_nil, Nat.reduceAdd, Nat.zero_add, Nat.reduceLeDiff, if_true, if_false, Bool.false_eq_true, Bool.not_true, Bool.not_false]
      rw [extD_loc (ds := (w :: h :: (rs.take i).flatten).map prD) (by simp) (by
        have := h4 r hrm
        simp only [List.length_map, List.length_cons]; omega)]
      simp only [aCons_o2, aCons_o1, aCons_ap, eTup_o1, eTup_ap, nLst_o1, nLst_ap, eFrz_o1, eFrz_ap, eNew_o1, eNew_ap, eOp_o2, eOp_o1, eOp_ap, tNotM_o1, tNotM_ap, sDrop_o1, sDrop_ap, sRet_o1, sRet_ap, sSet_o1, sSet_ap, sPut_o3, sPut_o2, sPut_o1, sPut_ap, nSl_o3, nSl_o2, nSl_o1, nSl_ap, eSl_o3, eSl_o2, eSl_o1, eSl_ap, nCat_o2, nCat_o1, nCat_ap, nRep_o2, nRep_o1, nRep_ap, eCall_o1, eCall_ap, rOne_o1, rOne_ap, rTwo_o2, rTwo_o1, rTwo_ap, iRevR_o1, iRevR_ap, nRng_o1, nRng_ap, eIsi_o1, eIsi_ap, eC_ap, aNil_ap, sNext_ap, sSeq_ap, sRetN_ap, tTru_ap, eUn_ap, eB_ap, nB_ap, noTest_ap, eDNew_ap, oNo_ap, gSet_ap, gsNil_ap, gsCons_ap, gsCons_o, gTupM_ap, sAsg_ap, sAsg_o1, sAsg_o2, asB_ap, asB_o, tAndM_ap, tAndM_t, tAndM_f, tOrM_ap, tOrM_t, tOrM_f, sIf_ap, sIf_t, sIf_f, eIf_ap, eIf_t, eIf_f, eAnd_ap, eAnd_o, eAnd_t, eAnd_f, eOr_ap, eOr_o, eOr_t, eOr_f, eNot_ap, eNot_o1, eNot_o2, oSome_ap, oSome_o, eChain_ap, eChain_o1, eChain_o2, eChain_t, eChain_f, eChain_o4, eChain3_ap, eChain3_o1, eChain3_o2, eChain3_t, eChain3_f, eChain3_o4, eMt_ap, eMt_o2, isLst_lst, eTupRg_ap, eTupRg_o, ixt0, ixt1, ixt2, ixt3, ixt4, negD_i, slD_lst, eV_0, eV_s, Res.bind_ok, Res.bind_ex, Res.bind_bad, Res.on_ok, Res.on_ex, Res.on_bad, SRes.bind_nx, SRes.bind_rt, SRes.bind_ex, SRes.bind_bad, List.set_cons_zero, List.set_cons_succ, addD_i, subD_i, ltD_i, leD_i, gtD_i, geD_i, eqD_i, neD_i, lenB_scr, lenB_lst, lenB_tup, truD, tyD, Ty.le, isD, isntD, isNon, killE, List.foldl_cons, List.foldl_nil, List.length_cons, List.length_nil, Nat.reduceAdd, Nat.zero_add, Nat.reduceLeDiff, if_true, if_false, Bool.false_eq_true, Bool.not_true, Bool.not_false]
      rfl
    case h2 =>
      refine ⟨rfl, ?_⟩
      show shrink _ _ _ = _
      rw [shrink_len (by simp)]
      rw [List.set_append_right _ _ (by omega), Nat.sub_self, List.set_cons_zero, ← List.map_append]
      rw [List.take_succ, hr, List.flatten_append]
      simp
  · obtain ⟨rfl, rfl⟩ := hP
    rw [List.length_map, List.take_length]
    simp only [aCons_o2, aCons_o1, aCons_ap, eTup_o1, eTup_ap, nLst_o1, nLst_ap, eFrz_o1, eFrz_ap, eNew_o1, eNew_ap, eOp_o2, eOp_o1, eOp_ap, tNotM_o1, tNotM_ap, sDrop_o1, sDrop_ap, sRet_o1, sRet_ap, sSet_o1, sSet_ap, sPut_o3, sPut_o2, sPut_o1, sPut_ap, nSl_o3, nSl_o2, nSl_o1, nSl_ap, eSl_o3, eSl_o2, eSl_o1, eSl_ap, nCat_o2, nCat_o1, nCat_ap, nRep_o2, nRep_o1, nRep_ap, sFor_o1, sFor_ap, nComp_o1, nComp_ap, eCall_o1, eCall_ap, rOne_o1, rOne_ap, rTwo_o2, rTwo_o1, rTwo_ap, iRevR_o1, iRevR_ap, nRng_o1, nRng_ap, iSeq_o1, iSeq_ap, iRev_o1, iRev_ap, eIsi_o1, eIsi_ap, eC_ap, aNil_ap, sNext_ap, sSeq_ap, sRetN_ap, tTru_ap, eUn_ap, eB_ap, nB_ap, noTest_ap, eDNew_ap, oNo_ap, gSet_ap, gsNil_ap, gsCons_ap, gsCons_o, gTupM_ap, sAsg_ap, sAsg_o1, sAsg_o2, sWhile_ap, asB_ap, asB_o, tAndM_ap, tAndM_t, tAndM_f, tOrM_ap, tOrM_t, tOrM_f, sIf_ap, sIf_t, sIf_f, eIf_ap, eIf_t, eIf_f, eAnd_ap, eAnd_o, eAnd_t, eAnd_f, eOr_ap, eOr_o, eOr_t, eOr_f, eNot_ap, eNot_o1, eNot_o2, oSome_ap, oSome_o, eChain_ap, eChain_o1, eChain_o2, eChain_t, eChain_f, eChain_o4, eChain3_ap, eChain3_o1, eChain3_o2, eChain3_t, eChain3_f, eChain3_o4, iEnum_ap, iZip_ap, eMt_ap, eMt_o2, isLst_lst, eTupRg_ap, eTupRg_o, ixt0, ixt1, ixt2, ixt3, ixt4, negD_i, slD_lst, eV_0, eV_s, Res.bind_ok, Res.bind_ex, Res.bind_bad, Res.on_ok, Res.on_ex, Res.on_bad, SRes.bind_nx, SRes.bind_rt, SRes.bind_ex, SRes.bind_bad, List.set_cons_zero, List.set_cons_succ, addD_i, subD_i, ltD_i, leD_i, gtD_i, geD_i, eqD_i, neD_i, lenB_scr, lenB_lst, lenB_tup, truD, tyD, Ty.le, isD, isntD, isNon, killE, List.foldl_cons, List.foldl_nil, List.length_cons, List.length_nil, Nat.reduceAdd, Nat.zero_add, Nat.reduceLeDiff, if_true, if_false, Bool.false_eq_true, Bool.not_true, Bool.not_false]
    exact nums_fin _
theorem shared_same : m_l_shared = m_shared_by := rfl
theorem shared_eq {a b : Nat} {st : Sto} (hb : b < 2 ^ 2000) : m_shared_by [.int (a : Nat), .int (b : Nat)] st = .ok (.int ((Nat.gcd a b : Nat) : Int)) st := by
  show fin true st (b_shared_by [some (.int (a : Nat)), some (.int (b : Nat)), none] st) = _
  unfold b_shared_by
  simp only [aCons_o2, aCons_o1, aCons_ap, eTup_o1, eTup_ap, nLst_o1, nLst_ap, eFrz_o1, eFrz_ap, eNew_o1, eNew_ap, eOp_o2, eOp_o1, eOp_ap, tNotM_o1, tNotM_ap, sDrop_o1, sDrop_ap, sRet_o1, sRet_ap, sSet_o1, sSet_ap, sPut_o3, sPut_o2, sPut_o1, sPut_ap, nSl_o3, nSl_o2, nSl_o1, nSl_ap, eSl_o3, eSl_o2, eSl_o1, eSl_ap, nCat_o2, nCat_o1, nCat_ap, nRep_o2, nRep_o1, nRep_ap, sFor_o1, sFor_ap, nComp_o1, nComp_ap, eCall_o1, eCall_ap, rOne_o1, rOne_ap, rTwo_o2, rTwo_o1, rTwo_ap, iRevR_o1, iRevR_ap, nRng_o1, nRng_ap, iSeq_o1, iSeq_ap, iRev_o1, iRev_ap, eIsi_o1, eIsi_ap, eC_ap, aNil_ap, sNext_ap, sSeq_ap, sRetN_ap, tTru_ap, eUn_ap, eB_ap, nB_ap, noTest_ap, eDNew_ap, oNo_ap, gSet_ap, gsNil_ap, gsCons_ap, gsCons_o, gTupM_ap, sAsg_ap, sAsg_o1, sAsg_o2, sWhile_ap, asB_ap, asB_o, tAndM_ap, tAndM_t, tAndM_f, tOrM_ap, tOrM_t, tOrM_f, sIf_ap, sIf_t, sIf_f, eIf_ap, eIf_t, eIf_f, eAnd_ap, eAnd_o, eAnd_t, eAnd_f, eOr_ap, eOr_o, eOr_t, eOr_f, eNot_ap, eNot_o1, eNot_o2, oSome_ap, oSome_o, eChain_ap, eChain_o1, eChain_o2, eChain_t, eChain_f, eChain_o4, eChain3_ap, eChain3_o1, eChain3_o2, eChain3_t, eChain3_f, eChain3_o4, iEnum_ap, iZip_ap, eMt_ap, eMt_o2, isLst_lst, eTupRg_ap, eTupRg_o, ixt0, ixt1, ixt2, ixt3, ixt4, negD_i, slD_lst, eV_0, eV_s, Res.bind_ok, Res.bind_ex, Res.bind_bad, Res.on_ok, Res.on_ex, Res.on_bad, SRes.bind_nx, SRes.bind_rt, SRes.bind_ex, SRes.bind_bad, List.set_cons_zero, List.set_cons_succ, addD_i, subD_i, ltD_i, leD_i, gtD_i, geD_i, eqD_i, neD_i, lenB_scr, lenB_lst, lenB_tup, truD, tyD, Ty.le, isD, isntD, isNon, killE, List.foldl_cons, List.foldl_nil, List.length_cons, List.length_nil, Nat.reduceAdd, Nat.zero_add, Nat.reduceLeDiff, if_true, if_false, Bool.false_eq_true, Bool.not_true, Bool.not_false]
  refine while_inv (ks := [2]) (fun m env st' => ∃ x y : Nat, m = y ∧ Nat.gcd x y = Nat.gcd a b ∧ st' = st ∧ env = [some (.int (x : Nat)), some (.int (y : Nat)), none])
    (fun r => fin true st (r.bind (sRet (eV 0))) = .ok (.int ((Nat.gcd a b : Nat) : Int)) st) (fun m env st' hP => ?_) fuelB b _ _ (fuelB_lt hb) ⟨a, b, rfl, rfl, rfl, rfl⟩
  obtain ⟨x, y, rfl, hg, rfl, rfl⟩ := hP
  by_cases hy : 0 < m
  · have e1 : decide ((0 : Int) < (m : Int)) = true := decide_eq_true (by omega)
    refine .inr ⟨by simp only [aCons_o2, aCons_o1, aCons_ap, eTup_o1, eTup_ap, nLst_o1, nLst_ap, eFrz_o1, eFrz_ap, eNew_o1, eNew_ap, eOp_o2, eOp_o1, eOp_ap, tNotM_o1, tNotM_ap, sDrop_o1, sDrop_ap, sRet_o1, sRet_ap, sSet_o1, sSet_ap, sPut_o3, sPut_o2, sPut_o1, sPut_ap, nSl_o3, nSl_o2, nSl_o1, nSl_ap, eSl_o3, eSl_o2, eSl_o1, eSl_ap, nCat_o2, nCat_o1, nCat_ap, nRep_o2, nRep_o1, nRep_ap, sFor_o1, sFor_ap, nComp_o1, nComp_ap, eCall_o1, eCall_ap, rOne_o1, rOne_ap, rTwo_o2, rTwo_o1, rTwo_ap, iRevR_o1, iRevR_ap, nRng_o1, nRng_ap, iSeq_o1, iSeq_ap, iRev_o1, iRev_ap, eIsi_o1, eIsi_ap, eC_ap, aNil_ap, sNext_ap, sSeq_ap, sRetN_ap, tTru_ap, eUn_ap, eB_ap, nB_ap, noTest_ap, eDNew_ap, oNo_ap, gSet_ap, gsNil_ap, gsCons_ap, gsCons_o, gTupM_ap, sAsg_ap, sAsg_o1, sAsg_o2, sWhile_ap, asB_ap, asB_o, tAndM_ap, tAndM_t, tAndM_f, tOrM_ap, tOrM_t, tOrM_f, sIf_ap, sIf_t, sIf_f, eIf_ap, eIf_t, eIf_f, eAnd_ap, eAnd_o, eAnd_t, eAnd_f, eOr_ap, eOr_o, eOr_t, eOr_f, eNot_ap, eNot_o1, eNot_o2, oSome_ap, oSome_o, eChain_ap, eChain_o1, eChain_o2, eChain_t, eChain_f, eChain_o4, eChain3_ap, eChain3_o1, eChain3_o2, eChain3_t, eChain3_f, eChain3_o4, iEnum_ap, iZip_ap, eMt_ap, eMt_o2, isLst_lst, eTupRg_ap, eTupRg_o, ixt0, ixt1, ixt2, ixt3, ixt4, negD_i, slD_lst, eV_0, eV_s, Res.bind_ok, Res.bind_ex, Res.bind_bad, Res.on_ok, Res.on_ex, Res.on_bad, SRes.bind_nx, SRes.bind_rt, SRes.bind_ex, SRes.bind_bad, List.set_cons_zero, List.set_cons_succ, addD_i, subD_i, ltD_i, leD_i, gtD_i, geD_i, eqD_i, neD_i, lenB_scr, lenB_lst, lenB_tup, truD, tyD, Ty.le, isD, isntD, isNon, killE, List.foldl_cons, List.foldl_nil, List.length_cons, List.length_nil, Nat.reduceAdd, Nat.zero_add, Nat.reduceLeDiff, if_true, if_false, Bool.false_eq_true, Bool.not_true, Bool.not_false]; simp only [e1], .inl ⟨?e, ?s, x % m, ?h1, Nat.mod_lt _ hy, ?h2⟩⟩
    case h1 =>
      simp only [aCons_o2, aCons_o1, aCons_ap, eTup_o1, eTup_ap, nLst_o1, nLst_ap, eFrz_o1, eFrz_ap, eNew_o1, eNew_ap, eOp_o2, eOp_o1, eOp_ap, tNotM_o1, tNotM_ap, sDrop_o1, sDrop_ap, sRet_o1, sRet_ap, sSet_o1, sSet_ap, sPut_o3, sPut_o2, sPut_o1, sPut_ap, nSl_o3, nSl_o2, nSl_o1, nSl_ap, eSl_o3, eSl_o2, eSl_o1, eSl_ap, nCat_o2, nCat_o1, nCat_ap, nRep_o2, nRep_o1, nRep_ap, sFor_o1, sFor_ap, nComp_o1, nComp_ap, eCall_o1, eCall_ap, rOne_o1, rOne_ap, rTwo_o2, rTwo_o1, rTwo_ap, iRevR_o1, iRevR_ap, nRng_o1, nRng_ap, iSeq_o1, iSeq_ap, iRev_o1, iRev_ap, eIsi_o1, eIsi_ap, eC_ap, aNil_ap, sNext_ap, sSeq_ap, sRetN_ap, tTru_ap, eUn_ap, eB_ap, nB_ap, noTest_ap, eDNew_ap, oNo_ap, gSet_ap, gsNil_ap, gsCons_ap, gsCons_o, gTupM_ap, sAsg_ap, sAsg_o1, sAsg_o2, sWhile_ap, asB_ap, asB_o, tAndM_ap, tAndM_t, tAndM_f, tOrM_ap, tOrM_t, tOrM_f, sIf_ap, sIf_t, sIf_f, eIf_ap, eIf_t, eIf_f, eAnd_ap, eAnd_o, eAnd_t, eAnd_f, eOr_ap, eOr_o, eOr_t, eOr_f, eNot_ap, eNot_o1, eNot_o2, oSome_ap, oSome_o, eChain_ap, eChain_o1, eChain_o2, eChain_t, eChain_f, eChain_o4, eChain3_ap, eChain3_o1, eChain3_o2, eChain3_t, eChain3_f, eChain3_o4, iEnum_ap, iZip_ap, eMt_ap, eMt_o2, isLst_lst, eTupRg_ap, eTupRg_o, ixt0, ixt1, ixt2, ixt3, ixt4, negD_i, slD_lst, eV_0, eV_s, Res.bind_ok, Res.bind_ex, Res.bind_bad, Res.on_ok, Res.on_ex, Res.on_bad, SRes.bind_nx, SRes.bind_rt, SRes.bind_ex, SRes.bind_bad, List.set_cons_zero, List.set_cons_succ, addD_i, subD_i, ltD_i, leD_i, gtD_i, geD_i, eqD_i, neD_i, lenB_scr, lenB_lst, lenB_tup, truD, tyD, Ty.le, isD, isntD, isNon, killE, List.foldl_cons, List.foldl_nil, List.length_cons, List.length_nil, Nat.reduceAdd, Nat.zero_add, Nat.reduceLeDiff, if_true, if_false, Bool.false_eq_true, Bool.not_true, Bool.not_false]
      rw [modD_i (by omega)]
      simp only [aCons_o2, aCons_o1, aCons_ap, eTup_o1, eTup_ap, nLst_o1, nLst_ap, eFrz_o1, eFrz_ap, eNew_o1, eNew_ap, eOp_o2, eOp_o1, eOp_ap, tNotM_o1, tNotM_ap, sDrop_o1, sDrop_ap, sRet_o1, sRet_ap, sSet_o1, sSet_ap, sPut_o3, sPut_o2, sPut_o1, sPut_ap, nSl_o3, nSl_o2, nSl_o1, nSl_ap, eSl_o3, eSl_o2, eSl_o1, eSl_ap, nCat_o2, nCat_o1, nCat_ap, nRep_o2, nRep_o1, nRep_ap, sFor_o1, sFor_ap, nComp_o1, nComp_ap, eCall_o1, eCall_ap, rOne_o1, rOne_ap, rTwo_o2, rTwo_o1, rTwo_ap, iRevR_o1, iRevR_ap, nRng_o1, nRng_ap, iSeq_o1, iSeq_ap, iRev_o1, iRev_ap, eIsi_o1, eIsi_ap, eC_ap, aNil_ap, sNext_ap, sSeq_ap, sRetN_ap, tTru_ap, eUn_ap, eB_ap, nB_ap, noTest_ap, eDNew_ap, oNo_ap, gSet_ap, gsNil_ap, gsCons_ap, gsCons_o, gTupM_ap, sAsg_ap, sAsg_o1, sAsg_o2, sWhile_ap, asB_ap, asB_o, tAndM_ap, tAndM_t, tAndM_f, tOrM_ap, tOrM_t, tOrM_f, sIf_ap, sIf_t, sIf_f, eIf_ap, eIf_t, eIf_f, eAnd_ap, eAnd_o, eAnd_t, eAnd_f, eOr_ap, eOr_o, eOr_t, eOr_f, eNot_ap, eNot_o1, eNot_o2, oSome_ap, oSome_o, eChain_ap, eChain_o1, eChain_o2, eChain_t, eChain_f, eChain_o4, eChain3_ap, eChain3_o1, eChain3_o2, eChain3_t, eChain3_f, eChain3_o4, iEnum_ap, iZip_ap, eMt_ap, eMt_o2, isLst_lst, eTupRg_ap, eTupRg_o, ixt0, ixt1, ixt2, ixt3, ixt4, negD_i, slD_lst, eV_0, eV_s, Res.bind_ok, Res.bind_ex, Res.bind_bad, Res.on_ok, Res.on_ex, Res.on_bad, SRes.bind_nx, SRes.bind_rt, SRes.bind_ex, SRes.bind_bad, List.set_cons_zero, List.set_cons_succ, addD_i, subD_i, ltD_i, leD_i, gtD_i, geD_i, eqD_i, neD_i, lenB_scr, lenB_lst, lenB_tup, truD, tyD, Ty.le, isD, isntD, isNon, killE, List.foldl_cons, List.foldl_nil, List.length_cons, List.length_nil, Nat.reduceAdd, Nat.zero_add, Nat.reduceLeDiff, if_true, if_false, Bool.false_eq_true, Bool.not_true, Bool.not_false]
      rfl
    case h2 =>
      refine ⟨m, x % m, rfl, by rw [gcd_step hy]; exact hg, after_same, ?_⟩
      simp only [kill, aCons_o2, aCons_o1, aCons_ap, eTup_o1, eTup_ap, nLst_o1, nLst_ap, eFrz_o1, eFrz_ap, eNew_o1, eNew_ap, eOp_o2, eOp_o1, eOp_ap, tNotM_o1, tNotM_ap, sDrop_o1, sDrop_ap, sRet_o1, sRet_ap, sSet_o1, sSet_ap, sPut_o3, sPut_o2, sPut_o1, sPut_ap, nSl_o3, nSl_o2, nSl_o1, nSl_ap, eSl_o3, eSl_o2, eSl_o1, eSl_ap, nCat_o2, nCat_o1, nCat_ap, nRep_o2, nRep_o1, nRep_ap, sFor_o1, sFor_ap, nComp_o1, nComp_ap, eCall_o1, eCall_ap, rOne_o1, rOne_ap, rTwo_o2, rTwo_o1, rTwo_ap, iRevR_o1, iRevR_ap, nRng_o1, nRng_ap, iSeq_o1, iSeq_ap, iRev_o1, iRev_ap, eIsi_o1, eIsi_ap, eC_ap, aNil_ap, sNext_ap, sSeq_ap, sRetN_ap, tTru_ap, eUn_ap, eB_ap, nB_ap, noTest_ap, eDNew_ap, oNo_ap, gSet_ap, gsNil_ap, gsCons_ap, gsCons_o, gTupM_ap, sAsg_ap, sAsg_o1, sAsg_o2, sWhile_ap, asB_ap, asB_o, tAndM_ap, tAndM_t, tAndM_f, tOrM_ap, tOrM_t, tOrM_f, sIf_ap, sIf_t, sIf_f, eIf_ap, eIf_t, eIf_f, eAnd_ap, eAnd_o, eAnd_t, eAnd_f, eOr_ap, eOr_o, eOr_t, eOr_f, eNot_ap, eNot_o1, eNot_o2, oSome_ap, oSome_o, eChain_ap, eChain_o1, eChain_o2, eChain_t, eChain_f, eChain_o4, eChain3_ap, eChain3_o1, eChain3_o2, eChain3_t, eChain3_f, eChain3_o4, iEnum_ap, iZip_ap, eMt_ap, eMt_o2, isLst_lst, eTupRg_ap, eTupRg_o, ixt0, ixt1, ixt2, ixt3, ixt4, negD_i, slD_lst, eV_0, eV_s, Res.bind_ok, Res.bind_ex, Res.bind_bad, Res.on_ok, Res.on_ex, Res.on_bad, SRes.bind_nx, SRes.bind_rt, SRes.bind_ex, SRes.bind_bad, List.set_cons_zero, List.set_cons_succ, addD_i, subD_i, ltD_i, leD_i, gtD_i, geD_i, eqD_i, neD_i, lenB_scr, lenB_lst, lenB_tup, truD, tyD, Ty.le, isD, isntD, isNon, killE, List.foldl_cons, List.foldl_nil, List.length_cons, List.length_nil, Nat.reduceAdd, Nat.zero_add, Nat.reduceLeDiff, if_true, if_false, Bool.false_eq_true, Bool.not_true, Bool.not_false, Int.natCast_emod]
  · have e1 : decide ((0 : Int) < (m : Int)) = false := decide_eq_false (by omega)
    refine .inl ⟨by simp only [aCons_o2, aCons_o1, aCons_ap, eTup_o1, eTup_ap, nLst_o1, nLst_ap, eFrz_o1, eFrz_ap, eNew_o1, eNew_ap, eOp_o2, eOp_o1, eOp_ap, tNotM_o1, tNotM_ap, sDrop_o1, sDrop_ap, sRet_o1, sRet_ap, sSet_o1, sSet_ap, sPut_o3, sPut_o2, sPut_o1, sPut_ap, nSl_o3, nSl_o2, nSl_o1, nSl_ap, eSl_o3, eSl_o2, eSl_o1, eSl_ap, nCat_o2, nCat_o1, nCat_ap, nRep_o2, nRep_o1, nRep_ap, sFor_o1, sFor_ap, nComp_o1, nComp_ap, eCall_o1, eCall_ap, rOne_o1, rOne_ap, rTwo_o2, rTwo_o1, rTwo_ap, iRevR_o1, iRevR_ap, nRng_o1, nRng_ap, iSeq_o1, iSeq_ap, iRev_o1, iRev_ap, eIsi_o1, eIsi_ap, eC_ap, aNil_ap, sNext_ap, sSeq_ap, sRetN_ap, tTru_ap, eUn_ap, eB_ap, nB_ap, noTest_ap, eDNew_ap, oNo_ap, gSet_ap, gsNil_ap, gsCons_ap, gsCons_o, gTupM_ap, sAsg_ap, sAsg_o1, sAsg_o2, sWhile_ap, asB_ap, asB_o, tAndM_ap, tAndM_t, tAndM_f, tOrM_ap, tOrM_t, tOrM_f, sIf_ap, sIf_t, sIf_f, eIf_ap, eIf_t, eIf_f, eAnd_ap, eAnd_o, eAnd_t, eAnd_f, eOr_ap, eOr_o, eOr_t, eOr_f, eNot_ap, eNot_o1, eNot_o2, oSome_ap, oSome_o, eChain_ap, eChain_o1, eChain_o2, eChain_t, eChain_f, eChain_o4, eChain3_ap, eChain3_o1, eChain3_o2, eChain3_t, eChain3_f, eChain3_o4, iEnum_ap, iZip_ap, eMt_ap, eMt_o2, isLst_lst, eTupRg_ap, eTupRg_o, ixt0, ixt1, ixt2, ixt3, ixt4, negD_i, slD_lst, eV_0, eV_s, Res.bind_ok, Res.bind_ex, Res.bind_bad, Res.on_ok, Res.on_ex, Res.on_bad, SRes.bind_nx, SRes.bind_rt, SRes.bind_ex, SRes.bind_bad, List.set_cons_zero, List.set_cons_succ, addD_i, subD_i, ltD_i, leD_i, gtD_i, geD_i, eqD_i, neD_i, lenB_scr, lenB_lst, lenB_tup, truD, tyD, Ty.le, isD, isntD, isNon, killE, List.foldl_cons, List.foldl_nil, List.length_cons, List.length_nil, Nat.reduceAdd, Nat.zero_add, Nat.reduceLeDiff, if_true, if_false, Bool.false_eq_true, Bool.not_true, Bool.not_false]; simp only [e1], ?_⟩
    have e0 : m = 0 := by omega
    subst e0
    rw [Nat.gcd_zero_right] at hg
    subst hg
    simp only [aCons_o2, aCons_o1, aCons_ap, eTup_o1, eTup_ap, nLst_o1, nLst_ap, eFrz_o1, eFrz_ap, eNew_o1, eNew_ap, eOp_o2, eOp_o1, eOp_ap, tNotM_o1, tNotM_ap, sDrop_o1, sDrop_ap, sRet_o1, sRet_ap, sSet_o1, sSet_ap, sPut_o3, sPut_o2, sPut_o1, sPut_ap, nSl_o3, nSl_o2, nSl_o1, nSl_ap, eSl_o3, eSl_o2, eSl_o1, eSl_ap, nCat_o2, nCat_o1, nCat_ap, nRep_o2, nRep_o1, nRep_ap, sFor_o1, sFor_ap, nComp_o1, nComp_ap, eCall_o1, eCall_ap, rOne_o1, rOne_ap, rTwo_o2, rTwo_o1, rTwo_ap, iRevR_o1, iRevR_ap, nRng_o1, nRng_ap, iSeq_o1, iSeq_ap, iRev_o1, iRev_ap, eIsi_o1, eIsi_ap, eC_ap, aNil_ap, sNext_ap, sSeq_ap, sRetN_ap, tTru_ap, eUn_ap, eB_ap, nB_ap, noTest_ap, eDNew_ap, oNo_ap, gSet_ap, gsNil_ap, gsCons_ap, gsCons_o, gTupM_ap, sAsg_ap, sAsg_o1, sAsg_o2, sWhile_ap, asB_ap, asB_o, tAndM_ap, tAndM_t, tAndM_f, tOrM_ap, tOrM_t, tOrM_f, sIf_ap, sIf_t, sIf_f, eIf_ap, eIf_t, eIf_f, eAnd_ap, eAnd_o, eAnd_t, eAnd_f, eOr_ap, eOr_o, eOr_t, eOr_f, eNot_ap, eNot_o1, eNot_o2, oSome_ap, oSome_o, eChain_ap, eChain_o1, eChain_o2, eChain_t, eChain_f, eChain_o4, eChain3_ap, eChain3_o1, eChain3_o2, eChain3_t, eChain3_f, eChain3_o4, iEnum_ap, iZip_ap, eMt_ap, eMt_o2, isLst_lst, eTupRg_ap, eTupRg_o, ixt0, ixt1, ixt2, ixt3, ixt4, negD_i, slD_lst, eV_0, eV_s, Res.bind_ok, Res.bind_ex, Res.bind_bad, Res.on_ok, Res.on_ex, Res.on_bad, SRes.bind_nx, SRes.bind_rt, SRes.bind_ex, SRes.bind_bad, List.set_cons_zero, List.set_cons_succ, addD_i, subD_i, ltD_i, leD_i, gtD_i, geD_i, eqD_i, neD_i, lenB_scr, lenB_lst, lenB_tup, truD, tyD, Ty.le, isD, isntD, isNon, killE, List.foldl_cons, List.foldl_nil, List.length_cons, List.length_nil, Nat.reduceAdd, Nat.zero_add, Nat.reduceLeDiff, if_true, if_false, Bool.false_eq_true, Bool.not_true, Bool.not_false]
    exact fin_rt rfl
/-- what is asked of a number of a floor -/
def Num (p : Pt) : Prop := 1 ≤ p.2 ∧ p.2 < 2 ^ 13 ∧ p.1.natAbs < 2 ^ 60
def belowP (l : List Pt) : Nat := l.foldl (fun a p => Nat.lcm a p.2.natAbs) 1
def aboveP (B : Nat) (l : List Pt) : Nat := l.foldl (fun a p => Nat.gcd a (p.1.natAbs * B / p.2.natAbs)) 0
theorem belowP_snoc (l : List Pt) (p : Pt) : belowP (l ++ [p]) = Nat.lcm (belowP l) p.2.natAbs := by unfold belowP; rw [List.foldl_append]; rfl
theorem aboveP_snoc (B : Nat) (l : List Pt) (p : Pt) : aboveP B (l ++ [p]) = Nat.gcd (aboveP B l) (p.1.natAbs * B / p.2.natAbs) := by unfold aboveP; rw [List.foldl_append]; rfl
theorem below_pos : ∀ {l : List Pt} {a : Nat}, (∀ p ∈ l, Num p) → 0 < a → 0 < l.foldl (fun a p => Nat.lcm a p.2.natAbs) a
  | [], _, _, h => h
  | p :: l, a, h, ha => below_pos (l := l) (fun q hq => h q (List.mem_cons_of_mem _ hq)) (Nat.lcm_pos ha (by have := (h p List.mem_cons_self).1; omega))
theorem below_dvd : ∀ {l : List Pt} {a : Nat}, a ∣ l.foldl (fun a p => Nat.lcm a p.2.natAbs) a ∧ ∀ p ∈ l, p.2.natAbs ∣ l.foldl (fun a p => Nat.lcm a p.2.natAbs) a
  | [], a => ⟨Nat.dvd_refl _, by simp⟩
  | p :: l, a => by
    obtain ⟨h1, h2⟩ := below_dvd (l := l) (a := Nat.lcm a p.2.natAbs)
    refine ⟨Nat.dvd_trans (Nat.dvd_lcm_left ..) h1, fun q hq => ?_⟩
    rcases List.mem_cons.mp hq with rfl | hq
    · exact Nat.dvd_trans (Nat.dvd_lcm_right ..) h1
    · exact h2 q hq
theorem below_le : ∀ {l : List Pt} {a : Nat}, (∀ p ∈ l, Num p) → 0 < a → l.foldl (fun a p => Nat.lcm a p.2.natAbs) a ≤ a * 2 ^ (13 * l.length)
  | [], a, _, _ => by simp
  | p :: l, a, h, ha => by
    have hp := h p List.mem_cons_self
    have h2 := hp.1
    have h3 := hp.2.1
    refine Nat.le_trans (below_le (l := l) (fun q hq => h q (List.mem_cons_of_mem _ hq)) (Nat.lcm_pos ha (by omega))) ?_
    have h1 : Nat.lcm a p.2.natAbs ≤ a * 2 ^ 13 := by
      unfold Nat.lcm
      exact Nat.le_trans (Nat.div_le_self _ _) (Nat.mul_le_mul_left _ (by omega))
    calc Nat.lcm a p.2.natAbs * 2 ^ (13 * l.length) ≤ a * 2 ^ 13 * 2 ^ (13 * l.length) := Nat.mul_le_mul_right _ h1
      _ = a * 2 ^ (13 * (p :: l).length) := by rw [Nat.mul_assoc, ← Nat.pow_add, List.length_cons]; congr 2; omega
theorem gcd_le_max (a v n : Nat) (h1 : a < n) (h2 : v < n) : Nat.gcd a v < n := by
  by_cases h : a = 0
  · subst h; rw [Nat.gcd_zero_left]; exact h2
  · exact Nat.lt_of_le_of_lt (Nat.gcd_le_left _ (by omega)) h1
theorem above_lt {B n : Nat} : ∀ {l : List Pt} {a : Nat}, (∀ p ∈ l, p.1.natAbs * B / p.2.natAbs < n) → a < n → l.foldl (fun a p => Nat.gcd a (p.1.natAbs * B / p.2.natAbs)) a < n
  | [], _, _, h => h
  | p :: l, a, h, ha => above_lt (l := l) (fun q hq => h q (List.mem_cons_of_mem _ hq)) (gcd_le_max _ _ _ ha (h p List.mem_cons_self))
theorem above_dvd {B : Nat} : ∀ {l : List Pt} {a : Nat}, l.foldl (fun a p => Nat.gcd a (p.1.natAbs * B / p.2.natAbs)) a ∣ a ∧ ∀ p ∈ l, l.foldl (fun a p => Nat.gcd a (p.1.natAbs * B / p.2.natAbs)) a ∣ p.1.natAbs * B / p.2.natAbs
  | [], a => ⟨Nat.dvd_refl _, by simp⟩
  | p :: l, a => by
    obtain ⟨h1, h2⟩ := above_dvd (B := B) (l := l) (a := Nat.gcd a (p.1.natAbs * B / p.2.natAbs))
    refine ⟨Nat.dvd_trans h1 (Nat.gcd_dvd_left ..), fun q hq => ?_⟩
    rcases List.mem_cons.mp hq with rfl | hq
    · exact Nat.dvd_trans h1 (Nat.gcd_dvd_right ..)
    · exact h2 q hq
/-- the whole number that comes of one -/
def mv (A B : Nat) (p : Pt) : Int := p.1 * B / (p.2 * A)
theorem mv_spec {A B : Nat} {p : Pt} (hA : 0 < A) (h1 : 1 ≤ p.2) (h2 : p.2.natAbs ∣ B) (h3 : A ∣ p.1.natAbs * B / p.2.natAbs) : p.1 * B = p.2 * A * mv A B p ∧ p.1.natAbs * B / p.2.natAbs = A * (mv A B p).natAbs := by
  obtain ⟨q, rfl⟩ := h2
  have hy : p.2.natAbs > 0 := by omega
  have e1 : p.1.natAbs * (p.2.natAbs * q) / p.2.natAbs = p.1.natAbs * q := by
    rw [Nat.mul_left_comm, Nat.mul_div_cancel_left _ hy]
  rw [e1] at h3 ⊢
  have h4 : (A : Int) ∣ p.1 * q := by
    rw [← Int.natAbs_dvd_natAbs, Int.natAbs_mul]
    simpa using h3
  obtain ⟨m, hm⟩ := h4
  have e2 : p.1 * ((p.2.natAbs * q : Nat) : Int) = p.2 * A * m := by
    rw [Int.natCast_mul, show ((p.2.natAbs : Nat) : Int) = p.2 by omega, Int.mul_left_comm, hm, Int.mul_assoc]
  have hne : p.2 * (A : Int) ≠ 0 := Int.mul_ne_zero (by omega) (by omega)
  have e3 : mv A (p.2.natAbs * q) p = m := by
    unfold mv
    rw [e2, Int.mul_ediv_cancel_left _ hne]
  rw [e3]
  refine ⟨e2, ?_⟩
  have := congrArg Int.natAbs hm
  rwa [Int.natAbs_mul, Int.natAbs_mul, Int.natAbs_natCast, Int.natAbs_natCast] at this
theorem low_whole {a m : Int} (ha : 0 < a) : low (a * m) a = (m, 1) := by
  have e : sh (a * m) a = a := by
    unfold sh
    rw [if_neg (by omega)]
    have : Int.gcd (a * m) a = a.natAbs := by
      show Nat.gcd (a * m).natAbs a.natAbs = _
      rw [Int.natAbs_mul, Nat.gcd_comm]
      exact Nat.gcd_mul_right_right ..
    rw [this]; omega
  unfold low
  rw [e, Int.mul_fdiv_cancel_left _ (by omega), Int.fdiv_self (by omega)]
end K50

namespace K50
open FL PySem
structure Fl (w h : Pt) (rs : List (List Pt)) : Prop where
  num : ∀ p ∈ nums w h rs, Num p
  four : ∀ r ∈ rs, r.length = 4
  len : rs.length ≤ 12
  wide : 0 < w.1
  high : 0 < h.1
theorem flat4 : ∀ {rs : List (List Pt)}, (∀ r ∈ rs, r.length = 4) → rs.flatten.length = 4 * rs.length
  | [], _ => rfl
  | r :: rs, h => by
    rw [List.flatten_cons, List.length_append, h r List.mem_cons_self, flat4 (fun q hq => h q (List.mem_cons_of_mem _ hq)), List.length_cons]
    omega
theorem Fl.nlen {w h : Pt} {rs : List (List Pt)} (F : Fl w h rs) : (nums w h rs).length ≤ 50 := by
  unfold nums
  have := flat4 F.four
  have := F.len
  simp only [List.length_cons]; omega
theorem Fl.numbers {w h : Pt} {rs : List (List Pt)} (F : Fl w h rs) {st : Sto} : m_numbers_of [flD w h rs] st = .ok (.lst ((nums w h rs).map prD)) st :=
  numbers_eq (by have := flat4 F.four; have := F.len; omega) (by have := F.len; omega) (fun r hr => by rw [F.four r hr]; decide)
def mkP (A B : Nat) (p : Pt) : Pt := (mv A B p, 1)
/-- the loop for the bottoms -/
theorem loop1 {w h : Pt} {rs : List (List Pt)} (F : Fl w h rs) {st : Sto} :
    sFor (some [2]) (iSeq (eCall 1 m_numbers_of (aCons (eV 0) (aNil)))) (gSet 2) (sSet 1 (eOp fdivD (eOp mulD (eV 1) (eOp ixD (eV 2) (eC (.int 1)))) (eCall 2 m_shared_by (aCons (eV 1) (aCons (eOp ixD (eV 2) (eC (.int 1))) (aNil))))))
      [some (flD w h rs), some (.int 1), none, none, none, none, none, none] st =
    .nx [some (flD w h rs), some (.int (belowP (nums w h rs) : Nat)), none, none, none, none, none, none] st := by
  rw [sFor_ap, iSeq_lst (ds := (nums w h rs).map prD) (st1 := st) (by simp only [F.numbers, aCons_o2, aCons_o1, aCons_ap, eTup_o1, eTup_ap, nLst_o1, nLst_ap, eFrz_o1, eFrz_ap, eNew_o1, eNew_ap, eOp_o2, eOp_o1, eOp_ap, tNotM_o1, tNotM_ap, sDrop_o1, sDrop_ap, sRet_o1, sRet_ap, sSet_o1, sSet_ap, sPut_o3, sPut_o2, sPut_o1, sPut_ap, nSl_o3, nSl_o2, nSl_o1, nSl_ap, eSl_o3, eSl_o2, eSl_o1, eSl_ap, nCat_o2, nCat_o1, nCat_ap, nRep_o2, nRep_o1, nRep_ap, sFor_o1, sFor_ap, nComp_o1, nComp_ap, eCall_o1, eCall_ap, rOne_o1, rOne_ap, rTwo_o2, rTwo_o1, rTwo_ap, iRevR_o1, iRevR_ap, nRng_o1, nRng_ap, iSeq_o1, iSeq_ap, iRev_o1, iRev_ap, eIsi_o1, eIsi_ap, eC_ap, aNil_ap, sNext_ap, sSeq_ap, sRetN_ap, tTru_ap, eUn_ap, eB_ap, nB_ap, noTest_ap, eDNew_ap, oNo_ap, gSet_ap, gsNil_ap, gsCons_ap, gsCons_o, gTupM_ap, sAsg_ap, sAsg_o1, sAsg_o2, sWhile_ap, asB_ap, asB_o, tAndM_ap, tAndM_t, tAndM_f, tOrM_ap, tOrM_t, tOrM_f, sIf_ap, sIf_t, sIf_f, eIf_ap, eIf_t, eIf_f, eAnd_ap, eAnd_o, eAnd_t, eAnd_f, eOr_ap, eOr_o, eOr_t, eOr_f, eNot_ap, eNot_o1, eNot_o2, oSome_ap, oSome_o, eChain_ap, eChain_o1, eChain_o2, eChain_t, eChain_f, eChain_o4, eChain3_ap, eChain3_o1, eChain3_o2, eChain3_t, eChain3_f, eChain3_o4, iEnum_ap, iZip_ap, eMt_ap, eMt_o2, isLst_lst, eTupRg_ap, eTupRg_o, ixt0, ixt1, ixt2, ixt3, ixt4, negD_i, slD_lst, eV_0, eV_s, Res.bind_ok, Res.bind_ex, Res.bind_bad, Res.on_ok, Res.on_ex, Res.on_bad, SRes.bind_nx, SRes.bind_rt, SRes.bind_ex, SRes.bind_bad, List.set_cons_zero, List.set_cons_succ, addD_i, subD_i, ltD_i, leD_i, gtD_i, geD_i, eqD_i, neD_i, lenB_scr, lenB_lst, lenB_tup, truD, tyD, Ty.le, isD, isntD, isNon, killE, List.foldl_cons, List.foldl_nil, List.length_cons, List.length_nil, Nat.reduceAdd, Nat.zero_add, Nat.reduceLeDiff, if_true, if_false, Bool.false_eq_true, Bool.not_true, Bool.not_false])]
  simp only [sFor_o1, killE, List.foldl_cons, List.foldl_nil, List.set_cons_zero, List.set_cons_succ]
  refine loop_inv0 (fun i env st' => env = [some (flD w h rs), some (.int (belowP ((nums w h rs).take i) : Nat)), none, none, none, none, none, none] ∧ st' = st)
    (fun r => r = .nx [some (flD w h rs), some (.int (belowP (nums w h rs) : Nat)), none, none, none, none, none, none] st)
    (fun _ _ _ _ => rfl) (fun i d env st' hd hP => ?_) (fun env st' hP => ?_) ⟨rfl, rfl⟩
  · obtain ⟨rfl, rfl⟩ := hP
    rw [List.getElem?_map] at hd
    obtain ⟨p, hp, rfl⟩ := Option.map_eq_some_iff.mp hd
    have hpm := F.num p (List.mem_of_getElem? hp)
    have hlen := F.nlen
    have hi := (List.getElem?_eq_some_iff.mp hp).1
    have hb0 : 0 < belowP ((nums w h rs).take i) := below_pos (fun q hq => F.num q (List.mem_of_mem_take hq)) (by decide)
    have hb1 : belowP ((nums w h rs).take i) ≤ 1 * 2 ^ (13 * ((nums w h rs).take i).length) := below_le (fun q hq => F.num q (List.mem_of_mem_take hq)) (by decide)
    have hb2 : belowP ((nums w h rs).take i) < 2 ^ 700 := by
      refine Nat.lt_of_le_of_lt hb1 ?_
      rw [Nat.one_mul]
      exact Nat.pow_lt_pow_right (by decide) (by rw [List.length_take]; omega)
    obtain ⟨h1, h2, h3⟩ := hpm
    have hy : p.2 = ((p.2.natAbs : Nat) : Int) := by omega
    have hy2 : p.2.natAbs < 2 ^ 13 := by omega
    have hg : 0 < Nat.gcd (belowP ((nums w h rs).take i)) p.2.natAbs := Nat.gcd_pos_of_pos_left _ hb0
    have hg2 : Nat.gcd (belowP ((nums w h rs).take i)) p.2.natAbs ≤ p.2.natAbs := Nat.gcd_le_right _ (by omega)
    refine ⟨_, _, rfl, .inl ⟨?e, ?s, ?h1, ?h2⟩⟩
    case h1 =>
      simp only [ixp1, aCons_o2, aCons_o1, aCons_ap, eTup_o1, eTup_ap, nLst_o1, nLst_ap, eFrz_o1, eFrz_ap, eNew_o1, eNew_ap, eOp_o2, eOp_o1, eOp_ap, tNotM_o1, tNotM_ap, sDrop_o1, sDrop_ap, sRet_o1, sRet_ap, sSet_o1, sSet_ap, sPut_o3, sPut_o2, sPut_o1, sPut_ap, nSl_o3, nSl_o2, nSl_o1, nSl_ap, eSl_o3, eSl_o2, eSl_o1, eSl_ap, nCat_o2, nCat_o1, nCat_ap, nRep_o2, nRep_o1, nRep_ap, sFor_o1, sFor_ap, nComp_o1, nComp_ap, eCall_o1, eCall_ap, rOne_o1, rOne_ap, rTwo_o2, rTwo_o1, rTwo_ap, iRevR_o1, iRevR_ap, nRng_o1, nRng_ap, iSeq_o1, iSeq_ap, iRev_o1, iRev_ap, eIsi_o1, eIsi_ap, eC_ap, aNil_ap, sNext_ap, sSeq_ap, sRetN_ap, tTru_ap, eUn_ap, eB_ap, nB_ap, noTest_ap, eDNew_ap, oNo_ap, gSet_ap, gsNil_ap, gsCons_ap, gsCons_o, gTupM_ap, sAsg_ap, sAsg_o1, sAsg_o2, sWhile_ap, asB_ap, asB_o, tAndM_ap, tAndM_t, tAndM_f, tOrM_ap, tOrM_t, tOrM_f, sIf_ap, sIf_t, sIf_f, eIf_ap, eIf_t, eIf_f, eAnd_ap, eAnd_o, eAnd_t, eAnd_f, eOr_ap, eOr_o, eOr_t, eOr_f, eNot_ap, eNot_o1, eNot_o2, oSome_ap, oSome_o, eChain_ap, eChain_o1, eChain_o2, eChain_t, eChain_f, eChain_o4, eChain3_ap, eChain3_o1, eChain3_o2, eChain3_t, eChain3_f, eChain3_o4, iEnum_ap, iZip_ap, eMt_ap, eMt_o2, isLst_lst, eTupRg_ap, eTupRg_o, ixt0, ixt1, ixt2, ixt3, ixt4, negD_i, slD_lst, eV_0, eV_s, Res.bind_ok, Res.bind_ex, Res.bind_bad, Res.on_ok, Res.on_ex, Res.on_bad, SRes.bind_nx, SRes.bind_rt, SRes.bind_ex, SRes.bind_bad, List.set_cons_zero, List.set_cons_succ, addD_i, subD_i, ltD_i, leD_i, gtD_i, geD_i, eqD_i, neD_i, lenB_scr, lenB_lst, lenB_tup, truD, tyD, Ty.le, isD, isntD, isNon, killE, List.foldl_cons, List.foldl_nil, List.length_cons, List.length_nil, Nat.reduceAdd, Nat.zero_add, Nat.reduceLeDiff, if_true, if_false, Bool.false_eq_true, Bool.not_true, Bool.not_false]
      rw [mulD_b (lt_mono (a := 700) (by omega) (by decide)) (lt_mono (a := 13) (by omega) (by decide))]
      simp only [ixp1, aCons_o2, aCons_o1, aCons_ap, eTup_o1, eTup_ap, nLst_o1, nLst_ap, eFrz_o1, eFrz_ap, eNew_o1, eNew_ap, eOp_o2, eOp_o1, eOp_ap, tNotM_o1, tNotM_ap, sDrop_o1, sDrop_ap, sRet_o1, sRet_ap, sSet_o1, sSet_ap, sPut_o3, sPut_o2, sPut_o1, sPut_ap, nSl_o3, nSl_o2, nSl_o1, nSl_ap, eSl_o3, eSl_o2, eSl_o1, eSl_ap, nCat_o2, nCat_o1, nCat_ap, nRep_o2, nRep_o1, nRep_ap, sFor_o1, sFor_ap, nComp_o1, nComp_ap, eCall_o1, eCall_ap, rOne_o1, rOne_ap, rTwo_o2, rTwo_o1, rTwo_ap, iRevR_o1, iRevR_ap, nRng_o1, nRng_ap, iSeq_o1, iSeq_ap, iRev_o1, iRev_ap, eIsi_o1, eIsi_ap, eC_ap, aNil_ap, sNext_ap, sSeq_ap, sRetN_ap, tTru_ap, eUn_ap, eB_ap, nB_ap, noTest_ap, eDNew_ap, oNo_ap, gSet_ap, gsNil_ap, gsCons_ap, gsCons_o, gTupM_ap, sAsg_ap, sAsg_o1, sAsg_o2, sWhile_ap, asB_ap, asB_o, tAndM_ap, tAndM_t, tAndM_f, tOrM_ap, tOrM_t, tOrM_f, sIf_ap, sIf_t, sIf_f, eIf_ap, eIf_t, eIf_f, eAnd_ap, eAnd_o, eAnd_t, eAnd_f, eOr_ap, eOr_o, eOr_t, eOr_f, eNot_ap, eNot_o1, eNot_o2, oSome_ap, oSome_o, eChain_ap, eChain_o1, eChain_o2, eChain_t, eChain_f, eChain_o4, eChain3_ap, eChain3_o1, eChain3_o2, eChain3_t, eChain3_f, eChain3_o4, iEnum_ap, iZip_ap, eMt_ap, eMt_o2, isLst_lst, eTupRg_ap, eTupRg_o, ixt0, ixt1, ixt2, ixt3, ixt4, negD_i, slD_lst, eV_0, eV_s, Res.bind_ok, Res.bind_ex, Res.bind_bad, Res.on_ok, Res.on_ex, Res.on_bad, SRes.bind_nx, SRes.bind_rt, SRes.bind_ex, SRes.bind_bad, List.set_cons_zero, List.set_cons_succ, addD_i, subD_i, ltD_i, leD_i, gtD_i, geD_i, eqD_i, neD_i, lenB_scr, lenB_lst, lenB_tup, truD, tyD, Ty.le, isD, isntD, isNon, killE, List.foldl_cons, List.foldl_nil, List.length_cons, List.length_nil, Nat.reduceAdd, Nat.zero_add, Nat.reduceLeDiff, if_true, if_false, Bool.false_eq_true, Bool.not_true, Bool.not_false]
      rw [hy, shared_eq (Nat.lt_of_lt_of_le hy2 (Nat.pow_le_pow_right (by decide) (by decide)))]
      simp only [aCons_o2, aCons_o1, aCons_ap, eTup_o1, eTup_ap, nLst_o1, nLst_ap, eFrz_o1, eFrz_ap, eNew_o1, eNew_ap, eOp_o2, eOp_o1, eOp_ap, tNotM_o1, tNotM_ap, sDrop_o1, sDrop_ap, sRet_o1, sRet_ap, sSet_o1, sSet_ap, sPut_o3, sPut_o2, sPut_o1, sPut_ap, nSl_o3, nSl_o2, nSl_o1, nSl_ap, eSl_o3, eSl_o2, eSl_o1, eSl_ap, nCat_o2, nCat_o1, nCat_ap, nRep_o2, nRep_o1, nRep_ap, sFor_o1, sFor_ap, nComp_o1, nComp_ap, eCall_o1, eCall_ap, rOne_o1, rOne_ap, rTwo_o2, rTwo_o1, rTwo_ap, iRevR_o1, iRevR_ap, nRng_o1, nRng_ap, iSeq_o1, iSeq_ap, iRev_o1, iRev_ap, eIsi_o1, eIsi_ap, eC_ap, aNil_ap, sNext_ap, sSeq_ap, sRetN_ap, tTru_ap, eUn_ap, eB_ap, nB_ap, noTest_ap, eDNew_ap, oNo_ap, gSet_ap, gsNil_ap, gsCons_ap, gsCons_o, gTupM_ap, sAsg_ap, sAsg_o1, sAsg_o2, sWhile_ap, asB_ap, asB_o, tAndM_ap, tAndM_t, tAndM_f, tOrM_ap, tOrM_t, tOrM_f, sIf_ap, sIf_t, sIf_f, eIf_ap, eIf_t, eIf_f, eAnd_ap, eAnd_o, eAnd_t, eAnd_f, eOr_ap, eOr_o, eOr_t, eOr_f, eNot_ap, eNot_o1, eNot_o2, oSome_ap, oSome_o, eChain_ap, eChain_o1, eChain_o2, eChain_t, eChain_f, eChain_o4, eChain3_ap, eChain3_o1, eChain3_o2, eChain3_t, eChain3_f, eChain3_o4, iEnum_ap, iZip_ap, eMt_ap, eMt_o2, isLst_lst, eTupRg_ap, eTupRg_o, ixt0, ixt1, ixt2, ixt3, ixt4, negD_i, slD_lst, eV_0, eV_s, Res.bind_ok, Res.bind_ex, Res.bind_bad, Res.on_ok, Res.on_ex, Res.on_bad, SRes.bind_nx, SRes.bind_rt, SRes.bind_ex, SRes.bind_bad, List.set_cons_zero, List.set_cons_succ, addD_i, subD_i, ltD_i, leD_i, gtD_i, geD_i, eqD_i, neD_i, lenB_scr, lenB_lst, lenB_tup, truD, tyD, Ty.le, isD, isntD, isNon, killE, List.foldl_cons, List.foldl_nil, List.length_cons, List.length_nil, Nat.reduceAdd, Nat.zero_add, Nat.reduceLeDiff, if_true, if_false, Bool.false_eq_true, Bool.not_true, Bool.not_false]
      rw [fdivD_z (by omega) (lt_mono (a := 13) (by omega) (by decide))]
      simp only [aCons_o2, aCons_o1, aCons_ap, eTup_o1, eTup_ap, nLst_o1, nLst_ap, eFrz_o1, eFrz_ap, eNew_o1, eNew_ap, eOp_o2, eOp_o1, eOp_ap, tNotM_o1, tNotM_ap, sDrop_o1, sDrop_ap, sRet_o1, sRet_ap, sSet_o1, sSet_ap, sPut_o3, sPut_o2, sPut_o1, sPut_ap, nSl_o3, nSl_o2, nSl_o1, nSl_ap, eSl_o3, eSl_o2, eSl_o1, eSl_ap, nCat_o2, nCat_o1, nCat_ap, nRep_o2, nRep_o1, nRep_ap, sFor_o1, sFor_ap, nComp_o1, nComp_ap, eCall_o1, eCall_ap, rOne_o1, rOne_ap, rTwo_o2, rTwo_o1, rTwo_ap, iRevR_o1, iRevR_ap, nRng_o1, nRng_ap, iSeq_o1, iSeq_ap, iRev_o1, iRev_ap, eIsi_o1, eIsi_ap, eC_ap, aNil_ap, sNext_ap, sSeq_ap, sRetN_ap, tTru_ap, eUn_ap, eB_ap, nB_ap, noTest_ap, eDNew_ap, oNo_ap, gSet_ap, gsNil_ap, gsCons_ap, gsCons_o, gTupM_ap, sAsg_ap, sAsg_o1, sAsg_o2, sWhile_ap, asB_ap, asB_o, tAndM_ap, tAndM_t, tAndM_f, tOrM_ap, tOrM_t, tOrM_f, sIf_ap, sIf_t, sIf_f, eIf_ap, eIf_t, eIf_f, eAnd_ap, eAnd_o, eAnd_t, eAnd_f, eOr_ap, eOr_o, eOr_t, eOr_f, eNot_ap, eNot_o1, eNot_o2, oSome_ap, oSome_o, eChain_ap, eChain_o1, eChain_o2, eChain_t, eChain_f, eChain_o4, eChain3_ap, eChain3_o1, eChain3_o2, eChain3_t, eChain3_f, eChain3_o4, iEnum_ap, iZip_ap, eMt_ap, eMt_o2, isLst_lst, eTupRg_ap, eTupRg_o, ixt0, ixt1, ixt2, ixt3, ixt4, negD_i, slD_lst, eV_0, eV_s, Res.bind_ok, Res.bind_ex, Res.bind_bad, Res.on_ok, Res.on_ex, Res.on_bad, SRes.bind_nx, SRes.bind_rt, SRes.bind_ex, SRes.bind_bad, List.set_cons_zero, List.set_cons_succ, addD_i, subD_i, ltD_i, leD_i, gtD_i, geD_i, eqD_i, neD_i, lenB_scr, lenB_lst, lenB_tup, truD, tyD, Ty.le, isD, isntD, isNon, killE, List.foldl_cons, List.foldl_nil, List.length_cons, List.length_nil, Nat.reduceAdd, Nat.zero_add, Nat.reduceLeDiff, if_true, if_false, Bool.false_eq_true, Bool.not_true, Bool.not_false]
      rfl
    case h2 =>
      refine ⟨?_, after_same⟩
      simp only [kill, List.foldl_cons, List.foldl_nil, List.set_cons_zero, List.set_cons_succ]
      rw [List.take_succ, hp]
      rw [show (some p).toList = [p] from rfl, belowP_snoc]
      unfold Nat.lcm
      rw [Int.natCast_ediv, Int.natCast_mul]
  · obtain ⟨rfl, rfl⟩ := hP
    rw [List.length_map, List.take_length]
theorem Fl.bl {w h : Pt} {rs : List (List Pt)} (F : Fl w h rs) : 0 < belowP (nums w h rs) ∧ belowP (nums w h rs) < 2 ^ 700 := by
  refine ⟨below_pos F.num (by decide), ?_⟩
  have hb1 : belowP (nums w h rs) ≤ 1 * 2 ^ (13 * (nums w h rs).length) := below_le F.num (by decide)
  refine Nat.lt_of_le_of_lt hb1 ?_
  rw [Nat.one_mul]
  exact Nat.pow_lt_pow_right (by decide) (by have := F.nlen; omega)
theorem tops {w h : Pt} {rs : List (List Pt)} (F : Fl w h rs) {p : Pt} (hp : p ∈ nums w h rs) : p.1.natAbs * belowP (nums w h rs) < 2 ^ 760 := by
  have h1 := (F.num p hp).2.2
  have h2 := F.bl.2
  calc p.1.natAbs * belowP (nums w h rs) < 2 ^ 60 * 2 ^ 700 := Nat.mul_lt_mul'' h1 h2
    _ = 2 ^ 760 := by rw [← Nat.pow_add]
theorem Fl.ab {w h : Pt} {rs : List (List Pt)} (F : Fl w h rs) {l : List Pt} (hl : ∀ p ∈ l, p ∈ nums w h rs) : aboveP (belowP (nums w h rs)) l < 2 ^ 760 :=
  above_lt (fun p hp => Nat.lt_of_le_of_lt (Nat.div_le_self _ _) (tops F (hl p hp))) (Nat.two_pow_pos _)
/-- the loop for the tops -/
theorem loop2 {w h : Pt} {rs : List (List Pt)} (F : Fl w h rs) {st : Sto} :
    sFor (some [2]) (iSeq (eCall 1 m_numbers_of (aCons (eV 0) (aNil)))) (gSet 2) (sSet 3 (eCall 2 m_shared_by (aCons (eV 3) (aCons (eOp fdivD (eOp mulD (eB absB (aCons (eOp ixD (eV 2) (eC (.int 0))) (aNil))) (eV 1)) (eOp ixD (eV 2) (eC (.int 1)))) (aNil)))))
      [some (flD w h rs), some (.int (belowP (nums w h rs) : Nat)), none, some (.int 0), none, none, none, none] st =
    .nx [some (flD w h rs), some (.int (belowP (nums w h rs) : Nat)), none, some (.int (aboveP (belowP (nums w h rs)) (nums w h rs) : Nat)), none, none, none, none] st := by
  rw [sFor_ap, iSeq_lst (ds := (nums w h rs).map prD) (st1 := st) (by simp only [F.numbers, aCons_o2, aCons_o1, aCons_ap, eTup_o1, eTup_ap, nLst_o1, nLst_ap, eFrz_o1, eFrz_ap, eNew_o1, eNew_ap, eOp_o2, eOp_o1, eOp_ap, tNotM_o1, tNotM_ap, sDrop_o1, sDrop_ap, sRet_o1, sRet_ap, sSet_o1, sSet_ap, sPut_o3, sPut_o2, sPut_o1, sPut_ap, nSl_o3, nSl_o2, nSl_o1, nSl_ap, eSl_o3, eSl_o2, eSl_o1, eSl_ap, nCat_o2, nCat_o1, nCat_ap, nRep_o2, nRep_o1, nRep_ap, sFor_o1, sFor_ap, nComp_o1, nComp_ap, eCall_o1, eCall_ap, rOne_o1, rOne_ap, rTwo_o2, rTwo_o1, rTwo_ap, iRevR_o1, iRevR_ap, nRng_o1, nRng_ap, iSeq_o1, iSeq_ap, iRev_o1, iRev_ap, eIsi_o1, eIsi_ap, eC_ap, aNil_ap, sNext_ap, sSeq_ap, sRetN_ap, tTru_ap, eUn_ap, eB_ap, nB_ap, noTest_ap, eDNew_ap, oNo_ap, gSet_ap, gsNil_ap, gsCons_ap, gsCons_o, gTupM_ap, sAsg_ap, sAsg_o1, sAsg_o2, sWhile_ap, asB_ap, asB_o, tAndM_ap, tAndM_t, tAndM_f, tOrM_ap, tOrM_t, tOrM_f, sIf_ap, sIf_t, sIf_f, eIf_ap, eIf_t, eIf_f, eAnd_ap, eAnd_o, eAnd_t, eAnd_f, eOr_ap, eOr_o, eOr_t, eOr_f, eNot_ap, eNot_o1, eNot_o2, oSome_ap, oSome_o, eChain_ap, eChain_o1, eChain_o2, eChain_t, eChain_f, eChain_o4, eChain3_ap, eChain3_o1, eChain3_o2, eChain3_t, eChain3_f, eChain3_o4, iEnum_ap, iZip_ap, eMt_ap, eMt_o2, isLst_lst, eTupRg_ap, eTupRg_o, ixt0, ixt1, ixt2, ixt3, ixt4, negD_i, slD_lst, eV_0, eV_s, Res.bind_ok, Res.bind_ex, Res.bind_bad, Res.on_ok, Res.on_ex, Res.on_bad, SRes.bind_nx, SRes.bind_rt, SRes.bind_ex, SRes.bind_bad, List.set_cons_zero, List.set_cons_succ, addD_i, subD_i, ltD_i, leD_i, gtD_i, geD_i, eqD_i, neD_i, lenB_scr, lenB_lst, lenB_tup, truD, tyD, Ty.le, isD, isntD, isNon, killE, List.foldl_cons, List.foldl_nil, List.length_cons, List.length_nil, Nat.reduceAdd, Nat.zero_add, Nat.reduceLeDiff, if_true, if_false, Bool.false_eq_true, Bool.not_true, Bool.not_false])]
  simp only [sFor_o1, killE, List.foldl_cons, List.foldl_nil, List.set_cons_zero, List.set_cons_succ]
  refine loop_inv0 (fun i env st' => env = [some (flD w h rs), some (.int (belowP (nums w h rs) : Nat)), none, some (.int (aboveP (belowP (nums w h rs)) ((nums w h rs).take i) : Nat)), none, none, none, none] ∧ st' = st)
    (fun r => r = .nx [some (flD w h rs), some (.int (belowP (nums w h rs) : Nat)), none, some (.int (aboveP (belowP (nums w h rs)) (nums w h rs) : Nat)), none, none, none, none] st)
    (fun _ _ _ _ => rfl) (fun i d env st' hd hP => ?_) (fun env st' hP => ?_) ⟨rfl, rfl⟩
  · obtain ⟨rfl, rfl⟩ := hP
    rw [List.getElem?_map] at hd
    obtain ⟨p, hp, rfl⟩ := Option.map_eq_some_iff.mp hd
    have hm := List.mem_of_getElem? hp
    have ht := tops F hm
    obtain ⟨h1, h2, h3⟩ := F.num p hm
    have hB := F.bl
    generalize hBe : belowP (nums w h rs) = B at *
    have hy : p.2 = ((p.2.natAbs : Nat) : Int) := by omega
    refine ⟨_, _, rfl, .inl ⟨?e, ?s, ?h1, ?h2⟩⟩
    case h1 =>
      simp only [ixp0, ixp1, absB_i, aCons_o2, aCons_o1, aCons_ap, eTup_o1, eTup_ap, nLst_o1, nLst_ap, eFrz_o1, eFrz_ap, eNew_o1, eNew_ap, eOp_o2, eOp_o1, eOp_ap, tNotM_o1, tNotM_ap, sDrop_o1, sDrop_ap, sRet_o1, sRet_ap, sSet_o1, sSet_ap, sPut_o3, sPut_o2, sPut_o1, sPut_ap, nSl_o3, nSl_o2, nSl_o1, nSl_ap, eSl_o3, eSl_o2, eSl_o1, eSl_ap, nCat_o2, nCat_o1, nCat_ap, nRep_o2, nRep_o1, nRep_ap, sFor_o1, sFor_ap, nComp_o1, nComp_ap, eCall_o1, eCall_ap, rOne_o1, rOne_ap, rTwo_o2, rTwo_o1, rTwo_ap, iRevR_o1, iRevR_ap, nRng_o1, nRng_ap, iSeq_o1, iSeq_ap, iRev_o1, iRev_ap, eIsi_o1, eIsi_ap, eC_ap, aNil_ap, sNext_ap, sSeq_ap, sRetN_ap, tTru_ap, eUn_ap, eB_ap, nB_ap, noTest_ap, eDNew_ap, oNo_ap, gSet_ap, gsNil_ap, gsCons_ap, gsCons_o, gTupM_ap, sAsg_ap, sAsg_o1, sAsg_o2, sWhile_ap, asB_ap, asB_o, tAndM_ap, tAndM_t, tAndM_f, tOrM_ap, tOrM_t, tOrM_f, sIf_ap, sIf_t, sIf_f, eIf_ap, eIf_t, eIf_f, eAnd_ap, eAnd_o, eAnd_t, eAnd_f, eOr_ap, eOr_o, eOr_t, eOr_f, eNot_ap, eNot_o1, eNot_o2, oSome_ap, oSome_o, eChain_ap, eChain_o1, eChain_o2, eChain_t, eChain_f, eChain_o4, eChain3_ap, eChain3_o1, eChain3_o2, eChain3_t, eChain3_f, eChain3_o4, iEnum_ap, iZip_ap, eMt_ap, eMt_o2, isLst_lst, eTupRg_ap, eTupRg_o, ixt0, ixt1, ixt2, ixt3, ixt4, negD_i, slD_lst, eV_0, eV_s, Res.bind_ok, Res.bind_ex, Res.bind_bad, Res.on_ok, Res.on_ex, Res.on_bad, SRes.bind_nx, SRes.bind_rt, SRes.bind_ex, SRes.bind_bad, List.set_cons_zero, List.set_cons_succ, addD_i, subD_i, ltD_i, leD_i, gtD_i, geD_i, eqD_i, neD_i, lenB_scr, lenB_lst, lenB_tup, truD, tyD, Ty.le, isD, isntD, isNon, killE, List.foldl_cons, List.foldl_nil, List.length_cons, List.length_nil, Nat.reduceAdd, Nat.zero_add, Nat.reduceLeDiff, if_true, if_false, Bool.false_eq_true, Bool.not_true, Bool.not_false]
      rw [mulD_b (lt_mono (a := 60) (by omega) (by decide)) (lt_mono (a := 700) (by omega) (by decide))]
      simp only [ixp1, aCons_o2, aCons_o1, aCons_ap, eTup_o1, eTup_ap, nLst_o1, nLst_ap, eFrz_o1, eFrz_ap, eNew_o1, eNew_ap, eOp_o2, eOp_o1, eOp_ap, tNotM_o1, tNotM_ap, sDrop_o1, sDrop_ap, sRet_o1, sRet_ap, sSet_o1, sSet_ap, sPut_o3, sPut_o2, sPut_o1, sPut_ap, nSl_o3, nSl_o2, nSl_o1, nSl_ap, eSl_o3, eSl_o2, eSl_o1, eSl_ap, nCat_o2, nCat_o1, nCat_ap, nRep_o2, nRep_o1, nRep_ap, sFor_o1, sFor_ap, nComp_o1, nComp_ap, eCall_o1, eCall_ap, rOne_o1, rOne_ap, rTwo_o2, rTwo_o1, rTwo_ap, iRevR_o1, iRevR_ap, nRng_o1, nRng_ap, iSeq_o1, iSeq_ap, iRev_o1, iRev_ap, eIsi_o1, eIsi_ap, eC_ap, aNil_ap, sNext_ap, sSeq_ap, sRetN_ap, tTru_ap, eUn_ap, eB_ap, nB_ap, noTest_ap, eDNew_ap, oNo_ap, gSet_ap, gsNil_ap, gsCons_ap, gsCons_o, gTupM_ap, sAsg_ap, sAsg_o1, sAsg_o2, sWhile_ap, asB_ap, asB_o, tAndM_ap, tAndM_t, tAndM_f, tOrM_ap, tOrM_t, tOrM_f, sIf_ap, sIf_t, sIf_f, eIf_ap, eIf_t, eIf_f, eAnd_ap, eAnd_o, eAnd_t, eAnd_f, eOr_ap, eOr_o, eOr_t, eOr_f, eNot_ap, eNot_o1, eNot_o2, oSome_ap, oSome_o, eChain_ap, eChain_o1, eChain_o2, eChain_t, eChain_f, eChain_o4, eChain3_ap, eChain3_o1, eChain3_o2, eChain3_t, eChain3_f, eChain3_o4, iEnum_ap, iZip_ap, eMt_ap, eMt_o2, isLst_lst, eTupRg_ap, eTupRg_o, ixt0, ixt1, ixt2, ixt3, ixt4, negD_i, slD_lst, eV_0, eV_s, Res.bind_ok, Res.bind_ex, Res.bind_bad, Res.on_ok, Res.on_ex, Res.on_bad, SRes.bind_nx, SRes.bind_rt, SRes.bind_ex, SRes.bind_bad, List.set_cons_zero, List.set_cons_succ, addD_i, subD_i, ltD_i, leD_i, gtD_i, geD_i, eqD_i, neD_i, lenB_scr, lenB_lst, lenB_tup, truD, tyD, Ty.le, isD, isntD, isNon, killE, List.foldl_cons, List.foldl_nil, List.length_cons, List.length_nil, Nat.reduceAdd, Nat.zero_add, Nat.reduceLeDiff, if_true, if_false, Bool.false_eq_true, Bool.not_true, Bool.not_false]
      rw [fdivD_z (by omega) (lt_mono (a := 13) (by omega) (by decide)), hy, ← Int.natCast_mul, ← Int.natCast_ediv]
      simp only [aCons_o2, aCons_o1, aCons_ap, eTup_o1, eTup_ap, nLst_o1, nLst_ap, eFrz_o1, eFrz_ap, eNew_o1, eNew_ap, eOp_o2, eOp_o1, eOp_ap, tNotM_o1, tNotM_ap, sDrop_o1, sDrop_ap, sRet_o1, sRet_ap, sSet_o1, sSet_ap, sPut_o3, sPut_o2, sPut_o1, sPut_ap, nSl_o3, nSl_o2, nSl_o1, nSl_ap, eSl_o3, eSl_o2, eSl_o1, eSl_ap, nCat_o2, nCat_o1, nCat_ap, nRep_o2, nRep_o1, nRep_ap, sFor_o1, sFor_ap, nComp_o1, nComp_ap, eCall_o1, eCall_ap, rOne_o1, rOne_ap, rTwo_o2, rTwo_o1, rTwo_ap, iRevR_o1, iRevR_ap, nRng_o1, nRng_ap, iSeq_o1, iSeq_ap, iRev_o1, iRev_ap, eIsi_o1, eIsi_ap, eC_ap, aNil_ap, sNext_ap, sSeq_ap, sRetN_ap, tTru_ap, eUn_ap, eB_ap, nB_ap, noTest_ap, eDNew_ap, oNo_ap, gSet_ap, gsNil_ap, gsCons_ap, gsCons_o, gTupM_ap, sAsg_ap, sAsg_o1, sAsg_o2, sWhile_ap, asB_ap, asB_o, tAndM_ap, tAndM_t, tAndM_f, tOrM_ap, tOrM_t, tOrM_f, sIf_ap, sIf_t, sIf_f, eIf_ap, eIf_t, eIf_f, eAnd_ap, eAnd_o, eAnd_t, eAnd_f, eOr_ap, eOr_o, eOr_t, eOr_f, eNot_ap, eNot_o1, eNot_o2, oSome_ap, oSome_o, eChain_ap, eChain_o1, eChain_o2, eChain_t, eChain_f, eChain_o4, eChain3_ap, eChain3_o1, eChain3_o2, eChain3_t, eChain3_f, eChain3_o4, iEnum_ap, iZip_ap, eMt_ap, eMt_o2, isLst_lst, eTupRg_ap, eTupRg_o, ixt0, ixt1, ixt2, ixt3, ixt4, negD_i, slD_lst, eV_0, eV_s, Res.bind_ok, Res.bind_ex, Res.bind_bad, Res.on_ok, Res.on_ex, Res.on_bad, SRes.bind_nx, SRes.bind_rt, SRes.bind_ex, SRes.bind_bad, List.set_cons_zero, List.set_cons_succ, addD_i, subD_i, ltD_i, leD_i, gtD_i, geD_i, eqD_i, neD_i, lenB_scr, lenB_lst, lenB_tup, truD, tyD, Ty.le, isD, isntD, isNon, killE, List.foldl_cons, List.foldl_nil, List.length_cons, List.length_nil, Nat.reduceAdd, Nat.zero_add, Nat.reduceLeDiff, if_true, if_false, Bool.false_eq_true, Bool.not_true, Bool.not_false]
      rw [shared_eq (Nat.lt_of_le_of_lt (Nat.div_le_self _ _) (Nat.lt_of_lt_of_le ht (Nat.pow_le_pow_right (by decide) (by decide))))]
      simp only [aCons_o2, aCons_o1, aCons_ap, eTup_o1, eTup_ap, nLst_o1, nLst_ap, eFrz_o1, eFrz_ap, eNew_o1, eNew_ap, eOp_o2, eOp_o1, eOp_ap, tNotM_o1, tNotM_ap, sDrop_o1, sDrop_ap, sRet_o1, sRet_ap, sSet_o1, sSet_ap, sPut_o3, sPut_o2, sPut_o1, sPut_ap, nSl_o3, nSl_o2, nSl_o1, nSl_ap, eSl_o3, eSl_o2, eSl_o1, eSl_ap, nCat_o2, nCat_o1, nCat_ap, nRep_o2, nRep_o1, nRep_ap, sFor_o1, sFor_ap, nComp_o1, nComp_ap, eCall_o1, eCall_ap, rOne_o1, rOne_ap, rTwo_o2, rTwo_o1, rTwo_ap, iRevR_o1, iRevR_ap, nRng_o1, nRng_ap, iSeq_o1, iSeq_ap, iRev_o1, iRev_ap, eIsi_o1, eIsi_ap, eC_ap, aNil_ap, sNext_ap, sSeq_ap, sRetN_ap, tTru_ap, eUn_ap, eB_ap, nB_ap, noTest_ap, eDNew_ap, oNo_ap, gSet_ap, gsNil_ap, gsCons_ap, gsCons_o, gTupM_ap, sAsg_ap, sAsg_o1, sAsg_o2, sWhile_ap, asB_ap, asB_o, tAndM_ap, tAndM_t, tAndM_f, tOrM_ap, tOrM_t, tOrM_f, sIf_ap, sIf_t, sIf_f, eIf_ap, eIf_t, eIf_f, eAnd_ap, eAnd_o, eAnd_t, eAnd_f, eOr_ap, eOr_o, eOr_t, eOr_f, eNot_ap, eNot_o1, eNot_o2, oSome_ap, oSome_o, eChain_ap, eChain_o1, eChain_o2, eChain_t, eChain_f, eChain_o4, eChain3_ap, eChain3_o1, eChain3_o2, eChain3_t, eChain3_f, eChain3_o4, iEnum_ap, iZip_ap, eMt_ap, eMt_o2, isLst_lst, eTupRg_ap, eTupRg_o, ixt0, ixt1, ixt2, ixt3, ixt4, negD_i, slD_lst, eV_0, eV_s, Res.bind_ok, Res.bind_ex, Res.bind_bad, Res.on_ok, Res.on_ex, Res.on_bad, SRes.bind_nx, SRes.bind_rt, SRes.bind_ex, SRes.bind_bad, List.set_cons_zero, List.set_cons_succ, addD_i, subD_i, ltD_i, leD_i, gtD_i, geD_i, eqD_i, neD_i, lenB_scr, lenB_lst, lenB_tup, truD, tyD, Ty.le, isD, isntD, isNon, killE, List.foldl_cons, List.foldl_nil, List.length_cons, List.length_nil, Nat.reduceAdd, Nat.zero_add, Nat.reduceLeDiff, if_true, if_false, Bool.false_eq_true, Bool.not_true, Bool.not_false]
      rfl
    case h2 =>
      refine ⟨?_, after_same⟩
      simp only [kill, List.foldl_cons, List.foldl_nil, List.set_cons_zero, List.set_cons_succ]
      rw [List.take_succ, hp]
      rw [show (some p).toList = [p] from rfl, aboveP_snoc]
  · obtain ⟨rfl, rfl⟩ := hP
    rw [List.length_map, List.take_length]
/-- what the two numbers are -/
structure AB (A B : Nat) (l : List Pt) : Prop where
  A0 : 0 < A
  B0 : 0 < B
  Al : A < 2 ^ 760
  Bl : B < 2 ^ 700
  y : ∀ p ∈ l, 1 ≤ p.2 ∧ p.2.natAbs < 2 ^ 13
  x : ∀ p ∈ l, p.1.natAbs * B < 2 ^ 760
  s : ∀ p ∈ l, p.1 * B = p.2 * A * mv A B p
theorem fr_mk {A B : Nat} {l : List Pt} (h : AB A B l) {p : Pt} (hp : p ∈ l) {st : Sto} :
    mulD (.int p.1) (.int (B : Nat)) st = .ok (.int (p.1 * B)) st ∧ mulD (.int p.2) (.int (A : Nat)) st = .ok (.int (p.2 * A)) st ∧ m_fraction [.int (p.1 * B), .int (p.2 * A)] st = .ok (prD (mkP A B p)) st := by
  obtain ⟨y1, y2⟩ := h.y p hp
  have hx := h.x p hp
  have hA := h.A0
  have hB := h.B0
  have hx2 : p.1.natAbs < 2 ^ 760 := Nat.lt_of_le_of_lt (Nat.le_mul_of_pos_right _ hB) hx
  have hpos : 0 < p.2 * (A : Int) := Int.mul_pos (by omega) (by omega)
  refine ⟨mulD_b (lt_mono hx2 (by decide)) (lt_mono (a := 700) (by have := h.Bl; omega) (by decide)), mulD_b (lt_mono (a := 13) y2 (by decide)) (lt_mono (a := 760) (by have := h.Al; omega) (by decide)), ?_⟩
  rw [fraction_eq (by omega) (lt_mono (mul_lt (a := 13) (b := 760) y2 (by have := h.Al; omega)) (by decide)), fr_prD, h.s p hp, low_whole hpos]
  rfl
theorem rect_eq {A B : Nat} {l : List Pt} (h : AB A B l) {r : List Pt} (hr : ∀ p ∈ r, p ∈ l) (hl : r.length ≤ 1000) {st : Sto} {e0 e2 e4 e6 e7 : Option D} :
    nComp [2] (iSeq (eV 5)) (gSet 2) (noTest) (eCall 2 m_fraction (aCons (eOp mulD (eOp ixD (eV 2) (eC (.int 0))) (eV 1)) (aCons (eOp mulD (eOp ixD (eV 2) (eC (.int 1))) (eV 3)) (aNil))))
      [e0, some (.int (B : Nat)), e2, some (.int (A : Nat)), e4, some (rcD r), e6, e7] st = .ok ((r.map (mkP A B)).map prD) st := by
  rw [nComp_ap, iSeq_tup (ds := r.map prD) (st1 := st) rfl, nComp_o1]
  rw [comp_run (g := gSet 2) (te := eCall 2 m_fraction (aCons (eOp mulD (eOp ixD (eV 2) (eC (.int 0))) (eV 1)) (aCons (eOp mulD (eOp ixD (eV 2) (eC (.int 1))) (eV 3)) (aNil)))) (f := fun d => match d with | .tup [.int a, .int b] => prD (mkP A B (a, b)) | _ => .non) (fun d hd => ?_) (by simp; omega)]
  · simp only [List.map_map, List.nil_append]
    rfl
  · obtain ⟨p, hpm, rfl⟩ := List.mem_map.mp hd
    obtain ⟨k1, k2, k3⟩ := fr_mk h (hr p hpm) (st := st)
    refine ⟨[e0, some (.int (B : Nat)), some (prD p), some (.int (A : Nat)), e4, some (rcD r), e6, e7], rfl, ?_⟩
    simp only [ixp0, ixp1, k1, k2, k3, aCons_o2, aCons_o1, aCons_ap, eTup_o1, eTup_ap, nLst_o1, nLst_ap, eFrz_o1, eFrz_ap, eNew_o1, eNew_ap, eOp_o2, eOp_o1, eOp_ap, tNotM_o1, tNotM_ap, sDrop_o1, sDrop_ap, sRet_o1, sRet_ap, sSet_o1, sSet_ap, sPut_o3, sPut_o2, sPut_o1, sPut_ap, nSl_o3, nSl_o2, nSl_o1, nSl_ap, eSl_o3, eSl_o2, eSl_o1, eSl_ap, nCat_o2, nCat_o1, nCat_ap, nRep_o2, nRep_o1, nRep_ap, sFor_o1, sFor_ap, nComp_o1, nComp_ap, eCall_o1, eCall_ap, rOne_o1, rOne_ap, rTwo_o2, rTwo_o1, rTwo_ap, iRevR_o1, iRevR_ap, nRng_o1, nRng_ap, iSeq_o1, iSeq_ap, iRev_o1, iRev_ap, eIsi_o1, eIsi_ap, eC_ap, aNil_ap, sNext_ap, sSeq_ap, sRetN_ap, tTru_ap, eUn_ap, eB_ap, nB_ap, noTest_ap, eDNew_ap, oNo_ap, gSet_ap, gsNil_ap, gsCons_ap, gsCons_o, gTupM_ap, sAsg_ap, sAsg_o1, sAsg_o2, sWhile_ap, asB_ap, asB_o, tAndM_ap, tAndM_t, tAndM_f, tOrM_ap, tOrM_t, tOrM_f, sIf_ap, sIf_t, sIf_f, eIf_ap, eIf_t, eIf_f, eAnd_ap, eAnd_o, eAnd_t, eAnd_f, eOr_ap, eOr_o, eOr_t, eOr_f, eNot_ap, eNot_o1, eNot_o2, oSome_ap, oSome_o, eChain_ap, eChain_o1, eChain_o2, eChain_t, eChain_f, eChain_o4, eChain3_ap, eChain3_o1, eChain3_o2, eChain3_t, eChain3_f, eChain3_o4, iEnum_ap, iZip_ap, eMt_ap, eMt_o2, isLst_lst, eTupRg_ap, eTupRg_o, ixt0, ixt1, ixt2, ixt3, ixt4, negD_i, slD_lst, eV_0, eV_s, Res.bind_ok, Res.bind_ex, Res.bind_bad, Res.on_ok, Res.on_ex, Res.on_bad, SRes.bind_nx, SRes.bind_rt, SRes.bind_ex, SRes.bind_bad, List.set_cons_zero, List.set_cons_succ, addD_i, subD_i, ltD_i, leD_i, gtD_i, geD_i, eqD_i, neD_i, lenB_scr, lenB_lst, lenB_tup, truD, tyD, Ty.le, isD, isntD, isNon, killE, List.foldl_cons, List.foldl_nil, List.length_cons, List.length_nil, Nat.reduceAdd, Nat.zero_add, Nat.reduceLeDiff, if_true, if_false, Bool.false_eq_true, Bool.not_true, Bool.not_false]
    rfl
end K50

namespace K50
open FL PySem
theorem Fl.mem {w h : Pt} {rs : List (List Pt)} {r : List Pt} {p : Pt} (hr : r ∈ rs) (hp : p ∈ r) : p ∈ nums w h rs :=
  List.mem_cons_of_mem _ (List.mem_cons_of_mem _ (List.mem_flatten.mpr ⟨r, hr, hp⟩))
/-- the loop of the rectangles -/
theorem loop3 {w h : Pt} {rs : List (List Pt)} {A B : Nat} (F : Fl w h rs) (hA : AB A B (nums w h rs)) {st : Sto} :
    sFor (some [5]) (iSeq (eOp ixD (eV 0) (eC (.int 2)))) (gSet 5) (sDrop (eMt isLst apD (eV 4) (aCons (eB tupB (aCons (eFrz (nComp [2] (iSeq (eV 5)) (gSet 2) (noTest) (eCall 2 m_fraction (aCons (eOp mulD (eOp ixD (eV 2) (eC (.int 0))) (eV 1)) (aCons (eOp mulD (eOp ixD (eV 2) (eC (.int 1))) (eV 3)) (aNil)))))) (aNil))) (aNil))))
      [some (flD w h rs), some (.int (B : Nat)), none, some (.int (A : Nat)), some (.loc st.length), none, none, none] (st ++ [.lst []]) =
    .nx [some (flD w h rs), some (.int (B : Nat)), none, some (.int (A : Nat)), some (.loc st.length), none, none, none] (st ++ [.lst ((rs.map (·.map (mkP A B))).map rcD)]) := by
  rw [sFor_ap, iSeq_tup (ds := rs.map rcD) (st1 := st ++ [.lst []]) (by simp only [ixf2, aCons_o2, aCons_o1, aCons_ap, eTup_o1, eTup_ap, nLst_o1, nLst_ap, eFrz_o1, eFrz_ap, eNew_o1, eNew_ap, eOp_o2, eOp_o1, eOp_ap, tNotM_o1, tNotM_ap, sDrop_o1, sDrop_ap, sRet_o1, sRet_ap, sSet_o1, sSet_ap, sPut_o3, sPut_o2, sPut_o1, sPut_ap, nSl_o3, nSl_o2, nSl_o1, nSl_ap, eSl_o3, eSl_o2, eSl_o1, eSl_ap, nCat_o2, nCat_o1, nCat_ap, nRep_o2, nRep_o1, nRep_ap, sFor_o1, sFor_ap, nComp_o1, nComp_ap, eCall_o1, eCall_ap, rOne_o1, rOne_ap, rTwo_o2, rTwo_o1, rTwo_ap, iRevR_o1, iRevR_ap, nRng_o1, nRng_ap, iSeq_o1, iSeq_ap, iRev_o1, iRev_ap, eIsi_o1, eIsi_ap, eC_ap, aNil_ap, sNext_ap, sSeq_ap, sRetN_ap, tTru_ap, eUn_ap, eB_ap, nB_ap, noTest_ap, eDNew_ap, oNo_ap, gSet_ap, gsNil_ap, gsCons_ap, gsCons_o, gTupM_ap, sAsg_ap, sAsg_o1, sAsg_o2, sWhile_ap, asB_ap, asB_o, tAndM_ap, tAndM_t, tAndM_f, tOrM_ap, tOrM_t, tOrM_f, sIf_ap, sIf_t, sIf_f, eIf_ap, eIf_t, eIf_f, eAnd_ap, eAnd_o, eAnd_t, eAnd_f, eOr_ap, eOr_o, eOr_t, eOr_f, eNot_ap, eNot_o1, eNot_o2, oSome_ap, oSome_o, eChain_ap, eChain_o1, eChain_o2, eChain_t, eChain_f, eChain_o4, eChain3_ap, eChain3_o1, eChain3_o2, eChain3_t, eChain3_f, eChain3_o4, iEnum_ap, iZip_ap, eMt_ap, eMt_o2, isLst_lst, eTupRg_ap, eTupRg_o, ixt0, ixt1, ixt2, ixt3, ixt4, negD_i, slD_lst, eV_0, eV_s, Res.bind_ok, Res.bind_ex, Res.bind_bad, Res.on_ok, Res.on_ex, Res.on_bad, SRes.bind_nx, SRes.bind_rt, SRes.bind_ex, SRes.bind_bad, List.set_cons_zero, List.set_cons_succ, addD_i, subD_i, ltD_i, leD_i, gtD_i, geD_i, eqD_i, neD_i, lenB_scr, lenB_lst, lenB_tup, truD, tyD, Ty.le, isD, isntD, isNon, killE, List.foldl_cons, List.foldl_nil, List.length_cons, List.length_nil, Nat.reduceAdd, Nat.zero_add, Nat.reduceLeDiff, if_true, if_false, Bool.false_eq_true, Bool.not_true, Bool.not_false])]
  simp only [sFor_o1, killE, List.foldl_cons, List.foldl_nil, List.set_cons_zero, List.set_cons_succ]
  refine loop_inv0 (src := []) (fun i env st' => env = [some (flD w h rs), some (.int (B : Nat)), none, some (.int (A : Nat)), some (.loc st.length), none, none, none] ∧ st' = st ++ [.lst (((rs.take i).map (·.map (mkP A B))).map rcD)])
    (fun r => r = .nx [some (flD w h rs), some (.int (B : Nat)), none, some (.int (A : Nat)), some (.loc st.length), none, none, none] (st ++ [.lst ((rs.map (·.map (mkP A B))).map rcD)]))
    (fun _ _ _ _ => rfl) (fun i d env st' hd hP => ?_) (fun env st' hP => ?_) ⟨rfl, rfl⟩
  · obtain ⟨rfl, rfl⟩ := hP
    rw [List.getElem?_map] at hd
    obtain ⟨r, hr, rfl⟩ := Option.map_eq_some_iff.mp hd
    have hrm : r ∈ rs := List.mem_of_getElem? hr
    have hl12 := F.len
    refine ⟨_, _, rfl, .inl ⟨?e, ?s, ?h1, ?h2⟩⟩
    case h1 =>
      rw [sDrop_ap, eMt_ap]
      simp only [aCons_o2, aCons_o1, aCons_ap, eTup_o1, eTup_ap, nLst_o1, nLst_ap, eFrz_o1, eFrz_ap, eNew_o1, eNew_ap, eOp_o2, eOp_o1, eOp_ap, tNotM_o1, tNotM_ap, sDrop_o1, sDrop_ap, sRet_o1, sRet_ap, sSet_o1, sSet_ap, sPut_o3, sPut_o2, sPut_o1, sPut_ap, nSl_o3, nSl_o2, nSl_o1, nSl_ap, eSl_o3, eSl_o2, eSl_o1, eSl_ap, nCat_o2, nCat_o1, nCat_ap, nRep_o2, nRep_o1, nRep_ap, eCall_o1, eCall_ap, rOne_o1, rOne_ap, rTwo_o2, rTwo_o1, rTwo_ap, iRevR_o1, iRevR_ap, nRng_o1, nRng_ap, eIsi_o1, eIsi_ap, eC_ap, aNil_ap, sNext_ap, sSeq_ap, sRetN_ap, tTru_ap, eUn_ap, eB_ap, nB_ap, noTest_ap, eDNew_ap, oNo_ap, gSet_ap, gsNil_ap, gsCons_ap, gsCons_o, gTupM_ap, sAsg_ap, sAsg_o1, sAsg_o2, asB_ap, asB_o, tAndM_ap, tAndM_t, tAndM_f, tOrM_ap, tOrM_t, tOrM_f, sIf_ap, sIf_t, sIf_f, eIf_ap, eIf_t, eIf_f, eAnd_ap, eAnd_o, eAnd_t, eAnd_f, eOr_ap, eOr_o, eOr_t, eOr_f, eNot_ap, eNot_o1, eNot_o2, oSome_ap, oSome_o, eChain_ap, eChain_o1, eChain_o2, eChain_t, eChain_f, eChain_o4, eChain3_ap, eChain3_o1, eChain3_o2, eChain3_t, eChain3_f, eChain3_o4, eMt_ap, eMt_o2, isLst_lst, eTupRg_ap, eTupRg_o, ixt0, ixt1, ixt2, ixt3, ixt4, negD_i, slD_lst, eV_0, eV_s, Res.bind_ok, Res.bind_ex, Res.bind_bad, Res.on_ok, Res.on_ex, Res.on_bad, SRes.bind_nx, SRes.bind_rt, SRes.bind_ex, SRes.bind_bad, List.set_cons_zero, List.set_cons_succ, addD_i, subD_i, ltD_i, leD_i, gtD_i, geD_i, eqD_i, neD_i, lenB_scr, lenB_lst, lenB_tup, truD, tyD, Ty.le, isD, isntD, isNon, killE, List.foldl_cons, List.foldl_nil, List.length_cons, List.length_nil, Nat.reduceAdd, Nat.zero_add, Nat.reduceLeDiff, if_true, if_false, Bool.false_eq_true, Bool.not_true, Bool.not_false]
      rw [eMt_o1 _ _ _ _ _ _ (isLst_loc (ds := ((rs.take i).map (·.map (mkP A B))).map rcD) (by simp))]
      simp only [aCons_o2, aCons_o1, aCons_ap, eTup_o1, eTup_ap, nLst_o1, nLst_ap, eFrz_o1, eFrz_ap, eNew_o1, eNew_ap, eOp_o2, eOp_o1, eOp_ap, tNotM_o1, tNotM_ap, sDrop_o1, sDrop_ap, sRet_o1, sRet_ap, sSet_o1, sSet_ap, sPut_o3, sPut_o2, sPut_o1, sPut_ap, nSl_o3, nSl_o2, nSl_o1, nSl_ap, eSl_o3, eSl_o2, eSl_o1, eSl_ap, nCat_o2, nCat_o1, nCat_ap, nRep_o2, nRep_o1, nRep_ap, eCall_o1, eCall_ap, rOne_o1, rOne_ap, rTwo_o2, rTwo_o1, rTwo_ap, iRevR_o1, iRevR_ap, nRng_o1, nRng_ap, eIsi_o1, eIsi_ap, eC_ap, aNil_ap, sNext_ap, sSeq_ap, sRetN_ap, tTru_ap, eUn_ap, eB_ap, nB_ap, noTest_ap, eDNew_ap, oNo_ap, gSet_ap, gsNil_ap, gsCons_ap, gsCons_o, gTupM_ap, sAsg_ap, sAsg_o1, sAsg_o2, asB_ap, asB_o, tAndM_ap, tAndM_t, tAndM_f, tOrM_ap, tOrM_t, tOrM_f, sIf_ap, sIf_t, sIf_f, eIf_ap, eIf_t, eIf_f, eAnd_ap, eAnd_o, eAnd_t, eAnd_f, eOr_ap, eOr_o, eOr_t, eOr_f, eNot_ap, eNot_o1, eNot_o2, oSome_ap, oSome_o, eChain_ap, eChain_o1, eChain_o2, eChain_t, eChain_f, eChain_o4, eChain3_ap, eChain3_o1, eChain3_o2, eChain3_t, eChain3_f, eChain3_o4, eMt_ap, eMt_o2, isLst_lst, eTupRg_ap, eTupRg_o, ixt0, ixt1, ixt2, ixt3, ixt4, negD_i, slD_lst, eV_0, eV_s, Res.bind_ok, Res.bind_ex, Res.bind_bad, Res.on_ok, Res.on_ex, Res.on_bad, SRes.bind_nx, SRes.bind_rt, SRes.bind_ex, SRes.bind_bad, List.set_cons_zero, List.set_cons_succ, addD_i, subD_i, ltD_i, leD_i, gtD_i, geD_i, eqD_i, neD_i, lenB_scr, lenB_lst, lenB_tup, truD, tyD, Ty.le, isD, isntD, isNon, killE, List.foldl_cons, List.foldl_nil, List.length_cons, List.length_nil, Nat.reduceAdd, Nat.zero_add, Nat.reduceLeDiff, if_true, if_false, Bool.false_eq_true, Bool.not_true, Bool.not_false]
      rw [rect_eq hA (r := r) (fun p hp => Fl.mem hrm hp) (by rw [F.four r hrm]; decide)]
      simp only [tupB_lst, aCons_o2, aCons_o1, aCons_ap, eTup_o1, eTup_ap, nLst_o1, nLst_ap, eFrz_o1, eFrz_ap, eNew_o1, eNew_ap, eOp_o2, eOp_o1, eOp_ap, tNotM_o1, tNotM_ap, sDrop_o1, sDrop_ap, sRet_o1, sRet_ap, sSet_o1, sSet_ap, sPut_o3, sPut_o2, sPut_o1, sPut_ap, nSl_o3, nSl_o2, nSl_o1, nSl_ap, eSl_o3, eSl_o2, eSl_o1, eSl_ap, nCat_o2, nCat_o1, nCat_ap, nRep_o2, nRep_o1, nRep_ap, eCall_o1, eCall_ap, rOne_o1, rOne_ap, rTwo_o2, rTwo_o1, rTwo_ap, iRevR_o1, iRevR_ap, nRng_o1, nRng_ap, eIsi_o1, eIsi_ap, eC_ap, aNil_ap, sNext_ap, sSeq_ap, sRetN_ap, tTru_ap, eUn_ap, eB_ap, nB_ap, noTest_ap, eDNew_ap, oNo_ap, gSet_ap, gsNil_ap, gsCons_ap, gsCons_o, gTupM_ap, sAsg_ap, sAsg_o1, sAsg_o2, asB_ap, asB_o, tAndM_ap, tAndM_t, tAndM_f, tOrM_ap, tOrM_t, tOrM_f, sIf_ap, sIf_t, sIf_f, eIf_ap, eIf_t, eIf_f, eAnd_ap, eAnd_o, eAnd_t, eAnd_f, eOr_ap, eOr_o, eOr_t, eOr_f, eNot_ap, eNot_o1, eNot_o2, oSome_ap, oSome_o, eChain_ap, eChain_o1, eChain_o2, eChain_t, eChain_f, eChain_o4, eChain3_ap, eChain3_o1, eChain3_o2, eChain3_t, eChain3_f, eChain3_o4, eMt_ap, eMt_o2, isLst_lst, eTupRg_ap, eTupRg_o, ixt0, ixt1, ixt2, ixt3, ixt4, negD_i, slD_lst, eV_0, eV_s, Res.bind_ok, Res.bind_ex, Res.bind_bad, Res.on_ok, Res.on_ex, Res.on_bad, SRes.bind_nx, SRes.bind_rt, SRes.bind_ex, SRes.bind_bad, List.set_cons_zero, List.set_cons_succ, addD_i, subD_i, ltD_i, leD_i, gtD_i, geD_i, eqD_i, neD_i, lenB_scr, lenB_lst, lenB_tup, truD, tyD, Ty.le, isD, isntD, isNon, killE, List.foldl_cons, List.foldl_nil, List.length_cons, List.length_nil, Nat.reduceAdd, Nat.zero_add, Nat.reduceLeDiff, if_true, if_false, Bool.false_eq_true, Bool.not_true, Bool.not_false]
      rw [apD_loc (ds := ((rs.take i).map (·.map (mkP A B))).map rcD) (by simp) (by simp; omega)]
      simp only [aCons_o2, aCons_o1, aCons_ap, eTup_o1, eTup_ap, nLst_o1, nLst_ap, eFrz_o1, eFrz_ap, eNew_o1, eNew_ap, eOp_o2, eOp_o1, eOp_ap, tNotM_o1, tNotM_ap, sDrop_o1, sDrop_ap, sRet_o1, sRet_ap, sSet_o1, sSet_ap, sPut_o3, sPut_o2, sPut_o1, sPut_ap, nSl_o3, nSl_o2, nSl_o1, nSl_ap, eSl_o3, eSl_o2, eSl_o1, eSl_ap, nCat_o2, nCat_o1, nCat_ap, nRep_o2, nRep_o1, nRep_ap, eCall_o1, eCall_ap, rOne_o1, rOne_ap, rTwo_o2, rTwo_o1, rTwo_ap, iRevR_o1, iRevR_ap, nRng_o1, nRng_ap, eIsi_o1, eIsi_ap, eC_ap, aNil_ap, sNext_ap, sSeq_ap, sRetN_ap, tTru_ap, eUn_ap, eB_ap, nB_ap, noTest_ap, eDNew_ap, oNo_ap, gSet_ap, gsNil_ap, gsCons_ap, gsCons_o, gTupM_ap, sAsg_ap, sAsg_o1, sAsg_o2, asB_ap, asB_o, tAndM_ap, tAndM_t, tAndM_f, tOrM_ap, tOrM_t, tOrM_f, sIf_ap, sIf_t, sIf_f, eIf_ap, eIf_t, eIf_f, eAnd_ap, eAnd_o, eAnd_t, eAnd_f, eOr_ap, eOr_o, eOr_t, eOr_f, eNot_ap, eNot_o1, eNot_o2, oSome_ap, oSome_o, eChain_ap, eChain_o1, eChain_o2, eChain_t, eChain_f, eChain_o4, eChain3_ap, eChain3_o1, eChain3_o2, eChain3_t, eChain3_f, eChain3_o4, eMt_ap, eMt_o2, isLst_lst, eTupRg_ap, eTupRg_o, ixt0, ixt1, ixt2, ixt3, ixt4, negD_i, slD_lst, eV_0, eV_s, Res.bind_ok, Res.bind_ex, Res.bind_bad, Res.on_ok, Res.on_ex, Res.on_bad, SRes.bind_nx, SRes.bind_rt, SRes.bind_ex, SRes.bind_bad, List.set_cons_zero, List.set_cons_succ, addD_i, subD_i, ltD_i, leD_i, gtD_i, geD_i, eqD_i, neD_i, lenB_scr, lenB_lst, lenB_tup, truD, tyD, Ty.le, isD, isntD, isNon, killE, List.foldl_cons, List.foldl_nil, List.length_cons, List.length_nil, Nat.reduceAdd, Nat.zero_add, Nat.reduceLeDiff, if_true, if_false, Bool.false_eq_true, Bool.not_true, Bool.not_false]
      rfl
    case h2 =>
      refine ⟨rfl, ?_⟩
      show shrink _ _ _ = _
      rw [shrink_len (by simp)]
      rw [List.set_append_right _ _ (by omega), Nat.sub_self, List.set_cons_zero]
      rw [List.take_succ, hr]
      simp only [List.map_append]
      rfl
  · obtain ⟨rfl, rfl⟩ := hP
    rw [List.length_map, List.take_length]
theorem brought_eq {w h : Pt} {rs : List (List Pt)} (F : Fl w h rs) {st : Sto} : ∃ A B, AB A B (nums w h rs) ∧ A = aboveP B (nums w h rs) ∧ m_brought [flD w h rs] st = .ok (flD (mkP A B w) (mkP A B h) (rs.map (·.map (mkP A B)))) st ∧ ∀ p ∈ nums w h rs, p.1.natAbs * B / p.2.natAbs = A * (mv A B p).natAbs := by
  have hB := F.bl
  have hdv := below_dvd (l := nums w h rs) (a := 1)
  have hadv := above_dvd (B := belowP (nums w h rs)) (l := nums w h rs) (a := 0)
  have hal := F.ab (l := nums w h rs) (fun p hp => hp)
  have hwm : w ∈ nums w h rs := List.mem_cons_self
  have hhm : h ∈ nums w h rs := List.mem_cons_of_mem _ List.mem_cons_self
  obtain ⟨hw1, hw2, hw3⟩ := F.num w hwm
  have hA0 : 0 < aboveP (belowP (nums w h rs)) (nums w h rs) := by
    have h1 := hadv.2 w hwm
    have h2 := hdv.2 w hwm
    have h3 : 0 < w.1.natAbs * belowP (nums w h rs) / w.2.natAbs := by
      refine Nat.div_pos (Nat.le_trans (Nat.le_of_dvd hB.1 h2) (Nat.le_mul_of_pos_left _ ?_)) (by omega)
      have := F.wide; omega
    exact Nat.pos_of_dvd_of_pos h1 h3
  have hAB : AB (aboveP (belowP (nums w h rs)) (nums w h rs)) (belowP (nums w h rs)) (nums w h rs) :=
    ⟨hA0, hB.1, hal, hB.2, fun p hp => ⟨(F.num p hp).1, by have := (F.num p hp).2.1; have := (F.num p hp).1; omega⟩, fun p hp => tops F hp, fun p hp => (mv_spec hA0 (F.num p hp).1 (hdv.2 p hp) (hadv.2 p hp)).1⟩
  refine ⟨_, _, hAB, rfl, ?_, fun p hp => (mv_spec hA0 (F.num p hp).1 (hdv.2 p hp) (hadv.2 p hp)).2⟩
  obtain ⟨a1, a2, a3⟩ := fr_mk hAB hwm (st := st ++ [.lst ((rs.map (·.map (mkP (aboveP (belowP (nums w h rs)) (nums w h rs)) (belowP (nums w h rs))))).map rcD)])
  obtain ⟨b1, b2, b3⟩ := fr_mk hAB hhm (st := st ++ [.lst ((rs.map (·.map (mkP (aboveP (belowP (nums w h rs)) (nums w h rs)) (belowP (nums w h rs))))).map rcD)])
  show fin true st (b_brought [some (flD w h rs), none, none, none, none, none, none, none] st) = _
  unfold b_brought
  rw [sSeq_ap, sSet_ap, eC_ap, sSet_o1, SRes.bind_nx, sSeq_ap]
  simp only [List.set_cons_zero, List.set_cons_succ]
  rw [loop1 F]
  rw [SRes.bind_nx, sSeq_ap, sSet_ap, eC_ap, sSet_o1, SRes.bind_nx, sSeq_ap]
  simp only [List.set_cons_zero, List.set_cons_succ]
  rw [loop2 F]
  rw [SRes.bind_nx, sSeq_ap]
  simp only [aCons_o2, aCons_o1, aCons_ap, eTup_o1, eTup_ap, nLst_o1, nLst_ap, eFrz_o1, eFrz_ap, eNew_o1, eNew_ap, eOp_o2, eOp_o1, eOp_ap, tNotM_o1, tNotM_ap, sDrop_o1, sDrop_ap, sRet_o1, sRet_ap, sSet_o1, sSet_ap, sPut_o3, sPut_o2, sPut_o1, sPut_ap, nSl_o3, nSl_o2, nSl_o1, nSl_ap, eSl_o3, eSl_o2, eSl_o1, eSl_ap, nCat_o2, nCat_o1, nCat_ap, nRep_o2, nRep_o1, nRep_ap, eCall_o1, eCall_ap, rOne_o1, rOne_ap, rTwo_o2, rTwo_o1, rTwo_ap, iRevR_o1, iRevR_ap, nRng_o1, nRng_ap, eIsi_o1, eIsi_ap, eC_ap, aNil_ap, sNext_ap, sSeq_ap, sRetN_ap, tTru_ap, eUn_ap, eB_ap, nB_ap, noTest_ap, eDNew_ap, oNo_ap, gSet_ap, gsNil_ap, gsCons_ap, gsCons_o, gTupM_ap, sAsg_ap, sAsg_o1, sAsg_o2, asB_ap, asB_o, tAndM_ap, tAndM_t, tAndM_f, tOrM_ap, tOrM_t, tOrM_f, sIf_ap, sIf_t, sIf_f, eIf_ap, eIf_t, eIf_f, eAnd_ap, eAnd_o, eAnd_t, eAnd_f, eOr_ap, eOr_o, eOr_t, eOr_f, eNot_ap, eNot_o1, eNot_o2, oSome_ap, oSome_o, eChain_ap, eChain_o1, eChain_o2, eChain_t, eChain_f, eChain_o4, eChain3_ap, eChain3_o1, eChain3_o2, eChain3_t, eChain3_f, eChain3_o4, eMt_ap, eMt_o2, isLst_lst, eTupRg_ap, eTupRg_o, ixt0, ixt1, ixt2, ixt3, ixt4, negD_i, slD_lst, eV_0, eV_s, Res.bind_ok, Res.bind_ex, Res.bind_bad, Res.on_ok, Res.on_ex, Res.on_bad, SRes.bind_nx, SRes.bind_rt, SRes.bind_ex, SRes.bind_bad, List.set_cons_zero, List.set_cons_succ, addD_i, subD_i, ltD_i, leD_i, gtD_i, geD_i, eqD_i, neD_i, lenB_scr, lenB_lst, lenB_tup, truD, tyD, Ty.le, isD, isntD, isNon, killE, List.foldl_cons, List.foldl_nil, List.length_cons, List.length_nil, Nat.reduceAdd, Nat.zero_add, Nat.reduceLeDiff, if_true, if_false, Bool.false_eq_true, Bool.not_true, Bool.not_false]
  rw [loop3 F hAB]
  simp only [ixf0, ixf1, ixp0, ixp1, a1, a2, a3, b1, b2, b3, aCons_o2, aCons_o1, aCons_ap, eTup_o1, eTup_ap, nLst_o1, nLst_ap, eFrz_o1, eFrz_ap, eNew_o1, eNew_ap, eOp_o2, eOp_o1, eOp_ap, tNotM_o1, tNotM_ap, sDrop_o1, sDrop_ap, sRet_o1, sRet_ap, sSet_o1, sSet_ap, sPut_o3, sPut_o2, sPut_o1, sPut_ap, nSl_o3, nSl_o2, nSl_o1, nSl_ap, eSl_o3, eSl_o2, eSl_o1, eSl_ap, nCat_o2, nCat_o1, nCat_ap, nRep_o2, nRep_o1, nRep_ap, eCall_o1, eCall_ap, rOne_o1, rOne_ap, rTwo_o2, rTwo_o1, rTwo_ap, iRevR_o1, iRevR_ap, nRng_o1, nRng_ap, eIsi_o1, eIsi_ap, eC_ap, aNil_ap, sNext_ap, sSeq_ap, sRetN_ap, tTru_ap, eUn_ap, eB_ap, nB_ap, noTest_ap, eDNew_ap, oNo_ap, gSet_ap, gsNil_ap, gsCons_ap, gsCons_o, gTupM_ap, sAsg_ap, sAsg_o1, sAsg_o2, asB_ap, asB_o, tAndM_ap, tAndM_t, tAndM_f, tOrM_ap, tOrM_t, tOrM_f, sIf_ap, sIf_t, sIf_f, eIf_ap, eIf_t, eIf_f, eAnd_ap, eAnd_o, eAnd_t, eAnd_f, eOr_ap, eOr_o, eOr_t, eOr_f, eNot_ap, eNot_o1, eNot_o2, oSome_ap, oSome_o, eChain_ap, eChain_o1, eChain_o2, eChain_t, eChain_f, eChain_o4, eChain3_ap, eChain3_o1, eChain3_o2, eChain3_t, eChain3_f, eChain3_o4, eMt_ap, eMt_o2, isLst_lst, eTupRg_ap, eTupRg_o, ixt0, ixt1, ixt2, ixt3, ixt4, negD_i, slD_lst, eV_0, eV_s, Res.bind_ok, Res.bind_ex, Res.bind_bad, Res.on_ok, Res.on_ex, Res.on_bad, SRes.bind_nx, SRes.bind_rt, SRes.bind_ex, SRes.bind_bad, List.set_cons_zero, List.set_cons_succ, addD_i, subD_i, ltD_i, leD_i, gtD_i, geD_i, eqD_i, neD_i, lenB_scr, lenB_lst, lenB_tup, truD, tyD, Ty.le, isD, isntD, isNon, killE, List.foldl_cons, List.foldl_nil, List.length_cons, List.length_nil, Nat.reduceAdd, Nat.zero_add, Nat.reduceLeDiff, if_true, if_false, Bool.false_eq_true, Bool.not_true, Bool.not_false]
  rw [tupB_loc (ds := (rs.map (·.map (mkP (aboveP (belowP (nums w h rs)) (nums w h rs)) (belowP (nums w h rs))))).map rcD) (by simp)]
  simp only [aCons_o2, aCons_o1, aCons_ap, eTup_o1, eTup_ap, nLst_o1, nLst_ap, eFrz_o1, eFrz_ap, eNew_o1, eNew_ap, eOp_o2, eOp_o1, eOp_ap, tNotM_o1, tNotM_ap, sDrop_o1, sDrop_ap, sRet_o1, sRet_ap, sSet_o1, sSet_ap, sPut_o3, sPut_o2, sPut_o1, sPut_ap, nSl_o3, nSl_o2, nSl_o1, nSl_ap, eSl_o3, eSl_o2, eSl_o1, eSl_ap, nCat_o2, nCat_o1, nCat_ap, nRep_o2, nRep_o1, nRep_ap, eCall_o1, eCall_ap, rOne_o1, rOne_ap, rTwo_o2, rTwo_o1, rTwo_ap, iRevR_o1, iRevR_ap, nRng_o1, nRng_ap, eIsi_o1, eIsi_ap, eC_ap, aNil_ap, sNext_ap, sSeq_ap, sRetN_ap, tTru_ap, eUn_ap, eB_ap, nB_ap, noTest_ap, eDNew_ap, oNo_ap, gSet_ap, gsNil_ap, gsCons_ap, gsCons_o, gTupM_ap, sAsg_ap, sAsg_o1, sAsg_o2, asB_ap, asB_o, tAndM_ap, tAndM_t, tAndM_f, tOrM_ap, tOrM_t, tOrM_f, sIf_ap, sIf_t, sIf_f, eIf_ap, eIf_t, eIf_f, eAnd_ap, eAnd_o, eAnd_t, eAnd_f, eOr_ap, eOr_o, eOr_t, eOr_f, eNot_ap, eNot_o1, eNot_o2, oSome_ap, oSome_o, eChain_ap, eChain_o1, eChain_o2, eChain_t, eChain_f, eChain_o4, eChain3_ap, eChain3_o1, eChain3_o2, eChain3_t, eChain3_f, eChain3_o4, eMt_ap, eMt_o2, isLst_lst, eTupRg_ap, eTupRg_o, ixt0, ixt1, ixt2, ixt3, ixt4, negD_i, slD_lst, eV_0, eV_s, Res.bind_ok, Res.bind_ex, Res.bind_bad, Res.on_ok, Res.on_ex, Res.on_bad, SRes.bind_nx, SRes.bind_rt, SRes.bind_ex, SRes.bind_bad, List.set_cons_zero, List.set_cons_succ, addD_i, subD_i, ltD_i, leD_i, gtD_i, geD_i, eqD_i, neD_i, lenB_scr, lenB_lst, lenB_tup, truD, tyD, Ty.le, isD, isntD, isNon, killE, List.foldl_cons, List.foldl_nil, List.length_cons, List.length_nil, Nat.reduceAdd, Nat.zero_add, Nat.reduceLeDiff, if_true, if_false, Bool.false_eq_true, Bool.not_true, Bool.not_false]
  exact fin_grown (.inl (flD_cl _ _ _)) rfl
/-! what the law asks of it -/
theorem allB_true {l : List D} {st : Sto} : allB [.lst (l.map fun _ => .bl true)] st = .ok (.bl true) st := by
  have h : ∀ l : List D, blsD (l.map fun _ => .bl true) = some (l.map fun _ => true) := by
    intro l
    induction l with
    | nil => rfl
    | cons d l ih =>
      rw [List.map_cons, List.map_cons]
      show (match blsD (l.map fun _ => .bl true) with | some bs => some (true :: bs) | none => none) = _
      rw [ih]
  show (match blsD (l.map fun _ => .bl true) with
      | some bs => Res.ok (D.bl (bs.all _root_.id)) st
      | none => .bad) = _
  rw [h]
  have e : (l.map fun _ => true).all _root_.id = true := by
    rw [List.all_map, List.all_eq_true]
    exact fun _ _ => rfl
  simp only [e]
theorem formed_eq {w h : Pt} {rs : List (List Pt)} {k : Int} (h1 : ∀ p ∈ nums w h rs, p.2 = 1) (h4 : ∀ r ∈ rs, r.length = 4) (hl : rs.length ≤ 12) (hw : 0 < w.1) (hh : 0 < h.1) (hk : k = (rs.length : Nat)) {st : Sto} :
    m_l_formed [flD w h rs, .int k] st = .ok (.bl true) st := by
  subst hk
  show fin true st (b_l_formed [some (flD w h rs), some (.int (rs.length : Nat)), none, none] st) = _
  unfold b_l_formed
  have t1 : ∀ st, eIsi_k1 .tup [some (flD w h rs), some (.int (rs.length : Nat)), none, none] (.ok (flD w h rs) st) = .ok (.bl true) st := fun st => rfl
  have t2 : ∀ st, lenB [flD w h rs] st = .ok (.int 3) st := fun st => rfl
  have t3 : ∀ st, eIsi_k1 .tup [some (flD w h rs), some (.int (rs.length : Nat)), none, none] (.ok (.tup (rs.map rcD)) st) = .ok (.bl true) st := fun st => rfl
  have e3 : ((3 : Int) == 3) = true := rfl
  have e4 : (((rs.length : Nat) : Int) == ((rs.length : Nat) : Int)) = true := by simp
  have hc : nComp [3] (iSeq (eOp ixD (eV 0) (eC (.int 2)))) (gSet 3) (noTest) (eAnd (eIsi .tup (eV 3)) (eOp eqD (eB lenB (aCons (eV 3) (aNil))) (eC (.int 4)))) [some (flD w h rs), some (.int (rs.length : Nat)), none, none] st = .ok ((rs.map rcD).map fun _ => .bl true) st := by
    rw [nComp_ap, iSeq_tup (ds := rs.map rcD) (st1 := st) (by simp only [ixf2, aCons_o2, aCons_o1, aCons_ap, eTup_o1, eTup_ap, nLst_o1, nLst_ap, eFrz_o1, eFrz_ap, eNew_o1, eNew_ap, eOp_o2, eOp_o1, eOp_ap, tNotM_o1, tNotM_ap, sDrop_o1, sDrop_ap, sRet_o1, sRet_ap, sSet_o1, sSet_ap, sPut_o3, sPut_o2, sPut_o1, sPut_ap, nSl_o3, nSl_o2, nSl_o1, nSl_ap, eSl_o3, eSl_o2, eSl_o1, eSl_ap, nCat_o2, nCat_o1, nCat_ap, nRep_o2, nRep_o1, nRep_ap, sFor_o1, sFor_ap, nComp_o1, nComp_ap, eCall_o1, eCall_ap, rOne_o1, rOne_ap, rTwo_o2, rTwo_o1, rTwo_ap, iRevR_o1, iRevR_ap, nRng_o1, nRng_ap, iSeq_o1, iSeq_ap, iRev_o1, iRev_ap, eIsi_o1, eIsi_ap, eC_ap, aNil_ap, sNext_ap, sSeq_ap, sRetN_ap, tTru_ap, eUn_ap, eB_ap, nB_ap, noTest_ap, eDNew_ap, oNo_ap, gSet_ap, gsNil_ap, gsCons_ap, gsCons_o, gTupM_ap, sAsg_ap, sAsg_o1, sAsg_o2, sWhile_ap, asB_ap, asB_o, tAndM_ap, tAndM_t, tAndM_f, tOrM_ap, tOrM_t, tOrM_f, sIf_ap, sIf_t, sIf_f, eIf_ap, eIf_t, eIf_f, eAnd_ap, eAnd_o, eAnd_t, eAnd_f, eOr_ap, eOr_o, eOr_t, eOr_f, eNot_ap, eNot_o1, eNot_o2, oSome_ap, oSome_o, eChain_ap, eChain_o1, eChain_o2, eChain_t, eChain_f, eChain_o4, eChain3_ap, eChain3_o1, eChain3_o2, eChain3_t, eChain3_f, eChain3_o4, iEnum_ap, iZip_ap, eMt_ap, eMt_o2, isLst_lst, eTupRg_ap, eTupRg_o, ixt0, ixt1, ixt2, ixt3, ixt4, negD_i, slD_lst, eV_0, eV_s, Res.bind_ok, Res.bind_ex, Res.bind_bad, Res.on_ok, Res.on_ex, Res.on_bad, SRes.bind_nx, SRes.bind_rt, SRes.bind_ex, SRes.bind_bad, List.set_cons_zero, List.set_cons_succ, addD_i, subD_i, ltD_i, leD_i, gtD_i, geD_i, eqD_i, neD_i, lenB_scr, lenB_lst, lenB_tup, truD, tyD, Ty.le, isD, isntD, isNon, killE, List.foldl_cons, List.foldl_nil, List.length_cons, List.length_nil, Nat.reduceAdd, Nat.zero_add, Nat.reduceLeDiff, if_true, if_false, Bool.false_eq_true, Bool.not_true, Bool.not_false]), nComp_o1]
    rw [comp_run (g := gSet 3) (te := eAnd (eIsi .tup (eV 3)) (eOp eqD (eB lenB (aCons (eV 3) (aNil))) (eC (.int 4)))) (f := fun _ => .bl true) (fun d hd => ?_) (by simp; omega)]
    · rw [List.nil_append]
    · obtain ⟨r, hr, rfl⟩ := List.mem_map.mp hd
      refine ⟨[some (flD w h rs), some (.int (rs.length : Nat)), none, some (rcD r)], rfl, ?_⟩
      have q4 : ((((r.map prD).length : Nat) : Int) == 4) = true := by rw [List.length_map, h4 r hr]; rfl
      simp only [rcD, aCons_o2, aCons_o1, aCons_ap, eTup_o1, eTup_ap, nLst_o1, nLst_ap, eFrz_o1, eFrz_ap, eNew_o1, eNew_ap, eOp_o2, eOp_o1, eOp_ap, tNotM_o1, tNotM_ap, sDrop_o1, sDrop_ap, sRet_o1, sRet_ap, sSet_o1, sSet_ap, sPut_o3, sPut_o2, sPut_o1, sPut_ap, nSl_o3, nSl_o2, nSl_o1, nSl_ap, eSl_o3, eSl_o2, eSl_o1, eSl_ap, nCat_o2, nCat_o1, nCat_ap, nRep_o2, nRep_o1, nRep_ap, sFor_o1, sFor_ap, nComp_o1, nComp_ap, eCall_o1, eCall_ap, rOne_o1, rOne_ap, rTwo_o2, rTwo_o1, rTwo_ap, iRevR_o1, iRevR_ap, nRng_o1, nRng_ap, iSeq_o1, iSeq_ap, iRev_o1, iRev_ap, eIsi_o1, eIsi_ap, eC_ap, aNil_ap, sNext_ap, sSeq_ap, sRetN_ap, tTru_ap, eUn_ap, eB_ap, nB_ap, noTest_ap, eDNew_ap, oNo_ap, gSet_ap, gsNil_ap, gsCons_ap, gsCons_o, gTupM_ap, sAsg_ap, sAsg_o1, sAsg_o2, sWhile_ap, asB_ap, asB_o, tAndM_ap, tAndM_t, tAndM_f, tOrM_ap, tOrM_t, tOrM_f, sIf_ap, sIf_t, sIf_f, eIf_ap, eIf_t, eIf_f, eAnd_ap, eAnd_o, eAnd_t, eAnd_f, eOr_ap, eOr_o, eOr_t, eOr_f, eNot_ap, eNot_o1, eNot_o2, oSome_ap, oSome_o, eChain_ap, eChain_o1, eChain_o2, eChain_t, eChain_f, eChain_o4, eChain3_ap, eChain3_o1, eChain3_o2, eChain3_t, eChain3_f, eChain3_o4, iEnum_ap, iZip_ap, eMt_ap, eMt_o2, isLst_lst, eTupRg_ap, eTupRg_o, ixt0, ixt1, ixt2, ixt3, ixt4, negD_i, slD_lst, eV_0, eV_s, Res.bind_ok, Res.bind_ex, Res.bind_bad, Res.on_ok, Res.on_ex, Res.on_bad, SRes.bind_nx, SRes.bind_rt, SRes.bind_ex, SRes.bind_bad, List.set_cons_zero, List.set_cons_succ, addD_i, subD_i, ltD_i, leD_i, gtD_i, geD_i, eqD_i, neD_i, lenB_scr, lenB_lst, lenB_tup, truD, tyD, Ty.le, isD, isntD, isNon, killE, List.foldl_cons, List.foldl_nil, List.length_cons, List.length_nil, Nat.reduceAdd, Nat.zero_add, Nat.reduceLeDiff, if_true, if_false, Bool.false_eq_true, Bool.not_true, Bool.not_false]
      rw [q4]
  simp only [t1, t2, t3, e3, ixf0, ixf1, ixf2, List.length_map, e4, hc, allB_true, aCons_o2, aCons_o1, aCons_ap, eTup_o1, eTup_ap, nLst_o1, nLst_ap, eFrz_o1, eFrz_ap, eNew_o1, eNew_ap, eOp_o2, eOp_o1, eOp_ap, tNotM_o1, tNotM_ap, sDrop_o1, sDrop_ap, sRet_o1, sRet_ap, sSet_o1, sSet_ap, sPut_o3, sPut_o2, sPut_o1, sPut_ap, nSl_o3, nSl_o2, nSl_o1, nSl_ap, eSl_o3, eSl_o2, eSl_o1, eSl_ap, nCat_o2, nCat_o1, nCat_ap, nRep_o2, nRep_o1, nRep_ap, eCall_o1, eCall_ap, rOne_o1, rOne_ap, rTwo_o2, rTwo_o1, rTwo_ap, iRevR_o1, iRevR_ap, nRng_o1, nRng_ap, eIsi_o1, eIsi_ap, eC_ap, aNil_ap, sNext_ap, sSeq_ap, sRetN_ap, tTru_ap, eUn_ap, eB_ap, nB_ap, noTest_ap, eDNew_ap, oNo_ap, gSet_ap, gsNil_ap, gsCons_ap, gsCons_o, gTupM_ap, sAsg_ap, sAsg_o1, sAsg_o2, asB_ap, asB_o, tAndM_ap, tAndM_t, tAndM_f, tOrM_ap, tOrM_t, tOrM_f, sIf_ap, sIf_t, sIf_f, eIf_ap, eIf_t, eIf_f, eAnd_ap, eAnd_o, eAnd_t, eAnd_f, eOr_ap, eOr_o, eOr_t, eOr_f, eNot_ap, eNot_o1, eNot_o2, oSome_ap, oSome_o, eChain_ap, eChain_o1, eChain_o2, eChain_t, eChain_f, eChain_o4, eChain3_ap, eChain3_o1, eChain3_o2, eChain3_t, eChain3_f, eChain3_o4, eMt_ap, eMt_o2, isLst_lst, eTupRg_ap, eTupRg_o, ixt0, ixt1, ixt2, ixt3, ixt4, negD_i, slD_lst, eV_0, eV_s, Res.bind_ok, Res.bind_ex, Res.bind_bad, Res.on_ok, Res.on_ex, Res.on_bad, SRes.bind_nx, SRes.bind_rt, SRes.bind_ex, SRes.bind_bad, List.set_cons_zero, List.set_cons_succ, addD_i, subD_i, ltD_i, leD_i, gtD_i, geD_i, eqD_i, neD_i, lenB_scr, lenB_lst, lenB_tup, truD, tyD, Ty.le, isD, isntD, isNon, killE, List.foldl_cons, List.foldl_nil, List.length_cons, List.length_nil, Nat.reduceAdd, Nat.zero_add, Nat.reduceLeDiff, if_true, if_false, Bool.false_eq_true, Bool.not_true, Bool.not_false]
  rw [sFor_ap, iSeq_lst (ds := (nums w h rs).map prD) (st1 := st) (by
    simp only [lnumbers_same, aCons_o2, aCons_o1, aCons_ap, eTup_o1, eTup_ap, nLst_o1, nLst_ap, eFrz_o1, eFrz_ap, eNew_o1, eNew_ap, eOp_o2, eOp_o1, eOp_ap, tNotM_o1, tNotM_ap, sDrop_o1, sDrop_ap, sRet_o1, sRet_ap, sSet_o1, sSet_ap, sPut_o3, sPut_o2, sPut_o1, sPut_ap, nSl_o3, nSl_o2, nSl_o1, nSl_ap, eSl_o3, eSl_o2, eSl_o1, eSl_ap, nCat_o2, nCat_o1, nCat_ap, nRep_o2, nRep_o1, nRep_ap, sFor_o1, sFor_ap, nComp_o1, nComp_ap, eCall_o1, eCall_ap, rOne_o1, rOne_ap, rTwo_o2, rTwo_o1, rTwo_ap, iRevR_o1, iRevR_ap, nRng_o1, nRng_ap, iSeq_o1, iSeq_ap, iRev_o1, iRev_ap, eIsi_o1, eIsi_ap, eC_ap, aNil_ap, sNext_ap, sSeq_ap, sRetN_ap, tTru_ap, eUn_ap, eB_ap, nB_ap, noTest_ap, eDNew_ap, oNo_ap, gSet_ap, gsNil_ap, gsCons_ap, gsCons_o, gTupM_ap, sAsg_ap, sAsg_o1, sAsg_o2, sWhile_ap, asB_ap, asB_o, tAndM_ap, tAndM_t, tAndM_f, tOrM_ap, tOrM_t, tOrM_f, sIf_ap, sIf_t, sIf_f, eIf_ap, eIf_t, eIf_f, eAnd_ap, eAnd_o, eAnd_t, eAnd_f, eOr_ap, eOr_o, eOr_t, eOr_f, eNot_ap, eNot_o1, eNot_o2, oSome_ap, oSome_o, eChain_ap, eChain_o1, eChain_o2, eChain_t, eChain_f, eChain_o4, eChain3_ap, eChain3_o1, eChain3_o2, eChain3_t, eChain3_f, eChain3_o4, iEnum_ap, iZip_ap, eMt_ap, eMt_o2, isLst_lst, eTupRg_ap, eTupRg_o, ixt0, ixt1, ixt2, ixt3, ixt4, negD_i, slD_lst, eV_0, eV_s, Res.bind_ok, Res.bind_ex, Res.bind_bad, Res.on_ok, Res.on_ex, Res.on_bad, SRes.bind_nx, SRes.bind_rt, SRes.bind_ex, SRes.bind_bad, List.set_cons_zero, List.set_cons_succ, addD_i, subD_i, ltD_i, leD_i, gtD_i, geD_i, eqD_i, neD_i, lenB_scr, lenB_lst, lenB_tup, truD, tyD, Ty.le, isD, isntD, isNon, killE, List.foldl_cons, List.foldl_nil, List.length_cons, List.length_nil, Nat.reduceAdd, Nat.zero_add, Nat.reduceLeDiff, if_true, if_false, Bool.false_eq_true, Bool.not_true, Bool.not_false]
    rw [numbers_eq (by have := flat4 h4; omega) (by omega) (fun r hr => by rw [h4 r hr]; decide)])]
  simp only [sFor_o1, killE, List.foldl_cons, List.foldl_nil, List.set_cons_zero, List.set_cons_succ]
  refine loop_inv0 (src := []) (fun i env st' => env = [some (flD w h rs), some (.int (rs.length : Nat)), none, none] ∧ st' = st)
    (fun r => fin true st (r.bind (sRet (eAnd (eOp gtD (eOp ixD (eOp ixD (eV 0) (eC (.int 0))) (eC (.int 0))) (eC (.int 0))) (eOp gtD (eOp ixD (eOp ixD (eV 0) (eC (.int 1))) (eC (.int 0))) (eC (.int 0)))))) = .ok (.bl true) st)
    (fun _ _ _ _ => rfl) (fun i d env st' hd hP => ?_) (fun env st' hP => ?_) ⟨rfl, rfl⟩
  · obtain ⟨rfl, rfl⟩ := hP
    rw [List.getElem?_map] at hd
    obtain ⟨p, hp, rfl⟩ := Option.map_eq_some_iff.mp hd
    have hp1 := h1 p (List.mem_of_getElem? hp)
    refine ⟨_, _, rfl, .inl ⟨?e, ?s, ?h1, ?h2⟩⟩
    case h1 =>
      have t5 : ∀ env st, eIsi_k1 .tup env (.ok (prD p) st) = .ok (.bl true) st := fun _ _ => rfl
      have t6 : ∀ st, lenB [prD p] st = .ok (.int 2) st := fun _ => rfl
      have e6 : ((2 : Int) == 2) = true := rfl
      have e7 : (p.2 == 1) = true := by rw [hp1]; rfl
      simp only [t5, t6, e6, e7, ixp0, ixp1, aCons_o2, aCons_o1, aCons_ap, eTup_o1, eTup_ap, nLst_o1, nLst_ap, eFrz_o1, eFrz_ap, eNew_o1, eNew_ap, eOp_o2, eOp_o1, eOp_ap, tNotM_o1, tNotM_ap, sDrop_o1, sDrop_ap, sRet_o1, sRet_ap, sSet_o1, sSet_ap, sPut_o3, sPut_o2, sPut_o1, sPut_ap, nSl_o3, nSl_o2, nSl_o1, nSl_ap, eSl_o3, eSl_o2, eSl_o1, eSl_ap, nCat_o2, nCat_o1, nCat_ap, nRep_o2, nRep_o1, nRep_ap, sFor_o1, sFor_ap, nComp_o1, nComp_ap, eCall_o1, eCall_ap, rOne_o1, rOne_ap, rTwo_o2, rTwo_o1, rTwo_ap, iRevR_o1, iRevR_ap, nRng_o1, nRng_ap, iSeq_o1, iSeq_ap, iRev_o1, iRev_ap, eIsi_o1, eIsi_ap, eC_ap, aNil_ap, sNext_ap, sSeq_ap, sRetN_ap, tTru_ap, eUn_ap, eB_ap, nB_ap, noTest_ap, eDNew_ap, oNo_ap, gSet_ap, gsNil_ap, gsCons_ap, gsCons_o, gTupM_ap, sAsg_ap, sAsg_o1, sAsg_o2, sWhile_ap, asB_ap, asB_o, tAndM_ap, tAndM_t, tAndM_f, tOrM_ap, tOrM_t, tOrM_f, sIf_ap, sIf_t, sIf_f, eIf_ap, eIf_t, eIf_f, eAnd_ap, eAnd_o, eAnd_t, eAnd_f, eOr_ap, eOr_o, eOr_t, eOr_f, eNot_ap, eNot_o1, eNot_o2, oSome_ap, oSome_o, eChain_ap, eChain_o1, eChain_o2, eChain_t, eChain_f, eChain_o4, eChain3_ap, eChain3_o1, eChain3_o2, eChain3_t, eChain3_f, eChain3_o4, iEnum_ap, iZip_ap, eMt_ap, eMt_o2, isLst_lst, eTupRg_ap, eTupRg_o, ixt0, ixt1, ixt2, ixt3, ixt4, negD_i, slD_lst, eV_0, eV_s, Res.bind_ok, Res.bind_ex, Res.bind_bad, Res.on_ok, Res.on_ex, Res.on_bad, SRes.bind_nx, SRes.bind_rt, SRes.bind_ex, SRes.bind_bad, List.set_cons_zero, List.set_cons_succ, addD_i, subD_i, ltD_i, leD_i, gtD_i, geD_i, eqD_i, neD_i, lenB_scr, lenB_lst, lenB_tup, truD, tyD, Ty.le, isD, isntD, isNon, killE, List.foldl_cons, List.foldl_nil, List.length_cons, List.length_nil, Nat.reduceAdd, Nat.zero_add, Nat.reduceLeDiff, if_true, if_false, Bool.false_eq_true, Bool.not_true, Bool.not_false]
      rfl
    case h2 =>
      refine ⟨?_, after_same⟩
      simp only [kill, List.foldl_cons, List.foldl_nil, List.set_cons_zero, List.set_cons_succ]
  · obtain ⟨rfl, rfl⟩ := hP
    simp only [ixf0, ixf1, ixp0, decide_eq_true hw, decide_eq_true hh, aCons_o2, aCons_o1, aCons_ap, eTup_o1, eTup_ap, nLst_o1, nLst_ap, eFrz_o1, eFrz_ap, eNew_o1, eNew_ap, eOp_o2, eOp_o1, eOp_ap, tNotM_o1, tNotM_ap, sDrop_o1, sDrop_ap, sRet_o1, sRet_ap, sSet_o1, sSet_ap, sPut_o3, sPut_o2, sPut_o1, sPut_ap, nSl_o3, nSl_o2, nSl_o1, nSl_ap, eSl_o3, eSl_o2, eSl_o1, eSl_ap, nCat_o2, nCat_o1, nCat_ap, nRep_o2, nRep_o1, nRep_ap, sFor_o1, sFor_ap, nComp_o1, nComp_ap, eCall_o1, eCall_ap, rOne_o1, rOne_ap, rTwo_o2, rTwo_o1, rTwo_ap, iRevR_o1, iRevR_ap, nRng_o1, nRng_ap, iSeq_o1, iSeq_ap, iRev_o1, iRev_ap, eIsi_o1, eIsi_ap, eC_ap, aNil_ap, sNext_ap, sSeq_ap, sRetN_ap, tTru_ap, eUn_ap, eB_ap, nB_ap, noTest_ap, eDNew_ap, oNo_ap, gSet_ap, gsNil_ap, gsCons_ap, gsCons_o, gTupM_ap, sAsg_ap, sAsg_o1, sAsg_o2, sWhile_ap, asB_ap, asB_o, tAndM_ap, tAndM_t, tAndM_f, tOrM_ap, tOrM_t, tOrM_f, sIf_ap, sIf_t, sIf_f, eIf_ap, eIf_t, eIf_f, eAnd_ap, eAnd_o, eAnd_t, eAnd_f, eOr_ap, eOr_o, eOr_t, eOr_f, eNot_ap, eNot_o1, eNot_o2, oSome_ap, oSome_o, eChain_ap, eChain_o1, eChain_o2, eChain_t, eChain_f, eChain_o4, eChain3_ap, eChain3_o1, eChain3_o2, eChain3_t, eChain3_f, eChain3_o4, iEnum_ap, iZip_ap, eMt_ap, eMt_o2, isLst_lst, eTupRg_ap, eTupRg_o, ixt0, ixt1, ixt2, ixt3, ixt4, negD_i, slD_lst, eV_0, eV_s, Res.bind_ok, Res.bind_ex, Res.bind_bad, Res.on_ok, Res.on_ex, Res.on_bad, SRes.bind_nx, SRes.bind_rt, SRes.bind_ex, SRes.bind_bad, List.set_cons_zero, List.set_cons_succ, addD_i, subD_i, ltD_i, leD_i, gtD_i, geD_i, eqD_i, neD_i, lenB_scr, lenB_lst, lenB_tup, truD, tyD, Ty.le, isD, isntD, isNon, killE, List.foldl_cons, List.foldl_nil, List.length_cons, List.length_nil, Nat.reduceAdd, Nat.zero_add, Nat.reduceLeDiff, if_true, if_false, Bool.false_eq_true, Bool.not_true, Bool.not_false]
    exact fin_rt rfl
theorem gcd_fold {A B : Nat} : ∀ {l : List Pt} {a : Nat}, (∀ p ∈ l, p.1.natAbs * B / p.2.natAbs = A * (mv A B p).natAbs) → l.foldl (fun a p => Nat.gcd a (p.1.natAbs * B / p.2.natAbs)) (A * a) = A * l.foldl (fun a p => Nat.gcd a (mv A B p).natAbs) a
  | [], _, _ => rfl
  | p :: l, a, h => by
    rw [List.foldl_cons, List.foldl_cons, h p List.mem_cons_self, Nat.gcd_mul_left]
    exact gcd_fold (l := l) fun q hq => h q (List.mem_cons_of_mem _ hq)
def shP (A B : Nat) (l : List Pt) : Nat := l.foldl (fun a p => Nat.gcd a (mv A B p).natAbs) 0
def lastB : SM4 := sSeq (sFor (some [9, 10]) (iZip (aCons (eCall 1 m_l_numbers (aCons (eV 6) (aNil))) (aCons (eCall 1 m_l_numbers (aCons (eV 7) (aNil))) (aNil)))) (gTupM 2 (gsCons (gSet 9) (gsCons (gSet 10) (gsNil)))) (sSeq (sIf (asB (eOp neD (eOp mulD (eOp mulD (eOp ixD (eV 10) (eC (.int 0))) (eOp ixD (eOp ixD (eV 6) (eC (.int 0))) (eC (.int 0)))) (eOp ixD (eV 9) (eC (.int 1)))) (eOp mulD (eOp mulD (eOp ixD (eV 9) (eC (.int 0))) (eOp ixD (eOp ixD (eV 6) (eC (.int 0))) (eC (.int 1)))) (eOp ixD (eOp ixD (eV 7) (eC (.int 0))) (eC (.int 0)))))) (sRet (eC (.bl false))) (sNext)) (sSet 8 (eCall 2 m_l_shared (aCons (eV 8) (aCons (eB absB (aCons (eOp ixD (eV 10) (eC (.int 0))) (aNil))) (aNil))))))) (sRet (eOp eqD (eV 8) (eC (.int 1))))
theorem map_flat {f : Pt → Pt} {w h : Pt} {rs : List (List Pt)} : nums (f w) (f h) (rs.map (·.map f)) = (nums w h rs).map f := by
  unfold nums
  rw [List.map_cons, List.map_cons, List.map_flatten]
theorem pair_map {α : Type} {f g : α → D} (l : List α) : pairL (l.map f) (l.map g) = l.map fun a => .tup [f a, g a] := by
  unfold pairL
  rw [List.zip_map', List.map_map]
  rfl
theorem mv_lt {A B : Nat} {l : List Pt} (h : AB A B l) {p : Pt} (hp : p ∈ l) : (mv A B p).natAbs < 2 ^ 760 := by
  have h1 := h.x p hp
  have h2 := congrArg Int.natAbs (h.s p hp)
  rw [Int.natAbs_mul, Int.natAbs_mul, Int.natAbs_mul, Int.natAbs_natCast, Int.natAbs_natCast] at h2
  have h3 := (h.y p hp).1
  have h4 := h.A0
  have h5 : (mv A B p).natAbs ≤ p.2.natAbs * A * (mv A B p).natAbs := Nat.le_mul_of_pos_left _ (Nat.mul_pos (by omega) h4)
  omega
theorem prop_eq {A B : Nat} {p w : Pt} (hA : 0 < A) (h1 : p.1 * B = p.2 * A * mv A B p) (h2 : w.1 * B = w.2 * A * mv A B w) : mv A B p * w.1 * p.2 = p.1 * w.2 * mv A B w := by
  apply Int.eq_of_mul_eq_mul_right (a := (A : Int)) (by omega)
  calc mv A B p * w.1 * p.2 * A = (p.2 * A * mv A B p) * w.1 := by ac_rfl
    _ = p.1 * B * w.1 := by rw [← h1]
    _ = p.1 * (w.1 * B) := by ac_rfl
    _ = p.1 * (w.2 * A * mv A B w) := by rw [h2]
    _ = p.1 * w.2 * mv A B w * A := by ac_rfl
theorem shP_snoc (A B : Nat) (l : List Pt) (p : Pt) : shP A B (l ++ [p]) = Nat.gcd (shP A B l) (mv A B p).natAbs := by unfold shP; rw [List.foldl_append]; rfl
theorem last_eq {w h : Pt} {rs : List (List Pt)} {A B : Nat} (F : Fl w h rs) (hA : AB A B (nums w h rs)) (hAe : A = aboveP B (nums w h rs)) (hdB : ∀ p ∈ nums w h rs, p.1.natAbs * B / p.2.natAbs = A * (mv A B p).natAbs) {e0 e1 e2 e3 e4 e5 e11 : Option D} :
    fin true [] (lastB [e0, e1, e2, e3, e4, e5, some (flD w h rs), some (flD (mkP A B w) (mkP A B h) (rs.map (·.map (mkP A B)))), some (.int 0), none, none, e11] []) = .ok (.bl true) [] := by
  have hwm : w ∈ nums w h rs := List.mem_cons_self
  have h1 : shP A B (nums w h rs) = 1 := by
    have hg := gcd_fold (a := 0) hdB
    rw [Nat.mul_zero] at hg
    have : A * 1 = A * shP A B (nums w h rs) := by
      rw [Nat.mul_one]
      exact hAe.trans hg
    exact (Nat.eq_of_mul_eq_mul_left hA.A0 this).symm
  have f4 : ∀ r ∈ rs.map (·.map (mkP A B)), r.length = 4 := fun r hr => by
    obtain ⟨q, hq, rfl⟩ := List.mem_map.mp hr
    rw [List.length_map]; exact F.four q hq
  have hl12 := F.len
  have hn2 : ∀ st, m_numbers_of [flD (mkP A B w) (mkP A B h) (rs.map (·.map (mkP A B)))] st = .ok (.lst (((nums w h rs).map (mkP A B)).map prD)) st := fun st => by
    rw [numbers_eq (by have := flat4 f4; rw [List.length_map] at this; omega) (by rw [List.length_map]; omega) (fun r hr => by rw [f4 r hr]; decide), map_flat]
  unfold lastB
  rw [sSeq_ap, sFor_ap, iZip_ap]
  simp only [lnumbers_same, F.numbers, hn2, aCons_o2, aCons_o1, aCons_ap, eTup_o1, eTup_ap, nLst_o1, nLst_ap, eFrz_o1, eFrz_ap, eNew_o1, eNew_ap, eOp_o2, eOp_o1, eOp_ap, tNotM_o1, tNotM_ap, sDrop_o1, sDrop_ap, sRet_o1, sRet_ap, sSet_o1, sSet_ap, sPut_o3, sPut_o2, sPut_o1, sPut_ap, nSl_o3, nSl_o2, nSl_o1, nSl_ap, eSl_o3, eSl_o2, eSl_o1, eSl_ap, nCat_o2, nCat_o1, nCat_ap, nRep_o2, nRep_o1, nRep_ap, eCall_o1, eCall_ap, rOne_o1, rOne_ap, rTwo_o2, rTwo_o1, rTwo_ap, iRevR_o1, iRevR_ap, nRng_o1, nRng_ap, eIsi_o1, eIsi_ap, eC_ap, aNil_ap, sNext_ap, sSeq_ap, sRetN_ap, tTru_ap, eUn_ap, eB_ap, nB_ap, noTest_ap, eDNew_ap, oNo_ap, gSet_ap, gsNil_ap, gsCons_ap, gsCons_o, gTupM_ap, sAsg_ap, sAsg_o1, sAsg_o2, asB_ap, asB_o, tAndM_ap, tAndM_t, tAndM_f, tOrM_ap, tOrM_t, tOrM_f, sIf_ap, sIf_t, sIf_f, eIf_ap, eIf_t, eIf_f, eAnd_ap, eAnd_o, eAnd_t, eAnd_f, eOr_ap, eOr_o, eOr_t, eOr_f, eNot_ap, eNot_o1, eNot_o2, oSome_ap, oSome_o, eChain_ap, eChain_o1, eChain_o2, eChain_t, eChain_f, eChain_o4, eChain3_ap, eChain3_o1, eChain3_o2, eChain3_t, eChain3_f, eChain3_o4, eMt_ap, eMt_o2, isLst_lst, eTupRg_ap, eTupRg_o, ixt0, ixt1, ixt2, ixt3, ixt4, negD_i, slD_lst, eV_0, eV_s, Res.bind_ok, Res.bind_ex, Res.bind_bad, Res.on_ok, Res.on_ex, Res.on_bad, SRes.bind_nx, SRes.bind_rt, SRes.bind_ex, SRes.bind_bad, List.set_cons_zero, List.set_cons_succ, addD_i, subD_i, ltD_i, leD_i, gtD_i, geD_i, eqD_i, neD_i, lenB_scr, lenB_lst, lenB_tup, truD, tyD, Ty.le, isD, isntD, isNon, killE, List.foldl_cons, List.foldl_nil, List.length_cons, List.length_nil, Nat.reduceAdd, Nat.zero_add, Nat.reduceLeDiff, if_true, if_false, Bool.false_eq_true, Bool.not_true, Bool.not_false]
  rw [iZip_o (.lst ((nums w h rs).map prD)) (.lst (((nums w h rs).map (mkP A B)).map prD)) [] (xs := (nums w h rs).map prD) (ys := ((nums w h rs).map (mkP A B)).map prD) rfl rfl rfl, List.map_map, pair_map]
  simp only [sFor_o1, killE, List.foldl_cons, List.foldl_nil, List.set_cons_zero, List.set_cons_succ]
  refine loop_inv0 (src := []) (fun i env st' => env = [e0, e1, e2, e3, e4, e5, some (flD w h rs), some (flD (mkP A B w) (mkP A B h) (rs.map (·.map (mkP A B)))), some (.int (shP A B ((nums w h rs).take i) : Nat)), none, none, e11] ∧ st' = [])
    (fun r => fin true [] (r.bind (sRet (eOp eqD (eV 8) (eC (.int 1))))) = .ok (.bl true) [])
    (fun _ _ _ _ => rfl) (fun i d env st' hd hP => ?_) (fun env st' hP => ?_) ⟨rfl, rfl⟩
  · obtain ⟨rfl, rfl⟩ := hP
    rw [List.getElem?_map] at hd
    obtain ⟨p, hp, rfl⟩ := Option.map_eq_some_iff.mp hd
    have hpm := List.mem_of_getElem? hp
    obtain ⟨y1, y2⟩ := hA.y p hpm
    obtain ⟨v1, v2⟩ := hA.y w hwm
    have xl := (F.num p hpm).2.2
    have wl := (F.num w hwm).2.2
    have ml := mv_lt hA hpm
    have nl := mv_lt hA hwm
    refine ⟨_, _, rfl, .inl ⟨?e, ?s, ?h1, ?h2⟩⟩
    case h1 =>
      have z1 : ∀ (x : Pt) st, ixD (mkP A B x |> prD) (.int 0) st = .ok (.int (mv A B x)) st := fun _ _ => ixp0
      have z2 : ∀ st, ixD (.tup [.int (mv A B w), .int 1]) (.int 0) st = .ok (.int (mv A B w)) st := fun _ => ixt0
      have M1 : ∀ st, mulD (.int (mv A B p)) (.int w.1) st = .ok (.int (mv A B p * w.1)) st := fun st => mulD_b (lt_mono ml (by decide)) (lt_mono wl (by decide))
      have M2 : ∀ st, mulD (.int (mv A B p * w.1)) (.int p.2) st = .ok (.int (mv A B p * w.1 * p.2)) st := fun st => mulD_b (lt_mono (mul_lt ml wl) (by decide)) (lt_mono y2 (by decide))
      have M3 : ∀ st, mulD (.int p.1) (.int w.2) st = .ok (.int (p.1 * w.2)) st := fun st => mulD_b (lt_mono xl (by decide)) (lt_mono v2 (by decide))
      have M4 : ∀ st, mulD (.int (p.1 * w.2)) (.int (mv A B w)) st = .ok (.int (p.1 * w.2 * mv A B w)) st := fun st => mulD_b (lt_mono (mul_lt xl v2) (by decide)) (lt_mono nl (by decide))
      have E : (mv A B p * w.1 * p.2 == p.1 * w.2 * mv A B w) = true := by
        rw [prop_eq hA.A0 (hA.s p hpm) (hA.s w hwm)]; simp
      simp only [Function.comp, ixf0, ixp0, ixp1, z1, z2, M1, M2, M3, M4, E, shared_same, absB_i, aCons_o2, aCons_o1, aCons_ap, eTup_o1, eTup_ap, nLst_o1, nLst_ap, eFrz_o1, eFrz_ap, eNew_o1, eNew_ap, eOp_o2, eOp_o1, eOp_ap, tNotM_o1, tNotM_ap, sDrop_o1, sDrop_ap, sRet_o1, sRet_ap, sSet_o1, sSet_ap, sPut_o3, sPut_o2, sPut_o1, sPut_ap, nSl_o3, nSl_o2, nSl_o1, nSl_ap, eSl_o3, eSl_o2, eSl_o1, eSl_ap, nCat_o2, nCat_o1, nCat_ap, nRep_o2, nRep_o1, nRep_ap, sFor_o1, sFor_ap, nComp_o1, nComp_ap, eCall_o1, eCall_ap, rOne_o1, rOne_ap, rTwo_o2, rTwo_o1, rTwo_ap, iRevR_o1, iRevR_ap, nRng_o1, nRng_ap, iSeq_o1, iSeq_ap, iRev_o1, iRev_ap, eIsi_o1, eIsi_ap, eC_ap, aNil_ap, sNext_ap, sSeq_ap, sRetN_ap, tTru_ap, eUn_ap, eB_ap, nB_ap, noTest_ap, eDNew_ap, oNo_ap, gSet_ap, gsNil_ap, gsCons_ap, gsCons_o, gTupM_ap, sAsg_ap, sAsg_o1, sAsg_o2, sWhile_ap, asB_ap, asB_o, tAndM_ap, tAndM_t, tAndM_f, tOrM_ap, tOrM_t, tOrM_f, sIf_ap, sIf_t, sIf_f, eIf_ap, eIf_t, eIf_f, eAnd_ap, eAnd_o, eAnd_t, eAnd_f, eOr_ap, eOr_o, eOr_t, eOr_f, eNot_ap, eNot_o1, eNot_o2, oSome_ap, oSome_o, eChain_ap, eChain_o1, eChain_o2, eChain_t, eChain_f, eChain_o4, eChain3_ap, eChain3_o1, eChain3_o2, eChain3_t, eChain3_f, eChain3_o4, iEnum_ap, iZip_ap, eMt_ap, eMt_o2, isLst_lst, eTupRg_ap, eTupRg_o, ixt0, ixt1, ixt2, ixt3, ixt4, negD_i, slD_lst, eV_0, eV_s, Res.bind_ok, Res.bind_ex, Res.bind_bad, Res.on_ok, Res.on_ex, Res.on_bad, SRes.bind_nx, SRes.bind_rt, SRes.bind_ex, SRes.bind_bad, List.set_cons_zero, List.set_cons_succ, addD_i, subD_i, ltD_i, leD_i, gtD_i, geD_i, eqD_i, neD_i, lenB_scr, lenB_lst, lenB_tup, truD, tyD, Ty.le, isD, isntD, isNon, killE, List.foldl_cons, List.foldl_nil, List.length_cons, List.length_nil, Nat.reduceAdd, Nat.zero_add, Nat.reduceLeDiff, if_true, if_false, Bool.false_eq_true, Bool.not_true, Bool.not_false]
      rw [shared_eq (Nat.lt_of_lt_of_le ml (Nat.pow_le_pow_right (by decide) (by decide)))]
      simp only [aCons_o2, aCons_o1, aCons_ap, eTup_o1, eTup_ap, nLst_o1, nLst_ap, eFrz_o1, eFrz_ap, eNew_o1, eNew_ap, eOp_o2, eOp_o1, eOp_ap, tNotM_o1, tNotM_ap, sDrop_o1, sDrop_ap, sRet_o1, sRet_ap, sSet_o1, sSet_ap, sPut_o3, sPut_o2, sPut_o1, sPut_ap, nSl_o3, nSl_o2, nSl_o1, nSl_ap, eSl_o3, eSl_o2, eSl_o1, eSl_ap, nCat_o2, nCat_o1, nCat_ap, nRep_o2, nRep_o1, nRep_ap, sFor_o1, sFor_ap, nComp_o1, nComp_ap, eCall_o1, eCall_ap, rOne_o1, rOne_ap, rTwo_o2, rTwo_o1, rTwo_ap, iRevR_o1, iRevR_ap, nRng_o1, nRng_ap, iSeq_o1, iSeq_ap, iRev_o1, iRev_ap, eIsi_o1, eIsi_ap, eC_ap, aNil_ap, sNext_ap, sSeq_ap, sRetN_ap, tTru_ap, eUn_ap, eB_ap, nB_ap, noTest_ap, eDNew_ap, oNo_ap, gSet_ap, gsNil_ap, gsCons_ap, gsCons_o, gTupM_ap, sAsg_ap, sAsg_o1, sAsg_o2, sWhile_ap, asB_ap, asB_o, tAndM_ap, tAndM_t, tAndM_f, tOrM_ap, tOrM_t, tOrM_f, sIf_ap, sIf_t, sIf_f, eIf_ap, eIf_t, eIf_f, eAnd_ap, eAnd_o, eAnd_t, eAnd_f, eOr_ap, eOr_o, eOr_t, eOr_f, eNot_ap, eNot_o1, eNot_o2, oSome_ap, oSome_o, eChain_ap, eChain_o1, eChain_o2, eChain_t, eChain_f, eChain_o4, eChain3_ap, eChain3_o1, eChain3_o2, eChain3_t, eChain3_f, eChain3_o4, iEnum_ap, iZip_ap, eMt_ap, eMt_o2, isLst_lst, eTupRg_ap, eTupRg_o, ixt0, ixt1, ixt2, ixt3, ixt4, negD_i, slD_lst, eV_0, eV_s, Res.bind_ok, Res.bind_ex, Res.bind_bad, Res.on_ok, Res.on_ex, Res.on_bad, SRes.bind_nx, SRes.bind_rt, SRes.bind_ex, SRes.bind_bad, List.set_cons_zero, List.set_cons_succ, addD_i, subD_i, ltD_i, leD_i, gtD_i, geD_i, eqD_i, neD_i, lenB_scr, lenB_lst, lenB_tup, truD, tyD, Ty.le, isD, isntD, isNon, killE, List.foldl_cons, List.foldl_nil, List.length_cons, List.length_nil, Nat.reduceAdd, Nat.zero_add, Nat.reduceLeDiff, if_true, if_false, Bool.false_eq_true, Bool.not_true, Bool.not_false]
      rfl
    case h2 =>
      refine ⟨?_, after_same⟩
      simp only [kill, List.foldl_cons, List.foldl_nil, List.set_cons_zero, List.set_cons_succ]
      rw [List.take_succ, hp]
      rw [show (some p).toList = [p] from rfl, shP_snoc]
  · obtain ⟨rfl, rfl⟩ := hP
    rw [List.length_map, List.take_length, h1]
    simp only [aCons_o2, aCons_o1, aCons_ap, eTup_o1, eTup_ap, nLst_o1, nLst_ap, eFrz_o1, eFrz_ap, eNew_o1, eNew_ap, eOp_o2, eOp_o1, eOp_ap, tNotM_o1, tNotM_ap, sDrop_o1, sDrop_ap, sRet_o1, sRet_ap, sSet_o1, sSet_ap, sPut_o3, sPut_o2, sPut_o1, sPut_ap, nSl_o3, nSl_o2, nSl_o1, nSl_ap, eSl_o3, eSl_o2, eSl_o1, eSl_ap, nCat_o2, nCat_o1, nCat_ap, nRep_o2, nRep_o1, nRep_ap, sFor_o1, sFor_ap, nComp_o1, nComp_ap, eCall_o1, eCall_ap, rOne_o1, rOne_ap, rTwo_o2, rTwo_o1, rTwo_ap, iRevR_o1, iRevR_ap, nRng_o1, nRng_ap, iSeq_o1, iSeq_ap, iRev_o1, iRev_ap, eIsi_o1, eIsi_ap, eC_ap, aNil_ap, sNext_ap, sSeq_ap, sRetN_ap, tTru_ap, eUn_ap, eB_ap, nB_ap, noTest_ap, eDNew_ap, oNo_ap, gSet_ap, gsNil_ap, gsCons_ap, gsCons_o, gTupM_ap, sAsg_ap, sAsg_o1, sAsg_o2, sWhile_ap, asB_ap, asB_o, tAndM_ap, tAndM_t, tAndM_f, tOrM_ap, tOrM_t, tOrM_f, sIf_ap, sIf_t, sIf_f, eIf_ap, eIf_t, eIf_f, eAnd_ap, eAnd_o, eAnd_t, eAnd_f, eOr_ap, eOr_o, eOr_t, eOr_f, eNot_ap, eNot_o1, eNot_o2, oSome_ap, oSome_o, eChain_ap, eChain_o1, eChain_o2, eChain_t, eChain_f, eChain_o4, eChain3_ap, eChain3_o1, eChain3_o2, eChain3_t, eChain3_f, eChain3_o4, iEnum_ap, iZip_ap, eMt_ap, eMt_o2, isLst_lst, eTupRg_ap, eTupRg_o, ixt0, ixt1, ixt2, ixt3, ixt4, negD_i, slD_lst, eV_0, eV_s, Res.bind_ok, Res.bind_ex, Res.bind_bad, Res.on_ok, Res.on_ex, Res.on_bad, SRes.bind_nx, SRes.bind_rt, SRes.bind_ex, SRes.bind_bad, List.set_cons_zero, List.set_cons_succ, addD_i, subD_i, ltD_i, leD_i, gtD_i, geD_i, eqD_i, neD_i, lenB_scr, lenB_lst, lenB_tup, truD, tyD, Ty.le, isD, isntD, isNon, killE, List.foldl_cons, List.foldl_nil, List.length_cons, List.length_nil, Nat.reduceAdd, Nat.zero_add, Nat.reduceLeDiff, if_true, if_false, Bool.false_eq_true, Bool.not_true, Bool.not_false]
    exact fin_rt rfl
end K50

namespace K50
open FL PySem
/-- a box within a box -/
def BxI (lo hi : Int) (b : Box) : Prop := (lo ≤ b.1 ∧ b.1 ≤ hi) ∧ (lo ≤ b.2.1 ∧ b.2.1 ≤ hi) ∧ (lo ≤ b.2.2.1 ∧ b.2.2.1 ≤ hi) ∧ (lo ≤ b.2.2.2 ∧ b.2.2.2 ≤ hi)
theorem two_in {lo hi c : Int} (h : 2 < hi - lo) : lo < (twoP lo hi c).1 ∧ (twoP lo hi c).1 < (twoP lo hi c).2 ∧ (twoP lo hi c).2 < hi := by
  unfold twoP
  have h1 : 0 ≤ c % (hi - lo - 2) := Int.emod_nonneg _ (by omega)
  have h2 : c % (hi - lo - 2) < hi - lo - 2 := Int.emod_lt_of_pos _ (by omega)
  generalize c % (hi - lo - 2) = z at h1 h2
  have h3 : 0 ≤ c / 7 % (hi - (lo + 1 + z) - 1) := Int.emod_nonneg _ (by omega)
  have h4 : c / 7 % (hi - (lo + 1 + z) - 1) < hi - (lo + 1 + z) - 1 := Int.emod_lt_of_pos _ (by omega)
  generalize c / 7 % (hi - (lo + 1 + z) - 1) = y at h3 h4
  simp only
  omega
theorem broken_in {lo hi c : Int} {b : Box} (h : BxI lo hi b) : ∀ x ∈ brokenP b c, BxI lo hi x := by
  obtain ⟨a, w, r, g⟩ := b
  unfold BxI at *
  simp only at h
  unfold brokenP
  simp only
  split
  · rename_i hc
    have h1 := two_in (c := c / 5 / 2) hc.2.1
    have h2 := two_in (c := c / 5 / 3) hc.2.2
    generalize twoP a r (c / 5 / 2) = x at h1
    generalize twoP w g (c / 5 / 3) = y at h2
    unfold wheelP
    intro q hq
    split at hq
    · simp only [List.cons_append, List.nil_append, List.mem_cons, List.not_mem_nil, or_false] at hq
      rcases hq with rfl | rfl | rfl | rfl | rfl <;> simp only <;> omega
    · simp only [List.cons_append, List.nil_append, List.mem_cons, List.not_mem_nil, or_false] at hq
      rcases hq with rfl | rfl | rfl | rfl | rfl <;> simp only <;> omega
  · split
    · rename_i hc
      have h1 : 0 ≤ c / 5 % (r - a - 1) := Int.emod_nonneg _ (by omega)
      have h2 : c / 5 % (r - a - 1) < r - a - 1 := Int.emod_lt_of_pos _ (by omega)
      intro q hq
      simp only [List.mem_cons, List.not_mem_nil, or_false] at hq
      rcases hq with rfl | rfl <;> simp only <;> omega
    · split
      · rename_i hc
        have h1 : 0 ≤ c / 5 % (g - w - 1) := Int.emod_nonneg _ (by omega)
        have h2 : c / 5 % (g - w - 1) < g - w - 1 := Int.emod_lt_of_pos _ (by omega)
        intro q hq
        simp only [List.mem_cons, List.not_mem_nil, or_false] at hq
        rcases hq with rfl | rfl <;> simp only <;> omega
      · intro q hq
        simp only [List.mem_cons, List.not_mem_nil, or_false] at hq
        subst hq
        exact h
theorem step_in {lo hi : Int} {ns : List Int} {most : Int} {bs : List Box} {k : Nat} (hne : bs ≠ []) (h : ∀ b ∈ bs, BxI lo hi b) : ∀ b ∈ stepP ns most bs k, BxI lo hi b := by
  have hp : 0 < bs.length := List.length_pos_iff.mpr hne
  have h0 := Int.emod_nonneg (cellv ns k) (show ((bs.length : Nat) : Int) ≠ 0 by omega)
  have h1 := Int.emod_lt_of_pos (cellv ns k) (show (0 : Int) < ((bs.length : Nat) : Int) by omega)
  unfold stepP
  generalize cellv ns k % (bs.length : Nat) = j at h0 h1
  have hm : bs.getD j.toNat default ∈ bs := by
    rw [List.getD_eq_getElem?_getD, List.getElem?_eq_getElem (by omega)]
    exact List.getElem_mem _
  have hb := broken_in (c := cellv ns k / 14) (h _ hm)
  obtain ⟨l, x, e, _⟩ := broken_ne (bs.getD j.toNat default) (cellv ns k / 14)
  rw [e] at hb ⊢
  split
  · rw [List.dropLast_concat, List.getLastD_concat]
    intro q hq
    simp only [List.mem_append, List.mem_singleton] at hq
    rcases hq with ((hq | rfl) | hq) | hq
    · exact h _ (List.mem_of_mem_take hq)
    · exact hb _ (by simp)
    · exact h _ (List.mem_of_mem_drop hq)
    · exact hb _ (by simp [hq])
  · exact h
theorem built_in {lo hi : Int} {ns : List Int} {most : Int} : ∀ {ks : List Nat} {bs : List Box}, bs ≠ [] → (∀ b ∈ bs, BxI lo hi b) → ∀ b ∈ builtP ns most ks bs, BxI lo hi b
  | [], _, _, h => h
  | k :: ks, _, hne, h => built_in (ks := ks) (step_ne hne) (step_in hne h)
theorem low_facts {t b : Int} (hb : 0 < b) : 1 ≤ (low t b).2 ∧ (low t b).2.natAbs ≤ b.natAbs ∧ (low t b).1.natAbs ≤ t.natAbs ∧ (0 < t → 0 < (low t b).1) ∧ (low t b).1 * b = t * (low t b).2 ∧ Int.gcd (low t b).1 (low t b).2 = 1 := by
  obtain ⟨x, y, h1, h2, h3, h4, h5, h6⟩ := fr_facts (t := t) (show b ≠ 0 by omega)
  have e : low t b = (x, y) := by
    have h7 : D.tup [.int (t.fdiv (sh t b)), .int (b.fdiv (sh t b))] = .tup [.int x, .int y] := h1
    injection h7 with h8
    injection h8 with h9 h10
    injection h10 with h11 _
    injection h9 with h12
    injection h11 with h13
    unfold low
    rw [h12, h13]
  rw [e]
  refine ⟨h2, h6, h5, fun ht => ?_, h4, h3⟩
  have : 0 < x * b := by rw [h4]; exact Int.mul_pos ht (by omega)
  exact pos_mul_pos hb (by rw [Int.mul_comm]; exact this)
theorem boxes_fin {st : Sto} (l : List Box) : fin true st (.rt (.loc st.length) (st ++ [.lst (l.map bxD)])) = .ok (.lst (l.map bxD)) st :=
  fin_list (k := 1) (by simp) (flt_map (fun _ => rfl) l) (by decide)
theorem numL_get {α : Type} {f : α → D} {l : List α} {i : Nat} {d : D} (h : (numL (l.map f))[i]? = some d) : ∃ a, l[i]? = some a ∧ d = .tup [.int (i : Nat), f a] := by
  unfold numL at h
  rw [List.getElem?_map, List.getElem?_zipIdx, List.getElem?_map] at h
  cases e : l[i]? with
  | none => rw [e] at h; simp at h
  | some a =>
    rw [e] at h
    simp at h
    exact ⟨a, rfl, h.symm⟩
theorem spoilt_eq {ns : List Int} {bs : List Box} {lo hi : Int} (h : ∀ b ∈ bs, BxI lo hi b) (hl : bs.length ≤ 100) {st : Sto} :
    ∃ cs : List Box, (∀ b ∈ cs, BxI lo hi b) ∧ cs.length ≤ bs.length ∧ m_l_spoilt [.scr ns, .lst (bs.map bxD)] st = .ok (.lst (cs.map bxD)) st := by
  suffices hs : ∃ cs : List Box, (∀ b ∈ cs, BxI lo hi b) ∧ cs.length ≤ bs.length ∧ fin true st (b_l_spoilt [some (.scr ns), some (.lst (bs.map bxD)), none, none, none, none] st) = .ok (.lst (cs.map bxD)) st from hs
  unfold b_l_spoilt
  simp only [aCons_o2, aCons_o1, aCons_ap, eTup_o1, eTup_ap, nLst_o1, nLst_ap, eFrz_o1, eFrz_ap, eNew_o1, eNew_ap, eOp_o2, eOp_o1, eOp_ap, tNotM_o1, tNotM_ap, sDrop_o1, sDrop_ap, sRet_o1, sRet_ap, sSet_o1, sSet_ap, sPut_o3, sPut_o2, sPut_o1, sPut_ap, nSl_o3, nSl_o2, nSl_o1, nSl_ap, eSl_o3, eSl_o2, eSl_o1, eSl_ap, nCat_o2, nCat_o1, nCat_ap, nRep_o2, nRep_o1, nRep_ap, eCall_o1, eCall_ap, rOne_o1, rOne_ap, rTwo_o2, rTwo_o1, rTwo_ap, iRevR_o1, iRevR_ap, nRng_o1, nRng_ap, eIsi_o1, eIsi_ap, eC_ap, aNil_ap, sNext_ap, sSeq_ap, sRetN_ap, tTru_ap, eUn_ap, eB_ap, nB_ap, noTest_ap, eDNew_ap, oNo_ap, gSet_ap, gsNil_ap, gsCons_ap, gsCons_o, gTupM_ap, sAsg_ap, sAsg_o1, sAsg_o2, asB_ap, asB_o, tAndM_ap, tAndM_t, tAndM_f, tOrM_ap, tOrM_t, tOrM_f, sIf_ap, sIf_t, sIf_f, eIf_ap, eIf_t, eIf_f, eAnd_ap, eAnd_o, eAnd_t, eAnd_f, eOr_ap, eOr_o, eOr_t, eOr_f, eNot_ap, eNot_o1, eNot_o2, oSome_ap, oSome_o, eChain_ap, eChain_o1, eChain_o2, eChain_t, eChain_f, eChain_o4, eChain3_ap, eChain3_o1, eChain3_o2, eChain3_t, eChain3_f, eChain3_o4, eMt_ap, eMt_o2, isLst_lst, eTupRg_ap, eTupRg_o, ixt0, ixt1, ixt2, ixt3, ixt4, negD_i, slD_lst, eV_0, eV_s, Res.bind_ok, Res.bind_ex, Res.bind_bad, Res.on_ok, Res.on_ex, Res.on_bad, SRes.bind_nx, SRes.bind_rt, SRes.bind_ex, SRes.bind_bad, List.set_cons_zero, List.set_cons_succ, addD_i, subD_i, ltD_i, leD_i, gtD_i, geD_i, eqD_i, neD_i, lenB_scr, lenB_lst, lenB_tup, truD, tyD, Ty.le, isD, isntD, isNon, killE, List.foldl_cons, List.foldl_nil, List.length_cons, List.length_nil, Nat.reduceAdd, Nat.zero_add, Nat.reduceLeDiff, if_true, if_false, Bool.false_eq_true, Bool.not_true, Bool.not_false]
  rw [sFor_ap, iEnum_ap]
  simp only [aCons_o2, aCons_o1, aCons_ap, eTup_o1, eTup_ap, nLst_o1, nLst_ap, eFrz_o1, eFrz_ap, eNew_o1, eNew_ap, eOp_o2, eOp_o1, eOp_ap, tNotM_o1, tNotM_ap, sDrop_o1, sDrop_ap, sRet_o1, sRet_ap, sSet_o1, sSet_ap, sPut_o3, sPut_o2, sPut_o1, sPut_ap, nSl_o3, nSl_o2, nSl_o1, nSl_ap, eSl_o3, eSl_o2, eSl_o1, eSl_ap, nCat_o2, nCat_o1, nCat_ap, nRep_o2, nRep_o1, nRep_ap, eCall_o1, eCall_ap, rOne_o1, rOne_ap, rTwo_o2, rTwo_o1, rTwo_ap, iRevR_o1, iRevR_ap, nRng_o1, nRng_ap, eIsi_o1, eIsi_ap, eC_ap, aNil_ap, sNext_ap, sSeq_ap, sRetN_ap, tTru_ap, eUn_ap, eB_ap, nB_ap, noTest_ap, eDNew_ap, oNo_ap, gSet_ap, gsNil_ap, gsCons_ap, gsCons_o, gTupM_ap, sAsg_ap, sAsg_o1, sAsg_o2, asB_ap, asB_o, tAndM_ap, tAndM_t, tAndM_f, tOrM_ap, tOrM_t, tOrM_f, sIf_ap, sIf_t, sIf_f, eIf_ap, eIf_t, eIf_f, eAnd_ap, eAnd_o, eAnd_t, eAnd_f, eOr_ap, eOr_o, eOr_t, eOr_f, eNot_ap, eNot_o1, eNot_o2, oSome_ap, oSome_o, eChain_ap, eChain_o1, eChain_o2, eChain_t, eChain_f, eChain_o4, eChain3_ap, eChain3_o1, eChain3_o2, eChain3_t, eChain3_f, eChain3_o4, eMt_ap, eMt_o2, isLst_lst, eTupRg_ap, eTupRg_o, ixt0, ixt1, ixt2, ixt3, ixt4, negD_i, slD_lst, eV_0, eV_s, Res.bind_ok, Res.bind_ex, Res.bind_bad, Res.on_ok, Res.on_ex, Res.on_bad, SRes.bind_nx, SRes.bind_rt, SRes.bind_ex, SRes.bind_bad, List.set_cons_zero, List.set_cons_succ, addD_i, subD_i, ltD_i, leD_i, gtD_i, geD_i, eqD_i, neD_i, lenB_scr, lenB_lst, lenB_tup, truD, tyD, Ty.le, isD, isntD, isNon, killE, List.foldl_cons, List.foldl_nil, List.length_cons, List.length_nil, Nat.reduceAdd, Nat.zero_add, Nat.reduceLeDiff, if_true, if_false, Bool.false_eq_true, Bool.not_true, Bool.not_false]
  rw [iEnum_o _ _ (es := bs.map bxD) rfl]
  simp only [sFor_o1, killE, List.foldl_cons, List.foldl_nil, List.set_cons_zero, List.set_cons_succ]
  refine loop_inv0 (src := []) (fun i env st' => ∃ cs : List Box, (∀ b ∈ cs, BxI lo hi b) ∧ cs.length ≤ i ∧ env = [some (.scr ns), some (.lst (bs.map bxD)), some (.loc st.length), none, none, none] ∧ st' = st ++ [.lst (cs.map bxD)])
    (fun r => ∃ cs : List Box, (∀ b ∈ cs, BxI lo hi b) ∧ cs.length ≤ bs.length ∧ fin true st (r.bind (sRet (eV 2))) = .ok (.lst (cs.map bxD)) st)
    (fun _ _ _ _ => rfl) (fun i d env st' hd hP => ?_) (fun env st' hP => ?_) ⟨[], by simp, by simp, rfl, rfl⟩
  · obtain ⟨cs, hc1, hc2, rfl, rfl⟩ := hP
    obtain ⟨b, hb, rfl⟩ := numL_get hd
    have hbm := h b (List.mem_of_getElem? hb)
    have hii := (List.getElem?_eq_some_iff.mp hb).1
    have ec : ∀ st, m_l_cell_at [.scr ns, .int (30 + (i : Nat))] st = .ok (.int (cellv ns (30 + i))) st := fun st => cell_eq (by omega) (by omega)
    have c0 := cellv_nn ns (30 + i)
    have m5 : ∀ st, modD (.int (cellv ns (30 + i))) (.int 5) st = .ok (.int (cellv ns (30 + i) % 5)) st := fun st => modD_i (by omega)
    have app : ∀ b' : Box, BxI lo hi b' → ∃ cs', (∀ b ∈ cs', BxI lo hi b) ∧ cs'.length ≤ i + 1 ∧ cs' = cs ++ [b'] := fun b' hb' =>
      ⟨_, fun q hq => by
        rcases List.mem_append.mp hq with hq | hq
        · exact hc1 q hq
        · rw [List.mem_singleton.mp hq]; exact hb', by rw [List.length_append, List.length_singleton]; omega, rfl⟩
    refine ⟨_, _, rfl, .inl ?_⟩
    simp only [ec, m5, List.set_cons_zero, List.set_cons_succ, sSeq_ap, sSet_ap, aCons_o2, aCons_o1, aCons_ap, eTup_o1, eTup_ap, nLst_o1, nLst_ap, eFrz_o1, eFrz_ap, eNew_o1, eNew_ap, eOp_o2, eOp_o1, eOp_ap, tNotM_o1, tNotM_ap, sDrop_o1, sDrop_ap, sRet_o1, sRet_ap, sSet_o1, sSet_ap, sPut_o3, sPut_o2, sPut_o1, sPut_ap, nSl_o3, nSl_o2, nSl_o1, nSl_ap, eSl_o3, eSl_o2, eSl_o1, eSl_ap, nCat_o2, nCat_o1, nCat_ap, nRep_o2, nRep_o1, nRep_ap, eCall_o1, eCall_ap, rOne_o1, rOne_ap, rTwo_o2, rTwo_o1, rTwo_ap, iRevR_o1, iRevR_ap, nRng_o1, nRng_ap, eIsi_o1, eIsi_ap, eC_ap, aNil_ap, sNext_ap, sSeq_ap, sRetN_ap, tTru_ap, eUn_ap, eB_ap, nB_ap, noTest_ap, eDNew_ap, oNo_ap, gSet_ap, gsNil_ap, gsCons_ap, gsCons_o, gTupM_ap, sAsg_ap, sAsg_o1, sAsg_o2, asB_ap, asB_o, tAndM_ap, tAndM_t, tAndM_f, tOrM_ap, tOrM_t, tOrM_f, sIf_ap, sIf_t, sIf_f, eIf_ap, eIf_t, eIf_f, eAnd_ap, eAnd_o, eAnd_t, eAnd_f, eOr_ap, eOr_o, eOr_t, eOr_f, eNot_ap, eNot_o1, eNot_o2, oSome_ap, oSome_o, eChain_ap, eChain_o1, eChain_o2, eChain_t, eChain_f, eChain_o4, eChain3_ap, eChain3_o1, eChain3_o2, eChain3_t, eChain3_f, eChain3_o4, eMt_ap, eMt_o2, isLst_lst, eTupRg_ap, eTupRg_o, ixt0, ixt1, ixt2, ixt3, ixt4, negD_i, slD_lst, eV_0, eV_s, Res.bind_ok, Res.bind_ex, Res.bind_bad, Res.on_ok, Res.on_ex, Res.on_bad, SRes.bind_nx, SRes.bind_rt, SRes.bind_ex, SRes.bind_bad, List.set_cons_zero, List.set_cons_succ, addD_i, subD_i, ltD_i, leD_i, gtD_i, geD_i, eqD_i, neD_i, lenB_scr, lenB_lst, lenB_tup, truD, tyD, Ty.le, isD, isntD, isNon, killE, List.foldl_cons, List.foldl_nil, List.length_cons, List.length_nil, Nat.reduceAdd, Nat.zero_add, Nat.reduceLeDiff, if_true, if_false, Bool.false_eq_true, Bool.not_true, Bool.not_false]
    by_cases h0 : cellv ns (30 + i) % 5 = 0
    · have e0 : (cellv ns (30 + i) % 5 == 0) = true := by simpa using h0
      simp only [e0, aCons_o2, aCons_o1, aCons_ap, eTup_o1, eTup_ap, nLst_o1, nLst_ap, eFrz_o1, eFrz_ap, eNew_o1, eNew_ap, eOp_o2, eOp_o1, eOp_ap, tNotM_o1, tNotM_ap, sDrop_o1, sDrop_ap, sRet_o1, sRet_ap, sSet_o1, sSet_ap, sPut_o3, sPut_o2, sPut_o1, sPut_ap, nSl_o3, nSl_o2, nSl_o1, nSl_ap, eSl_o3, eSl_o2, eSl_o1, eSl_ap, nCat_o2, nCat_o1, nCat_ap, nRep_o2, nRep_o1, nRep_ap, eCall_o1, eCall_ap, rOne_o1, rOne_ap, rTwo_o2, rTwo_o1, rTwo_ap, iRevR_o1, iRevR_ap, nRng_o1, nRng_ap, eIsi_o1, eIsi_ap, eC_ap, aNil_ap, sNext_ap, sSeq_ap, sRetN_ap, tTru_ap, eUn_ap, eB_ap, nB_ap, noTest_ap, eDNew_ap, oNo_ap, gSet_ap, gsNil_ap, gsCons_ap, gsCons_o, gTupM_ap, sAsg_ap, sAsg_o1, sAsg_o2, asB_ap, asB_o, tAndM_ap, tAndM_t, tAndM_f, tOrM_ap, tOrM_t, tOrM_f, sIf_ap, sIf_t, sIf_f, eIf_ap, eIf_t, eIf_f, eAnd_ap, eAnd_o, eAnd_t, eAnd_f, eOr_ap, eOr_o, eOr_t, eOr_f, eNot_ap, eNot_o1, eNot_o2, oSome_ap, oSome_o, eChain_ap, eChain_o1, eChain_o2, eChain_t, eChain_f, eChain_o4, eChain3_ap, eChain3_o1, eChain3_o2, eChain3_t, eChain3_f, eChain3_o4, eMt_ap, eMt_o2, isLst_lst, eTupRg_ap, eTupRg_o, ixt0, ixt1, ixt2, ixt3, ixt4, negD_i, slD_lst, eV_0, eV_s, Res.bind_ok, Res.bind_ex, Res.bind_bad, Res.on_ok, Res.on_ex, Res.on_bad, SRes.bind_nx, SRes.bind_rt, SRes.bind_ex, SRes.bind_bad, List.set_cons_zero, List.set_cons_succ, addD_i, subD_i, ltD_i, leD_i, gtD_i, geD_i, eqD_i, neD_i, lenB_scr, lenB_lst, lenB_tup, truD, tyD, Ty.le, isD, isntD, isNon, killE, List.foldl_cons, List.foldl_nil, List.length_cons, List.length_nil, Nat.reduceAdd, Nat.zero_add, Nat.reduceLeDiff, if_true, if_false, Bool.false_eq_true, Bool.not_true, Bool.not_false]
      rw [eMt_o1 _ _ _ _ _ _ (isLst_loc (ds := cs.map bxD) (by simp))]
      simp only [bxD, aCons_o2, aCons_o1, aCons_ap, eTup_o1, eTup_ap, nLst_o1, nLst_ap, eFrz_o1, eFrz_ap, eNew_o1, eNew_ap, eOp_o2, eOp_o1, eOp_ap, tNotM_o1, tNotM_ap, sDrop_o1, sDrop_ap, sRet_o1, sRet_ap, sSet_o1, sSet_ap, sPut_o3, sPut_o2, sPut_o1, sPut_ap, nSl_o3, nSl_o2, nSl_o1, nSl_ap, eSl_o3, eSl_o2, eSl_o1, eSl_ap, nCat_o2, nCat_o1, nCat_ap, nRep_o2, nRep_o1, nRep_ap, eCall_o1, eCall_ap, rOne_o1, rOne_ap, rTwo_o2, rTwo_o1, rTwo_ap, iRevR_o1, iRevR_ap, nRng_o1, nRng_ap, eIsi_o1, eIsi_ap, eC_ap, aNil_ap, sNext_ap, sSeq_ap, sRetN_ap, tTru_ap, eUn_ap, eB_ap, nB_ap, noTest_ap, eDNew_ap, oNo_ap, gSet_ap, gsNil_ap, gsCons_ap, gsCons_o, gTupM_ap, sAsg_ap, sAsg_o1, sAsg_o2, asB_ap, asB_o, tAndM_ap, tAndM_t, tAndM_f, tOrM_ap, tOrM_t, tOrM_f, sIf_ap, sIf_t, sIf_f, eIf_ap, eIf_t, eIf_f, eAnd_ap, eAnd_o, eAnd_t, eAnd_f, eOr_ap, eOr_o, eOr_t, eOr_f, eNot_ap, eNot_o1, eNot_o2, oSome_ap, oSome_o, eChain_ap, eChain_o1, eChain_o2, eChain_t, eChain_f, eChain_o4, eChain3_ap, eChain3_o1, eChain3_o2, eChain3_t, eChain3_f, eChain3_o4, eMt_ap, eMt_o2, isLst_lst, eTupRg_ap, eTupRg_o, ixt0, ixt1, ixt2, ixt3, ixt4, negD_i, slD_lst, eV_0, eV_s, Res.bind_ok, Res.bind_ex, Res.bind_bad, Res.on_ok, Res.on_ex, Res.on_bad, SRes.bind_nx, SRes.bind_rt, SRes.bind_ex, SRes.bind_bad, List.set_cons_zero, List.set_cons_succ, addD_i, subD_i, ltD_i, leD_i, gtD_i, geD_i, eqD_i, neD_i, lenB_scr, lenB_lst, lenB_tup, truD, tyD, Ty.le, isD, isntD, isNon, killE, List.foldl_cons, List.foldl_nil, List.length_cons, List.length_nil, Nat.reduceAdd, Nat.zero_add, Nat.reduceLeDiff, if_true, if_false, Bool.false_eq_true, Bool.not_true, Bool.not_false]
      rw [apD_loc (ds := cs.map bxD) (by simp) (by simp; omega)]
      simp only [aCons_o2, aCons_o1, aCons_ap, eTup_o1, eTup_ap, nLst_o1, nLst_ap, eFrz_o1, eFrz_ap, eNew_o1, eNew_ap, eOp_o2, eOp_o1, eOp_ap, tNotM_o1, tNotM_ap, sDrop_o1, sDrop_ap, sRet_o1, sRet_ap, sSet_o1, sSet_ap, sPut_o3, sPut_o2, sPut_o1, sPut_ap, nSl_o3, nSl_o2, nSl_o1, nSl_ap, eSl_o3, eSl_o2, eSl_o1, eSl_ap, nCat_o2, nCat_o1, nCat_ap, nRep_o2, nRep_o1, nRep_ap, eCall_o1, eCall_ap, rOne_o1, rOne_ap, rTwo_o2, rTwo_o1, rTwo_ap, iRevR_o1, iRevR_ap, nRng_o1, nRng_ap, eIsi_o1, eIsi_ap, eC_ap, aNil_ap, sNext_ap, sSeq_ap, sRetN_ap, tTru_ap, eUn_ap, eB_ap, nB_ap, noTest_ap, eDNew_ap, oNo_ap, gSet_ap, gsNil_ap, gsCons_ap, gsCons_o, gTupM_ap, sAsg_ap, sAsg_o1, sAsg_o2, asB_ap, asB_o, tAndM_ap, tAndM_t, tAndM_f, tOrM_ap, tOrM_t, tOrM_f, sIf_ap, sIf_t, sIf_f, eIf_ap, eIf_t, eIf_f, eAnd_ap, eAnd_o, eAnd_t, eAnd_f, eOr_ap, eOr_o, eOr_t, eOr_f, eNot_ap, eNot_o1, eNot_o2, oSome_ap, oSome_o, eChain_ap, eChain_o1, eChain_o2, eChain_t, eChain_f, eChain_o4, eChain3_ap, eChain3_o1, eChain3_o2, eChain3_t, eChain3_f, eChain3_o4, eMt_ap, eMt_o2, isLst_lst, eTupRg_ap, eTupRg_o, ixt0, ixt1, ixt2, ixt3, ixt4, negD_i, slD_lst, eV_0, eV_s, Res.bind_ok, Res.bind_ex, Res.bind_bad, Res.on_ok, Res.on_ex, Res.on_bad, SRes.bind_nx, SRes.bind_rt, SRes.bind_ex, SRes.bind_bad, List.set_cons_zero, List.set_cons_succ, addD_i, subD_i, ltD_i, leD_i, gtD_i, geD_i, eqD_i, neD_i, lenB_scr, lenB_lst, lenB_tup, truD, tyD, Ty.le, isD, isntD, isNon, killE, List.foldl_cons, List.foldl_nil, List.length_cons, List.length_nil, Nat.reduceAdd, Nat.zero_add, Nat.reduceLeDiff, if_true, if_false, Bool.false_eq_true, Bool.not_true, Bool.not_false]
      refine ⟨_, _, rfl, cs ++ [(b.1, b.2.1, b.1, b.2.1)], ?_, by rw [List.length_append, List.length_singleton]; omega, rfl, ?_⟩
      · intro q hq
        rcases List.mem_append.mp hq with hq | hq
        · exact hc1 q hq
        · rw [List.mem_singleton.mp hq]; exact ⟨hbm.1, hbm.2.1, hbm.1, hbm.2.1⟩
      · show shrink _ _ _ = _
        rw [shrink_len (by simp), List.set_append_right _ _ (by omega), Nat.sub_self, List.set_cons_zero, List.map_append]
        rfl
    · have e0 : (cellv ns (30 + i) % 5 == 0) = false := by simpa using h0
      by_cases h4 : cellv ns (30 + i) % 5 < 4
      · simp only [e0, decide_eq_true h4, aCons_o2, aCons_o1, aCons_ap, eTup_o1, eTup_ap, nLst_o1, nLst_ap, eFrz_o1, eFrz_ap, eNew_o1, eNew_ap, eOp_o2, eOp_o1, eOp_ap, tNotM_o1, tNotM_ap, sDrop_o1, sDrop_ap, sRet_o1, sRet_ap, sSet_o1, sSet_ap, sPut_o3, sPut_o2, sPut_o1, sPut_ap, nSl_o3, nSl_o2, nSl_o1, nSl_ap, eSl_o3, eSl_o2, eSl_o1, eSl_ap, nCat_o2, nCat_o1, nCat_ap, nRep_o2, nRep_o1, nRep_ap, eCall_o1, eCall_ap, rOne_o1, rOne_ap, rTwo_o2, rTwo_o1, rTwo_ap, iRevR_o1, iRevR_ap, nRng_o1, nRng_ap, eIsi_o1, eIsi_ap, eC_ap, aNil_ap, sNext_ap, sSeq_ap, sRetN_ap, tTru_ap, eUn_ap, eB_ap, nB_ap, noTest_ap, eDNew_ap, oNo_ap, gSet_ap, gsNil_ap, gsCons_ap, gsCons_o, gTupM_ap, sAsg_ap, sAsg_o1, sAsg_o2, asB_ap, asB_o, tAndM_ap, tAndM_t, tAndM_f, tOrM_ap, tOrM_t, tOrM_f, sIf_ap, sIf_t, sIf_f, eIf_ap, eIf_t, eIf_f, eAnd_ap, eAnd_o, eAnd_t, eAnd_f, eOr_ap, eOr_o, eOr_t, eOr_f, eNot_ap, eNot_o1, eNot_o2, oSome_ap, oSome_o, eChain_ap, eChain_o1, eChain_o2, eChain_t, eChain_f, eChain_o4, eChain3_ap, eChain3_o1, eChain3_o2, eChain3_t, eChain3_f, eChain3_o4, eMt_ap, eMt_o2, isLst_lst, eTupRg_ap, eTupRg_o, ixt0, ixt1, ixt2, ixt3, ixt4, negD_i, slD_lst, eV_0, eV_s, Res.bind_ok, Res.bind_ex, Res.bind_bad, Res.on_ok, Res.on_ex, Res.on_bad, SRes.bind_nx, SRes.bind_rt, SRes.bind_ex, SRes.bind_bad, List.set_cons_zero, List.set_cons_succ, addD_i, subD_i, ltD_i, leD_i, gtD_i, geD_i, eqD_i, neD_i, lenB_scr, lenB_lst, lenB_tup, truD, tyD, Ty.le, isD, isntD, isNon, killE, List.foldl_cons, List.foldl_nil, List.length_cons, List.length_nil, Nat.reduceAdd, Nat.zero_add, Nat.reduceLeDiff, if_true, if_false, Bool.false_eq_true, Bool.not_true, Bool.not_false]
        rw [eMt_o1 _ _ _ _ _ _ (isLst_loc (ds := cs.map bxD) (by simp))]
        simp only [aCons_o2, aCons_o1, aCons_ap, eTup_o1, eTup_ap, nLst_o1, nLst_ap, eFrz_o1, eFrz_ap, eNew_o1, eNew_ap, eOp_o2, eOp_o1, eOp_ap, tNotM_o1, tNotM_ap, sDrop_o1, sDrop_ap, sRet_o1, sRet_ap, sSet_o1, sSet_ap, sPut_o3, sPut_o2, sPut_o1, sPut_ap, nSl_o3, nSl_o2, nSl_o1, nSl_ap, eSl_o3, eSl_o2, eSl_o1, eSl_ap, nCat_o2, nCat_o1, nCat_ap, nRep_o2, nRep_o1, nRep_ap, eCall_o1, eCall_ap, rOne_o1, rOne_ap, rTwo_o2, rTwo_o1, rTwo_ap, iRevR_o1, iRevR_ap, nRng_o1, nRng_ap, eIsi_o1, eIsi_ap, eC_ap, aNil_ap, sNext_ap, sSeq_ap, sRetN_ap, tTru_ap, eUn_ap, eB_ap, nB_ap, noTest_ap, eDNew_ap, oNo_ap, gSet_ap, gsNil_ap, gsCons_ap, gsCons_o, gTupM_ap, sAsg_ap, sAsg_o1, sAsg_o2, asB_ap, asB_o, tAndM_ap, tAndM_t, tAndM_f, tOrM_ap, tOrM_t, tOrM_f, sIf_ap, sIf_t, sIf_f, eIf_ap, eIf_t, eIf_f, eAnd_ap, eAnd_o, eAnd_t, eAnd_f, eOr_ap, eOr_o, eOr_t, eOr_f, eNot_ap, eNot_o1, eNot_o2, oSome_ap, oSome_o, eChain_ap, eChain_o1, eChain_o2, eChain_t, eChain_f, eChain_o4, eChain3_ap, eChain3_o1, eChain3_o2, eChain3_t, eChain3_f, eChain3_o4, eMt_ap, eMt_o2, isLst_lst, eTupRg_ap, eTupRg_o, ixt0, ixt1, ixt2, ixt3, ixt4, negD_i, slD_lst, eV_0, eV_s, Res.bind_ok, Res.bind_ex, Res.bind_bad, Res.on_ok, Res.on_ex, Res.on_bad, SRes.bind_nx, SRes.bind_rt, SRes.bind_ex, SRes.bind_bad, List.set_cons_zero, List.set_cons_succ, addD_i, subD_i, ltD_i, leD_i, gtD_i, geD_i, eqD_i, neD_i, lenB_scr, lenB_lst, lenB_tup, truD, tyD, Ty.le, isD, isntD, isNon, killE, List.foldl_cons, List.foldl_nil, List.length_cons, List.length_nil, Nat.reduceAdd, Nat.zero_add, Nat.reduceLeDiff, if_true, if_false, Bool.false_eq_true, Bool.not_true, Bool.not_false]
        rw [apD_loc (ds := cs.map bxD) (by simp) (by simp; omega)]
        simp only [aCons_o2, aCons_o1, aCons_ap, eTup_o1, eTup_ap, nLst_o1, nLst_ap, eFrz_o1, eFrz_ap, eNew_o1, eNew_ap, eOp_o2, eOp_o1, eOp_ap, tNotM_o1, tNotM_ap, sDrop_o1, sDrop_ap, sRet_o1, sRet_ap, sSet_o1, sSet_ap, sPut_o3, sPut_o2, sPut_o1, sPut_ap, nSl_o3, nSl_o2, nSl_o1, nSl_ap, eSl_o3, eSl_o2, eSl_o1, eSl_ap, nCat_o2, nCat_o1, nCat_ap, nRep_o2, nRep_o1, nRep_ap, eCall_o1, eCall_ap, rOne_o1, rOne_ap, rTwo_o2, rTwo_o1, rTwo_ap, iRevR_o1, iRevR_ap, nRng_o1, nRng_ap, eIsi_o1, eIsi_ap, eC_ap, aNil_ap, sNext_ap, sSeq_ap, sRetN_ap, tTru_ap, eUn_ap, eB_ap, nB_ap, noTest_ap, eDNew_ap, oNo_ap, gSet_ap, gsNil_ap, gsCons_ap, gsCons_o, gTupM_ap, sAsg_ap, sAsg_o1, sAsg_o2, asB_ap, asB_o, tAndM_ap, tAndM_t, tAndM_f, tOrM_ap, tOrM_t, tOrM_f, sIf_ap, sIf_t, sIf_f, eIf_ap, eIf_t, eIf_f, eAnd_ap, eAnd_o, eAnd_t, eAnd_f, eOr_ap, eOr_o, eOr_t, eOr_f, eNot_ap, eNot_o1, eNot_o2, oSome_ap, oSome_o, eChain_ap, eChain_o1, eChain_o2, eChain_t, eChain_f, eChain_o4, eChain3_ap, eChain3_o1, eChain3_o2, eChain3_t, eChain3_f, eChain3_o4, eMt_ap, eMt_o2, isLst_lst, eTupRg_ap, eTupRg_o, ixt0, ixt1, ixt2, ixt3, ixt4, negD_i, slD_lst, eV_0, eV_s, Res.bind_ok, Res.bind_ex, Res.bind_bad, Res.on_ok, Res.on_ex, Res.on_bad, SRes.bind_nx, SRes.bind_rt, SRes.bind_ex, SRes.bind_bad, List.set_cons_zero, List.set_cons_succ, addD_i, subD_i, ltD_i, leD_i, gtD_i, geD_i, eqD_i, neD_i, lenB_scr, lenB_lst, lenB_tup, truD, tyD, Ty.le, isD, isntD, isNon, killE, List.foldl_cons, List.foldl_nil, List.length_cons, List.length_nil, Nat.reduceAdd, Nat.zero_add, Nat.reduceLeDiff, if_true, if_false, Bool.false_eq_true, Bool.not_true, Bool.not_false]
        refine ⟨_, _, rfl, cs ++ [b], ?_, by rw [List.length_append, List.length_singleton]; omega, rfl, ?_⟩
        · intro q hq
          rcases List.mem_append.mp hq with hq | hq
          · exact hc1 q hq
          · rw [List.mem_singleton.mp hq]; exact hbm
        · show shrink _ _ _ = _
          rw [shrink_len (by simp), List.set_append_right _ _ (by omega), Nat.sub_self, List.set_cons_zero, List.map_append]
          rfl
      · simp only [e0, decide_eq_false h4, aCons_o2, aCons_o1, aCons_ap, eTup_o1, eTup_ap, nLst_o1, nLst_ap, eFrz_o1, eFrz_ap, eNew_o1, eNew_ap, eOp_o2, eOp_o1, eOp_ap, tNotM_o1, tNotM_ap, sDrop_o1, sDrop_ap, sRet_o1, sRet_ap, sSet_o1, sSet_ap, sPut_o3, sPut_o2, sPut_o1, sPut_ap, nSl_o3, nSl_o2, nSl_o1, nSl_ap, eSl_o3, eSl_o2, eSl_o1, eSl_ap, nCat_o2, nCat_o1, nCat_ap, nRep_o2, nRep_o1, nRep_ap, eCall_o1, eCall_ap, rOne_o1, rOne_ap, rTwo_o2, rTwo_o1, rTwo_ap, iRevR_o1, iRevR_ap, nRng_o1, nRng_ap, eIsi_o1, eIsi_ap, eC_ap, aNil_ap, sNext_ap, sSeq_ap, sRetN_ap, tTru_ap, eUn_ap, eB_ap, nB_ap, noTest_ap, eDNew_ap, oNo_ap, gSet_ap, gsNil_ap, gsCons_ap, gsCons_o, gTupM_ap, sAsg_ap, sAsg_o1, sAsg_o2, asB_ap, asB_o, tAndM_ap, tAndM_t, tAndM_f, tOrM_ap, tOrM_t, tOrM_f, sIf_ap, sIf_t, sIf_f, eIf_ap, eIf_t, eIf_f, eAnd_ap, eAnd_o, eAnd_t, eAnd_f, eOr_ap, eOr_o, eOr_t, eOr_f, eNot_ap, eNot_o1, eNot_o2, oSome_ap, oSome_o, eChain_ap, eChain_o1, eChain_o2, eChain_t, eChain_f, eChain_o4, eChain3_ap, eChain3_o1, eChain3_o2, eChain3_t, eChain3_f, eChain3_o4, eMt_ap, eMt_o2, isLst_lst, eTupRg_ap, eTupRg_o, ixt0, ixt1, ixt2, ixt3, ixt4, negD_i, slD_lst, eV_0, eV_s, Res.bind_ok, Res.bind_ex, Res.bind_bad, Res.on_ok, Res.on_ex, Res.on_bad, SRes.bind_nx, SRes.bind_rt, SRes.bind_ex, SRes.bind_bad, List.set_cons_zero, List.set_cons_succ, addD_i, subD_i, ltD_i, leD_i, gtD_i, geD_i, eqD_i, neD_i, lenB_scr, lenB_lst, lenB_tup, truD, tyD, Ty.le, isD, isntD, isNon, killE, List.foldl_cons, List.foldl_nil, List.length_cons, List.length_nil, Nat.reduceAdd, Nat.zero_add, Nat.reduceLeDiff, if_true, if_false, Bool.false_eq_true, Bool.not_true, Bool.not_false]
        exact ⟨_, _, rfl, cs, hc1, by omega, rfl, after_same⟩
  · obtain ⟨cs, hc1, hc2, rfl, rfl⟩ := hP
    refine ⟨cs, hc1, by simpa [numL] using hc2, ?_⟩
    simp only [aCons_o2, aCons_o1, aCons_ap, eTup_o1, eTup_ap, nLst_o1, nLst_ap, eFrz_o1, eFrz_ap, eNew_o1, eNew_ap, eOp_o2, eOp_o1, eOp_ap, tNotM_o1, tNotM_ap, sDrop_o1, sDrop_ap, sRet_o1, sRet_ap, sSet_o1, sSet_ap, sPut_o3, sPut_o2, sPut_o1, sPut_ap, nSl_o3, nSl_o2, nSl_o1, nSl_ap, eSl_o3, eSl_o2, eSl_o1, eSl_ap, nCat_o2, nCat_o1, nCat_ap, nRep_o2, nRep_o1, nRep_ap, sFor_o1, sFor_ap, nComp_o1, nComp_ap, eCall_o1, eCall_ap, rOne_o1, rOne_ap, rTwo_o2, rTwo_o1, rTwo_ap, iRevR_o1, iRevR_ap, nRng_o1, nRng_ap, iSeq_o1, iSeq_ap, iRev_o1, iRev_ap, eIsi_o1, eIsi_ap, eC_ap, aNil_ap, sNext_ap, sSeq_ap, sRetN_ap, tTru_ap, eUn_ap, eB_ap, nB_ap, noTest_ap, eDNew_ap, oNo_ap, gSet_ap, gsNil_ap, gsCons_ap, gsCons_o, gTupM_ap, sAsg_ap, sAsg_o1, sAsg_o2, sWhile_ap, asB_ap, asB_o, tAndM_ap, tAndM_t, tAndM_f, tOrM_ap, tOrM_t, tOrM_f, sIf_ap, sIf_t, sIf_f, eIf_ap, eIf_t, eIf_f, eAnd_ap, eAnd_o, eAnd_t, eAnd_f, eOr_ap, eOr_o, eOr_t, eOr_f, eNot_ap, eNot_o1, eNot_o2, oSome_ap, oSome_o, eChain_ap, eChain_o1, eChain_o2, eChain_t, eChain_f, eChain_o4, eChain3_ap, eChain3_o1, eChain3_o2, eChain3_t, eChain3_f, eChain3_o4, iEnum_ap, iZip_ap, eMt_ap, eMt_o2, isLst_lst, eTupRg_ap, eTupRg_o, ixt0, ixt1, ixt2, ixt3, ixt4, negD_i, slD_lst, eV_0, eV_s, Res.bind_ok, Res.bind_ex, Res.bind_bad, Res.on_ok, Res.on_ex, Res.on_bad, SRes.bind_nx, SRes.bind_rt, SRes.bind_ex, SRes.bind_bad, List.set_cons_zero, List.set_cons_succ, addD_i, subD_i, ltD_i, leD_i, gtD_i, geD_i, eqD_i, neD_i, lenB_scr, lenB_lst, lenB_tup, truD, tyD, Ty.le, isD, isntD, isNon, killE, List.foldl_cons, List.foldl_nil, List.length_cons, List.length_nil, Nat.reduceAdd, Nat.zero_add, Nat.reduceLeDiff, if_true, if_false, Bool.false_eq_true, Bool.not_true, Bool.not_false]
    exact boxes_fin cs
def tailA : SM4 := sSeq (sSet 7 (eCall 1 m_brought (aCons (eV 6) (aNil)))) (sSeq (sIf (tNotM (tTru (eCall 2 m_l_formed (aCons (eV 7) (aCons (eB lenB (aCons (eV 3) (aNil))) (aNil)))))) (sRet (eC (.bl false))) (sNext)) (sSeq (sSet 8 (eC (.int 0))) lastB))
theorem tailA_eq {w h : Pt} {rs : List (List Pt)} (F : Fl w h rs) {bs : List Box} (hl : bs.length = rs.length) {e0 e1 e2 e4 e5 e8 e11 : Option D} :
    fin true [] (tailA [e0, e1, e2, some (.lst (bs.map bxD)), e4, e5, some (flD w h rs), none, e8, none, none, e11] []) = .ok (.bl true) [] := by
  obtain ⟨A, B, hA, hAe, hb, hd⟩ := brought_eq F (st := [])
  unfold tailA
  have f4 : ∀ r ∈ rs.map (·.map (mkP A B)), r.length = 4 := fun r hr => by
    obtain ⟨q, hq, rfl⟩ := List.mem_map.mp hr
    rw [List.length_map]; exact F.four q hq
  have hwm : w ∈ nums w h rs := List.mem_cons_self
  have hhm : h ∈ nums w h rs := List.mem_cons_of_mem _ List.mem_cons_self
  have pos : ∀ p ∈ nums w h rs, 0 < p.1 → 0 < (mkP A B p).1 := by
    intro p hp h0
    have h1 := hA.s p hp
    have h2 : 0 < p.1 * (B : Int) := Int.mul_pos h0 (by have := hA.B0; omega)
    rw [h1] at h2
    exact pos_mul_pos (Int.mul_pos (by have := (hA.y p hp).1; omega) (by have := hA.A0; omega)) h2
  have hf := fun st => formed_eq (w := mkP A B w) (h := mkP A B h) (rs := rs.map (·.map (mkP A B))) (k := ((bs.length : Nat) : Int)) (st := st) (fun p hp => by
    rw [map_flat] at hp
    obtain ⟨q, _, rfl⟩ := List.mem_map.mp hp
    rfl) f4 (by rw [List.length_map]; exact F.len) (pos w hwm F.wide) (pos h hhm F.high) (by rw [List.length_map, hl])
  simp only [hb, List.length_map, hf, aCons_o2, aCons_o1, aCons_ap, eTup_o1, eTup_ap, nLst_o1, nLst_ap, eFrz_o1, eFrz_ap, eNew_o1, eNew_ap, eOp_o2, eOp_o1, eOp_ap, tNotM_o1, tNotM_ap, sDrop_o1, sDrop_ap, sRet_o1, sRet_ap, sSet_o1, sSet_ap, sPut_o3, sPut_o2, sPut_o1, sPut_ap, nSl_o3, nSl_o2, nSl_o1, nSl_ap, eSl_o3, eSl_o2, eSl_o1, eSl_ap, nCat_o2, nCat_o1, nCat_ap, nRep_o2, nRep_o1, nRep_ap, eCall_o1, eCall_ap, rOne_o1, rOne_ap, rTwo_o2, rTwo_o1, rTwo_ap, iRevR_o1, iRevR_ap, nRng_o1, nRng_ap, eIsi_o1, eIsi_ap, eC_ap, aNil_ap, sNext_ap, sSeq_ap, sRetN_ap, tTru_ap, eUn_ap, eB_ap, nB_ap, noTest_ap, eDNew_ap, oNo_ap, gSet_ap, gsNil_ap, gsCons_ap, gsCons_o, gTupM_ap, sAsg_ap, sAsg_o1, sAsg_o2, asB_ap, asB_o, tAndM_ap, tAndM_t, tAndM_f, tOrM_ap, tOrM_t, tOrM_f, sIf_ap, sIf_t, sIf_f, eIf_ap, eIf_t, eIf_f, eAnd_ap, eAnd_o, eAnd_t, eAnd_f, eOr_ap, eOr_o, eOr_t, eOr_f, eNot_ap, eNot_o1, eNot_o2, oSome_ap, oSome_o, eChain_ap, eChain_o1, eChain_o2, eChain_t, eChain_f, eChain_o4, eChain3_ap, eChain3_o1, eChain3_o2, eChain3_t, eChain3_f, eChain3_o4, eMt_ap, eMt_o2, isLst_lst, eTupRg_ap, eTupRg_o, ixt0, ixt1, ixt2, ixt3, ixt4, negD_i, slD_lst, eV_0, eV_s, Res.bind_ok, Res.bind_ex, Res.bind_bad, Res.on_ok, Res.on_ex, Res.on_bad, SRes.bind_nx, SRes.bind_rt, SRes.bind_ex, SRes.bind_bad, List.set_cons_zero, List.set_cons_succ, addD_i, subD_i, ltD_i, leD_i, gtD_i, geD_i, eqD_i, neD_i, lenB_scr, lenB_lst, lenB_tup, truD, tyD, Ty.le, isD, isntD, isNon, killE, List.foldl_cons, List.foldl_nil, List.length_cons, List.length_nil, Nat.reduceAdd, Nat.zero_add, Nat.reduceLeDiff, if_true, if_false, Bool.false_eq_true, Bool.not_true, Bool.not_false]
  exact last_eq F hA hAe hd
end K50

namespace K50
open FL PySem
def tailB : SM4 := sSeq (sSet 5 (eCall 2 m_l_lowest (aCons (eOp addD (eC (.int 1)) (eOp modD (eCall 2 m_l_cell_at (aCons (eV 0) (aCons (eC (.int 2)) (aNil)))) (eC (.int 99)))) (aCons (eOp addD (eC (.int 1)) (eOp modD (eCall 2 m_l_cell_at (aCons (eV 0) (aCons (eC (.int 3)) (aNil)))) (eC (.int 5999)))) (aNil))))) (sSeq (sSet 6 (eCall 4 m_l_floor_of (aCons (eV 3) (aCons (eV 1) (aCons (eV 2) (aCons (eV 5) (aNil))))))) (sSeq (sIf (asB (eOp eqD (eOp modD (eOp fdivD (eCall 2 m_l_cell_at (aCons (eV 0) (aCons (eC (.int 2)) (aNil)))) (eC (.int 99))) (eC (.int 3))) (eC (.int 1)))) (sSet 6 (eTup (aCons (eCall 2 m_l_lowest (aCons (eOp addD (eC (.int 1)) (eOp modD (eCall 2 m_l_cell_at (aCons (eV 0) (aCons (eC (.int 0)) (aNil)))) (eC (.int 5000)))) (aCons (eOp addD (eC (.int 1)) (eOp modD (eCall 2 m_l_cell_at (aCons (eV 0) (aCons (eC (.int 1)) (aNil)))) (eC (.int 700)))) (aNil)))) (aCons (eOp ixD (eV 6) (eC (.int 1))) (aCons (eOp ixD (eV 6) (eC (.int 2))) (aNil)))))) (sNext)) tailA))
theorem num_low {n s t : Int} (hn : n.natAbs ≤ 100000) (hs : s.natAbs ≤ 10000) (ht : 0 < t) (ht2 : t ≤ 5999) : Num (low (n * s) t) := by
  obtain ⟨h1, h2, h3, h4, _⟩ := low_facts (t := n * s) ht
  refine ⟨h1, by omega, ?_⟩
  rw [Int.natAbs_mul] at h3
  have : n.natAbs * s.natAbs ≤ 100000 * 10000 := Nat.mul_le_mul hn hs
  omega
theorem z1000 {i : Int} (h : i.natAbs ≤ 100000) : Sz 1000 i := lt_mono (a := 17) (by omega) (by decide)
theorem sc_num {s t : Int} {b : Box} (hb : BxI (-40000) 40000 b) (hs : s.natAbs ≤ 10000) (ht : 0 < t) (ht2 : t ≤ 5999) : ∀ p ∈ scP s t b, Num p := by
  obtain ⟨h1, h2, h3, h4⟩ := hb
  intro p hp
  unfold scP at hp
  simp only [List.mem_cons, List.not_mem_nil, or_false] at hp
  rcases hp with rfl | rfl | rfl | rfl
  · exact num_low (by omega) hs ht ht2
  · exact num_low (by omega) hs ht ht2
  · exact num_low (by omega) hs ht ht2
  · exact num_low (by omega) hs ht ht2
theorem floor_num {w h : Pt} {s t : Int} {bs : List Box} (hb : ∀ b ∈ bs, BxI (-40000) 40000 b) (hs : s.natAbs ≤ 10000) (ht : 0 < t) (ht2 : t ≤ 5999) (hw : Num w) (hh : Num h) (hl : bs.length ≤ 12) (w0 : 0 < w.1) (h0 : 0 < h.1) : Fl w h (bs.map (scP s t)) := by
  refine ⟨fun p hp => ?_, fun r hr => ?_, by rw [List.length_map]; exact hl, w0, h0⟩
  · unfold nums at hp
    rcases List.mem_cons.mp hp with rfl | hp
    · exact hw
    · rcases List.mem_cons.mp hp with rfl | hp
      · exact hh
      · obtain ⟨r, hr, hp⟩ := List.mem_flatten.mp hp
        obtain ⟨b, hbm, rfl⟩ := List.mem_map.mp hr
        exact sc_num (hb b hbm) hs ht ht2 p hp
  · obtain ⟨b, _, rfl⟩ := List.mem_map.mp hr
    rfl
theorem tailB_eq {ns : List Int} {wide high : Int} {bs : List Box} (hb : ∀ b ∈ bs, BxI (-40000) 40000 b) (hl : bs.length ≤ 12) (hw : 1 ≤ wide ∧ wide ≤ 10000) (hh : 1 ≤ high ∧ high ≤ 10000) {e4 e11 : Option D} :
    fin true [] (tailB [some (.scr ns), some (.int wide), some (.int high), some (.lst (bs.map bxD)), e4, none, none, none, none, none, none, e11] []) = .ok (.bl true) [] := by
  have c2 := cellv_nn ns 2
  have c3 := cellv_nn ns 3
  have c0 := cellv_nn ns 0
  have c1 := cellv_nn ns 1
  have ec : ∀ (k : Nat) st, k < 1000 → m_l_cell_at [.scr ns, .int ((k : Nat) : Int)] st = .ok (.int (cellv ns k)) st := fun k st hk => cell_eq rfl hk
  have e2 : ∀ st, m_l_cell_at [.scr ns, .int 2] st = .ok (.int (cellv ns 2)) st := fun st => ec 2 st (by decide)
  have e3 : ∀ st, m_l_cell_at [.scr ns, .int 3] st = .ok (.int (cellv ns 3)) st := fun st => ec 3 st (by decide)
  have e0 : ∀ st, m_l_cell_at [.scr ns, .int 0] st = .ok (.int (cellv ns 0)) st := fun st => ec 0 st (by decide)
  have e1 : ∀ st, m_l_cell_at [.scr ns, .int 1] st = .ok (.int (cellv ns 1)) st := fun st => ec 1 st (by decide)
  have m99 : ∀ st, modD (.int (cellv ns 2)) (.int 99) st = .ok (.int (cellv ns 2 % 99)) st := fun st => modD_i (by omega)
  have m59 : ∀ st, modD (.int (cellv ns 3)) (.int 5999) st = .ok (.int (cellv ns 3 % 5999)) st := fun st => modD_i (by omega)
  have d99 : ∀ st, fdivD (.int (cellv ns 2)) (.int 99) st = .ok (.int (cellv ns 2 / 99)) st := fun st => fdivD_i (by omega) (by decide)
  have m3 : ∀ st, modD (.int (cellv ns 2 / 99)) (.int 3) st = .ok (.int (cellv ns 2 / 99 % 3)) st := fun st => modD_i (by omega)
  have m50 : ∀ st, modD (.int (cellv ns 0)) (.int 5000) st = .ok (.int (cellv ns 0 % 5000)) st := fun st => modD_i (by omega)
  have m70 : ∀ st, modD (.int (cellv ns 1)) (.int 700) st = .ok (.int (cellv ns 1 % 700)) st := fun st => modD_i (by omega)
  have hz : ∀ {b : Int}, 0 < b → b ≤ 100000 → b.natAbs < 2 ^ 2000 := fun h1 h2 => lt_mono (a := 17) (by omega) (by decide)
  have Lw : ∀ st, m_l_lowest [.int (1 + cellv ns 2 % 99), .int (1 + cellv ns 3 % 5999)] st = .ok (prD (low (1 + cellv ns 2 % 99) (1 + cellv ns 3 % 5999))) st := fun st => lowest_eq (by omega) (hz (by omega) (by omega))
  have Lv : ∀ st, m_l_lowest [.int (1 + cellv ns 0 % 5000), .int (1 + cellv ns 1 % 700)] st = .ok (prD (low (1 + cellv ns 0 % 5000) (1 + cellv ns 1 % 700))) st := fun st => lowest_eq (by omega) (hz (by omega) (by omega))
  obtain ⟨s1, s2, s3, s4, _⟩ := low_facts (t := 1 + cellv ns 2 % 99) (b := 1 + cellv ns 3 % 5999) (by omega)
  have s5 := s4 (by omega)
  generalize hst : low (1 + cellv ns 2 % 99) (1 + cellv ns 3 % 5999) = q at *
  obtain ⟨s, t⟩ := q
  simp only at s1 s2 s3 s5
  have hs : s.natAbs ≤ 10000 := by omega
  have ht : 0 < t := by omega
  have ht2 : t ≤ 5999 := by omega
  have Lf := floor_of_eq (bs := bs) (w := wide) (h := high) (s := s) (t := t) (st := []) (fun b hbm => by
    obtain ⟨k1, k2, k3, k4⟩ := hb b hbm
    exact ⟨z1000 (by omega), z1000 (by omega), z1000 (by omega), z1000 (by omega)⟩) (by omega) (z1000 (by omega)) (z1000 (by omega)) (z1000 (by omega)) ht (lt_mono (a := 17) (by omega) (by decide))
  have w0 : 0 < (low (wide * s) t).1 := (low_facts ht).2.2.2.1 (Int.mul_pos (by omega) s5)
  have h0 : 0 < (low (high * s) t).1 := (low_facts ht).2.2.2.1 (Int.mul_pos (by omega) s5)
  have nw : Num (low (wide * s) t) := num_low (by omega) hs ht ht2
  have nh : Num (low (high * s) t) := num_low (by omega) hs ht ht2
  unfold tailB
  simp only [e0, e1, e2, e3, m99, m59, d99, m3, m50, m70, Lw, Lf, aCons_o2, aCons_o1, aCons_ap, eTup_o1, eTup_ap, nLst_o1, nLst_ap, eFrz_o1, eFrz_ap, eNew_o1, eNew_ap, eOp_o2, eOp_o1, eOp_ap, tNotM_o1, tNotM_ap, sDrop_o1, sDrop_ap, sRet_o1, sRet_ap, sSet_o1, sSet_ap, sPut_o3, sPut_o2, sPut_o1, sPut_ap, nSl_o3, nSl_o2, nSl_o1, nSl_ap, eSl_o3, eSl_o2, eSl_o1, eSl_ap, nCat_o2, nCat_o1, nCat_ap, nRep_o2, nRep_o1, nRep_ap, eCall_o1, eCall_ap, rOne_o1, rOne_ap, rTwo_o2, rTwo_o1, rTwo_ap, iRevR_o1, iRevR_ap, nRng_o1, nRng_ap, eIsi_o1, eIsi_ap, eC_ap, aNil_ap, sNext_ap, sSeq_ap, sRetN_ap, tTru_ap, eUn_ap, eB_ap, nB_ap, noTest_ap, eDNew_ap, oNo_ap, gSet_ap, gsNil_ap, gsCons_ap, gsCons_o, gTupM_ap, sAsg_ap, sAsg_o1, sAsg_o2, asB_ap, asB_o, tAndM_ap, tAndM_t, tAndM_f, tOrM_ap, tOrM_t, tOrM_f, sIf_ap, sIf_t, sIf_f, eIf_ap, eIf_t, eIf_f, eAnd_ap, eAnd_o, eAnd_t, eAnd_f, eOr_ap, eOr_o, eOr_t, eOr_f, eNot_ap, eNot_o1, eNot_o2, oSome_ap, oSome_o, eChain_ap, eChain_o1, eChain_o2, eChain_t, eChain_f, eChain_o4, eChain3_ap, eChain3_o1, eChain3_o2, eChain3_t, eChain3_f, eChain3_o4, eMt_ap, eMt_o2, isLst_lst, eTupRg_ap, eTupRg_o, ixt0, ixt1, ixt2, ixt3, ixt4, negD_i, slD_lst, eV_0, eV_s, Res.bind_ok, Res.bind_ex, Res.bind_bad, Res.on_ok, Res.on_ex, Res.on_bad, SRes.bind_nx, SRes.bind_rt, SRes.bind_ex, SRes.bind_bad, List.set_cons_zero, List.set_cons_succ, addD_i, subD_i, ltD_i, leD_i, gtD_i, geD_i, eqD_i, neD_i, lenB_scr, lenB_lst, lenB_tup, truD, tyD, Ty.le, isD, isntD, isNon, killE, List.foldl_cons, List.foldl_nil, List.length_cons, List.length_nil, Nat.reduceAdd, Nat.zero_add, Nat.reduceLeDiff, if_true, if_false, Bool.false_eq_true, Bool.not_true, Bool.not_false]
  by_cases hc : cellv ns 2 / 99 % 3 = 1
  · have ec : (cellv ns 2 / 99 % 3 == 1) = true := by simpa using hc
    simp only [ec, e0, e1, m50, m70, Lv, ixf1, ixf2, aCons_o2, aCons_o1, aCons_ap, eTup_o1, eTup_ap, nLst_o1, nLst_ap, eFrz_o1, eFrz_ap, eNew_o1, eNew_ap, eOp_o2, eOp_o1, eOp_ap, tNotM_o1, tNotM_ap, sDrop_o1, sDrop_ap, sRet_o1, sRet_ap, sSet_o1, sSet_ap, sPut_o3, sPut_o2, sPut_o1, sPut_ap, nSl_o3, nSl_o2, nSl_o1, nSl_ap, eSl_o3, eSl_o2, eSl_o1, eSl_ap, nCat_o2, nCat_o1, nCat_ap, nRep_o2, nRep_o1, nRep_ap, eCall_o1, eCall_ap, rOne_o1, rOne_ap, rTwo_o2, rTwo_o1, rTwo_ap, iRevR_o1, iRevR_ap, nRng_o1, nRng_ap, eIsi_o1, eIsi_ap, eC_ap, aNil_ap, sNext_ap, sSeq_ap, sRetN_ap, tTru_ap, eUn_ap, eB_ap, nB_ap, noTest_ap, eDNew_ap, oNo_ap, gSet_ap, gsNil_ap, gsCons_ap, gsCons_o, gTupM_ap, sAsg_ap, sAsg_o1, sAsg_o2, asB_ap, asB_o, tAndM_ap, tAndM_t, tAndM_f, tOrM_ap, tOrM_t, tOrM_f, sIf_ap, sIf_t, sIf_f, eIf_ap, eIf_t, eIf_f, eAnd_ap, eAnd_o, eAnd_t, eAnd_f, eOr_ap, eOr_o, eOr_t, eOr_f, eNot_ap, eNot_o1, eNot_o2, oSome_ap, oSome_o, eChain_ap, eChain_o1, eChain_o2, eChain_t, eChain_f, eChain_o4, eChain3_ap, eChain3_o1, eChain3_o2, eChain3_t, eChain3_f, eChain3_o4, eMt_ap, eMt_o2, isLst_lst, eTupRg_ap, eTupRg_o, ixt0, ixt1, ixt2, ixt3, ixt4, negD_i, slD_lst, eV_0, eV_s, Res.bind_ok, Res.bind_ex, Res.bind_bad, Res.on_ok, Res.on_ex, Res.on_bad, SRes.bind_nx, SRes.bind_rt, SRes.bind_ex, SRes.bind_bad, List.set_cons_zero, List.set_cons_succ, addD_i, subD_i, ltD_i, leD_i, gtD_i, geD_i, eqD_i, neD_i, lenB_scr, lenB_lst, lenB_tup, truD, tyD, Ty.le, isD, isntD, isNon, killE, List.foldl_cons, List.foldl_nil, List.length_cons, List.length_nil, Nat.reduceAdd, Nat.zero_add, Nat.reduceLeDiff, if_true, if_false, Bool.false_eq_true, Bool.not_true, Bool.not_false]
    have nv : Num (low (1 + cellv ns 0 % 5000) (1 + cellv ns 1 % 700)) := by
      obtain ⟨k1, k2, k3, k4, _⟩ := low_facts (t := 1 + cellv ns 0 % 5000) (b := 1 + cellv ns 1 % 700) (by omega)
      exact ⟨k1, by omega, by omega⟩
    have v0 : 0 < (low (1 + cellv ns 0 % 5000) (1 + cellv ns 1 % 700)).1 := (low_facts (by omega)).2.2.2.1 (by omega)
    exact tailA_eq (floor_num hb hs ht ht2 nv nh hl v0 h0) (by rw [List.length_map])
  · have ec : (cellv ns 2 / 99 % 3 == 1) = false := by simpa using hc
    simp only [ec, aCons_o2, aCons_o1, aCons_ap, eTup_o1, eTup_ap, nLst_o1, nLst_ap, eFrz_o1, eFrz_ap, eNew_o1, eNew_ap, eOp_o2, eOp_o1, eOp_ap, tNotM_o1, tNotM_ap, sDrop_o1, sDrop_ap, sRet_o1, sRet_ap, sSet_o1, sSet_ap, sPut_o3, sPut_o2, sPut_o1, sPut_ap, nSl_o3, nSl_o2, nSl_o1, nSl_ap, eSl_o3, eSl_o2, eSl_o1, eSl_ap, nCat_o2, nCat_o1, nCat_ap, nRep_o2, nRep_o1, nRep_ap, eCall_o1, eCall_ap, rOne_o1, rOne_ap, rTwo_o2, rTwo_o1, rTwo_ap, iRevR_o1, iRevR_ap, nRng_o1, nRng_ap, eIsi_o1, eIsi_ap, eC_ap, aNil_ap, sNext_ap, sSeq_ap, sRetN_ap, tTru_ap, eUn_ap, eB_ap, nB_ap, noTest_ap, eDNew_ap, oNo_ap, gSet_ap, gsNil_ap, gsCons_ap, gsCons_o, gTupM_ap, sAsg_ap, sAsg_o1, sAsg_o2, asB_ap, asB_o, tAndM_ap, tAndM_t, tAndM_f, tOrM_ap, tOrM_t, tOrM_f, sIf_ap, sIf_t, sIf_f, eIf_ap, eIf_t, eIf_f, eAnd_ap, eAnd_o, eAnd_t, eAnd_f, eOr_ap, eOr_o, eOr_t, eOr_f, eNot_ap, eNot_o1, eNot_o2, oSome_ap, oSome_o, eChain_ap, eChain_o1, eChain_o2, eChain_t, eChain_f, eChain_o4, eChain3_ap, eChain3_o1, eChain3_o2, eChain3_t, eChain3_f, eChain3_o4, eMt_ap, eMt_o2, isLst_lst, eTupRg_ap, eTupRg_o, ixt0, ixt1, ixt2, ixt3, ixt4, negD_i, slD_lst, eV_0, eV_s, Res.bind_ok, Res.bind_ex, Res.bind_bad, Res.on_ok, Res.on_ex, Res.on_bad, SRes.bind_nx, SRes.bind_rt, SRes.bind_ex, SRes.bind_bad, List.set_cons_zero, List.set_cons_succ, addD_i, subD_i, ltD_i, leD_i, gtD_i, geD_i, eqD_i, neD_i, lenB_scr, lenB_lst, lenB_tup, truD, tyD, Ty.le, isD, isntD, isNon, killE, List.foldl_cons, List.foldl_nil, List.length_cons, List.length_nil, Nat.reduceAdd, Nat.zero_add, Nat.reduceLeDiff, if_true, if_false, Bool.false_eq_true, Bool.not_true, Bool.not_false]
    exact tailA_eq (floor_num hb hs ht ht2 nw nh hl w0 h0) (by rw [List.length_map])
def tailC : SM4 := sSeq (sIf (asB (eOp eqD (eOp modD (eOp fdivD (eCall 2 m_l_cell_at (aCons (eV 0) (aCons (eC (.int 3)) (aNil)))) (eC (.int 5999))) (eC (.int 12))) (eC (.int 2)))) (sSet 3 (eFrz (nLst (aNil)))) (sNext)) tailB
theorem tailC_eq {ns : List Int} {wide high : Int} {bs : List Box} (hb : ∀ b ∈ bs, BxI (-40000) 40000 b) (hl : bs.length ≤ 12) (hw : 1 ≤ wide ∧ wide ≤ 10000) (hh : 1 ≤ high ∧ high ≤ 10000) {e4 e11 : Option D} :
    fin true [] (tailC [some (.scr ns), some (.int wide), some (.int high), some (.lst (bs.map bxD)), e4, none, none, none, none, none, none, e11] []) = .ok (.bl true) [] := by
  have c3 := cellv_nn ns 3
  have e3 : ∀ st, m_l_cell_at [.scr ns, .int 3] st = .ok (.int (cellv ns 3)) st := fun st => cell_eq (k := 3) rfl (by decide)
  have d59 : ∀ st, fdivD (.int (cellv ns 3)) (.int 5999) st = .ok (.int (cellv ns 3 / 5999)) st := fun st => fdivD_i (by omega) (by decide)
  have m12 : ∀ st, modD (.int (cellv ns 3 / 5999)) (.int 12) st = .ok (.int (cellv ns 3 / 5999 % 12)) st := fun st => modD_i (by omega)
  unfold tailC
  by_cases hc : cellv ns 3 / 5999 % 12 = 2
  · have ec : (cellv ns 3 / 5999 % 12 == 2) = true := by simpa using hc
    simp only [e3, d59, m12, ec, aCons_o2, aCons_o1, aCons_ap, eTup_o1, eTup_ap, nLst_o1, nLst_ap, eFrz_o1, eFrz_ap, eNew_o1, eNew_ap, eOp_o2, eOp_o1, eOp_ap, tNotM_o1, tNotM_ap, sDrop_o1, sDrop_ap, sRet_o1, sRet_ap, sSet_o1, sSet_ap, sPut_o3, sPut_o2, sPut_o1, sPut_ap, nSl_o3, nSl_o2, nSl_o1, nSl_ap, eSl_o3, eSl_o2, eSl_o1, eSl_ap, nCat_o2, nCat_o1, nCat_ap, nRep_o2, nRep_o1, nRep_ap, eCall_o1, eCall_ap, rOne_o1, rOne_ap, rTwo_o2, rTwo_o1, rTwo_ap, iRevR_o1, iRevR_ap, nRng_o1, nRng_ap, eIsi_o1, eIsi_ap, eC_ap, aNil_ap, sNext_ap, sSeq_ap, sRetN_ap, tTru_ap, eUn_ap, eB_ap, nB_ap, noTest_ap, eDNew_ap, oNo_ap, gSet_ap, gsNil_ap, gsCons_ap, gsCons_o, gTupM_ap, sAsg_ap, sAsg_o1, sAsg_o2, asB_ap, asB_o, tAndM_ap, tAndM_t, tAndM_f, tOrM_ap, tOrM_t, tOrM_f, sIf_ap, sIf_t, sIf_f, eIf_ap, eIf_t, eIf_f, eAnd_ap, eAnd_o, eAnd_t, eAnd_f, eOr_ap, eOr_o, eOr_t, eOr_f, eNot_ap, eNot_o1, eNot_o2, oSome_ap, oSome_o, eChain_ap, eChain_o1, eChain_o2, eChain_t, eChain_f, eChain_o4, eChain3_ap, eChain3_o1, eChain3_o2, eChain3_t, eChain3_f, eChain3_o4, eMt_ap, eMt_o2, isLst_lst, eTupRg_ap, eTupRg_o, ixt0, ixt1, ixt2, ixt3, ixt4, negD_i, slD_lst, eV_0, eV_s, Res.bind_ok, Res.bind_ex, Res.bind_bad, Res.on_ok, Res.on_ex, Res.on_bad, SRes.bind_nx, SRes.bind_rt, SRes.bind_ex, SRes.bind_bad, List.set_cons_zero, List.set_cons_succ, addD_i, subD_i, ltD_i, leD_i, gtD_i, geD_i, eqD_i, neD_i, lenB_scr, lenB_lst, lenB_tup, truD, tyD, Ty.le, isD, isntD, isNon, killE, List.foldl_cons, List.foldl_nil, List.length_cons, List.length_nil, Nat.reduceAdd, Nat.zero_add, Nat.reduceLeDiff, if_true, if_false, Bool.false_eq_true, Bool.not_true, Bool.not_false]
    exact tailB_eq (bs := []) (by simp) (by simp) hw hh
  · have ec : (cellv ns 3 / 5999 % 12 == 2) = false := by simpa using hc
    simp only [e3, d59, m12, ec, aCons_o2, aCons_o1, aCons_ap, eTup_o1, eTup_ap, nLst_o1, nLst_ap, eFrz_o1, eFrz_ap, eNew_o1, eNew_ap, eOp_o2, eOp_o1, eOp_ap, tNotM_o1, tNotM_ap, sDrop_o1, sDrop_ap, sRet_o1, sRet_ap, sSet_o1, sSet_ap, sPut_o3, sPut_o2, sPut_o1, sPut_ap, nSl_o3, nSl_o2, nSl_o1, nSl_ap, eSl_o3, eSl_o2, eSl_o1, eSl_ap, nCat_o2, nCat_o1, nCat_ap, nRep_o2, nRep_o1, nRep_ap, eCall_o1, eCall_ap, rOne_o1, rOne_ap, rTwo_o2, rTwo_o1, rTwo_ap, iRevR_o1, iRevR_ap, nRng_o1, nRng_ap, eIsi_o1, eIsi_ap, eC_ap, aNil_ap, sNext_ap, sSeq_ap, sRetN_ap, tTru_ap, eUn_ap, eB_ap, nB_ap, noTest_ap, eDNew_ap, oNo_ap, gSet_ap, gsNil_ap, gsCons_ap, gsCons_o, gTupM_ap, sAsg_ap, sAsg_o1, sAsg_o2, asB_ap, asB_o, tAndM_ap, tAndM_t, tAndM_f, tOrM_ap, tOrM_t, tOrM_f, sIf_ap, sIf_t, sIf_f, eIf_ap, eIf_t, eIf_f, eAnd_ap, eAnd_o, eAnd_t, eAnd_f, eOr_ap, eOr_o, eOr_t, eOr_f, eNot_ap, eNot_o1, eNot_o2, oSome_ap, oSome_o, eChain_ap, eChain_o1, eChain_o2, eChain_t, eChain_f, eChain_o4, eChain3_ap, eChain3_o1, eChain3_o2, eChain3_t, eChain3_f, eChain3_o4, eMt_ap, eMt_o2, isLst_lst, eTupRg_ap, eTupRg_o, ixt0, ixt1, ixt2, ixt3, ixt4, negD_i, slD_lst, eV_0, eV_s, Res.bind_ok, Res.bind_ex, Res.bind_bad, Res.on_ok, Res.on_ex, Res.on_bad, SRes.bind_nx, SRes.bind_rt, SRes.bind_ex, SRes.bind_bad, List.set_cons_zero, List.set_cons_succ, addD_i, subD_i, ltD_i, leD_i, gtD_i, geD_i, eqD_i, neD_i, lenB_scr, lenB_lst, lenB_tup, truD, tyD, Ty.le, isD, isntD, isNon, killE, List.foldl_cons, List.foldl_nil, List.length_cons, List.length_nil, Nat.reduceAdd, Nat.zero_add, Nat.reduceLeDiff, if_true, if_false, Bool.false_eq_true, Bool.not_true, Bool.not_false]
    exact tailB_eq hb hl hw hh
def tailD : SM4 := sSeq (sIf (asB (eOp eqD (eOp modD (eOp fdivD (eCall 2 m_l_cell_at (aCons (eV 0) (aCons (eC (.int 3)) (aNil)))) (eC (.int 5999))) (eC (.int 3))) (eC (.int 1)))) (sSeq (sSet 4 (eOp modD (eCall 2 m_l_cell_at (aCons (eV 0) (aCons (eC (.int 45)) (aNil)))) (eC (.int 9999)))) (sSet 3 (eFrz (nComp [11] (iSeq (eV 3)) (gSet 11) (noTest) (eTup (aCons (eOp subD (eOp ixD (eV 11) (eC (.int 0))) (eV 4)) (aCons (eOp subD (eOp ixD (eV 11) (eC (.int 1))) (eOp mulD (eC (.int 2)) (eV 4))) (aCons (eOp subD (eOp ixD (eV 11) (eC (.int 2))) (eV 4)) (aCons (eOp subD (eOp ixD (eV 11) (eC (.int 3))) (eOp mulD (eC (.int 2)) (eV 4))) (aNil)))))))))) (sNext)) tailC
theorem tailD_eq {ns : List Int} {wide high : Int} {bs : List Box} (hb : ∀ b ∈ bs, BxI 0 10000 b) (hl : bs.length ≤ 12) (hw : 1 ≤ wide ∧ wide ≤ 10000) (hh : 1 ≤ high ∧ high ≤ 10000) :
    fin true [] (tailD [some (.scr ns), some (.int wide), some (.int high), some (.lst (bs.map bxD)), none, none, none, none, none, none, none, none] []) = .ok (.bl true) [] := by
  have c3 := cellv_nn ns 3
  have c45 := cellv_nn ns 45
  have e3 : ∀ st, m_l_cell_at [.scr ns, .int 3] st = .ok (.int (cellv ns 3)) st := fun st => cell_eq (k := 3) rfl (by decide)
  have e45 : ∀ st, m_l_cell_at [.scr ns, .int 45] st = .ok (.int (cellv ns 45)) st := fun st => cell_eq (k := 45) rfl (by decide)
  have d59 : ∀ st, fdivD (.int (cellv ns 3)) (.int 5999) st = .ok (.int (cellv ns 3 / 5999)) st := fun st => fdivD_i (by omega) (by decide)
  have m3 : ∀ st, modD (.int (cellv ns 3 / 5999)) (.int 3) st = .ok (.int (cellv ns 3 / 5999 % 3)) st := fun st => modD_i (by omega)
  have m99 : ∀ st, modD (.int (cellv ns 45)) (.int 9999) st = .ok (.int (cellv ns 45 % 9999)) st := fun st => modD_i (by omega)
  unfold tailD
  by_cases hc : cellv ns 3 / 5999 % 3 = 1
  · have ec : (cellv ns 3 / 5999 % 3 == 1) = true := by simpa using hc
    simp only [e3, e45, d59, m3, m99, ec, aCons_o2, aCons_o1, aCons_ap, eTup_o1, eTup_ap, nLst_o1, nLst_ap, eFrz_o1, eFrz_ap, eNew_o1, eNew_ap, eOp_o2, eOp_o1, eOp_ap, tNotM_o1, tNotM_ap, sDrop_o1, sDrop_ap, sRet_o1, sRet_ap, sSet_o1, sSet_ap, sPut_o3, sPut_o2, sPut_o1, sPut_ap, nSl_o3, nSl_o2, nSl_o1, nSl_ap, eSl_o3, eSl_o2, eSl_o1, eSl_ap, nCat_o2, nCat_o1, nCat_ap, nRep_o2, nRep_o1, nRep_ap, eCall_o1, eCall_ap, rOne_o1, rOne_ap, rTwo_o2, rTwo_o1, rTwo_ap, iRevR_o1, iRevR_ap, nRng_o1, nRng_ap, eIsi_o1, eIsi_ap, eC_ap, aNil_ap, sNext_ap, sSeq_ap, sRetN_ap, tTru_ap, eUn_ap, eB_ap, nB_ap, noTest_ap, eDNew_ap, oNo_ap, gSet_ap, gsNil_ap, gsCons_ap, gsCons_o, gTupM_ap, sAsg_ap, sAsg_o1, sAsg_o2, asB_ap, asB_o, tAndM_ap, tAndM_t, tAndM_f, tOrM_ap, tOrM_t, tOrM_f, sIf_ap, sIf_t, sIf_f, eIf_ap, eIf_t, eIf_f, eAnd_ap, eAnd_o, eAnd_t, eAnd_f, eOr_ap, eOr_o, eOr_t, eOr_f, eNot_ap, eNot_o1, eNot_o2, oSome_ap, oSome_o, eChain_ap, eChain_o1, eChain_o2, eChain_t, eChain_f, eChain_o4, eChain3_ap, eChain3_o1, eChain3_o2, eChain3_t, eChain3_f, eChain3_o4, eMt_ap, eMt_o2, isLst_lst, eTupRg_ap, eTupRg_o, ixt0, ixt1, ixt2, ixt3, ixt4, negD_i, slD_lst, eV_0, eV_s, Res.bind_ok, Res.bind_ex, Res.bind_bad, Res.on_ok, Res.on_ex, Res.on_bad, SRes.bind_nx, SRes.bind_rt, SRes.bind_ex, SRes.bind_bad, List.set_cons_zero, List.set_cons_succ, addD_i, subD_i, ltD_i, leD_i, gtD_i, geD_i, eqD_i, neD_i, lenB_scr, lenB_lst, lenB_tup, truD, tyD, Ty.le, isD, isntD, isNon, killE, List.foldl_cons, List.foldl_nil, List.length_cons, List.length_nil, Nat.reduceAdd, Nat.zero_add, Nat.reduceLeDiff, if_true, if_false, Bool.false_eq_true, Bool.not_true, Bool.not_false]
    have a0 : 0 ≤ cellv ns 45 % 9999 := by omega
    have a1 : cellv ns 45 % 9999 < 9999 := by omega
    generalize cellv ns 45 % 9999 = z at a0 a1
    have mz : ∀ st, mulD (.int 2) (.int z) st = .ok (.int (2 * z)) st := fun st => mulD_s ⟨by omega, by omega⟩ ⟨by omega, by omega⟩
    rw [nComp_ap, iSeq_lst (ds := bs.map bxD) (st1 := []) rfl, nComp_o1]
    rw [comp_run (g := gSet 11) (f := fun d => match d with | .tup [.int a, .int b, .int c, .int e] => bxD (a - z, b - 2 * z, c - z, e - 2 * z) | _ => .non) (fun d hd => ?_) (by simp; omega)]
    · simp only [List.nil_append, aCons_o2, aCons_o1, aCons_ap, eTup_o1, eTup_ap, nLst_o1, nLst_ap, eFrz_o1, eFrz_ap, eNew_o1, eNew_ap, eOp_o2, eOp_o1, eOp_ap, tNotM_o1, tNotM_ap, sDrop_o1, sDrop_ap, sRet_o1, sRet_ap, sSet_o1, sSet_ap, sPut_o3, sPut_o2, sPut_o1, sPut_ap, nSl_o3, nSl_o2, nSl_o1, nSl_ap, eSl_o3, eSl_o2, eSl_o1, eSl_ap, nCat_o2, nCat_o1, nCat_ap, nRep_o2, nRep_o1, nRep_ap, eCall_o1, eCall_ap, rOne_o1, rOne_ap, rTwo_o2, rTwo_o1, rTwo_ap, iRevR_o1, iRevR_ap, nRng_o1, nRng_ap, eIsi_o1, eIsi_ap, eC_ap, aNil_ap, sNext_ap, sSeq_ap, sRetN_ap, tTru_ap, eUn_ap, eB_ap, nB_ap, noTest_ap, eDNew_ap, oNo_ap, gSet_ap, gsNil_ap, gsCons_ap, gsCons_o, gTupM_ap, sAsg_ap, sAsg_o1, sAsg_o2, asB_ap, asB_o, tAndM_ap, tAndM_t, tAndM_f, tOrM_ap, tOrM_t, tOrM_f, sIf_ap, sIf_t, sIf_f, eIf_ap, eIf_t, eIf_f, eAnd_ap, eAnd_o, eAnd_t, eAnd_f, eOr_ap, eOr_o, eOr_t, eOr_f, eNot_ap, eNot_o1, eNot_o2, oSome_ap, oSome_o, eChain_ap, eChain_o1, eChain_o2, eChain_t, eChain_f, eChain_o4, eChain3_ap, eChain3_o1, eChain3_o2, eChain3_t, eChain3_f, eChain3_o4, eMt_ap, eMt_o2, isLst_lst, eTupRg_ap, eTupRg_o, ixt0, ixt1, ixt2, ixt3, ixt4, negD_i, slD_lst, eV_0, eV_s, Res.bind_ok, Res.bind_ex, Res.bind_bad, Res.on_ok, Res.on_ex, Res.on_bad, SRes.bind_nx, SRes.bind_rt, SRes.bind_ex, SRes.bind_bad, List.set_cons_zero, List.set_cons_succ, addD_i, subD_i, ltD_i, leD_i, gtD_i, geD_i, eqD_i, neD_i, lenB_scr, lenB_lst, lenB_tup, truD, tyD, Ty.le, isD, isntD, isNon, killE, List.foldl_cons, List.foldl_nil, List.length_cons, List.length_nil, Nat.reduceAdd, Nat.zero_add, Nat.reduceLeDiff, if_true, if_false, Bool.false_eq_true, Bool.not_true, Bool.not_false]
      have e : (bs.map bxD).map (fun d => match d with | .tup [.int a, .int b, .int c, .int e] => bxD (a - z, b - 2 * z, c - z, e - 2 * z) | _ => .non) = (bs.map fun b => (b.1 - z, b.2.1 - 2 * z, b.2.2.1 - z, b.2.2.2 - 2 * z)).map bxD := by
        rw [List.map_map, List.map_map]; rfl
      rw [e]
      refine tailC_eq (fun b hbm => ?_) (by rw [List.length_map]; exact hl) hw hh
      obtain ⟨c, hcm, rfl⟩ := List.mem_map.mp hbm
      obtain ⟨k1, k2, k3, k4⟩ := hb c hcm
      exact ⟨by simp only; omega, by simp only; omega, by simp only; omega, by simp only; omega⟩
    · obtain ⟨b, hbm, rfl⟩ := List.mem_map.mp hd
      refine ⟨[some (.scr ns), some (.int wide), some (.int high), some (.lst (bs.map bxD)), some (.int z), none, none, none, none, none, none, some (bxD b)], rfl, ?_⟩
      simp only [bxD, mz, aCons_o2, aCons_o1, aCons_ap, eTup_o1, eTup_ap, nLst_o1, nLst_ap, eFrz_o1, eFrz_ap, eNew_o1, eNew_ap, eOp_o2, eOp_o1, eOp_ap, tNotM_o1, tNotM_ap, sDrop_o1, sDrop_ap, sRet_o1, sRet_ap, sSet_o1, sSet_ap, sPut_o3, sPut_o2, sPut_o1, sPut_ap, nSl_o3, nSl_o2, nSl_o1, nSl_ap, eSl_o3, eSl_o2, eSl_o1, eSl_ap, nCat_o2, nCat_o1, nCat_ap, nRep_o2, nRep_o1, nRep_ap, sFor_o1, sFor_ap, nComp_o1, nComp_ap, eCall_o1, eCall_ap, rOne_o1, rOne_ap, rTwo_o2, rTwo_o1, rTwo_ap, iRevR_o1, iRevR_ap, nRng_o1, nRng_ap, iSeq_o1, iSeq_ap, iRev_o1, iRev_ap, eIsi_o1, eIsi_ap, eC_ap, aNil_ap, sNext_ap, sSeq_ap, sRetN_ap, tTru_ap, eUn_ap, eB_ap, nB_ap, noTest_ap, eDNew_ap, oNo_ap, gSet_ap, gsNil_ap, gsCons_ap, gsCons_o, gTupM_ap, sAsg_ap, sAsg_o1, sAsg_o2, sWhile_ap, asB_ap, asB_o, tAndM_ap, tAndM_t, tAndM_f, tOrM_ap, tOrM_t, tOrM_f, sIf_ap, sIf_t, sIf_f, eIf_ap, eIf_t, eIf_f, eAnd_ap, eAnd_o, eAnd_t, eAnd_f, eOr_ap, eOr_o, eOr_t, eOr_f, eNot_ap, eNot_o1, eNot_o2, oSome_ap, oSome_o, eChain_ap, eChain_o1, eChain_o2, eChain_t, eChain_f, eChain_o4, eChain3_ap, eChain3_o1, eChain3_o2, eChain3_t, eChain3_f, eChain3_o4, iEnum_ap, iZip_ap, eMt_ap, eMt_o2, isLst_lst, eTupRg_ap, eTupRg_o, ixt0, ixt1, ixt2, ixt3, ixt4, negD_i, slD_lst, eV_0, eV_s, Res.bind_ok, Res.bind_ex, Res.bind_bad, Res.on_ok, Res.on_ex, Res.on_bad, SRes.bind_nx, SRes.bind_rt, SRes.bind_ex, SRes.bind_bad, List.set_cons_zero, List.set_cons_succ, addD_i, subD_i, ltD_i, leD_i, gtD_i, geD_i, eqD_i, neD_i, lenB_scr, lenB_lst, lenB_tup, truD, tyD, Ty.le, isD, isntD, isNon, killE, List.foldl_cons, List.foldl_nil, List.length_cons, List.length_nil, Nat.reduceAdd, Nat.zero_add, Nat.reduceLeDiff, if_true, if_false, Bool.false_eq_true, Bool.not_true, Bool.not_false]
  · have ec : (cellv ns 3 / 5999 % 3 == 1) = false := by simpa using hc
    simp only [e3, d59, m3, ec, aCons_o2, aCons_o1, aCons_ap, eTup_o1, eTup_ap, nLst_o1, nLst_ap, eFrz_o1, eFrz_ap, eNew_o1, eNew_ap, eOp_o2, eOp_o1, eOp_ap, tNotM_o1, tNotM_ap, sDrop_o1, sDrop_ap, sRet_o1, sRet_ap, sSet_o1, sSet_ap, sPut_o3, sPut_o2, sPut_o1, sPut_ap, nSl_o3, nSl_o2, nSl_o1, nSl_ap, eSl_o3, eSl_o2, eSl_o1, eSl_ap, nCat_o2, nCat_o1, nCat_ap, nRep_o2, nRep_o1, nRep_ap, eCall_o1, eCall_ap, rOne_o1, rOne_ap, rTwo_o2, rTwo_o1, rTwo_ap, iRevR_o1, iRevR_ap, nRng_o1, nRng_ap, eIsi_o1, eIsi_ap, eC_ap, aNil_ap, sNext_ap, sSeq_ap, sRetN_ap, tTru_ap, eUn_ap, eB_ap, nB_ap, noTest_ap, eDNew_ap, oNo_ap, gSet_ap, gsNil_ap, gsCons_ap, gsCons_o, gTupM_ap, sAsg_ap, sAsg_o1, sAsg_o2, asB_ap, asB_o, tAndM_ap, tAndM_t, tAndM_f, tOrM_ap, tOrM_t, tOrM_f, sIf_ap, sIf_t, sIf_f, eIf_ap, eIf_t, eIf_f, eAnd_ap, eAnd_o, eAnd_t, eAnd_f, eOr_ap, eOr_o, eOr_t, eOr_f, eNot_ap, eNot_o1, eNot_o2, oSome_ap, oSome_o, eChain_ap, eChain_o1, eChain_o2, eChain_t, eChain_f, eChain_o4, eChain3_ap, eChain3_o1, eChain3_o2, eChain3_t, eChain3_f, eChain3_o4, eMt_ap, eMt_o2, isLst_lst, eTupRg_ap, eTupRg_o, ixt0, ixt1, ixt2, ixt3, ixt4, negD_i, slD_lst, eV_0, eV_s, Res.bind_ok, Res.bind_ex, Res.bind_bad, Res.on_ok, Res.on_ex, Res.on_bad, SRes.bind_nx, SRes.bind_rt, SRes.bind_ex, SRes.bind_bad, List.set_cons_zero, List.set_cons_succ, addD_i, subD_i, ltD_i, leD_i, gtD_i, geD_i, eqD_i, neD_i, lenB_scr, lenB_lst, lenB_tup, truD, tyD, Ty.le, isD, isntD, isNon, killE, List.foldl_cons, List.foldl_nil, List.length_cons, List.length_nil, Nat.reduceAdd, Nat.zero_add, Nat.reduceLeDiff, if_true, if_false, Bool.false_eq_true, Bool.not_true, Bool.not_false]
    exact tailC_eq (fun b hbm => by
      obtain ⟨k1, k2, k3, k4⟩ := hb b hbm
      exact ⟨by omega, by omega, by omega, by omega⟩) hl hw hh
theorem law_true (ns : List Int) (hl : ns.length ≤ 63) : ∃ st, m_law [.scr ns] [] = .ok (.bl true) st := by
  refine ⟨[], ?_⟩
  show fin true [] (b_law [some (.scr ns), none, none, none, none, none, none, none, none, none, none, none] []) = _
  have hb : b_law = sSeq (sSet 1 (eCall 1 m_l_side (aCons (eCall 2 m_l_cell_at (aCons (eV 0) (aCons (eC (.int 0)) (aNil)))) (aNil)))) (sSeq (sSet 2 (eCall 1 m_l_side (aCons (eCall 2 m_l_cell_at (aCons (eV 0) (aCons (eC (.int 1)) (aNil)))) (aNil)))) (sSeq (sSet 3 (eCall 2 m_l_spoilt (aCons (eV 0) (aCons (eCall 6 m_l_built (aCons (eV 0) (aCons (eC (.int 4)) (aCons (eC (.int 30)) (aCons (eV 1) (aCons (eV 2) (aCons (eC (.int 12)) (aNil)))))))) (aNil))))) tailD)) := rfl
  rw [hb]
  have e0 : ∀ st, m_l_cell_at [.scr ns, .int 0] st = .ok (.int (cellv ns 0)) st := fun st => cell_eq (k := 0) rfl (by decide)
  have e1 : ∀ st, m_l_cell_at [.scr ns, .int 1] st = .ok (.int (cellv ns 1)) st := fun st => cell_eq (k := 1) rfl (by decide)
  obtain ⟨wide, w1, w2, hw⟩ := side_eq (c := cellv ns 0) (st := []) (cellv_nn ns 0)
  obtain ⟨high, h1, h2, hh⟩ := side_eq (c := cellv ns 1) (st := []) (cellv_nn ns 1)
  have hB := built_eq (ns := ns) (a := 4) (b := 30) (wide := wide) (high := high) (most := 12) (st := []) hl (by decide) (by decide) ⟨by decide, by decide⟩
  have hi := built_in (lo := 0) (hi := 10000) (ns := ns) (most := 12) (ks := (List.range (min ns.length 30 - 4)).map (4 + ·)) (bs := [(0, 0, wide, high)]) (by simp) (fun b hbm => by
    rw [List.mem_singleton.mp hbm]; exact ⟨by simp only; omega, by simp only; omega, by simp only; omega, by simp only; omega⟩)
  have hlen := built_len (ns := ns) (most := 12) (ks := (List.range (min ns.length 30 - 4)).map (4 + ·)) (bs := [(0, 0, wide, high)]) (by simp) (by simp)
  generalize builtP ns 12 ((List.range (min ns.length 30 - 4)).map (4 + ·)) [(0, 0, wide, high)] = bs at hB hi hlen
  obtain ⟨cs, k1, k2, k3⟩ := spoilt_eq (ns := ns) (bs := bs) hi (by omega) (st := [])
  simp only [e0, e1, hw, hh, aCons_o2, aCons_o1, aCons_ap, eTup_o1, eTup_ap, nLst_o1, nLst_ap, eFrz_o1, eFrz_ap, eNew_o1, eNew_ap, eOp_o2, eOp_o1, eOp_ap, tNotM_o1, tNotM_ap, sDrop_o1, sDrop_ap, sRet_o1, sRet_ap, sSet_o1, sSet_ap, sPut_o3, sPut_o2, sPut_o1, sPut_ap, nSl_o3, nSl_o2, nSl_o1, nSl_ap, eSl_o3, eSl_o2, eSl_o1, eSl_ap, nCat_o2, nCat_o1, nCat_ap, nRep_o2, nRep_o1, nRep_ap, eCall_o1, eCall_ap, rOne_o1, rOne_ap, rTwo_o2, rTwo_o1, rTwo_ap, iRevR_o1, iRevR_ap, nRng_o1, nRng_ap, eIsi_o1, eIsi_ap, eC_ap, aNil_ap, sNext_ap, sSeq_ap, sRetN_ap, tTru_ap, eUn_ap, eB_ap, nB_ap, noTest_ap, eDNew_ap, oNo_ap, gSet_ap, gsNil_ap, gsCons_ap, gsCons_o, gTupM_ap, sAsg_ap, sAsg_o1, sAsg_o2, asB_ap, asB_o, tAndM_ap, tAndM_t, tAndM_f, tOrM_ap, tOrM_t, tOrM_f, sIf_ap, sIf_t, sIf_f, eIf_ap, eIf_t, eIf_f, eAnd_ap, eAnd_o, eAnd_t, eAnd_f, eOr_ap, eOr_o, eOr_t, eOr_f, eNot_ap, eNot_o1, eNot_o2, oSome_ap, oSome_o, eChain_ap, eChain_o1, eChain_o2, eChain_t, eChain_f, eChain_o4, eChain3_ap, eChain3_o1, eChain3_o2, eChain3_t, eChain3_f, eChain3_o4, eMt_ap, eMt_o2, isLst_lst, eTupRg_ap, eTupRg_o, ixt0, ixt1, ixt2, ixt3, ixt4, negD_i, slD_lst, eV_0, eV_s, Res.bind_ok, Res.bind_ex, Res.bind_bad, Res.on_ok, Res.on_ex, Res.on_bad, SRes.bind_nx, SRes.bind_rt, SRes.bind_ex, SRes.bind_bad, List.set_cons_zero, List.set_cons_succ, addD_i, subD_i, ltD_i, leD_i, gtD_i, geD_i, eqD_i, neD_i, lenB_scr, lenB_lst, lenB_tup, truD, tyD, Ty.le, isD, isntD, isNon, killE, List.foldl_cons, List.foldl_nil, List.length_cons, List.length_nil, Nat.reduceAdd, Nat.zero_add, Nat.reduceLeDiff, if_true, if_false, Bool.false_eq_true, Bool.not_true, Bool.not_false]
  rw [show ((4 : Nat) : Int) = 4 from rfl, show ((30 : Nat) : Int) = 30 from rfl] at hB
  simp only [hB, k3, aCons_o2, aCons_o1, aCons_ap, eTup_o1, eTup_ap, nLst_o1, nLst_ap, eFrz_o1, eFrz_ap, eNew_o1, eNew_ap, eOp_o2, eOp_o1, eOp_ap, tNotM_o1, tNotM_ap, sDrop_o1, sDrop_ap, sRet_o1, sRet_ap, sSet_o1, sSet_ap, sPut_o3, sPut_o2, sPut_o1, sPut_ap, nSl_o3, nSl_o2, nSl_o1, nSl_ap, eSl_o3, eSl_o2, eSl_o1, eSl_ap, nCat_o2, nCat_o1, nCat_ap, nRep_o2, nRep_o1, nRep_ap, eCall_o1, eCall_ap, rOne_o1, rOne_ap, rTwo_o2, rTwo_o1, rTwo_ap, iRevR_o1, iRevR_ap, nRng_o1, nRng_ap, eIsi_o1, eIsi_ap, eC_ap, aNil_ap, sNext_ap, sSeq_ap, sRetN_ap, tTru_ap, eUn_ap, eB_ap, nB_ap, noTest_ap, eDNew_ap, oNo_ap, gSet_ap, gsNil_ap, gsCons_ap, gsCons_o, gTupM_ap, sAsg_ap, sAsg_o1, sAsg_o2, asB_ap, asB_o, tAndM_ap, tAndM_t, tAndM_f, tOrM_ap, tOrM_t, tOrM_f, sIf_ap, sIf_t, sIf_f, eIf_ap, eIf_t, eIf_f, eAnd_ap, eAnd_o, eAnd_t, eAnd_f, eOr_ap, eOr_o, eOr_t, eOr_f, eNot_ap, eNot_o1, eNot_o2, oSome_ap, oSome_o, eChain_ap, eChain_o1, eChain_o2, eChain_t, eChain_f, eChain_o4, eChain3_ap, eChain3_o1, eChain3_o2, eChain3_t, eChain3_f, eChain3_o4, eMt_ap, eMt_o2, isLst_lst, eTupRg_ap, eTupRg_o, ixt0, ixt1, ixt2, ixt3, ixt4, negD_i, slD_lst, eV_0, eV_s, Res.bind_ok, Res.bind_ex, Res.bind_bad, Res.on_ok, Res.on_ex, Res.on_bad, SRes.bind_nx, SRes.bind_rt, SRes.bind_ex, SRes.bind_bad, List.set_cons_zero, List.set_cons_succ, addD_i, subD_i, ltD_i, leD_i, gtD_i, geD_i, eqD_i, neD_i, lenB_scr, lenB_lst, lenB_tup, truD, tyD, Ty.le, isD, isntD, isNon, killE, List.foldl_cons, List.foldl_nil, List.length_cons, List.length_nil, Nat.reduceAdd, Nat.zero_add, Nat.reduceLeDiff, if_true, if_false, Bool.false_eq_true, Bool.not_true, Bool.not_false]
  exact tailD_eq k1 (by omega) ⟨by omega, by omega⟩ ⟨by omega, by omega⟩
end K50

namespace K50
open PySem PySem.Spec PyProof.Rows L2 FL
def spLaw (K : PySem.W.Frag) : Sp := fun vs H Q _ => ∃ (a : Addr) (ns : List Int), vs = [.ref a] ∧ SqL K H a (ns.map V.int) ∧ ns.length ≤ 63 ∧ ∀ H', Q (.bl true) H'
theorem all_mk {l : PySem.W.OpenLaw} {w : World} {K : PySem.W.Frag} {h : Heap} {mg : Str → Option Value} {fa f0 f1 f2 f3 f4 f5 f6 f7 f8 f9 f10 f11 f12 f13 f14 f15 f16 f17 f18 f19 : Addr} (X : K.In h) (G : h.Ns mainGlobals mg) (hfa : mg "law" = some (.ref fa))
    {od0 an0 od1 an1 od2 an2 od3 an3 od4 an4 od5 an5 od6 an6 od7 an7 od8 an8 od9 an9 od10 an10 od11 an11 od12 an12 od13 an13 od14 an14 od15 an15 od16 an16 od17 an17 od18 an18 od19 an19 : Option Addr} {sl0 sl1 sl2 sl3 sl4 sl5 sl6 sl7 sl8 sl9 sl10 sl11 sl12 sl13 sl14 sl15 sl16 sl17 sl18 sl19 : Array (Option Value)} {oc0 kV0 dc0 pm0 cd0 ct0 oc1 kV1 dc1 pm1 cd1 ct1 oc2 kV2 dc2 pm2 cd2 ct2 oc3 kV3 dc3 pm3 cd3 ct3 oc4 kV4 dc4 pm4 cd4 ct4 oc5 kV5 dc5 pm5 cd5 ct5 oc6 kV6 dc6 pm6 cd6 ct6 oc7 kV7 dc7 pm7 cd7 ct7 oc8 kV8 dc8 pm8 cd8 ct8 oc9 kV9 dc9 pm9 cd9 ct9 oc10 kV10 dc10 pm10 cd10 ct10 oc11 kV11 dc11 pm11 cd11 ct11 oc12 kV12 dc12 pm12 cd12 ct12 oc13 kV13 dc13 pm13 cd13 ct13 oc14 kV14 dc14 pm14 cd14 ct14 oc15 kV15 dc15 pm15 cd15 ct15 oc16 kV16 dc16 pm16 cd16 ct16 oc17 kV17 dc17 pm17 cd17 ct17 oc18 kV18 dc18 pm18 cd18 ct18 oc19 kV19 dc19 pm19 cd19 ct19 : Value} {C_NoNumber : Addr}
    (a0 : PySem.W.nsIn K mainGlobals "_law_two" = some (some (.ref f0))) (l0 : K.lookup f0 = some ⟨oc0, od0, .func (PySem.W.fnOf "_law_two" "_law_two" (defArgs s_l_two) (defBody s_l_two) (defScope s_l_two) .none kV0 dc0 pm0 an0 cd0 ct0), sl0⟩) (c0 : PySem.W.codeIn K cd0 "_law_two" = true) (k0 : PySem.W.keepIn K (.ref f0) = true)
    (a1 : PySem.W.nsIn K mainGlobals "_law_wheel" = some (some (.ref f1))) (l1 : K.lookup f1 = some ⟨oc1, od1, .func (PySem.W.fnOf "_law_wheel" "_law_wheel" (defArgs s_l_wheel) (defBody s_l_wheel) (defScope s_l_wheel) .none kV1 dc1 pm1 an1 cd1 ct1), sl1⟩) (c1 : PySem.W.codeIn K cd1 "_law_wheel" = true) (k1 : PySem.W.keepIn K (.ref f1) = true)
    (a2 : PySem.W.nsIn K mainGlobals "_law_broken" = some (some (.ref f2))) (l2 : K.lookup f2 = some ⟨oc2, od2, .func (PySem.W.fnOf "_law_broken" "_law_broken" (defArgs s_l_broken) (defBody s_l_broken) (defScope s_l_broken) .none kV2 dc2 pm2 an2 cd2 ct2), sl2⟩) (c2 : PySem.W.codeIn K cd2 "_law_broken" = true) (k2 : PySem.W.keepIn K (.ref f2) = true)
    (a3 : PySem.W.nsIn K mainGlobals "_law_cell_at" = some (some (.ref f3))) (l3 : K.lookup f3 = some ⟨oc3, od3, .func (PySem.W.fnOf "_law_cell_at" "_law_cell_at" (defArgs s_l_cell_at) (defBody s_l_cell_at) (defScope s_l_cell_at) .none kV3 dc3 pm3 an3 cd3 ct3), sl3⟩) (c3 : PySem.W.codeIn K cd3 "_law_cell_at" = true) (k3 : PySem.W.keepIn K (.ref f3) = true)
    (a4 : PySem.W.nsIn K mainGlobals "_law_built" = some (some (.ref f4))) (l4 : K.lookup f4 = some ⟨oc4, od4, .func (PySem.W.fnOf "_law_built" "_law_built" (defArgs s_l_built) (defBody s_l_built) (defScope s_l_built) .none kV4 dc4 pm4 an4 cd4 ct4), sl4⟩) (c4 : PySem.W.codeIn K cd4 "_law_built" = true) (k4 : PySem.W.keepIn K (.ref f4) = true)
    (a5 : PySem.W.nsIn K mainGlobals "_law_lowest" = some (some (.ref f5))) (l5 : K.lookup f5 = some ⟨oc5, od5, .func (PySem.W.fnOf "_law_lowest" "_law_lowest" (defArgs s_l_lowest) (defBody s_l_lowest) (defScope s_l_lowest) .none kV5 dc5 pm5 an5 cd5 ct5), sl5⟩) (c5 : PySem.W.codeIn K cd5 "_law_lowest" = true) (k5 : PySem.W.keepIn K (.ref f5) = true)
    (a6 : PySem.W.nsIn K mainGlobals "_law_scaled_one" = some (some (.ref f6))) (l6 : K.lookup f6 = some ⟨oc6, od6, .func (PySem.W.fnOf "_law_scaled_one" "_law_scaled_one" (defArgs s_l_scaled_one) (defBody s_l_scaled_one) (defScope s_l_scaled_one) .none kV6 dc6 pm6 an6 cd6 ct6), sl6⟩) (c6 : PySem.W.codeIn K cd6 "_law_scaled_one" = true) (k6 : PySem.W.keepIn K (.ref f6) = true)
    (a7 : PySem.W.nsIn K mainGlobals "_law_scaled" = some (some (.ref f7))) (l7 : K.lookup f7 = some ⟨oc7, od7, .func (PySem.W.fnOf "_law_scaled" "_law_scaled" (defArgs s_l_scaled) (defBody s_l_scaled) (defScope s_l_scaled) .none kV7 dc7 pm7 an7 cd7 ct7), sl7⟩) (c7 : PySem.W.codeIn K cd7 "_law_scaled" = true) (k7 : PySem.W.keepIn K (.ref f7) = true)
    (a8 : PySem.W.nsIn K mainGlobals "_law_floor_of" = some (some (.ref f8))) (l8 : K.lookup f8 = some ⟨oc8, od8, .func (PySem.W.fnOf "_law_floor_of" "_law_floor_of" (defArgs s_l_floor_of) (defBody s_l_floor_of) (defScope s_l_floor_of) .none kV8 dc8 pm8 an8 cd8 ct8), sl8⟩) (c8 : PySem.W.codeIn K cd8 "_law_floor_of" = true) (k8 : PySem.W.keepIn K (.ref f8) = true)
    (a9 : PySem.W.nsIn K mainGlobals "_law_numbers" = some (some (.ref f9))) (l9 : K.lookup f9 = some ⟨oc9, od9, .func (PySem.W.fnOf "_law_numbers" "_law_numbers" (defArgs s_l_numbers) (defBody s_l_numbers) (defScope s_l_numbers) .none kV9 dc9 pm9 an9 cd9 ct9), sl9⟩) (c9 : PySem.W.codeIn K cd9 "_law_numbers" = true) (k9 : PySem.W.keepIn K (.ref f9) = true)
    (a10 : PySem.W.nsIn K mainGlobals "_law_formed" = some (some (.ref f10))) (l10 : K.lookup f10 = some ⟨oc10, od10, .func (PySem.W.fnOf "_law_formed" "_law_formed" (defArgs s_l_formed) (defBody s_l_formed) (defScope s_l_formed) .none kV10 dc10 pm10 an10 cd10 ct10), sl10⟩) (c10 : PySem.W.codeIn K cd10 "_law_formed" = true) (k10 : PySem.W.keepIn K (.ref f10) = true)
    (a11 : PySem.W.nsIn K mainGlobals "_law_shared" = some (some (.ref f11))) (l11 : K.lookup f11 = some ⟨oc11, od11, .func (PySem.W.fnOf "_law_shared" "_law_shared" (defArgs s_l_shared) (defBody s_l_shared) (defScope s_l_shared) .none kV11 dc11 pm11 an11 cd11 ct11), sl11⟩) (c11 : PySem.W.codeIn K cd11 "_law_shared" = true) (k11 : PySem.W.keepIn K (.ref f11) = true)
    (a12 : PySem.W.nsIn K mainGlobals "_law_side" = some (some (.ref f12))) (l12 : K.lookup f12 = some ⟨oc12, od12, .func (PySem.W.fnOf "_law_side" "_law_side" (defArgs s_l_side) (defBody s_l_side) (defScope s_l_side) .none kV12 dc12 pm12 an12 cd12 ct12), sl12⟩) (c12 : PySem.W.codeIn K cd12 "_law_side" = true) (k12 : PySem.W.keepIn K (.ref f12) = true)
    (a13 : PySem.W.nsIn K mainGlobals "_law_spoilt" = some (some (.ref f13))) (l13 : K.lookup f13 = some ⟨oc13, od13, .func (PySem.W.fnOf "_law_spoilt" "_law_spoilt" (defArgs s_l_spoilt) (defBody s_l_spoilt) (defScope s_l_spoilt) .none kV13 dc13 pm13 an13 cd13 ct13), sl13⟩) (c13 : PySem.W.codeIn K cd13 "_law_spoilt" = true) (k13 : PySem.W.keepIn K (.ref f13) = true)
    (a14 : PySem.W.nsIn K mainGlobals "common" = some (some (.ref f14))) (l14 : K.lookup f14 = some ⟨oc14, od14, .func (PySem.W.fnOf "common" "common" (defArgs s_common) (defBody s_common) (defScope s_common) .none kV14 dc14 pm14 an14 cd14 ct14), sl14⟩) (c14 : PySem.W.codeIn K cd14 "common" = true) (k14 : PySem.W.keepIn K (.ref f14) = true)
    (a15 : PySem.W.nsIn K mainGlobals "fraction" = some (some (.ref f15))) (l15 : K.lookup f15 = some ⟨oc15, od15, .func (PySem.W.fnOf "fraction" "fraction" (defArgs s_fraction) (defBody s_fraction) (defScope s_fraction) .none kV15 dc15 pm15 an15 cd15 ct15), sl15⟩) (c15 : PySem.W.codeIn K cd15 "fraction" = true) (k15 : PySem.W.keepIn K (.ref f15) = true)
    (a16 : PySem.W.nsIn K mainGlobals "numbers_of" = some (some (.ref f16))) (l16 : K.lookup f16 = some ⟨oc16, od16, .func (PySem.W.fnOf "numbers_of" "numbers_of" (defArgs s_numbers_of) (defBody s_numbers_of) (defScope s_numbers_of) .none kV16 dc16 pm16 an16 cd16 ct16), sl16⟩) (c16 : PySem.W.codeIn K cd16 "numbers_of" = true) (k16 : PySem.W.keepIn K (.ref f16) = true)
    (a17 : PySem.W.nsIn K mainGlobals "shared_by" = some (some (.ref f17))) (l17 : K.lookup f17 = some ⟨oc17, od17, .func (PySem.W.fnOf "shared_by" "shared_by" (defArgs s_shared_by) (defBody s_shared_by) (defScope s_shared_by) .none kV17 dc17 pm17 an17 cd17 ct17), sl17⟩) (c17 : PySem.W.codeIn K cd17 "shared_by" = true) (k17 : PySem.W.keepIn K (.ref f17) = true)
    (a18 : PySem.W.nsIn K mainGlobals "brought" = some (some (.ref f18))) (l18 : K.lookup f18 = some ⟨oc18, od18, .func (PySem.W.fnOf "brought" "brought" (defArgs s_brought) (defBody s_brought) (defScope s_brought) .none kV18 dc18 pm18 an18 cd18 ct18), sl18⟩) (c18 : PySem.W.codeIn K cd18 "brought" = true) (k18 : PySem.W.keepIn K (.ref f18) = true)
    (a19 : PySem.W.nsIn K mainGlobals "law" = some (some (.ref f19))) (l19 : K.lookup f19 = some ⟨oc19, od19, .func (PySem.W.fnOf "law" "law" (defArgs s_law) (defBody s_law) (defScope s_law) .none kV19 dc19 pm19 an19 cd19 ct19), sl19⟩) (c19 : PySem.W.codeIn K cd19 "law" = true) (k19 : PySem.W.keepIn K (.ref f19) = true)
    (z_abs : PySem.W.nsIn K mainGlobals "abs" = some none)
    (z_list : PySem.W.nsIn K mainGlobals "list" = some none)
    (z_tuple : PySem.W.nsIn K mainGlobals "tuple" = some none)
    (z_len : PySem.W.nsIn K mainGlobals "len" = some none)
    (z_range : PySem.W.nsIn K mainGlobals "range" = some none)
    (z_min : PySem.W.nsIn K mainGlobals "min" = some none)
    (z_enumerate : PySem.W.nsIn K mainGlobals "enumerate" = some none)
    (z_isinstance : PySem.W.nsIn K mainGlobals "isinstance" = some none)
    (z_all : PySem.W.nsIn K mainGlobals "all" = some none)
    (z_int : PySem.W.nsIn K mainGlobals "int" = some none)
    (z_bool : PySem.W.nsIn K mainGlobals "bool" = some none)
    (z_zip : PySem.W.nsIn K mainGlobals "zip" = some none)
    (ac_NoNumber : PySem.W.nsIn K mainGlobals (Str.ofString "NoNumber") = some (some (.ref C_NoNumber)))
    (kc_NoNumber : PySem.W.keepIn K (.ref C_NoNumber) = true) (bc_NoNumber : PySem.W.subIn K (.ref C_NoNumber) (.type "BaseException") = some true) (tc_NoNumber : PySem.W.typeIn K (.ref C_NoNumber) = some (.type "type")) (qc_NoNumber : PySem.W.excIn K C_NoNumber [.type "ValueError", .type "Exception", .type "BaseException", .type "object"] "ValueError.__new__" = true) :
    ∃ fd : FuncData, (∀ (s : Shared) (v : Value), BindsTo s fd ⟨[v], []⟩ [("_law_script", v)]) ∧ ∀ base : Heap, K.In base → base.Ns mainGlobals mg → FnOk l.prog w K mg base (L2.CX l.prog w) 5 fa fd ["_law_script"] (spLaw K) := by
  have e := hfa.symm.trans (PySem.W.mg_of X G a19)
  cases e
  have d0 : DefAt K mg "_law_two" s_l_two ["_law_low", "_law_high", "_law_cell"] := defAt_mk X G a0 l0 c0 k0 fun F => F.binds (ps := ["_law_low", "_law_high", "_law_cell"]) fun _ _ _ _ _ _ us hl => match us, hl with | [_, _, _], _ => rfl
  have d1 : DefAt K mg "_law_wheel" s_l_wheel ["_law_box", "_law_x", "_law_y", "_law_way"] := defAt_mk X G a1 l1 c1 k1 fun F => F.binds (ps := ["_law_box", "_law_x", "_law_y", "_law_way"]) fun _ _ _ _ _ _ us hl => match us, hl with | [_, _, _, _], _ => rfl
  have d2 : DefAt K mg "_law_broken" s_l_broken ["_law_box", "_law_cell"] := defAt_mk X G a2 l2 c2 k2 fun F => F.binds (ps := ["_law_box", "_law_cell"]) fun _ _ _ _ _ _ us hl => match us, hl with | [_, _], _ => rfl
  have d3 : DefAt K mg "_law_cell_at" s_l_cell_at ["_law_script", "_law_k"] := defAt_mk X G a3 l3 c3 k3 fun F => F.binds (ps := ["_law_script", "_law_k"]) fun _ _ _ _ _ _ us hl => match us, hl with | [_, _], _ => rfl
  have d4 : DefAt K mg "_law_built" s_l_built ["_law_script", "_law_first", "_law_last", "_law_wide", "_law_high", "_law_most"] := defAt_mk X G a4 l4 c4 k4 fun F => F.binds (ps := ["_law_script", "_law_first", "_law_last", "_law_wide", "_law_high", "_law_most"]) fun _ _ _ _ _ _ us hl => match us, hl with | [_, _, _, _, _, _], _ => rfl
  have d5 : DefAt K mg "_law_lowest" s_l_lowest ["_law_top", "_law_bottom"] := defAt_mk X G a5 l5 c5 k5 fun F => F.binds (ps := ["_law_top", "_law_bottom"]) fun _ _ _ _ _ _ us hl => match us, hl with | [_, _], _ => rfl
  have d6 : DefAt K mg "_law_scaled_one" s_l_scaled_one ["_law_number", "_law_scale"] := defAt_mk X G a6 l6 c6 k6 fun F => F.binds (ps := ["_law_number", "_law_scale"]) fun _ _ _ _ _ _ us hl => match us, hl with | [_, _], _ => rfl
  have d7 : DefAt K mg "_law_scaled" s_l_scaled ["_law_box", "_law_scale"] := defAt_mk X G a7 l7 c7 k7 fun F => F.binds (ps := ["_law_box", "_law_scale"]) fun _ _ _ _ _ _ us hl => match us, hl with | [_, _], _ => rfl
  have d8 : DefAt K mg "_law_floor_of" s_l_floor_of ["_law_boxes", "_law_wide", "_law_high", "_law_scale"] := defAt_mk X G a8 l8 c8 k8 fun F => F.binds (ps := ["_law_boxes", "_law_wide", "_law_high", "_law_scale"]) fun _ _ _ _ _ _ us hl => match us, hl with | [_, _, _, _], _ => rfl
  have d9 : DefAt K mg "_law_numbers" s_l_numbers ["_law_floor"] := defAt_mk X G a9 l9 c9 k9 fun F => F.binds (ps := ["_law_floor"]) fun _ _ _ _ _ _ us hl => match us, hl with | [_], _ => rfl
  have d10 : DefAt K mg "_law_formed" s_l_formed ["_law_floor", "_law_many"] := defAt_mk X G a10 l10 c10 k10 fun F => F.binds (ps := ["_law_floor", "_law_many"]) fun _ _ _ _ _ _ us hl => match us, hl with | [_, _], _ => rfl
  have d11 : DefAt K mg "_law_shared" s_l_shared ["_law_one", "_law_other"] := defAt_mk X G a11 l11 c11 k11 fun F => F.binds (ps := ["_law_one", "_law_other"]) fun _ _ _ _ _ _ us hl => match us, hl with | [_, _], _ => rfl
  have d12 : DefAt K mg "_law_side" s_l_side ["_law_cell"] := defAt_mk X G a12 l12 c12 k12 fun F => F.binds (ps := ["_law_cell"]) fun _ _ _ _ _ _ us hl => match us, hl with | [_], _ => rfl
  have d13 : DefAt K mg "_law_spoilt" s_l_spoilt ["_law_script", "_law_boxes"] := defAt_mk X G a13 l13 c13 k13 fun F => F.binds (ps := ["_law_script", "_law_boxes"]) fun _ _ _ _ _ _ us hl => match us, hl with | [_, _], _ => rfl
  have d14 : DefAt K mg "common" s_common ["one", "other"] := defAt_mk X G a14 l14 c14 k14 fun F => F.binds (ps := ["one", "other"]) fun _ _ _ _ _ _ us hl => match us, hl with | [_, _], _ => rfl
  have d15 : DefAt K mg "fraction" s_fraction ["top", "bottom"] := defAt_mk X G a15 l15 c15 k15 fun F => F.binds (ps := ["top", "bottom"]) fun _ _ _ _ _ _ us hl => match us, hl with | [_, _], _ => rfl
  have d16 : DefAt K mg "numbers_of" s_numbers_of ["floor"] := defAt_mk X G a16 l16 c16 k16 fun F => F.binds (ps := ["floor"]) fun _ _ _ _ _ _ us hl => match us, hl with | [_], _ => rfl
  have d17 : DefAt K mg "shared_by" s_shared_by ["one", "other"] := defAt_mk X G a17 l17 c17 k17 fun F => F.binds (ps := ["one", "other"]) fun _ _ _ _ _ _ us hl => match us, hl with | [_, _], _ => rfl
  have d18 : DefAt K mg "brought" s_brought ["floor"] := defAt_mk X G a18 l18 c18 k18 fun F => F.binds (ps := ["floor"]) fun _ _ _ _ _ _ us hl => match us, hl with | [_], _ => rfl
  have d19 : DefAt K mg "law" s_law ["_law_script"] := defAt_mk X G a19 l19 c19 k19 fun F => F.binds (ps := ["_law_script"]) fun _ _ _ _ _ _ us hl => match us, hl with | [_], _ => rfl
  have F : Facts K mg := ⟨d0, d1, d2, d3, d4, d5, d6, d7, d8, d9, d10, d11, d12, d13, d14, d15, d16, d17, d18, d19, PySem.W.mg_none_of X G z_abs, PySem.W.mg_none_of X G z_list, PySem.W.mg_none_of X G z_tuple, PySem.W.mg_none_of X G z_len, PySem.W.mg_none_of X G z_range, PySem.W.mg_none_of X G z_min, PySem.W.mg_none_of X G z_enumerate, PySem.W.mg_none_of X G z_isinstance, PySem.W.mg_none_of X G z_all, PySem.W.mg_none_of X G z_int, PySem.W.mg_none_of X G z_bool, PySem.W.mg_none_of X G z_zip, ⟨C_NoNumber, ac_NoNumber, PySem.W.mg_of X G ac_NoNumber, kc_NoNumber, bc_NoNumber, tc_NoNumber, qc_NoNumber⟩⟩
  refine ⟨PySem.W.fnOf "law" "law" (defArgs s_law) (defBody s_law) (defScope s_law) .none kV19 dc19 pm19 an19 cd19 ct19, fun s v => .of_eq rfl, fun base _ _ => ?_⟩
  exact (ok_law F (fun_mk l19 c19 k19)).imp (law_sp law_true)
end K50
open PySem PySem.W PyProof.Rows
set_option maxHeartbeats 0 in
theorem PySem.Challenge.cw_currentfloor_k50_brought_holds : PySem.Challenge.rw_currentfloor_k50_brought.Holds := by
  w_on; o_law; k_head; (case hw => w_witness2)
  k_fill
  refine L2.walk_of (l := PySem.Challenge.rw_currentfloor_k50_brought) (n := 63) (k := 5) (x := "_law_script") (CX := fun w => L2.CX PySem.Challenge.rw_currentfloor_k50_brought.prog w) (sp := fun w => K50.spLaw _) rfl (by decide) rfl ⟨rfl, by decide, by decide⟩ (fun w h Y => PySem.W.kIn_of Y) ?F (fun _ _ a ns hl _ hS => ⟨a, ns, rfl, hS, hl, fun _ => rfl⟩) (fun _ _ _ _ _ h => FL.cx_false h)
  case F =>
    intro w mg fa h KX G hmg
    refine' K50.all_mk KX G hmg ?a0 ?l0 ?c0 ?k0 ?a1 ?l1 ?c1 ?k1 ?a2 ?l2 ?c2 ?k2 ?a3 ?l3 ?c3 ?k3 ?a4 ?l4 ?c4 ?k4 ?a5 ?l5 ?c5 ?k5 ?a6 ?l6 ?c6 ?k6 ?a7 ?l7 ?c7 ?k7 ?a8 ?l8 ?c8 ?k8 ?a9 ?l9 ?c9 ?k9 ?a10 ?l10 ?c10 ?k10 ?a11 ?l11 ?c11 ?k11 ?a12 ?l12 ?c12 ?k12 ?a13 ?l13 ?c13 ?k13 ?a14 ?l14 ?c14 ?k14 ?a15 ?l15 ?c15 ?k15 ?a16 ?l16 ?c16 ?k16 ?a17 ?l17 ?c17 ?k17 ?a18 ?l18 ?c18 ?k18 ?a19 ?l19 ?c19 ?k19 ?z_abs ?z_list ?z_tuple ?z_len ?z_range ?z_min ?z_enumerate ?z_isinstance ?z_all ?z_int ?z_bool ?z_zip ?ac_NoNumber ?kc_NoNumber ?bc_NoNumber ?tc_NoNumber ?qc_NoNumber
    (case a0 => k_is); (case l0 => k_is); (case c0 => k_is); (case k0 => k_is); (case a1 => k_is); (case l1 => k_is); (case c1 => k_is); (case k1 => k_is); (case a2 => k_is); (case l2 => k_is); (case c2 => k_is); (case k2 => k_is); (case a3 => k_is); (case l3 => k_is); (case c3 => k_is); (case k3 => k_is); (case a4 => k_is); (case l4 => k_is); (case c4 => k_is); (case k4 => k_is); (case a5 => k_is); (case l5 => k_is); (case c5 => k_is); (case k5 => k_is); (case a6 => k_is); (case l6 => k_is); (case c6 => k_is); (case k6 => k_is); (case a7 => k_is); (case l7 => k_is); (case c7 => k_is); (case k7 => k_is); (case a8 => k_is); (case l8 => k_is); (case c8 => k_is); (case k8 => k_is); (case a9 => k_is); (case l9 => k_is); (case c9 => k_is); (case k9 => k_is); (case a10 => k_is); (case l10 => k_is); (case c10 => k_is); (case k10 => k_is); (case a11 => k_is); (case l11 => k_is); (case c11 => k_is); (case k11 => k_is); (case a12 => k_is); (case l12 => k_is); (case c12 => k_is); (case k12 => k_is); (case a13 => k_is); (case l13 => k_is); (case c13 => k_is); (case k13 => k_is); (case a14 => k_is); (case l14 => k_is); (case c14 => k_is); (case k14 => k_is); (case a15 => k_is); (case l15 => k_is); (case c15 => k_is); (case k15 => k_is); (case a16 => k_is); (case l16 => k_is); (case c16 => k_is); (case k16 => k_is); (case a17 => k_is); (case l17 => k_is); (case c17 => k_is); (case k17 => k_is); (case a18 => k_is); (case l18 => k_is); (case c18 => k_is); (case k18 => k_is); (case a19 => k_is); (case l19 => k_is); (case c19 => k_is); (case k19 => k_is); (case z_abs => k_is); (case z_list => k_is); (case z_tuple => k_is); (case z_len => k_is); (case z_range => k_is); (case z_min => k_is); (case z_enumerate => k_is); (case z_isinstance => k_is); (case z_all => k_is); (case z_int => k_is); (case z_bool => k_is); (case z_zip => k_is); (case ac_NoNumber => k_is); (case kc_NoNumber => k_is); (case bc_NoNumber => k_is); (case tc_NoNumber => k_is); (case qc_NoNumber => k_exc)
