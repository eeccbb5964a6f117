import PyProof.Rows.All
import Wide.All
import OpenK.AllK
import Wide.FinOn
import HandS.ForMost
import HandS.Exc
import HandS.Lambda
import HandS.IsInst
import HandS.TupAny
import HandS.Flow
import HandS.Deep
import HandS.More
import HandS.TryOnly
import HandS.Walk
import HandS.WordsExc
import HandS.SetKeys
import HandS.SortInts
import HandS.FStr
import HandS.Small
import HandS.StrMore
import HandS.MakeKwOnly
import HandS.Style
import HandS.ExcInit
import HandS.ExcField
import HandS.ExcIs
import KE.KExcIs
import KE.KExcInit
import HandS.GenList
import HandS.Ends
import HandS.Property
import KE.KCallOwn
import HandS.RaiseMore
import HandS.OwnEq
import HandS.EndTab
import KE.KNestM
import PySem.Challenge.RW_settingsmerge_k06_lookups_of_any_object
set_option Elab.async false
set_option linter.all false
set_option maxRecDepth 100000
set_option autoImplicit false
/-! VLa: data D, mutable cells, how they lie in the heap. -/
namespace VL
open PySem PySem.Spec PyProof.Rows L2

/-- data that does not change -/
inductive D where
  | non | bl (b : Bool) | int (i : Int) | str (x : Str) | ty (n : String) | obj (a : Addr)
  | tup (ds : List D) | lst (ds : List D) | dct (kvs : List (Key × D)) | ins (C : Addr) (fs : List (Str × D))
  | scr (ns : List Int)
  | exc (a : Addr) (d : Option Addr) (c : Value) (fs : List (Str × D))
/-- a value: data, or a cell -/
inductive U where
  | d (x : D) | ref (n : Nat)
/-- what a cell holds -/
inductive O where
  | lst (us : List U) | tup (us : List U) | dct (kvs : List (Key × U)) | ins (C : Addr) (fs : List (Str × U))
  | tbl (P : Addr) (q : Str)
abbrev Store := List O
abbrev VEnv := List (Option U)

def LsV (m : List Addr) (H : Hp) (a : Addr) (vs : List V) : Prop := a ∉ m ∧ H a = some (.lst vs)
/-- the script -/
def ScV (K : PySem.W.Frag) (m : List Addr) (H : Hp) (a : Addr) (vs : List V) : Prop := (a ∉ m ∧ ∃ ob, H a = some (.frz ob (.lst vs))) ∨ SqL K (fun _ => none) a vs
def TpV (K : PySem.W.Frag) (m : List Addr) (H : Hp) (a : Addr) (vs : List V) : Prop := (a ∉ m ∧ H a = some (.tup vs)) ∨ SqT K (fun _ => none) a vs

mutual
def RpD (K : PySem.W.Frag) (m : List Addr) (H : Hp) : D → V → Prop
  | .non, v => v = .non
  | .bl b, v => v = .bl b
  | .int i, v => v = .int i
  | .str x, v => v = .str x
  | .ty n, v => v = .ty n
  | .obj a, v => v = .ref a
  | .tup ds, v => ∃ a vs, v = .ref a ∧ TpV K m H a vs ∧ RpDs K m H ds vs
  | .lst ds, v => ∃ a vs, v = .ref a ∧ LsV m H a vs ∧ RpDs K m H ds vs
  | .dct kvs, v => ∃ a vs, v = .ref a ∧ (a ∉ m ∧ Rd H a (.dK vs)) ∧ RpK K m H kvs vs
  | .ins C fs, v => ∃ a dx vs, v = .ref a ∧ (a ∉ m ∧ H a = some (.ins C dx vs)) ∧ RpF K m H fs vs
  | .scr ns, v => ∃ a, v = .ref a ∧ ScV K m H a (ns.map V.int)
  | .exc a d _ fs, v => v = .ref a ∧ (fs = [] ∨ ∃ dd vs, d = some dd ∧ (dd ∉ m ∧ H dd = some (.xd vs)) ∧ RpF K m H fs vs)
def RpDs (K : PySem.W.Frag) (m : List Addr) (H : Hp) : List D → List V → Prop
  | [], vs => vs = []
  | d :: ds, vs => ∃ v r, vs = v :: r ∧ RpD K m H d v ∧ RpDs K m H ds r
def RpK (K : PySem.W.Frag) (m : List Addr) (H : Hp) : List (Key × D) → List (Key × V) → Prop
  | [], vs => vs = []
  | (k, d) :: ds, vs => ∃ v r, vs = (k, v) :: r ∧ RpD K m H d v ∧ RpK K m H ds r
def RpF (K : PySem.W.Frag) (m : List Addr) (H : Hp) : List (Str × D) → List (Str × V) → Prop
  | [], vs => vs = []
  | (k, d) :: ds, vs => ∃ v r, vs = (k, v) :: r ∧ RpD K m H d v ∧ RpF K m H ds r
end

/-- what is data stays: all but dicts exactly, dicts readable -/
structure Stay (m : List Addr) (H : Hp) (m' : List Addr) (H' : Hp) : Prop where
  ex : ∀ (a : Addr) (o : HO), a ∉ m → H a = some o → (∀ kvs, o ≠ .dK kvs) → (∀ ps, o ≠ .tbl ps) → H' a = some o ∧ a ∉ m'
  dk : ∀ (a : Addr) (kvs : List (Key × V)), a ∉ m → Rd H a (.dK kvs) → Rd H' a (.dK kvs) ∧ a ∉ m'
/-- exactly -/
structure Ext (m : List Addr) (H : Hp) (m' : List Addr) (H' : Hp) : Prop where
  pre : m <+: m'
  stay : ∀ a o, a ∉ m → H a = some o → (∀ ps, o ≠ .tbl ps) → H' a = some o ∧ a ∉ m'
theorem Ext.toStay {m m' : List Addr} {H H' : Hp} (e : Ext m H m' H') : Stay m H m' H' := ⟨fun a o n r _ nt => e.stay a o n r nt, fun a u n r => by
  rcases r with r | ⟨o, r⟩
  · exact ⟨.inl (e.stay a _ n r fun _ z => nomatch z).1, (e.stay a _ n r fun _ z => nomatch z).2⟩
  · exact ⟨.inr ⟨o, (e.stay a _ n r fun _ z => nomatch z).1⟩, (e.stay a _ n r fun _ z => nomatch z).2⟩⟩
theorem Ext.refl (m : List Addr) (H : Hp) : Ext m H m H := ⟨List.prefix_refl m, fun _ _ n h _ => ⟨h, n⟩⟩
theorem Ext.trans {m m1 m2 : List Addr} {H H1 H2 : Hp} (a : Ext m H m1 H1) (b : Ext m1 H1 m2 H2) : Ext m H m2 H2 :=
  ⟨a.pre.trans b.pre, fun x o n h nt => let ⟨h1, n1⟩ := a.stay x o n h nt; b.stay x o n1 h1 nt⟩

section
variable {K : PySem.W.Frag} {m m' : List Addr} {H H' : Hp}
theorem LsV.stay {a : Addr} {vs : List V} (s : Stay m H m' H') (h : LsV m H a vs) : LsV m' H' a vs := ⟨(s.ex a _ h.1 h.2 (fun _ z => nomatch z) fun _ z => nomatch z).2, (s.ex a _ h.1 h.2 (fun _ z => nomatch z) fun _ z => nomatch z).1⟩
theorem ScV.stay {a : Addr} {vs : List V} (s : Stay m H m' H') (h : ScV K m H a vs) : ScV K m' H' a vs := by
  rcases h with ⟨n, ob, r⟩ | h
  · exact .inl ⟨(s.ex a _ n r (fun _ z => nomatch z) fun _ z => nomatch z).2, ob, (s.ex a _ n r (fun _ z => nomatch z) fun _ z => nomatch z).1⟩
  · exact .inr h
theorem TpV.stay {a : Addr} {vs : List V} (s : Stay m H m' H') (h : TpV K m H a vs) : TpV K m' H' a vs := by
  rcases h with ⟨n, r⟩ | h
  · exact .inl ⟨(s.ex a _ n r (fun _ z => nomatch z) fun _ z => nomatch z).2, (s.ex a _ n r (fun _ z => nomatch z) fun _ z => nomatch z).1⟩
  · exact .inr h
theorem LsV.sq {a : Addr} {vs : List V} (h : LsV m H a vs) : SqL K H a vs := .inl (.inl h.2)
theorem ScV.sq {a : Addr} {vs : List V} (h : ScV K m H a vs) : SqL K H a vs := by
  rcases h with ⟨_, r⟩ | (r | ⟨_, r⟩) | r
  · exact .inl (.inr r)
  · cases r
  · cases r
  · exact .inr r
theorem TpV.sq {a : Addr} {vs : List V} (h : TpV K m H a vs) : SqT K H a vs := by
  rcases h with ⟨_, r⟩ | (r | ⟨_, r⟩) | r
  · exact .inl (.inl r)
  · cases r
  · cases r
  · exact .inr r
mutual
theorem RpD.stay (s : Stay m H m' H') : ∀ (d : D) (v : V), RpD K m H d v → RpD K m' H' d v
  | .non, _, h => h
  | .bl _, _, h => h
  | .int _, _, h => h
  | .str _, _, h => h
  | .ty _, _, h => h
  | .obj _, _, h => h
  | .tup ds, _, ⟨a, vs, e, t, r⟩ => ⟨a, vs, e, t.stay s, RpDs.stay s ds vs r⟩
  | .lst ds, _, ⟨a, vs, e, t, r⟩ => ⟨a, vs, e, t.stay s, RpDs.stay s ds vs r⟩
  | .dct ks, _, ⟨a, vs, e, t, r⟩ => ⟨a, vs, e, ⟨(s.dk a _ t.1 t.2).2, (s.dk a _ t.1 t.2).1⟩, RpK.stay s ks vs r⟩
  | .ins C fs, _, ⟨a, dx, vs, e, t, r⟩ => ⟨a, dx, vs, e, ⟨(s.ex a _ t.1 t.2 (fun _ z => nomatch z) fun _ z => nomatch z).2, (s.ex a _ t.1 t.2 (fun _ z => nomatch z) fun _ z => nomatch z).1⟩, RpF.stay s fs vs r⟩
  | .scr ns, _, ⟨a, e, t⟩ => ⟨a, e, t.stay s⟩
  | .exc _ _ _ fs, _, ⟨e, .inl h⟩ => ⟨e, .inl h⟩
  | .exc _ _ _ fs, _, ⟨e, .inr ⟨dd, vs, q, t, r⟩⟩ => ⟨e, .inr ⟨dd, vs, q, ⟨(s.ex dd _ t.1 t.2 (fun _ z => nomatch z) fun _ z => nomatch z).2, (s.ex dd _ t.1 t.2 (fun _ z => nomatch z) fun _ z => nomatch z).1⟩, RpF.stay s fs vs r⟩⟩
theorem RpDs.stay (s : Stay m H m' H') : ∀ (ds : List D) (vs : List V), RpDs K m H ds vs → RpDs K m' H' ds vs
  | [], _, h => h
  | d :: ds, _, ⟨v, r, e, h1, h2⟩ => ⟨v, r, e, RpD.stay s d v h1, RpDs.stay s ds r h2⟩
theorem RpK.stay (s : Stay m H m' H') : ∀ (ds : List (Key × D)) (vs : List (Key × V)), RpK K m H ds vs → RpK K m' H' ds vs
  | [], _, h => h
  | (_, d) :: ds, _, ⟨v, r, e, h1, h2⟩ => ⟨v, r, e, RpD.stay s d v h1, RpK.stay s ds r h2⟩
theorem RpF.stay (s : Stay m H m' H') : ∀ (ds : List (Str × D)) (vs : List (Str × V)), RpF K m H ds vs → RpF K m' H' ds vs
  | [], _, h => h
  | (_, d) :: ds, _, ⟨v, r, e, h1, h2⟩ => ⟨v, r, e, RpD.stay s d v h1, RpF.stay s ds r h2⟩
end
theorem RpD.ext (e : Ext m H m' H') {d : D} {v : V} (h : RpD K m H d v) : RpD K m' H' d v := RpD.stay e.toStay d v h
theorem RpDs.ext (e : Ext m H m' H') {d : List D} {v : List V} (h : RpDs K m H d v) : RpDs K m' H' d v := RpDs.stay e.toStay d v h
theorem RpF.ext (e : Ext m H m' H') {d : List (Str × D)} {v : List (Str × V)} (h : RpF K m H d v) : RpF K m' H' d v := RpF.stay e.toStay d v h
theorem RpK.ext (e : Ext m H m' H') {d : List (Key × D)} {v : List (Key × V)} (h : RpK K m H d v) : RpK K m' H' d v := RpK.stay e.toStay d v h
end

def RpU (K : PySem.W.Frag) (m : List Addr) (H : Hp) : U → V → Prop
  | .d x, v => RpD K m H x v
  | .ref n, v => ∃ a, m[n]? = some a ∧ v = .ref a
def RpUs (K : PySem.W.Frag) (m : List Addr) (H : Hp) : List U → List V → Prop
  | [], vs => vs = []
  | u :: us, vs => ∃ v r, vs = v :: r ∧ RpU K m H u v ∧ RpUs K m H us r
def RpUK (K : PySem.W.Frag) (m : List Addr) (H : Hp) : List (Key × U) → List (Key × V) → Prop
  | [], vs => vs = []
  | (k, u) :: us, vs => ∃ v r, vs = (k, v) :: r ∧ RpU K m H u v ∧ RpUK K m H us r
def RpUF (K : PySem.W.Frag) (m : List Addr) (H : Hp) : List (Str × U) → List (Str × V) → Prop
  | [], vs => vs = []
  | (k, u) :: us, vs => ∃ v r, vs = (k, v) :: r ∧ RpU K m H u v ∧ RpUF K m H us r
def RpO (K : PySem.W.Frag) (m : List Addr) (H : Hp) (b : Addr) : O → HO → Prop
  | .lst us, o => ∃ vs, o = .lst vs ∧ RpUs K m H us vs
  | .tup us, o => ∃ vs, o = .tup vs ∧ RpUs K m H us vs
  | .dct us, o => ∃ vs, o = .dK vs ∧ RpUK K m H us vs
  | .ins C us, o => ∃ dx vs, o = .ins C dx vs ∧ RpUF K m H us vs
  | .tbl P q, o => b = P ∧ ∃ ps : Array Value, o = .tbl ps ∧ TriplesOk ps.toList ∧ ∀ (pos : Pos) (cv : Value), codeAmong pos ps.toList = some cv → ∃ c, cv = .ref c ∧ c ∉ m ∧ H c = some (LamX.CodeO c q)
structure Rep (K : PySem.W.Frag) (m : List Addr) (st : Store) (H : Hp) : Prop where
  len : m.length = st.length
  nd : m.Nodup
  cell : ∀ (n : Nat) (o : O) (a : Addr), st[n]? = some o → m[n]? = some a → ∃ ho, H a = some ho ∧ RpO K m H a o ho
/-- the frame's names -/
structure RpEnv (K : PySem.W.Frag) (m : List Addr) (H : Hp) (env : VEnv) (σ : L2.St) : Prop where
  len : env.length = σ.length
  at' : ∀ (i : Nat) (u : U), env[i]? = some (some u) → ∃ v, σ[i]? = some (some v) ∧ RpU K m H u v

section
variable {K : PySem.W.Frag} {m m' : List Addr} {H H' : Hp} {st : Store}
theorem RpU.stay (p : m <+: m') (s : Stay m H m' H') : ∀ (u : U) (v : V), RpU K m H u v → RpU K m' H' u v
  | .d x, v, h => RpD.stay s x v h
  | .ref n, v, ⟨a, e, h⟩ => ⟨a, by
    obtain ⟨t, rfl⟩ := p
    rw [List.getElem?_append_left (List.getElem?_eq_some_iff.mp e).1]; exact e, h⟩
theorem RpUs.stay (p : m <+: m') (s : Stay m H m' H') : ∀ (us : List U) (vs : List V), RpUs K m H us vs → RpUs K m' H' us vs
  | [], _, h => h
  | u :: us, _, ⟨v, r, e, h1, h2⟩ => ⟨v, r, e, RpU.stay p s u v h1, RpUs.stay p s us r h2⟩
theorem RpUK.stay (p : m <+: m') (s : Stay m H m' H') : ∀ (us : List (Key × U)) (vs : List (Key × V)), RpUK K m H us vs → RpUK K m' H' us vs
  | [], _, h => h
  | (_, u) :: us, _, ⟨v, r, e, h1, h2⟩ => ⟨v, r, e, RpU.stay p s u v h1, RpUK.stay p s us r h2⟩
theorem RpUF.stay (p : m <+: m') (s : Stay m H m' H') : ∀ (us : List (Str × U)) (vs : List (Str × V)), RpUF K m H us vs → RpUF K m' H' us vs
  | [], _, h => h
  | (_, u) :: us, _, ⟨v, r, e, h1, h2⟩ => ⟨v, r, e, RpU.stay p s u v h1, RpUF.stay p s us r h2⟩
theorem RpO.stay (p : m <+: m') (s : Stay m H m' H') {b : Addr} : ∀ (o : O) (ho : HO), RpO K m H b o ho → RpO K m' H' b o ho
  | .lst us, _, ⟨vs, e, r⟩ => ⟨vs, e, RpUs.stay p s us vs r⟩
  | .tup us, _, ⟨vs, e, r⟩ => ⟨vs, e, RpUs.stay p s us vs r⟩
  | .dct us, _, ⟨vs, e, r⟩ => ⟨vs, e, RpUK.stay p s us vs r⟩
  | .ins C us, _, ⟨dx, vs, e, r⟩ => ⟨dx, vs, e, RpUF.stay p s us vs r⟩
  | .tbl P q, _, ⟨e, ps, e1, e2, h⟩ => ⟨e, ps, e1, e2, fun pos cv hc => let ⟨c, g1, g2, g3⟩ := h pos cv hc; ⟨c, g1, (s.ex c _ g2 g3 (fun _ z => by cases z) fun _ z => by cases z).2, (s.ex c _ g2 g3 (fun _ z => by cases z) fun _ z => by cases z).1⟩⟩
theorem RpU.ext (e : Ext m H m' H') {u : U} {v : V} (h : RpU K m H u v) : RpU K m' H' u v := RpU.stay e.pre e.toStay u v h
theorem RpUs.ext (e : Ext m H m' H') {u : List U} {v : List V} (h : RpUs K m H u v) : RpUs K m' H' u v := RpUs.stay e.pre e.toStay u v h
theorem RpUK.ext (e : Ext m H m' H') {u : List (Key × U)} {v : List (Key × V)} (h : RpUK K m H u v) : RpUK K m' H' u v := RpUK.stay e.pre e.toStay u v h
theorem RpUF.ext (e : Ext m H m' H') {u : List (Str × U)} {v : List (Str × V)} (h : RpUF K m H u v) : RpUF K m' H' u v := RpUF.stay e.pre e.toStay u v h
theorem RpO.ext (e : Ext m H m' H') {b : Addr} {o : O} {ho : HO} (h : RpO K m H b o ho) : RpO K m' H' b o ho := RpO.stay e.pre e.toStay o ho h
theorem RpEnv.ext (e : Ext m H m' H') {env : VEnv} {σ : L2.St} (h : RpEnv K m H env σ) : RpEnv K m' H' env σ :=
  ⟨h.len, fun i u hi => let ⟨v, h1, h2⟩ := h.at' i u hi; ⟨v, h1, h2.ext e⟩⟩
theorem RpEnv.set {env : VEnv} {σ : L2.St} (h : RpEnv K m H env σ) (i : Nat) {u : U} {v : V} (r : RpU K m H u v) : RpEnv K m H (env.set i (some u)) (σ.set i (some v)) := by
  refine ⟨by rw [List.length_set, List.length_set]; exact h.len, fun j w hj => ?_⟩
  by_cases e : i = j
  · subst e
    by_cases hi : i < env.length
    · rw [List.getElem?_set_self hi] at hj
      cases hj
      exact ⟨v, by rw [List.getElem?_set_self (by rw [← h.len]; exact hi)], r⟩
    · rw [List.getElem?_eq_none (by rw [List.length_set]; omega)] at hj
      cases hj
  · rw [List.getElem?_set_ne e] at hj
    obtain ⟨x, h1, h2⟩ := h.at' j w hj
    exact ⟨x, by rw [List.getElem?_set_ne e]; exact h1, h2⟩

theorem Rep.live (r : Rep K m st H) {a : Addr} (h : a ∈ m) : ∃ ho, H a = some ho := by
  obtain ⟨n, hn, e⟩ := List.mem_iff_getElem.mp h
  have hs : n < st.length := by rw [← r.len]; exact hn
  obtain ⟨ho, e1, _⟩ := r.cell n st[n] a (List.getElem?_eq_getElem hs) (by rw [List.getElem?_eq_getElem hn, e])
  exact ⟨ho, e1⟩
theorem Rep.fresh (r : Rep K m st H) {a : Addr} (h : H a = none) : a ∉ m := fun q => by
  obtain ⟨ho, e⟩ := r.live q
  rw [h] at e; cases e
/-- a new object that is data -/
theorem ext_new (r : Rep K m st H) {p : Addr} (np : H p = none) (o : HO) : Ext m H m (upd H p o) :=
  ⟨List.prefix_refl m, fun a u n h _ => ⟨by rw [upd_ne (ne_of_none h np)]; exact h, n⟩⟩
theorem Rep.new (r : Rep K m st H) {p : Addr} (np : H p = none) (o : HO) : Rep K m st (upd H p o) :=
  ⟨r.len, r.nd, fun n c a h1 h2 => by
    obtain ⟨ho, e, q⟩ := r.cell n c a h1 h2
    exact ⟨ho, by rw [upd_ne (ne_of_none e np)]; exact e, q.ext (ext_new r np o)⟩⟩
/-- a new cell -/
theorem ext_push (r : Rep K m st H) {p : Addr} (np : H p = none) (o : HO) : Ext m H (m ++ [p]) (upd H p o) :=
  ⟨List.prefix_append m [p], fun a u n h _ => ⟨by rw [upd_ne (ne_of_none h np)]; exact h, fun q => by
    rcases List.mem_append.mp q with q | q
    · exact n q
    · rw [List.mem_singleton] at q
      subst q
      rw [np] at h; cases h⟩⟩
theorem Rep.push (r : Rep K m st H) {p : Addr} (np : H p = none) {c : O} {o : HO} (q : RpO K (m ++ [p]) (upd H p o) p c o) : Rep K (m ++ [p]) (st ++ [c]) (upd H p o) := by
  refine ⟨by rw [List.length_append, List.length_append, r.len]; rfl, ?_, fun n c' a h1 h2 => ?_⟩
  · rw [List.nodup_append]
    refine ⟨r.nd, by simp, fun x hx y hy => ?_⟩
    rw [List.mem_singleton] at hy
    subst hy
    exact fun e => r.fresh np (by rw [← e]; exact hx)
  · by_cases hn : n < st.length
    · rw [List.getElem?_append_left hn] at h1
      rw [List.getElem?_append_left (by rw [r.len]; exact hn)] at h2
      obtain ⟨ho, e, q'⟩ := r.cell n c' a h1 h2
      exact ⟨ho, by rw [upd_ne (ne_of_none e np)]; exact e, q'.ext (ext_push r np o)⟩
    · have hn2 : n = st.length := by
        have := (List.getElem?_eq_some_iff.mp h1).1
        rw [List.length_append] at this
        simp at this; omega
      subst hn2
      rw [List.getElem?_append_right (Nat.le_refl _), Nat.sub_self] at h1
      rw [← r.len, List.getElem?_append_right (Nat.le_refl _), Nat.sub_self] at h2
      cases h1; cases h2
      exact ⟨o, upd_same, q⟩
/-- a cell is written -/
theorem ext_write {a : Addr} (ha : a ∈ m) (o : HO) : Ext m H m (upd H a o) :=
  ⟨List.prefix_refl m, fun b u n h _ => ⟨by rw [upd_ne (fun e => n (by rw [e]; exact ha))]; exact h, n⟩⟩
theorem Rep.write (r : Rep K m st H) {n : Nat} {a : Addr} {c : O} {o : HO} (hn : m[n]? = some a) (q : RpO K m (upd H a o) a c o) : Rep K m (st.set n c) (upd H a o) := by
  have ha : a ∈ m := List.mem_of_getElem? hn
  refine ⟨by rw [List.length_set]; exact r.len, r.nd, fun k c' b h1 h2 => ?_⟩
  by_cases e : n = k
  · subst e
    rw [hn] at h2; cases h2
    have hl : n < st.length := by rw [← r.len]; exact (List.getElem?_eq_some_iff.mp hn).1
    rw [List.getElem?_set_self hl] at h1; cases h1
    exact ⟨o, upd_same, q⟩
  · rw [List.getElem?_set_ne e] at h1
    obtain ⟨ho, e1, q1⟩ := r.cell k c' b h1 h2
    have hb : b ≠ a := fun z => by
      subst z
      obtain ⟨l1, g1⟩ := List.getElem?_eq_some_iff.mp hn
      obtain ⟨l2, g2⟩ := List.getElem?_eq_some_iff.mp h2
      exact e ((List.getElem_inj r.nd).mp (g1.trans g2.symm))
    exact ⟨ho, by rw [upd_ne hb]; exact e1, q1.ext (ext_write ha o)⟩
end

/-! ### results -/
inductive R (α : Type) where
  | ok (a : α) (st : Store)
  | ex (c : Value) (fs : Option (List (Str × D))) (st : Store)
  | bad
abbrev M (α : Type) := Store → R α
abbrev F (α : Type) := VEnv → M α
inductive Fl where
  | nx | rt (u : U) | bk | ct
inductive RS where
  | ok (env : VEnv) (f : Fl) (st : Store)
  | ex (c : Value) (fs : Option (List (Str × D))) (env : VEnv) (st : Store)
  | bad
abbrev G := VEnv → Store → RS

def RpX (K : PySem.W.Frag) (m : List Addr) (H : Hp) : Option (List (Str × D)) → Option Addr → Prop
  | none, none => True
  | some fs, some d => ∃ vs, H d = some (.xd vs) ∧ d ∉ m ∧ RpF K m H fs vs
  | _, _ => False

/-- what is wanted of a value's way -/
def PO' {α β : Type} (K : PySem.W.Frag) (m : List Addr) (H : Hp) (rel : List Addr → Hp → α → β → Prop) (Q : β → Hp → Prop) (E : XK) : R α → Prop
  | .ok u st' => ∀ v m' H', rel m' H' u v → Rep K m' st' H' → Ext m H m' H' → Q v H'
  | .ex c fs st' => ∀ d m' H', Rep K m' st' H' → Ext m H m' H' → RpX K m' H' fs d → E c d H'
  | .bad => False
abbrev PU (K : PySem.W.Frag) (m : List Addr) (H : Hp) (Q : VK) (E : XK) : R U → Prop := PO' K m H (RpU K) Q E
abbrev PUs (K : PySem.W.Frag) (m : List Addr) (H : Hp) (Q : List V → Hp → Prop) (E : XK) : R (List U) → Prop := PO' K m H (RpUs K) Q E
abbrev PB (K : PySem.W.Frag) (m : List Addr) (H : Hp) (Q : Bool → Hp → Prop) (E : XK) : R Bool → Prop := PO' K m H (fun _ _ a b => b = a) Q E
def PS' (K : PySem.W.Frag) (m : List Addr) (H : Hp) (D : Ends) (W : WX) : RS → Prop
  | .ok env .nx st' => ∀ σ' m' H', RpEnv K m' H' env σ' → Rep K m' st' H' → Ext m H m' H' → D.nx σ' H'
  | .ok env (.rt u) st' => ∀ v m' H', RpU K m' H' u v → Rep K m' st' H' → Ext m H m' H' → D.rt v H'
  | .ok env .bk st' => ∀ σ' m' H', RpEnv K m' H' env σ' → Rep K m' st' H' → Ext m H m' H' → D.bk σ' H'
  | .ok env .ct st' => ∀ σ' m' H', RpEnv K m' H' env σ' → Rep K m' st' H' → Ext m H m' H' → D.ct σ' H'
  | .ex c fs env st' => ∀ d σ' m' H', RpEnv K m' H' env σ' → Rep K m' st' H' → Ext m H m' H' → RpX K m' H' fs d → W c d σ' H'
  | .bad => False

theorem PO'.from {α β : Type} {K : PySem.W.Frag} {m m1 : List Addr} {H H1 : Hp} {rel : List Addr → Hp → α → β → Prop} {Q : β → Hp → Prop} {E : XK} (e : Ext m H m1 H1) : ∀ {r : R α}, PO' K m H rel Q E r → PO' K m1 H1 rel Q E r
  | .ok u st', h => fun v m' H' a b c => h v m' H' a b (e.trans c)
  | .ex c fs st', h => fun d m' H' a b x => h d m' H' a (e.trans b) x
  | .bad, h => h
theorem PO'.imp {α β : Type} {K : PySem.W.Frag} {m : List Addr} {H : Hp} {rel : List Addr → Hp → α → β → Prop} {Q Q' : β → Hp → Prop} {E : XK} (hq : ∀ v H, Q v H → Q' v H) : ∀ {r : R α}, PO' K m H rel Q E r → PO' K m H rel Q' E r
  | .ok u st', h => fun v m' H' a b c => hq _ _ (h v m' H' a b c)
  | .ex c fs st', h => h
  | .bad, h => h
theorem PS'.from {K : PySem.W.Frag} {m m1 : List Addr} {H H1 : Hp} {D : Ends} {W : WX} (e : Ext m H m1 H1) : ∀ {r : RS}, PS' K m H D W r → PS' K m1 H1 D W r
  | .ok env .nx st', h => fun v m' H' a b c => h v m' H' a b (e.trans c)
  | .ok env (.rt u) st', h => fun v m' H' a b c => h v m' H' a b (e.trans c)
  | .ok env .bk st', h => fun v m' H' a b c => h v m' H' a b (e.trans c)
  | .ok env .ct st', h => fun v m' H' a b c => h v m' H' a b (e.trans c)
  | .ex c fs env st', h => fun d σ' m' H' a b x y => h d σ' m' H' a b (e.trans x) y
  | .bad, h => h

/-! ### the readings -/
def tF (K : PySem.W.Frag) (W : WX) (f : F U) : TE := fun σ H Q => ∃ m env st, Rep K m st H ∧ RpEnv K m H env σ ∧ PU K m H Q (fun c d H' => W c d σ H') (f env st)
def tFB (K : PySem.W.Frag) (W : WX) (f : F Bool) : TT := fun σ H Q => ∃ m env st, Rep K m st H ∧ RpEnv K m H env σ ∧ PB K m H Q (fun c d H' => W c d σ H') (f env st)
def tFs (K : PySem.W.Frag) (W : WX) (f : F (List U)) : TA := fun σ H Q => ∃ m env st, Rep K m st H ∧ RpEnv K m H env σ ∧ PUs K m H Q (fun c d H' => W c d σ H') (f env st)
def tG (K : PySem.W.Frag) (W : WX) (g : G) : TS := fun D σ H => ∃ m env st, Rep K m st H ∧ RpEnv K m H env σ ∧ PS' K m H D W (g env st)

structure DE (X : Cx) (W : WX) (e : Expr) (f : F U) : Prop where
  pe : PE X e (tF X.K W f)
structure DT (X : Cx) (W : WX) (e : Expr) (f : F Bool) : Prop where
  pt : PT X e (tFB X.K W f)
structure DW (X : Cx) (W : WX) (e : Expr) (f : F Bool) : Prop where
  pw : PW X e (tFB X.K W f)
structure DA (X : Cx) (W : WX) (es : List Expr) (f : F (List U)) : Prop where
  pa : PA X es (tFs X.K W f)
structure DS (X : Cx) (W : WX) (s : Stmt) (g : G) : Prop where
  ps : PS X s (tG X.K W g)
structure DB (X : Cx) (W : WX) (s : List Stmt) (g : G) : Prop where
  pss : PSs X s (tG X.K W g)

theorem PE.imp {X : Cx} {e : Expr} {t t' : TE} (h : PE X e t) (i : ∀ σ H Q, t' σ H Q → t σ H Q) : PE X e t' := ⟨fun pins s σ H Q I q => h.run pins s σ H Q I (i σ H Q q)⟩
theorem PT.imp {X : Cx} {e : Expr} {t t' : TT} (h : PT X e t) (i : ∀ σ H Q, t' σ H Q → t σ H Q) : PT X e t' := ⟨fun pins s σ H Q I q => h.run pins s σ H Q I (i σ H Q q)⟩
theorem PW.imp {X : Cx} {e : Expr} {t t' : TT} (h : PW X e t) (i : ∀ σ H Q, t' σ H Q → t σ H Q) : PW X e t' := ⟨fun w pins s σ H Q I q => h.run w pins s σ H Q I (i σ H Q q)⟩
theorem PA.imp {X : Cx} {e : List Expr} {t t' : TA} (h : PA X e t) (i : ∀ σ H Q, t' σ H Q → t σ H Q) : PA X e t' := ⟨fun pos pins s σ H Q I q => h.run pos pins s σ H Q I (i σ H Q q)⟩
theorem PS.imp {X : Cx} {e : Stmt} {t t' : TS} (h : PS X e t) (i : ∀ D σ H, t' D σ H → t D σ H) : PS X e t' := ⟨fun pins s σ H Q I q => h.run pins s σ H Q I (i Q σ H q)⟩
theorem PSs.imp {X : Cx} {e : List Stmt} {t t' : TS} (h : PSs X e t) (i : ∀ D σ H, t' D σ H → t D σ H) : PSs X e t' := ⟨fun pins s σ H Q I q => h.run pins s σ H Q I (i Q σ H q)⟩
end VL

/-! VLb: sequencing; names, constants, operators, comparisons, tests. -/
namespace VL
open PySem PySem.Spec PyProof.Rows L2

def bnd {α β : Type} (f : F α) (g : α → F β) : F β := fun env st => match f env st with
  | .ok a st1 => g a env st1
  | .ex c fs st1 => .ex c fs st1
  | .bad => .bad
def bndS {α : Type} (f : F α) (g : α → G) : G := fun env st => match f env st with
  | .ok a st1 => g a env st1
  | .ex c fs st1 => .ex c fs env st1
  | .bad => .bad
/-- an operation that leaves the cells -/
def R.of {α : Type} (st : Store) : Option α → R α
  | some a => .ok a st
  | none => .bad
/-- an operation that may write them -/
def R.of2 {α : Type} : Option (α × Store) → R α
  | some (a, st) => .ok a st
  | none => .bad
def fPure {α : Type} (a : α) : F α := fun _ st => .ok a st

section
variable {K : PySem.W.Frag} {W : WX} {m : List Addr} {env : VEnv} {st : Store} {H : Hp} {σ : L2.St} {γ δ : Type} {rel : List Addr → Hp → γ → δ → Prop} {Q : δ → Hp → Prop}
theorem tF_step {f : F U} {g : U → F γ} {Z : VK} (r : Rep K m st H) (re : RpEnv K m H env σ) (p : PO' K m H rel Q (fun c d H' => W c d σ H') (bnd f g env st))
    (h : ∀ a st1 v m1 H1, RpU K m1 H1 a v → Rep K m1 st1 H1 → RpEnv K m1 H1 env σ → Ext m H m1 H1 → PO' K m1 H1 rel Q (fun c d H' => W c d σ H') (g a env st1) → Z v H1) : tF K W f σ H Z :=
  ⟨m, env, st, r, re, by
    unfold bnd at p
    cases e : f env st with
    | ok a st1 => rw [e] at p; exact fun v m1 H1 h1 h2 h3 => h a st1 v m1 H1 h1 h2 (re.ext h3) h3 (p.from h3)
    | ex c fs st1 => rw [e] at p; exact p
    | bad => rw [e] at p; exact p.elim⟩
theorem tFs_step {f : F (List U)} {g : List U → F γ} {Z : List V → Hp → Prop} (r : Rep K m st H) (re : RpEnv K m H env σ) (p : PO' K m H rel Q (fun c d H' => W c d σ H') (bnd f g env st))
    (h : ∀ a st1 v m1 H1, RpUs K m1 H1 a v → Rep K m1 st1 H1 → RpEnv K m1 H1 env σ → Ext m H m1 H1 → PO' K m1 H1 rel Q (fun c d H' => W c d σ H') (g a env st1) → Z v H1) : tFs K W f σ H Z :=
  ⟨m, env, st, r, re, by
    unfold bnd at p
    cases e : f env st with
    | ok a st1 => rw [e] at p; exact fun v m1 H1 h1 h2 h3 => h a st1 v m1 H1 h1 h2 (re.ext h3) h3 (p.from h3)
    | ex c fs st1 => rw [e] at p; exact p
    | bad => rw [e] at p; exact p.elim⟩
theorem tFB_step {f : F Bool} {g : Bool → F γ} {Z : Bool → Hp → Prop} (r : Rep K m st H) (re : RpEnv K m H env σ) (p : PO' K m H rel Q (fun c d H' => W c d σ H') (bnd f g env st))
    (h : ∀ a st1 m1 H1, Rep K m1 st1 H1 → RpEnv K m1 H1 env σ → Ext m H m1 H1 → PO' K m1 H1 rel Q (fun c d H' => W c d σ H') (g a env st1) → Z a H1) : tFB K W f σ H Z :=
  ⟨m, env, st, r, re, by
    unfold bnd at p
    cases e : f env st with
    | ok a st1 => rw [e] at p; exact fun v m1 H1 h1 h2 h3 => by subst h1; exact h _ st1 m1 H1 h2 (re.ext h3) h3 (p.from h3)
    | ex c fs st1 => rw [e] at p; exact p
    | bad => rw [e] at p; exact p.elim⟩
variable {Dn : Ends}
theorem sF_step {f : F U} {g : U → G} {Z : VK} (r : Rep K m st H) (re : RpEnv K m H env σ) (p : PS' K m H Dn W (bndS f g env st))
    (h : ∀ a st1 v m1 H1, RpU K m1 H1 a v → Rep K m1 st1 H1 → RpEnv K m1 H1 env σ → Ext m H m1 H1 → PS' K m1 H1 Dn W (g a env st1) → Z v H1) : tF K W f σ H Z :=
  ⟨m, env, st, r, re, by
    unfold bndS at p
    cases e : f env st with
    | ok a st1 => rw [e] at p; exact fun v m1 H1 h1 h2 h3 => h a st1 v m1 H1 h1 h2 (re.ext h3) h3 (p.from h3)
    | ex c fs st1 => rw [e] at p; exact fun d m' H' h1 h2 h3 => p d σ m' H' (re.ext h2) h1 h2 h3
    | bad => rw [e] at p; exact p.elim⟩
theorem sFB_step {f : F Bool} {g : Bool → G} {Z : Bool → Hp → Prop} (r : Rep K m st H) (re : RpEnv K m H env σ) (p : PS' K m H Dn W (bndS f g env st))
    (h : ∀ a st1 m1 H1, Rep K m1 st1 H1 → RpEnv K m1 H1 env σ → Ext m H m1 H1 → PS' K m1 H1 Dn W (g a env st1) → Z a H1) : tFB K W f σ H Z :=
  ⟨m, env, st, r, re, by
    unfold bndS at p
    cases e : f env st with
    | ok a st1 => rw [e] at p; exact fun v m1 H1 h1 h2 h3 => by subst h1; exact h _ st1 m1 H1 h2 (re.ext h3) h3 (p.from h3)
    | ex c fs st1 => rw [e] at p; exact fun d m' H' h1 h2 h3 => p d σ m' H' (re.ext h2) h1 h2 h3
    | bad => rw [e] at p; exact p.elim⟩
theorem sFs_step {f : F (List U)} {g : List U → G} {Z : List V → Hp → Prop} (r : Rep K m st H) (re : RpEnv K m H env σ) (p : PS' K m H Dn W (bndS f g env st))
    (h : ∀ a st1 v m1 H1, RpUs K m1 H1 a v → Rep K m1 st1 H1 → RpEnv K m1 H1 env σ → Ext m H m1 H1 → PS' K m1 H1 Dn W (g a env st1) → Z v H1) : tFs K W f σ H Z :=
  ⟨m, env, st, r, re, by
    unfold bndS at p
    cases e : f env st with
    | ok a st1 => rw [e] at p; exact fun v m1 H1 h1 h2 h3 => h a st1 v m1 H1 h1 h2 (re.ext h3) h3 (p.from h3)
    | ex c fs st1 => rw [e] at p; exact fun d m' H' h1 h2 h3 => p d σ m' H' (re.ext h2) h1 h2 h3
    | bad => rw [e] at p; exact p.elim⟩
end

/-! ### names, constants -/
def vVar (i : Nat) : F U := fun env st => match env[i]? with
  | some (some u) => .ok u st
  | _ => .bad
def vC (x : D) : F U := fun _ st => .ok (.d x) st
section
variable {X : Cx} {W : WX}
theorem d_var (i : Nat) {x : Str} {pos : Pos} (hN : X.N[i]? = some x := by rfl) (hv : Vis X.env.scope x := by first | exact Or.inl rfl | exact Or.inr (Or.inl rfl) | exact Or.inr (Or.inr rfl)) (hd : (x == ("__debug__" : Str)) = false := by decide)
    (hcd : (x == ("__classdict__" : Str)) = false := by decide) : DE X W (.Name x pos) (vVar i) := ⟨PE.imp (pv i hN hv hd hcd) fun σ H Q ⟨m, env, st, r, re, p⟩ => by
  unfold vVar at p
  split at p
  · rename_i u hu
    obtain ⟨v, h1, h2⟩ := re.at' i u hu
    exact ⟨v, h1, p v m H h2 r (Ext.refl _ _)⟩
  · exact p.elim⟩
theorem d_con {e : Expr} {v : V} {x : D} (h : PE X e (tC v)) (hx : ∀ m H, RpD X.K m H x v) : DE X W e (vC x) := ⟨PE.imp h fun σ H Q ⟨m, env, st, r, re, p⟩ => p v m H (hx m H) r (Ext.refl _ _)⟩
theorem d_int {i : Int} {j : Nat} {pos : Pos} : DE X W (.Constant (.int i) j pos) (vC (.int i)) := d_con pe_int fun _ _ => rfl
theorem d_bl {i : Bool} {j : Nat} {pos : Pos} : DE X W (.Constant (.bool i) j pos) (vC (.bl i)) := d_con pe_bl fun _ _ => rfl
theorem d_non {j : Nat} {pos : Pos} : DE X W (.Constant .none j pos) (vC .non) := d_con pe_non fun _ _ => rfl
theorem d_str {x : Str} {j : Nat} {pos : Pos} : DE X W (.Constant (.str x) j pos) (vC (.str x)) := d_con pe_str fun _ _ => rfl
/-- a constant of the module that is a number, a text -/
theorem d_glob {x : Str} {v : V} {d : D} {u : Value} {pos : Pos} (hm : X.mg x = some u) (r : RelV v u) (hx : ∀ m H, RpD X.K m H d v) (hg : Gl X x := by rfl) (hd : (x == ("__debug__" : Str)) = false := by decide) : DE X W (.Name x pos) (vC d) :=
  d_con (pe_glob hg hm r hd) hx
/-- a built-in class as a value -/
theorem d_ty {x : Str} {n : String} {pos : Pos} (hm : X.mg x = none) (hv : bootBuiltins x = some (.type n)) (hg : Gl X x := by rfl) (hn : x ≠ "__name__" := by decide) (hd : (x == ("__debug__" : Str)) = false := by decide) : DE X W (.Name x pos) (vC (.ty n)) :=
  d_con (v := .ty n) (pe_bltn hg hm hv rfl hn hd) fun _ _ => rfl
end

/-! ### what a value is -/
def getL (st : Store) : U → Option (List U)
  | .d (.lst ds) => some (ds.map .d)
  | .d (.scr ns) => some (ns.map fun i => .d (.int i))
  | .ref n => match st[n]? with
    | some (.lst us) => some us
    | _ => none
  | _ => none
def getT : U → Option (List D)
  | .d (.tup ds) => some ds
  | _ => none
def pureL : List U → Option (List D)
  | [] => some []
  | .d x :: r => (pureL r).map (x :: ·)
  | _ => none
theorem pureL_map : ∀ ds : List D, pureL (ds.map .d) = some ds
  | [] => rfl
  | d :: ds => by rw [List.map_cons, pureL, pureL_map ds]; rfl
section
variable {K : PySem.W.Frag} {m : List Addr} {H : Hp} {st : Store}
theorem RpUs.ofD : ∀ {ds : List D} {vs : List V}, RpDs K m H ds vs → RpUs K m H (ds.map .d) vs
  | [], _, h => h
  | d :: ds, _, ⟨v, r, e, h1, h2⟩ => ⟨v, r, e, h1, RpUs.ofD h2⟩
theorem pureL_rp : ∀ {us : List U} {vs : List V} {ds : List D}, RpUs K m H us vs → pureL us = some ds → RpDs K m H ds vs
  | [], vs, ds, h, e => by cases e; exact h
  | .d x :: r, vs, ds, ⟨v, t, ev, h1, h2⟩, e => by
    unfold pureL at e
    cases q : pureL r with
    | none => rw [q] at e; cases e
    | some zs =>
      rw [q] at e
      cases e
      exact ⟨v, t, ev, h1, pureL_rp h2 q⟩
  | .ref n :: r, vs, ds, h, e => by cases e
theorem RpUs.ints : ∀ (ns : List Int), RpUs K m H (ns.map fun i => .d (.int i)) (ns.map V.int)
  | [] => rfl
  | n :: ns => ⟨.int n, _, rfl, rfl, RpUs.ints ns⟩
theorem getL_rp (r : Rep K m st H) : ∀ {u : U} {v : V} {us : List U}, RpU K m H u v → getL st u = some us → ∃ a vs, v = .ref a ∧ SqL K H a vs ∧ RpUs K m H us vs
  | .d (.lst ds), v, us, ⟨a, vs, e, h1, h2⟩, q => by
    cases q
    exact ⟨a, vs, e, h1.sq, RpUs.ofD h2⟩
  | .d (.scr ns), v, us, ⟨a, e, h1⟩, q => by
    cases q
    exact ⟨a, _, e, h1.sq, RpUs.ints ns⟩
  | .ref n, v, us, ⟨a, ha, e⟩, q => by
    simp only [getL] at q
    split at q
    · rename_i zs hs
      cases q
      obtain ⟨ho, h1, vs, e2, h2⟩ := r.cell n _ a hs ha
      rw [e2] at h1
      exact ⟨a, vs, e, .inl (.inl h1), h2⟩
    · cases q
  | .d .non, _, _, _, q => by cases q
  | .d (.bl _), _, _, _, q => by cases q
  | .d (.int _), _, _, _, q => by cases q
  | .d (.str _), _, _, _, q => by cases q
  | .d (.ty _), _, _, _, q => by cases q
  | .d (.obj _), _, _, _, q => by cases q
  | .d (.tup _), _, _, _, q => by cases q
  | .d (.dct _), _, _, _, q => by cases q
  | .d (.ins _ _), _, _, _, q => by cases q
  | .d (.exc _ _ _ _), _, _, _, q => by cases q
theorem getT_rp : ∀ {u : U} {v : V} {us : List D}, RpU K m H u v → getT u = some us → ∃ a vs, v = .ref a ∧ TpV K m H a vs ∧ RpDs K m H us vs
  | .d (.tup ds), v, us, ⟨a, vs, e, h1, h2⟩, q => by
    cases q
    exact ⟨a, vs, e, h1, h2⟩
  | .ref n, _, _, _, q => by cases q
  | .d .non, _, _, _, q => by cases q
  | .d (.bl _), _, _, _, q => by cases q
  | .d (.int _), _, _, _, q => by cases q
  | .d (.str _), _, _, _, q => by cases q
  | .d (.ty _), _, _, _, q => by cases q
  | .d (.obj _), _, _, _, q => by cases q
  | .d (.lst _), _, _, _, q => by cases q
  | .d (.scr _), _, _, _, q => by cases q
  | .d (.dct _), _, _, _, q => by cases q
  | .d (.ins _ _), _, _, _, q => by cases q
  | .d (.exc _ _ _ _), _, _, _, q => by cases q
theorem RpUs.length : ∀ {us : List U} {vs : List V}, RpUs K m H us vs → vs.length = us.length
  | [], _, h => by rw [show _ = [] from h]; rfl
  | u :: us, _, ⟨v, r, e, h1, h2⟩ => by rw [e, List.length_cons, List.length_cons, RpUs.length h2]
theorem RpDs.length {us : List D} {vs : List V} (h : RpDs K m H us vs) : vs.length = us.length := by
  have := (RpUs.ofD h).length
  rwa [List.length_map] at this
theorem RpUs.append : ∀ {us ws : List U} {vs xs : List V}, RpUs K m H us vs → RpUs K m H ws xs → RpUs K m H (us ++ ws) (vs ++ xs)
  | [], _, _, _, h, k => by rw [show _ = [] from h]; exact k
  | u :: us, _, _, _, ⟨v, r, e, h1, h2⟩, k => by subst e; exact ⟨v, _, rfl, h1, RpUs.append h2 k⟩
theorem RpDs.append : ∀ {us ws : List D} {vs xs : List V}, RpDs K m H us vs → RpDs K m H ws xs → RpDs K m H (us ++ ws) (vs ++ xs)
  | [], _, _, _, h, k => by rw [show _ = [] from h]; exact k
  | u :: us, _, _, _, ⟨v, r, e, h1, h2⟩, k => by subst e; exact ⟨v, _, rfl, h1, RpDs.append h2 k⟩
theorem RpUs.get : ∀ {us : List U} {vs : List V} {i : Nat} {u : U}, RpUs K m H us vs → us[i]? = some u → ∃ v, vs[i]? = some v ∧ RpU K m H u v
  | [], _, _, _, h, q => by simp at q
  | u :: us, _, 0, w, ⟨v, r, e, h1, h2⟩, q => by subst e; simp at q; subst q; exact ⟨v, rfl, h1⟩
  | u :: us, _, i + 1, w, ⟨v, r, e, h1, h2⟩, q => by
    subst e
    obtain ⟨x, g1, g2⟩ := RpUs.get (i := i) h2 (by simpa using q)
    exact ⟨x, by simpa using g1, g2⟩
theorem RpUs.getV : ∀ {us : List U} {vs : List V} {i : Nat} {v : V}, RpUs K m H us vs → vs[i]? = some v → ∃ u, us[i]? = some u ∧ RpU K m H u v
  | [], _, _, _, h, q => by rw [show _ = [] from h] at q; simp at q
  | u :: us, _, 0, w, ⟨v, r, e, h1, h2⟩, q => by subst e; simp at q; subst q; exact ⟨u, rfl, h1⟩
  | u :: us, _, i + 1, w, ⟨v, r, e, h1, h2⟩, q => by
    subst e
    obtain ⟨x, g1, g2⟩ := RpUs.getV (i := i) h2 (by simpa using q)
    exact ⟨x, by simpa using g1, g2⟩
theorem RpUs.set : ∀ {us : List U} {vs : List V} (i : Nat) {u : U} {v : V}, RpUs K m H us vs → RpU K m H u v → RpUs K m H (us.set i u) (vs.set i v)
  | [], _, _, _, _, h, _ => by rw [show _ = [] from h]; rfl
  | w :: us, _, 0, u, v, ⟨x, r, e, h1, h2⟩, k => by subst e; exact ⟨v, r, rfl, k, h2⟩
  | w :: us, _, i + 1, u, v, ⟨x, r, e, h1, h2⟩, k => by subst e; exact ⟨x, r.set i v, rfl, h1, RpUs.set i h2 k⟩
theorem RpUs.take : ∀ {us : List U} {vs : List V} (n : Nat), RpUs K m H us vs → RpUs K m H (us.take n) (vs.take n)
  | _, _, 0, _ => rfl
  | [], _, n + 1, h => by rw [show _ = [] from h]; rfl
  | u :: us, _, n + 1, ⟨x, r, e, h1, h2⟩ => by subst e; exact ⟨x, r.take n, rfl, h1, RpUs.take n h2⟩
theorem RpUs.drop : ∀ {us : List U} {vs : List V} (n : Nat), RpUs K m H us vs → RpUs K m H (us.drop n) (vs.drop n)
  | _, _, 0, h => h
  | [], _, n + 1, h => by rw [show _ = [] from h]; rfl
  | u :: us, _, n + 1, ⟨x, r, e, h1, h2⟩ => by subst e; exact RpUs.drop n h2
theorem RpDs.get {us : List D} {vs : List V} {i : Nat} {u : D} (h : RpDs K m H us vs) (q : us[i]? = some u) : ∃ v, vs[i]? = some v ∧ RpD K m H u v := by
  obtain ⟨v, h1, h2⟩ := RpUs.get (RpUs.ofD h) (i := i) (u := .d u) (by rw [List.getElem?_map, q]; rfl)
  exact ⟨v, h1, h2⟩
theorem RpDs.toD {us : List D} {vs : List V} (h : RpUs K m H (us.map .d) vs) : RpDs K m H us vs := pureL_rp h (pureL_map us)
/-- new data -/
theorem new_lst (r : Rep K m st H) {p : Addr} (np : H p = none) {ds : List D} {vs : List V} (h : RpDs K m H ds vs) : RpU K m (upd H p (.lst vs)) (.d (.lst ds)) (.ref p) :=
  ⟨p, vs, rfl, ⟨r.fresh np, upd_same⟩, h.ext (ext_new r np _)⟩
theorem new_tup (r : Rep K m st H) {p : Addr} (np : H p = none) {ds : List D} {vs : List V} (h : RpDs K m H ds vs) : RpU K m (upd H p (.tup vs)) (.d (.tup ds)) (.ref p) :=
  ⟨p, vs, rfl, .inl ⟨r.fresh np, upd_same⟩, h.ext (ext_new r np _)⟩
end

/-! ### operators by values -/
/-- what an operation that leaves the cells gives -/
def PV (K : PySem.W.Frag) (m : List Addr) (st : Store) (H : Hp) (Q : VK) : Option U → Prop
  | some u => ∀ v H', RpU K m H' u v → Rep K m st H' → Ext m H m H' → Q v H'
  | none => False
theorem PV.of {K : PySem.W.Frag} {m : List Addr} {st : Store} {H : Hp} {Q : VK} {E : XK} : ∀ {o : Option U}, PU K m H Q E (R.of st o) → PV K m st H Q o
  | some u, h => fun v H' a b c => h v m H' a b c
  | none, h => h
abbrev P1 := U → Store → Option U
abbrev P2 := U → U → Store → Option U
def rG (K : PySem.W.Frag) (g : P2) : R2 := fun x y H Q => ∃ m st a b, Rep K m st H ∧ RpU K m H a x ∧ RpU K m H b y ∧ PV K m st H Q (g a b st)
def rG1 (K : PySem.W.Frag) (g : P1) : V → Hp → VK → Prop := fun x H Q => ∃ m st a, Rep K m st H ∧ RpU K m H a x ∧ PV K m st H Q (g a st)
def f2 (g : P2) (fa fb : F U) : F U := bnd fa fun a => bnd fb fun b => fun _ st => .of st (g a b st)
def f1 (g : P1) (fa : F U) : F U := bnd fa fun a => fun _ st => .of st (g a st)

section
variable {X : Cx} {W : WX} {a b : Expr} {fa fb : F U} {pos : Pos} {g : P2}
theorem t_op2 {σ : L2.St} {H : Hp} {Q : VK} (h : tF X.K W (f2 g fa fb) σ H Q) : tOp (rG X.K g) (tF X.K W fa) (tF X.K W fb) σ H Q := by
  obtain ⟨m, env, st, r, re, p⟩ := h
  refine tF_step r re p fun a st1 v m1 H1 h1 r1 re1 e1 p1 => ?_
  refine tF_step r1 re1 p1 fun b st2 w m2 H2 h2 r2 re2 e2 p2 => ?_
  exact ⟨m2, st2, a, b, r2, h1.ext e2, h2, PV.of p2⟩
theorem d_op {op : Operator} (ho : OpR X (binaryOp op) (rG X.K g)) (ha : DE X W a fa) (hb : DE X W b fb) : DE X W (.BinOp a op b pos) (f2 g fa fb) :=
  ⟨PE.imp (pe_op ho ha.pe hb.pe) fun _ _ _ h => t_op2 h⟩
theorem d_un {op : UnaryOp} {g : P1} (ho : UnR X (unaryOp op) (rG1 X.K g)) (ha : DE X W a fa) : DE X W (.UnaryOp op a pos) (f1 g fa) :=
  ⟨PE.imp (pe_un ho ha.pe) fun σ H Q ⟨m, env, st, r, re, p⟩ => tF_step r re p fun a st1 v m1 H1 h1 r1 re1 e1 p1 => ⟨m1, st1, a, r1, h1, PV.of p1⟩⟩
theorem d_cmp {op : CmpOp} (ho : OpR X (compareOp op) (rG X.K g)) (ha : DE X W a fa) (hb : DE X W b fb) (hm : behindInMarks op b = false := by first | exact nomark _ | rfl) : DE X W (.Compare a [op] [b] pos) (f2 g fa fb) :=
  ⟨PE.imp (pe_cmpR ho ha.pe hb.pe hm) fun _ _ _ h => t_op2 h⟩
/-- a bool as a test -/
def asB (f : F U) : F Bool := bnd f fun u => fun _ st => match u with
  | .d (.bl k) => .ok k st
  | _ => .bad
theorem PO'.imp' {K : PySem.W.Frag} {m : List Addr} {H : Hp} {Q : Bool → Hp → Prop} {E : XK} {k : Bool} {st : Store} (p : PB K m H Q E (.ok k st)) (r : Rep K m st H) : Q k H := p k m H rfl r (Ext.refl _ _)
theorem t_asB {f : F U} {σ : L2.St} {H : Hp} {Q : Bool → Hp → Prop} (h : tFB X.K W (asB f) σ H Q) : tF X.K W f σ H (fun x H' => ∃ k, x = .bl k ∧ Q k H') := by
  obtain ⟨m, env, st, r, re, p⟩ := h
  refine tF_step r re p fun a st1 v m1 H1 h1 r1 re1 e1 p1 => ?_
  cases a with
  | ref n => exact False.elim p1
  | d x =>
    cases x with
    | bl k => exact ⟨k, h1, PO'.imp' p1 r1⟩
    | _ => exact False.elim p1
theorem dt_cmp {op : CmpOp} (ho : OpR X (compareOp op) (rG X.K g)) (ha : DE X W a fa) (hb : DE X W b fb) (hm : behindInMarks op b = false := by first | exact nomark _ | rfl) : DT X W (.Compare a [op] [b] pos) (asB (f2 g fa fb)) :=
  ⟨PT.imp (pt_cmpR ho ha.pe hb.pe hm) fun _ _ _ h => by
    have h2 := t_asB h
    exact t_op2 h2⟩
/-- a < b < c -/
def fChain (g g' : P2) (fa fb fc : F U) : F U := bnd fa fun a => bnd fb fun b => fun env st => match g a b st with
  | some (.d (.bl true)) => bnd fc (fun c => fun _ st => .of st (g' b c st)) env st
  | some (.d (.bl false)) => .ok (.d (.bl false)) st
  | _ => .bad
end
end VL

/-! VLc: what operators do to data. -/
namespace VL
open PySem PySem.Spec PyProof.Rows L2

/-! ### data for == -/
mutual
def toP : D → Option PyData
  | .non => some .none
  | .bl b => some (.bool b)
  | .int i => some (.int i)
  | .str x => some (.str x)
  | .tup ds => (toPs ds).map .tuple
  | .lst ds => (toPs ds).map .list
  | .scr ns => some (.list (ns.map .int))
  | _ => none
def toPs : List D → Option (List PyData)
  | [] => some []
  | d :: ds => match toP d, toPs ds with
    | some p, some ps => some (p :: ps)
    | _, _ => none
end
/-- all answers, or none -/
def allM {α β : Type} (g : α → Option β) : List α → Option (List β)
  | [] => some []
  | a :: r => match g a, allM g r with
    | some b, some bs => some (b :: bs)
    | _, _ => none
/-- a value with its cells written out -/
def deep : Nat → Store → U → Option D
  | _, _, .d x => some x
  | 0, _, .ref _ => none
  | k + 1, st, .ref n => match st[n]? with
    | some (.lst us) => (allM (deep k st) us).map .lst
    | _ => none
def asP (st : Store) (u : U) : Option PyData := (deep 4 st u).bind toP

theorem allM_d {st : Store} {k : Nat} : ∀ ds : List D, allM (deep k st) (ds.map .d) = some ds
  | [] => rfl
  | d :: ds => by
    rw [List.map_cons, allM, allM_d ds]
    cases k <;> rfl

section
variable {K : PySem.W.Frag} {m : List Addr} {H : Hp} {st : Store}
theorem DpAll.ints : ∀ ns : List Int, DpAll K H (ns.map V.int) (ns.map PyData.int)
  | [] => .nil
  | n :: ns => .cons (.int n) (DpAll.ints ns)
mutual
theorem toP_dp : ∀ (d : D) (v : V) (p : PyData), RpD K m H d v → toP d = some p → Dp K H v p
  | .non, _, _, h, e => by cases h; cases e; exact .non
  | .bl b, _, _, h, e => by cases h; cases e; exact .bl b
  | .int i, _, _, h, e => by cases h; cases e; exact .int i
  | .str x, _, _, h, e => by cases h; cases e; exact .str x
  | .tup ds, _, _, ⟨a, vs, e1, t, r⟩, e => by
    unfold toP at e
    cases q : toPs ds with
    | none => rw [q] at e; cases e
    | some ps => rw [q] at e; cases e; subst e1; exact .tup t.sq (toPs_dp ds vs ps r q)
  | .lst ds, _, _, ⟨a, vs, e1, t, r⟩, e => by
    unfold toP at e
    cases q : toPs ds with
    | none => rw [q] at e; cases e
    | some ps => rw [q] at e; cases e; subst e1; exact .lst t.sq (toPs_dp ds vs ps r q)
  | .scr ns, _, _, ⟨a, e1, t⟩, e => by cases e; subst e1; exact .lst t.sq (DpAll.ints ns)
  | .ty _, _, _, _, e => by cases e
  | .obj _, _, _, _, e => by cases e
  | .dct _, _, _, _, e => by cases e
  | .ins _ _, _, _, _, e => by cases e
theorem toPs_dp : ∀ (ds : List D) (vs : List V) (ps : List PyData), RpDs K m H ds vs → toPs ds = some ps → DpAll K H vs ps
  | [], _, _, h, e => by cases h; cases e; exact .nil
  | d :: ds, _, _, ⟨v, r, e1, h1, h2⟩, e => by
    unfold toPs at e
    cases q1 : toP d with
    | none => rw [q1] at e; cases e
    | some p =>
      cases q2 : toPs ds with
      | none => rw [q1, q2] at e; cases e
      | some ps =>
        rw [q1, q2] at e; cases e
        subst e1
        exact .cons (toP_dp d v p h1 q1) (toPs_dp ds r ps h2 q2)
end
/-- a weaker way of lying there: cells among it -/
inductive WD (K : PySem.W.Frag) (m : List Addr) (H : Hp) : D → V → Prop
  | ofD {d : D} {v : V} (h : RpD K m H d v) : WD K m H d v
  | lst {a : Addr} {ds : List D} {vs : List V} (h : SqL K H a vs) (hl : vs.length = ds.length) (hs : ∀ (i : Nat) (d : D) (v : V), ds[i]? = some d → vs[i]? = some v → WD K m H d v) : WD K m H (.lst ds) (.ref a)
theorem allM_get {α β : Type} {g : α → Option β} : ∀ {l : List α} {r : List β}, allM g l = some r → r.length = l.length ∧ ∀ (i : Nat) (b : β), r[i]? = some b → ∃ a, l[i]? = some a ∧ g a = some b
  | [], r, e => by cases e; exact ⟨rfl, fun i b h => by simp at h⟩
  | a :: l, r, e => by
    unfold allM at e
    cases q1 : g a with
    | none => rw [q1] at e; cases e
    | some b =>
      cases q2 : allM g l with
      | none => rw [q1, q2] at e; cases e
      | some bs =>
        rw [q1, q2] at e; cases e
        obtain ⟨h1, h2⟩ := allM_get q2
        refine ⟨by rw [List.length_cons, List.length_cons, h1], fun i c h => ?_⟩
        cases i with
        | zero => simp at h; subst h; exact ⟨a, rfl, q1⟩
        | succ i => exact h2 i c (by simpa using h)
theorem deep_wd (r : Rep K m st H) : ∀ (k : Nat) (u : U) (v : V) (d : D), RpU K m H u v → deep k st u = some d → WD K m H d v
  | 0, .d x, v, d, h, e => by cases e; exact .ofD h
  | k + 1, .d x, v, d, h, e => by cases e; exact .ofD h
  | 0, .ref n, v, d, h, e => by cases e
  | k + 1, .ref n, v, d, ⟨a, ha, ev⟩, e => by
    simp only [deep] at e
    split at e
    · rename_i us hs
      cases q : allM (deep k st) us with
      | none => rw [q] at e; cases e
      | some ds =>
        rw [q] at e
        cases e
        obtain ⟨ho, h1, vs, e2, h2⟩ := r.cell n _ a hs ha
        subst e2 ev
        obtain ⟨hl, hg⟩ := allM_get q
        refine .lst (.inl (.inl h1)) (by rw [h2.length, hl]) fun i d v hd hv => ?_
        obtain ⟨u, hu, e3⟩ := hg i d hd
        obtain ⟨v', hv', ru⟩ := h2.get hu
        rw [hv] at hv'; cases hv'
        exact deep_wd r k u v d ru e3
    · cases e
theorem dpAll_of : ∀ {vs : List V} {ps : List PyData}, vs.length = ps.length → (∀ (i : Nat) (v : V) (p : PyData), vs[i]? = some v → ps[i]? = some p → Dp K H v p) → DpAll K H vs ps
  | [], [], _, _ => .nil
  | v :: vs, p :: ps, hl, h => .cons (h 0 v p rfl rfl) (dpAll_of (by simpa using hl) fun i w q hw hq => h (i + 1) w q (by simpa using hw) (by simpa using hq))
  | [], _ :: _, hl, _ => by simp at hl
  | _ :: _, [], hl, _ => by simp at hl
theorem toPs_get : ∀ {ds : List D} {ps : List PyData}, toPs ds = some ps → ps.length = ds.length ∧ ∀ (i : Nat) (p : PyData), ps[i]? = some p → ∃ d, ds[i]? = some d ∧ toP d = some p
  | [], r, e => by cases e; exact ⟨rfl, fun i b h => by simp at h⟩
  | d :: l, r, e => by
    unfold toPs at e
    cases q1 : toP d with
    | none => rw [q1] at e; cases e
    | some b =>
      cases q2 : toPs l with
      | none => rw [q1, q2] at e; cases e
      | some bs =>
        rw [q1, q2] at e; cases e
        obtain ⟨h1, h2⟩ := toPs_get q2
        refine ⟨by rw [List.length_cons, List.length_cons, h1], fun i c h => ?_⟩
        cases i with
        | zero => simp at h; subst h; exact ⟨d, rfl, q1⟩
        | succ i => exact h2 i c (by simpa using h)
theorem wd_dp {d : D} {v : V} (h : WD K m H d v) : ∀ {p : PyData}, toP d = some p → Dp K H v p := by
  induction h with
  | ofD h => exact fun e => toP_dp _ _ _ h e
  | lst hq hl hs ih =>
    rename_i a ds vs
    intro p e
    unfold toP at e
    cases q : toPs ds with
    | none => rw [q] at e; cases e
    | some ps =>
      rw [q] at e; cases e
      obtain ⟨h1, h2⟩ := toPs_get q
      refine .lst hq (dpAll_of (by rw [hl, h1]) fun i w p hw hp => ?_)
      obtain ⟨d, hd, e2⟩ := h2 i p hp
      exact ih i d w hd hw e2
theorem asP_dp (r : Rep K m st H) {u : U} {v : V} {p : PyData} (h : RpU K m H u v) (e : asP st u = some p) : Dp K H v p := by
  unfold asP at e
  cases q : deep 4 st u with
  | none => rw [q] at e; cases e
  | some d => rw [q] at e; exact wd_dp (deep_wd r 4 u v d h q) e
end

/-! ### the operators on data -/
def oAdd : P2 := fun a b st => match a, b with
  | .d (.int i), .d (.int j) => some (.d (.int (i + j)))
  | .d (.str x), .d (.str y) => if x.length + y.length ≤ sizeLine then some (.d (.str (x ++ y))) else none
  | .d (.tup xs), .d (.tup ys) => if xs.length + ys.length ≤ sizeLine then some (.d (.tup (xs ++ ys))) else none
  | .d (.lst xs), .d (.lst ys) => if xs.length + ys.length ≤ sizeLine then some (.d (.lst (xs ++ ys))) else none
  | _, _ => none
def oSub : P2 := fun a b _ => match a, b with
  | .d (.int i), .d (.int j) => some (.d (.int (i - j)))
  | _, _ => none
def oMul : P2 := fun a b _ => match a, b with
  | .d (.int i), .d (.int j) => if (-(2 ^ 64) < i ∧ i < 2 ^ 64) ∨ (-(2 ^ 64) < j ∧ j < 2 ^ 64) then some (.d (.int (i * j))) else none
  | _, _ => none
def oFdiv : P2 := fun a b _ => match a, b with
  | .d (.int i), .d (.int j) => if 0 < j ∧ j < 1073741824 then some (.d (.int (i / j))) else none
  | _, _ => none
def oMod : P2 := fun a b _ => match a, b with
  | .d (.int i), .d (.int j) => if 0 < j then some (.d (.int (i % j))) else none
  | _, _ => none
def oPow : P2 := fun a b _ => match a, b with
  | .d (.int i), .d (.int j) => if 0 ≤ j ∧ j ≤ 1000000 ∧ i.natAbs < 2 ^ 64 then some (.d (.int (i ^ j.toNat))) else none
  | _, _ => none
def oNeg : P1 := fun a _ => match a with
  | .d (.int i) => some (.d (.int (-i)))
  | _ => none
def oLt : P2 := fun a b _ => match a, b with
  | .d (.int i), .d (.int j) => some (.d (.bl (decide (i < j))))
  | _, _ => none
def oLe : P2 := fun a b _ => match a, b with
  | .d (.int i), .d (.int j) => some (.d (.bl (decide (i ≤ j))))
  | _, _ => none
def oGt : P2 := fun a b _ => match a, b with
  | .d (.int i), .d (.int j) => some (.d (.bl (decide (j < i))))
  | _, _ => none
def oGe : P2 := fun a b _ => match a, b with
  | .d (.int i), .d (.int j) => some (.d (.bl (decide (j ≤ i))))
  | _, _ => none
/-- scalars of one kind, or data -/
def eqB (st : Store) (a b : U) : Option Bool := match a, b with
  | .d (.int i), .d (.int j) => some (decide (i = j))
  | .d (.str i), .d (.str j) => some (decide (i = j))
  | .d (.bl i), .d (.bl j) => some (decide (i = j))
  | .d .non, .d .non => some true
  | .d (.str _), .d .non => some false
  | .d .non, .d (.str _) => some false
  | .d (.int _), .d .non => some false
  | .d .non, .d (.int _) => some false
  | a, b => match asP st a, asP st b with
    | some p, some q => if SeqAt.shaped p = true ∧ SeqAt.shaped q = true then some (PyData.eqv p q) else none
    | _, _ => none
def oEq : P2 := fun a b st => (eqB st a b).map fun k => .d (.bl k)
def oNe : P2 := fun a b st => (eqB st a b).map fun k => .d (.bl (!k))
def oIsN : P2 := fun a b _ => match a, b with
  | .d .non, .d .non => some (.d (.bl true))
  | _, .d .non => some (.d (.bl false))
  | _, _ => none
def oNotN : P2 := fun a b _ => match a, b with
  | .d .non, .d .non => some (.d (.bl false))
  | _, .d .non => some (.d (.bl true))
  | _, _ => none
/-- flat data -/
def flatD : D → Option PyData
  | .non => some .none
  | .bl b => some (.bool b)
  | .int i => some (.int i)
  | .str x => some (.str x)
  | _ => none
def inB (st : Store) (a b : U) : Option Bool := match a, b with
  | .d (.str x), .d (.str y) => some (!(Builtin.Str.occurrences y x 0 y.length 1).isEmpty)
  | .d x, .d (.tup ds) => match flatD x, allM flatD ds with
    | some p, some qs => some (qs.any fun q => PyData.eqv q p)
    | _, _ => none
  | a, b => match asP st a, asP st b with
    | some p, some (.list qs) => if SeqAt.shaped p = true ∧ SeqAt.shaped (.list qs) = true then some (qs.any fun q => PyData.eqv q p) else none
    | _, _ => none
def oIn : P2 := fun a b st => (inB st a b).map fun k => .d (.bl k)
def oNotIn : P2 := fun a b st => (inB st a b).map fun k => .d (.bl (!k))

section
variable {X : Cx}
theorem pv_flat {K : PySem.W.Frag} {m : List Addr} {st : Store} {H : Hp} {Q : VK} {u : U} {v : V} (r : Rep K m st H) (p : PV K m st H Q (some u)) (h : RpU K m H u v) : Q v H := p v H h r (Ext.refl _ _)
theorem opg_i {f : Value → Value → Sem Value} {g : P2} {C : Int → Int → Prop} {z : Int → Int → D} (rule : ∀ (pins : List (Addr × Obj)) (s : Shared) (σ : L2.St) (H : Hp) (i j : Int) (v u : Value) (Q : VK), Inv X pins σ H s → RelV (.int i) v → RelV (.int j) u → C i j → (∀ w, RpD X.K [] H (z i j) w → Q w H) →
    wpAny (model X.prog X.w) X.A (f v u) (EP X pins σ Q) X.xe s) (hz : ∀ i j m H w, RpD X.K [] H (z i j) w → RpD X.K m H (z i j) w)
    (hg : ∀ a b st u, g a b st = some u → ∃ i j, a = .d (.int i) ∧ b = .d (.int j) ∧ C i j ∧ u = .d (z i j)) : OpR X f (rG X.K g) := by
  intro pins s σ H x y v u Q I rx ry h
  obtain ⟨m, st, a, b, r, ha, hb, p⟩ := h
  cases e : g a b st with
  | none => rw [e] at p; exact p.elim
  | some c =>
    rw [e] at p
    obtain ⟨i, j, rfl, rfl, hc, rfl⟩ := hg a b st c e
    obtain rfl : x = .int i := ha
    obtain rfl : y = .int j := hb
    exact rule pins s σ H i j v u Q I rx ry hc fun w hw => pv_flat r p (hz i j m H w hw)
theorem op_sub' : OpR X (binaryOp .Sub) (rG X.K oSub) := opg_i (C := fun _ _ => True) (z := fun i j => .int (i - j))
  (fun pins s σ H i j v u Q I rx ry _ q => op_sub pins s σ H _ _ v u Q I rx ry ⟨i, j, rfl, rfl, q _ rfl⟩) (fun _ _ _ _ _ h => h) fun a b st u e => by
    unfold oSub at e
    split at e
    · cases e; exact ⟨_, _, rfl, rfl, trivial, rfl⟩
    · cases e
theorem op_mul' : OpR X (binaryOp .Mult) (rG X.K oMul) := opg_i (C := CMul) (z := fun i j => .int (i * j))
  (fun pins s σ H i j v u Q I rx ry c q => op_mul pins s σ H _ _ v u Q I rx ry ⟨i, j, rfl, rfl, c, q _ rfl⟩) (fun _ _ _ _ _ h => h) fun a b st u e => by
    unfold oMul at e
    split at e
    · split at e
      · rename_i h; cases e; exact ⟨_, _, rfl, rfl, h, rfl⟩
      · cases e
    · cases e
theorem op_fdiv' : OpR X (binaryOp .FloorDiv) (rG X.K oFdiv) := opg_i (C := CDiv) (z := fun i j => .int (i / j))
  (fun pins s σ H i j v u Q I rx ry c q => op_fdiv pins s σ H _ _ v u Q I rx ry ⟨i, j, rfl, rfl, c, q _ rfl⟩) (fun _ _ _ _ _ h => h) fun a b st u e => by
    unfold oFdiv at e
    split at e
    · split at e
      · rename_i h; cases e; exact ⟨_, _, rfl, rfl, h, rfl⟩
      · cases e
    · cases e
theorem op_mod' : OpR X (binaryOp .Mod) (rG X.K oMod) := opg_i (C := fun _ j => 0 < j) (z := fun i j => .int (i % j))
  (fun pins s σ H i j v u Q I rx ry c q => op_mod pins s σ H _ _ v u Q I rx ry ⟨i, j, rfl, rfl, c, q _ rfl⟩) (fun _ _ _ _ _ h => h) fun a b st u e => by
    unfold oMod at e
    split at e
    · split at e
      · rename_i h; cases e; exact ⟨_, _, rfl, rfl, h, rfl⟩
      · cases e
    · cases e
theorem op_pow' : OpR X (binaryOp .Pow) (rG X.K oPow) := opg_i (C := CPow) (z := fun i j => .int (i ^ j.toNat))
  (fun pins s σ H i j v u Q I rx ry c q => op_pow pins s σ H _ _ v u Q I rx ry ⟨i, j, rfl, rfl, c, q _ rfl⟩) (fun _ _ _ _ _ h => h) fun a b st u e => by
    unfold oPow at e
    split at e
    · split at e
      · rename_i h; cases e; exact ⟨_, _, rfl, rfl, h, rfl⟩
      · cases e
    · cases e
theorem op_lt' : OpR X (compareOp .Lt) (rG X.K oLt) := opg_i (C := fun _ _ => True) (z := fun i j => .bl (decide (i < j)))
  (fun pins s σ H i j v u Q I rx ry _ q => op_lt pins s σ H _ _ v u Q I rx ry ⟨i, j, rfl, rfl, q _ rfl⟩) (fun _ _ _ _ _ h => h) fun a b st u e => by
    unfold oLt at e
    split at e
    · cases e; exact ⟨_, _, rfl, rfl, trivial, rfl⟩
    · cases e
theorem op_le' : OpR X (compareOp .LtE) (rG X.K oLe) := opg_i (C := fun _ _ => True) (z := fun i j => .bl (decide (i ≤ j)))
  (fun pins s σ H i j v u Q I rx ry _ q => op_le pins s σ H _ _ v u Q I rx ry ⟨i, j, rfl, rfl, q _ rfl⟩) (fun _ _ _ _ _ h => h) fun a b st u e => by
    unfold oLe at e
    split at e
    · cases e; exact ⟨_, _, rfl, rfl, trivial, rfl⟩
    · cases e
theorem op_gt' : OpR X (compareOp .Gt) (rG X.K oGt) := opg_i (C := fun _ _ => True) (z := fun i j => .bl (decide (j < i)))
  (fun pins s σ H i j v u Q I rx ry _ q => op_gt pins s σ H _ _ v u Q I rx ry ⟨i, j, rfl, rfl, q _ rfl⟩) (fun _ _ _ _ _ h => h) fun a b st u e => by
    unfold oGt at e
    split at e
    · cases e; exact ⟨_, _, rfl, rfl, trivial, rfl⟩
    · cases e
theorem op_ge' : OpR X (compareOp .GtE) (rG X.K oGe) := opg_i (C := fun _ _ => True) (z := fun i j => .bl (decide (j ≤ i)))
  (fun pins s σ H i j v u Q I rx ry _ q => op_ge pins s σ H _ _ v u Q I rx ry ⟨i, j, rfl, rfl, q _ rfl⟩) (fun _ _ _ _ _ h => h) fun a b st u e => by
    unfold oGe at e
    split at e
    · cases e; exact ⟨_, _, rfl, rfl, trivial, rfl⟩
    · cases e
theorem un_neg' : UnR X (unaryOp .USub) (rG1 X.K oNeg) := by
  intro pins s σ H x v Q I rx h
  obtain ⟨m, st, a, r, ha, p⟩ := h
  unfold oNeg at p
  split at p
  · rename_i i
    obtain rfl : x = .int i := ha
    exact un_neg pins s σ H _ v Q I rx ⟨i, rfl, pv_flat r p rfl⟩
  · exact p.elim
theorem op_add' : OpR X (binaryOp .Add) (rG X.K oAdd) := by
  intro pins s σ H x y v u Q I rx ry h
  obtain ⟨m, st, a, b, r, ha, hb, p⟩ := h
  unfold oAdd at p
  split at p
  · rename_i i j
    obtain rfl : x = .int i := ha
    obtain rfl : y = .int j := hb
    exact op_add pins s σ H _ _ v u Q I rx ry ⟨i, j, rfl, rfl, pv_flat r p rfl⟩
  · rename_i i j
    obtain rfl : x = .str i := ha
    obtain rfl : y = .str j := hb
    split at p
    · rename_i hz
      exact op_add_str pins s σ H _ _ v u Q I rx ry ⟨i, j, rfl, rfl, hz, pv_flat r p rfl⟩
    · exact p.elim
  · rename_i xs ys
    split at p
    · rename_i hz
      obtain ⟨a, vs, rfl, ta, ra⟩ := ha
      obtain ⟨b, ws, rfl, tb, rb⟩ := hb
      have l1 := ra.length
      have l2 := rb.length
      refine op_catA pins s σ H _ _ v u Q I rx ry ⟨a, b, vs, ws, rfl, rfl, ta.sq, tb.sq, by omega, fun e => ?_, fun _ e => ?_, fun _ _ q hq => ?_⟩
      · subst e
        have : xs = [] := List.length_eq_zero_iff.mp (by simpa using l1.symm)
        subst this
        exact pv_flat r p ⟨b, ws, rfl, tb, rb⟩
      · subst e
        have : ys = [] := List.length_eq_zero_iff.mp (by simpa using l2.symm)
        subst this
        exact pv_flat r p ⟨a, vs, rfl, ta, by rw [List.append_nil]; exact ra⟩
      · exact p _ _ (new_tup r hq (ra.append rb)) (r.new hq _) (ext_new r hq _)
    · exact p.elim
  · rename_i xs ys
    split at p
    · rename_i hz
      obtain ⟨a, vs, rfl, ta, ra⟩ := ha
      obtain ⟨b, ws, rfl, tb, rb⟩ := hb
      have l1 := ra.length
      have l2 := rb.length
      exact op_cat pins s σ H _ _ v u Q I rx ry ⟨a, b, vs, ws, rfl, rfl, ta.2, tb.2, by omega, fun q hq => p _ _ (new_lst r hq (ra.append rb)) (r.new hq _) (ext_new r hq _)⟩
    · exact p.elim
  · exact p.elim
theorem eqB_ok {f : Value → Value → Sem Value} {z : Bool → Bool} (hs : OpR X f (fun x y H Q => scal x y = true ∧ Q (.bl (z (decide (x = y)))) H))
    (hd : OpR X f (fun x y H Q => ∃ d e, Dp X.K H x d ∧ Dp X.K H y e ∧ SeqAt.shaped d = true ∧ SeqAt.shaped e = true ∧ Q (.bl (z (PyData.eqv d e))) H)) :
    OpR X f (rG X.K fun a b st => (eqB st a b).map fun k => .d (.bl (z k))) := by
  intro pins s σ H x y v u Q I rx ry h
  obtain ⟨m, st, a, b, r, ha, hb, p⟩ := h
  replace p : PV X.K m st H Q ((eqB st a b).map fun k => .d (.bl (z k))) := p
  have sc : ∀ {k : Bool}, PV X.K m st H Q (some (.d (.bl (z k)))) → scal x y = true → decide (x = y) = k → wpAny (model X.prog X.w) X.A (f v u) (EP X pins σ Q) X.xe s := fun {k} p h1 h2 =>
    hs pins s σ H x y v u Q I rx ry ⟨h1, by rw [h2]; exact pv_flat r p rfl⟩
  cases e : eqB st a b with
  | none => rw [e] at p; exact p.elim
  | some k =>
    rw [e] at p
    have p' : PV X.K m st H Q (some (.d (.bl (z k)))) := p
    unfold eqB at e
    split at e
    · cases ha; cases hb; cases e; exact sc p' rfl (by simp)
    · cases ha; cases hb; cases e; exact sc p' rfl (by simp)
    · cases ha; cases hb; cases e; exact sc p' rfl (by simp)
    · cases ha; cases hb; cases e; exact sc p' rfl (by simp)
    · cases ha; cases hb; cases e; exact sc p' rfl (by simp)
    · cases ha; cases hb; cases e; exact sc p' rfl (by simp)
    · cases ha; cases hb; cases e; exact sc p' rfl (by simp)
    · cases ha; cases hb; cases e; exact sc p' rfl (by simp)
    · split at e
      · rename_i q1 q2
        split at e
        · rename_i hsh
          cases e
          exact hd pins s σ H x y v u Q I rx ry ⟨_, _, asP_dp r ha q1, asP_dp r hb q2, hsh.1, hsh.2, pv_flat r p' rfl⟩
        · cases e
      · cases e
theorem op_eq' (hu : X.A.units + 64 < cLine) : OpR X (compareOp .Eq) (rG X.K oEq) := eqB_ok (z := fun k => k) op_eq (op_eqD hu)
theorem op_ne' (hu : X.A.units + 64 < cLine) : OpR X (compareOp .NotEq) (rG X.K oNe) := eqB_ok (z := fun k => !k) op_ne (op_neD hu)
theorem op_isN' : OpR X (compareOp .Is) (rG X.K oIsN) := by
  intro pins s σ H x y v u Q I rx ry h
  obtain ⟨m, st, a, b, r, ha, hb, p⟩ := h
  unfold oIsN at p
  split at p
  · cases ha; cases hb
    exact op_isN pins s σ H _ _ v u Q I rx ry ⟨rfl, pv_flat r p rfl⟩
  · rename_i hn
    cases hb
    refine op_isN pins s σ H _ _ v u Q I rx ry ⟨rfl, ?_⟩
    have : decide (x = .non) = false := decide_eq_false fun e => by
      subst e
      cases a with
      | ref n => obtain ⟨_, _, z⟩ := ha; cases z
      | d w => cases w <;> first | exact hn rfl | (obtain ⟨_, z, _⟩ := ha; cases z; done) | (obtain ⟨_, _, z, _⟩ := ha; cases z; done) | (obtain ⟨_, _, _, z, _⟩ := ha; cases z; done) | (cases ha; done) | (cases ha.1; done)
    rw [this]
    exact pv_flat r p rfl
  · exact p.elim
theorem op_notN' : OpR X (compareOp .IsNot) (rG X.K oNotN) := by
  intro pins s σ H x y v u Q I rx ry h
  obtain ⟨m, st, a, b, r, ha, hb, p⟩ := h
  unfold oNotN at p
  split at p
  · cases ha; cases hb
    exact op_notN pins s σ H _ _ v u Q I rx ry ⟨rfl, pv_flat r p rfl⟩
  · rename_i hn
    cases hb
    refine op_notN pins s σ H _ _ v u Q I rx ry ⟨rfl, ?_⟩
    have : decide (x = .non) = false := decide_eq_false fun e => by
      subst e
      cases a with
      | ref n => obtain ⟨_, _, z⟩ := ha; cases z
      | d w => cases w <;> first | exact hn rfl | (obtain ⟨_, z, _⟩ := ha; cases z; done) | (obtain ⟨_, _, z, _⟩ := ha; cases z; done) | (obtain ⟨_, _, _, z, _⟩ := ha; cases z; done) | (cases ha; done) | (cases ha.1; done)
    rw [this]
    exact pv_flat r p rfl
  · exact p.elim

theorem eqV_flat {K : PySem.W.Frag} {m : List Addr} {H : Hp} {d e : D} {x y : V} {p q : PyData} (h1 : RpD K m H d x) (h2 : RpD K m H e y) (e1 : flatD d = some p) (e2 : flatD e = some q) : eqV x y = PyData.eqv p q ∧ flatV x = true := by
  cases d <;> first | (cases e1; done) | skip
  all_goals (cases e <;> first | (cases e2; done) | skip)
  all_goals (cases h1; cases h2; cases e1; cases e2; exact ⟨rfl, rfl⟩)
theorem allM_flat {K : PySem.W.Frag} {m : List Addr} {H : Hp} {d : D} {x : V} {p : PyData} (h1 : RpD K m H d x) (e1 : flatD d = some p) : ∀ {ds : List D} {vs : List V} {qs : List PyData}, RpDs K m H ds vs → allM flatD ds = some qs → inV x vs = qs.any (fun q => PyData.eqv q p) ∧ vs.all flatV = true
  | [], _, _, h, e => by cases h; cases e; exact ⟨rfl, rfl⟩
  | d' :: ds, _, qs, ⟨v, r, ev, g1, g2⟩, e => by
    unfold allM at e
    cases q1 : flatD d' with
    | none => rw [q1] at e; cases e
    | some b =>
      cases q2 : allM flatD ds with
      | none => rw [q1, q2] at e; cases e
      | some bs =>
        rw [q1, q2] at e; cases e
        subst ev
        obtain ⟨i1, i2⟩ := allM_flat h1 e1 g2 q2
        obtain ⟨j1, j2⟩ := eqV_flat g1 h1 q1 e1
        refine ⟨?_, by rw [List.all_cons, j2, i2]; rfl⟩
        unfold inV at i1 ⊢
        rw [List.any_cons, List.any_cons, i1, j1]
theorem inB_ok {op : CmpOp} {z : Bool → Bool} (hs : OpR X (compareOp op) (fun x y H Q => ∃ i j, x = .str i ∧ y = .str j ∧ Q (.bl (z (!(Builtin.Str.occurrences j i 0 j.length 1).isEmpty))) H))
    (hf : OpR X (compareOp op) (fun x y H Q => ∃ p xs, y = .ref p ∧ (SqL X.K H p xs ∨ SqT X.K H p xs) ∧ flatV x = true ∧ xs.all flatV = true ∧ Q (.bl (z (inV x xs))) H))
    (hd : OpR X (compareOp op) (fun x y H Q => ∃ d ds, Dp X.K H x d ∧ Dp X.K H y (.list ds) ∧ SeqAt.shaped d = true ∧ SeqAt.shaped (.list ds) = true ∧ Q (.bl (z (ds.any fun q => PyData.eqv q d))) H)) :
    OpR X (compareOp op) (rG X.K fun a b st => (inB st a b).map fun k => .d (.bl (z k))) := by
  intro pins s σ H x y v u Q I rx ry h
  obtain ⟨m, st, a, b, r, ha, hb, p⟩ := h
  replace p : PV X.K m st H Q ((inB st a b).map fun k => .d (.bl (z k))) := p
  cases e : inB st a b with
  | none => rw [e] at p; exact p.elim
  | some k =>
    rw [e] at p
    have p' : PV X.K m st H Q (some (.d (.bl (z k)))) := p
    unfold inB at e
    split at e
    · cases ha; cases hb; cases e; exact hs pins s σ H _ _ v u Q I rx ry ⟨_, _, rfl, rfl, pv_flat r p' rfl⟩
    · split at e
      · rename_i q1 q2
        cases e
        obtain ⟨b, ws, rfl, tb, rb⟩ := hb
        obtain ⟨i1, i2⟩ := allM_flat ha q1 rb q2
        exact hf pins s σ H _ _ v u Q I rx ry ⟨b, ws, rfl, .inr tb.sq, (eqV_flat ha ha q1 q1).2, i2, by rw [i1]; exact pv_flat r p' rfl⟩
      · cases e
    · split at e
      · rename_i q1 q2
        split at e
        · rename_i hsh
          cases e
          exact hd pins s σ H x y v u Q I rx ry ⟨_, _, asP_dp r ha q1, asP_dp r hb q2, hsh.1, hsh.2, pv_flat r p' rfl⟩
        · cases e
      · cases e
theorem op_in' (hu : X.A.units + 65 < cLine) : OpR X (compareOp .In) (rG X.K oIn) := inB_ok (z := fun k => k) op_in_str op_in_seq (op_inD hu)
theorem op_notIn' (hu : X.A.units + 65 < cLine) : OpR X (compareOp .NotIn) (rG X.K oNotIn) := inB_ok (z := fun k => !k) op_notin_str op_notIn_seq (op_notInD hu)

/-! ### truth -/
def truB (st : Store) : U → Option Bool
  | .d .non => some false
  | .d (.bl b) => some b
  | .d (.int i) => some (i != 0)
  | .d (.str x) => if x.length ≤ sizeLine then some ((x.length : Int) != 0) else none
  | .d (.tup ds) => some (!ds.isEmpty)
  | .d (.lst ds) => some (!ds.isEmpty)
  | .d (.scr ns) => some (!ns.isEmpty)
  | .ref n => match st[n]? with
    | some (.lst us) => some (!us.isEmpty)
    | some (.dct us) => some (!us.isEmpty)
    | _ => none
  | _ => none
end
section
variable {K : PySem.W.Frag} {m : List Addr} {H : Hp} {st : Store}
theorem RpUs.isEmpty {us : List U} {vs : List V} (h : RpUs K m H us vs) : vs.isEmpty = us.isEmpty := by
  cases us with
  | nil => rw [show vs = [] from h]; rfl
  | cons u us => obtain ⟨v, r, e, _⟩ := h; rw [e]; rfl
theorem RpDs.isEmpty {us : List D} {vs : List V} (h : RpDs K m H us vs) : vs.isEmpty = us.isEmpty := by
  cases us with
  | nil => rw [show vs = [] from h]; rfl
  | cons u us => obtain ⟨v, r, e, _⟩ := h; rw [e]; rfl
theorem RpUK.isEmpty {us : List (Key × U)} {vs : List (Key × V)} (h : RpUK K m H us vs) : vs.isEmpty = us.isEmpty := by
  cases us with
  | nil => rw [show vs = [] from h]; rfl
  | cons u us => obtain ⟨v, r, e, _⟩ := h; rw [e]; rfl
theorem truB_ok (r : Rep K m st H) {u : U} {v : V} {k : Bool} (h : RpU K m H u v) (e : truB st u = some k) : TruV K v H k := by
  cases u with
  | ref n =>
    obtain ⟨a, ha, rfl⟩ := h
    simp only [truB] at e
    split at e
    · rename_i us hs
      obtain ⟨ho, h1, vs, e2, h2⟩ := r.cell n _ a hs ha
      subst e2
      cases e
      exact .inl ⟨vs, .inl (.inl h1), by rw [h2.isEmpty]⟩
    · rename_i us hs
      obtain ⟨ho, h1, vs, e2, h2⟩ := r.cell n _ a hs ha
      subst e2
      cases e
      exact .inr (.inr ⟨vs, h1, by rw [h2.isEmpty]⟩)
    · cases e
  | d x =>
    cases x with
    | non => cases h; cases e; rfl
    | bl b => cases h; cases e; rfl
    | int i => cases h; cases e; rfl
    | str x =>
      cases h
      simp only [truB] at e
      split at e
      · rename_i hz; cases e; exact ⟨hz, rfl⟩
      · cases e
    | tup ds =>
      obtain ⟨a, vs, rfl, t, q⟩ := h
      cases e
      exact .inr (.inl ⟨vs, t.sq, by rw [q.isEmpty]⟩)
    | lst ds =>
      obtain ⟨a, vs, rfl, t, q⟩ := h
      cases e
      exact .inl ⟨vs, t.sq, by rw [q.isEmpty]⟩
    | scr ns =>
      obtain ⟨a, rfl, t⟩ := h
      cases e
      exact .inl ⟨_, t.sq, by cases ns <;> rfl⟩
    | _ => cases e
end
/-- a value as a test -/
def asT (f : F U) : F Bool := bnd f fun u => fun _ st => .of st (truB st u)
def fNot (f : F U) : F U := bnd f fun u => fun _ st => .of st ((truB st u).map fun k => .d (.bl (!k)))
def fIf (c : F Bool) (a b : F U) : F U := bnd c fun k => if k = true then a else b
def fAnd (a b : F U) : F U := bnd a fun x => fun env st => match x with
  | .d (.bl true) => b env st
  | .d (.bl false) => .ok (.d (.bl false)) st
  | _ => .bad
def fOr (a b : F U) : F U := bnd a fun x => fun env st => match x with
  | .d (.bl true) => .ok (.d (.bl true)) st
  | .d (.bl false) => b env st
  | _ => .bad
def bNot (f : F Bool) : F Bool := bnd f fun k => fun _ st => .ok (!k) st
def bAnd (a b : F Bool) : F Bool := bnd a fun k => if k = true then b else fPure false
def bOr (a b : F Bool) : F Bool := bnd a fun k => if k = true then fPure true else b
section
variable {X : Cx} {W : WX} {a b c : Expr} {rest : List Expr} {fa fb fc : F U} {ba bb bc : F Bool} {pos : Pos}
theorem t_asT {f : F U} {σ : L2.St} {H : Hp} {Q : Bool → Hp → Prop} (h : tFB X.K W (asT f) σ H Q) : tF X.K W f σ H (fun x H' => ∃ k, TruV X.K x H' k ∧ Q k H') := by
  obtain ⟨m, env, st, r, re, p⟩ := h
  refine tF_step r re p fun a st1 v m1 H1 h1 r1 re1 e1 p1 => ?_
  cases e : truB st1 a with
  | none => rw [e] at p1; exact False.elim p1
  | some k => rw [e] at p1; exact ⟨k, truB_ok r1 h1 e, PO'.imp' p1 r1⟩
theorem dt_truth (ha : DE X W a fa) (he : ∀ whole, isTrue a X.env whole = (do let v ← whole; standAt a.pos; holding [v] (truthy v)) := by intro _; rfl) : DT X W a (asT fa) :=
  ⟨PT.imp (pt_truth ha.pe he) fun _ _ _ h => t_asT h⟩
theorem d_not (ha : DE X W a fa) : DE X W (.UnaryOp .Not a pos) (fNot fa) := ⟨PE.imp (pe_notT ha.pe) fun σ H Q ⟨m, env, st, r, re, p⟩ =>
  tF_step r re p fun a st1 v m1 H1 h1 r1 re1 e1 p1 => by
    cases e : truB st1 a with
    | none => rw [e] at p1; exact False.elim p1
    | some k => rw [e] at p1; exact ⟨k, truB_ok r1 h1 e, p1 _ m1 H1 rfl r1 (Ext.refl _ _)⟩⟩
theorem d_if (hc : DT X W c bc) (ha : DE X W a fa) (hb : DE X W b fb) : DE X W (.IfExp c a b pos) (fIf bc fa fb) := ⟨PE.imp (pe_ifExp hc.pt ha.pe hb.pe) fun σ H Q ⟨m, env, st, r, re, p⟩ =>
  tFB_step r re p fun k st1 m1 H1 r1 re1 e1 p1 => by
    cases k with
    | true => exact iteT ⟨m1, env, st1, r1, re1, p1⟩
    | false => exact iteF ⟨m1, env, st1, r1, re1, p1⟩⟩
theorem d_one {op : BoolOp} (h : DE X W a fa) : DE X W (.BoolOp op [a] pos) fa := ⟨pe_one h.pe⟩
theorem d_and (ha : DE X W a fa) (hb : DE X W (.BoolOp .And (b :: rest) pos) fb) : DE X W (.BoolOp .And (a :: b :: rest) pos) (fAnd fa fb) := ⟨PE.imp (pe_and ha.pe hb.pe) fun σ H Q ⟨m, env, st, r, re, p⟩ =>
  tF_step r re p fun x st1 v m1 H1 h1 r1 re1 e1 p1 => by
    cases x with
    | ref n => exact False.elim p1
    | d x =>
      cases x with
      | bl k =>
        refine ⟨k, h1, ?_⟩
        cases k with
        | true => exact iteT ⟨m1, env, st1, r1, re1, p1⟩
        | false => exact iteF (p1 _ m1 H1 rfl r1 (Ext.refl _ _))
      | _ => exact False.elim p1⟩
theorem d_or (ha : DE X W a fa) (hb : DE X W (.BoolOp .Or (b :: rest) pos) fb) : DE X W (.BoolOp .Or (a :: b :: rest) pos) (fOr fa fb) := ⟨PE.imp (pe_or ha.pe hb.pe) fun σ H Q ⟨m, env, st, r, re, p⟩ =>
  tF_step r re p fun x st1 v m1 H1 h1 r1 re1 e1 p1 => by
    cases x with
    | ref n => exact False.elim p1
    | d x =>
      cases x with
      | bl k =>
        refine ⟨k, h1, ?_⟩
        cases k with
        | true => exact iteT (p1 _ m1 H1 rfl r1 (Ext.refl _ _))
        | false => exact iteF ⟨m1, env, st1, r1, re1, p1⟩
      | _ => exact False.elim p1⟩
/-! tests -/
theorem dt_not (h : DT X W a ba) : DT X W (.UnaryOp .Not a pos) (bNot ba) := ⟨PT.imp (pt_not h.pt) fun σ H Q ⟨m, env, st, r, re, p⟩ =>
  tFB_step r re p fun k st1 m1 H1 r1 re1 e1 p1 => PO'.imp' p1 r1⟩
theorem dw_and1 (h : DT X W a ba) : DW X W (.BoolOp .And [a] pos) ba := ⟨pw_and1 h.pt⟩
theorem dw_or1 (h : DT X W a ba) : DW X W (.BoolOp .Or [a] pos) ba := ⟨pw_or1 h.pt⟩
theorem dw_and (ha : DT X W a ba) (hb : DW X W (.BoolOp .And (b :: rest) pos) bb) : DW X W (.BoolOp .And (a :: b :: rest) pos) (bAnd ba bb) := ⟨PW.imp (pw_and ha.pt hb.pw) fun σ H Q ⟨m, env, st, r, re, p⟩ =>
  tFB_step r re p fun k st1 m1 H1 r1 re1 e1 p1 => by
    cases k with
    | true => exact iteT ⟨m1, env, st1, r1, re1, p1⟩
    | false => exact iteF (PO'.imp' p1 r1)⟩
theorem dw_or (ha : DT X W a ba) (hb : DW X W (.BoolOp .Or (b :: rest) pos) bb) : DW X W (.BoolOp .Or (a :: b :: rest) pos) (bOr ba bb) := ⟨PW.imp (pw_or ha.pt hb.pw) fun σ H Q ⟨m, env, st, r, re, p⟩ =>
  tFB_step r re p fun k st1 m1 H1 r1 re1 e1 p1 => by
    cases k with
    | true => exact iteT (PO'.imp' p1 r1)
    | false => exact iteF ⟨m1, env, st1, r1, re1, p1⟩⟩
theorem dw_pt (h : DW X W a ba) : DT X W a ba := ⟨h.pw.pt⟩
/-! chains -/
theorem t_chain {g g' : P2} {σ : L2.St} {H : Hp} {Q : VK} (hg' : ∀ a b st u, g' a b st = some u → ∃ k, u = .d (.bl k)) {Z : VK} (hZ : ∀ x H, (∃ k, x = .bl k ∧ Q (.bl k) H) → Z x H) (h : tF X.K W (fChain g g' fa fb fc) σ H Q) :
    tChain (rG X.K g) (rG X.K g') (tF X.K W fa) (tF X.K W fb) (tF X.K W fc) σ H Z := by
  obtain ⟨m, env, st, r, re, p⟩ := h
  refine tF_step r re p fun a st1 v m1 H1 h1 r1 re1 e1 p1 => ?_
  refine tF_step r1 re1 p1 fun b st2 w m2 H2 h2 r2 re2 e2 p2 => ?_
  refine ⟨m2, st2, a, b, r2, h1.ext e2, h2, ?_⟩
  cases e : g a b st2 with
  | none => rw [e] at p2; exact False.elim p2
  | some u =>
    rw [e] at p2
    intro z H3 hz r3 e3
    cases u with
    | ref n => exact False.elim p2
    | d x =>
      cases x with
      | bl k =>
        refine ⟨k, hz, ?_⟩
        cases k with
        | false => exact iteF (hZ _ _ ⟨false, rfl, p2 _ m2 H3 rfl r3 e3⟩)
        | true =>
          refine iteT ?_
          refine tF_step r3 (re2.ext e3) (p2.from e3) fun c st4 t m4 H4 h4 r4 re4 e4 p4 => ?_
          refine ⟨m4, st4, b, c, r4, h2.ext (e3.trans e4), h4, ?_⟩
          cases e' : g' b c st4 with
          | none => rw [e'] at p4; exact False.elim p4
          | some u =>
            rw [e'] at p4
            intro v5 H5 h5 r5 e5
            obtain ⟨k, rfl⟩ := hg' _ _ _ _ e'
            cases h5
            exact hZ _ _ ⟨k, rfl, p4 _ m4 H5 rfl r5 e5⟩
      | _ => exact False.elim p2
theorem d_chain {op op' : CmpOp} {g g' : P2} (ho : OpR X (compareOp op) (rG X.K g)) (ho' : OpR X (compareOp op') (rG X.K g')) (hg' : ∀ a b st u, g' a b st = some u → ∃ k, u = .d (.bl k)) (ha : DE X W a fa) (hb : DE X W b fb) (hc : DE X W c fc)
    (hm : lastMarks [op, op'] [b, c] = false := by with_unfolding_all rfl) : DE X W (.Compare a [op, op'] [b, c] pos) (fChain g g' fa fb fc) :=
  ⟨PE.imp (pe_chain ho ho' ha.pe hb.pe hc.pe hm) fun σ H Q h => t_chain hg' (fun x H ⟨k, e, q⟩ => by rw [e]; exact q) h⟩
theorem dt_chain {op op' : CmpOp} {g g' : P2} (ho : OpR X (compareOp op) (rG X.K g)) (ho' : OpR X (compareOp op') (rG X.K g')) (hg' : ∀ a b st u, g' a b st = some u → ∃ k, u = .d (.bl k)) (ha : DE X W a fa) (hb : DE X W b fb) (hc : DE X W c fc)
    (hm : lastMarks [op, op'] [b, c] = false := by with_unfolding_all rfl) : DT X W (.Compare a [op, op'] [b, c] pos) (asB (fChain g g' fa fb fc)) :=
  ⟨PT.imp (pt_chain ho ho' ha.pe hb.pe hc.pe hm) fun σ H Q h => t_chain hg' (fun x H h => by obtain ⟨k, e, k', e', q⟩ := h; cases e'; exact ⟨k, e, q⟩) (t_asB h)⟩
theorem bl_lt (a b : U) (st : Store) (u : U) (e : oLt a b st = some u) : ∃ k, u = .d (.bl k) := by
  unfold oLt at e; split at e <;> cases e; exact ⟨_, rfl⟩
theorem bl_le (a b : U) (st : Store) (u : U) (e : oLe a b st = some u) : ∃ k, u = .d (.bl k) := by
  unfold oLe at e; split at e <;> cases e; exact ⟨_, rfl⟩
end
end VL

/-! VLd: arguments, displays, subscripts, slices, built-in functions, methods of built-in types. -/
namespace VL
open PySem PySem.Spec PyProof.Rows L2

/-! ### argument lists, displays -/
def fNil : F (List U) := fPure []
def fCons (f : F U) (g : F (List U)) : F (List U) := bnd f fun u => bnd g fun us => fPure (u :: us)
def vTup : List U → Store → Option U := fun us _ => match pureL us with
  | some ds => if ds.length ≤ sizeLine then some (.d (.tup ds)) else none
  | none => none
def vLst : List U → Store → Option U := fun us _ => match pureL us with
  | some ds => if ds.length ≤ sizeLine then some (.d (.lst ds)) else none
  | none => none
def fN (g : List U → Store → Option U) (f : F (List U)) : F U := bnd f fun us => fun _ st => .of st (g us st)
/-- a display that is a cell -/
def fLstC (f : F (List U)) : F U := bnd f fun us => fun _ st => if us.length ≤ sizeLine then .ok (.ref st.length) (st ++ [.lst us]) else .bad
section
variable {X : Cx} {W : WX} {e : Expr} {es : List Expr} {fe : F U} {fs : F (List U)} {pos : Pos}
theorem da_nil : DA X W [] fNil := ⟨PA.imp pa_nil fun σ H Q ⟨m, env, st, r, re, p⟩ => p [] m H rfl r (Ext.refl _ _)⟩
theorem da_cons (he : DE X W e fe) (hs : DA X W es fs) (hst : starEach (e :: es) X.env = (false, eval e X.env) :: starEach es X.env := by rfl) : DA X W (e :: es) (fCons fe fs) :=
  ⟨PA.imp (pa_cons he.pe hs.pa hst) fun σ H Q ⟨m, env, st, r, re, p⟩ => tF_step r re p fun u st1 v m1 H1 h1 r1 re1 e1 p1 => tFs_step r1 re1 p1 fun us st2 vs m2 H2 h2 r2 re2 e2 p2 =>
    p2 (v :: vs) m2 H2 ⟨v, vs, rfl, h1.ext e2, h2⟩ r2 (Ext.refl _ _)⟩
/-- a tuple, of data or of cells -/
def fTup (f : F (List U)) : F U := bnd f fun us => fun _ st => match pureL us with
  | some ds => if ds.length ≤ sizeLine then .ok (.d (.tup ds)) st else .bad
  | none => if us.length ≤ sizeLine then .ok (.ref st.length) (st ++ [.tup us]) else .bad
theorem d_tupC {k : Nat} (h : DA X W es fs) : DE X W (.Tuple es k pos) (fTup fs) := ⟨PE.imp (pe_tup h.pa) fun σ H Q ⟨m, env, st, r, re, p⟩ => tFs_step r re p fun us st1 vs m1 H1 h1 r1 re1 e1 p1 => by
  split at p1
  · rename_i ds hd
    split at p1
    · rename_i hz
      have hr := pureL_rp h1 hd
      exact ⟨by rw [hr.length]; exact hz, fun q hq => p1 _ m1 _ (new_tup r1 hq hr) (r1.new hq _) (ext_new r1 hq _)⟩
    · exact False.elim p1
  · split at p1
    · rename_i hz
      exact ⟨by rw [h1.length]; exact hz, fun q hq => p1 _ (m1 ++ [q]) _ ⟨q, by rw [← r1.len]; simp, rfl⟩ (r1.push hq ⟨vs, rfl, h1.ext (ext_push r1 hq _)⟩) (ext_push r1 hq _)⟩
    · exact False.elim p1⟩
theorem d_tup {k : Nat} (h : DA X W es fs) : DE X W (.Tuple es k pos) (fN vTup fs) := ⟨PE.imp (pe_tup h.pa) fun σ H Q ⟨m, env, st, r, re, p⟩ => tFs_step r re p fun us st1 vs m1 H1 h1 r1 re1 e1 p1 => by
  cases e : vTup us st1 with
  | none => rw [e] at p1; exact False.elim p1
  | some u =>
    rw [e] at p1
    unfold vTup at e
    split at e
    · rename_i ds hd
      split at e
      · rename_i hz
        cases e
        have hr := pureL_rp h1 hd
        exact ⟨by rw [hr.length]; exact hz, fun q hq => p1 _ m1 _ (new_tup r1 hq hr) (r1.new hq _) (ext_new r1 hq _)⟩
      · cases e
    · cases e⟩
theorem d_lst (h : DA X W es fs) : DE X W (.List es pos) (fN vLst fs) := ⟨PE.imp (pe_lst h.pa) fun σ H Q ⟨m, env, st, r, re, p⟩ => tFs_step r re p fun us st1 vs m1 H1 h1 r1 re1 e1 p1 => by
  cases e : vLst us st1 with
  | none => rw [e] at p1; exact False.elim p1
  | some u =>
    rw [e] at p1
    unfold vLst at e
    split at e
    · rename_i ds hd
      split at e
      · rename_i hz
        cases e
        have hr := pureL_rp h1 hd
        exact ⟨by rw [hr.length]; exact hz, fun q hq => p1 _ m1 _ (new_lst r1 hq hr) (r1.new hq _) (ext_new r1 hq _)⟩
      · cases e
    · cases e⟩
theorem push_lst {K : PySem.W.Frag} {m : List Addr} {H : Hp} {st : Store} (r : Rep K m st H) {p : Addr} (np : H p = none) {us : List U} {vs : List V} (h : RpUs K m H us vs) :
    RpU K (m ++ [p]) (upd H p (.lst vs)) (.ref st.length) (.ref p) ∧ Rep K (m ++ [p]) (st ++ [.lst us]) (upd H p (.lst vs)) :=
  ⟨⟨p, by rw [← r.len]; simp, rfl⟩, r.push np ⟨vs, rfl, h.ext (ext_push r np _)⟩⟩
theorem d_lstC (h : DA X W es fs) : DE X W (.List es pos) (fLstC fs) := ⟨PE.imp (pe_lst h.pa) fun σ H Q ⟨m, env, st, r, re, p⟩ => tFs_step r re p fun us st1 vs m1 H1 h1 r1 re1 e1 p1 => by
  split at p1
  · rename_i hz
    refine ⟨by rw [h1.length]; exact hz, fun q hq => ?_⟩
    obtain ⟨g1, g2⟩ := push_lst r1 hq h1
    exact p1 _ _ _ g1 g2 (ext_push r1 hq _)
  · exact False.elim p1⟩
end

/-! ### subscripts -/
def keyD : U → Option Key
  | .d (.int i) => some (.inl i)
  | .d (.str x) => some (.inr x)
  | _ => none
def lookK {α : Type} (kvs : List (Key × α)) (k : Key) : Option α := (kvs.find? fun kv => decide (kv.1 = k)).map (·.2)
/-- a dict's pairs -/
def getD (st : Store) : U → Option (List (Key × U))
  | .d (.dct kvs) => some (kvs.map fun kv => (kv.1, .d kv.2))
  | .ref n => match st[n]? with
    | some (.dct us) => some us
    | _ => none
  | _ => none
def oIx : P2 := fun a b st => match getD st a with
  | some kvs => match keyD b with
    | some k => lookK kvs k
    | none => none
  | none => match b with
    | .d (.int i) => match getL st a with
      | some us => atI us i
      | none => match a with
        | .d (.tup ds) => (atI ds i).map .d
        | .d (.str z) => if z.length ≤ sizeLine then (atI z.cps.toList i).map fun c => .d (.str ⟨#[c]⟩) else none
        | _ => none
    | _ => none
section
variable {K : PySem.W.Frag} {m : List Addr} {H : Hp} {st : Store}
theorem RpUK.ofD : ∀ {ds : List (Key × D)} {vs : List (Key × V)}, RpK K m H ds vs → RpUK K m H (ds.map fun kv => (kv.1, .d kv.2)) vs
  | [], _, h => h
  | (k, d) :: ds, _, ⟨v, r, e, h1, h2⟩ => ⟨v, r, e, h1, RpUK.ofD h2⟩
theorem RpUK.toD : ∀ {ds : List (Key × D)} {vs : List (Key × V)}, RpUK K m H (ds.map fun kv => (kv.1, .d kv.2)) vs → RpK K m H ds vs
  | [], _, h => h
  | (k, d) :: ds, _, ⟨v, r, e, h1, h2⟩ => ⟨v, r, e, h1, RpUK.toD h2⟩
theorem getD_rp (r : Rep K m st H) : ∀ {u : U} {v : V} {us : List (Key × U)}, RpU K m H u v → getD st u = some us → ∃ a vs, v = .ref a ∧ Rd H a (.dK vs) ∧ RpUK K m H us vs
  | .d (.dct ds), v, us, ⟨a, vs, e, h1, h2⟩, q => by
    cases q
    exact ⟨a, vs, e, h1.2, RpUK.ofD h2⟩
  | .ref n, v, us, ⟨a, ha, e⟩, q => by
    simp only [getD] at q
    split at q
    · rename_i zs hs
      cases q
      obtain ⟨ho, h1, vs, e2, h2⟩ := r.cell n _ a hs ha
      rw [e2] at h1
      exact ⟨a, vs, e, .inl h1, h2⟩
    · cases q
  | .d .non, _, _, _, q => by cases q
  | .d (.bl _), _, _, _, q => by cases q
  | .d (.int _), _, _, _, q => by cases q
  | .d (.str _), _, _, _, q => by cases q
  | .d (.ty _), _, _, _, q => by cases q
  | .d (.obj _), _, _, _, q => by cases q
  | .d (.tup _), _, _, _, q => by cases q
  | .d (.lst _), _, _, _, q => by cases q
  | .d (.scr _), _, _, _, q => by cases q
  | .d (.ins _ _), _, _, _, q => by cases q
  | .d (.exc _ _ _ _), _, _, _, q => by cases q
theorem lookK_rp {k : Key} : ∀ {us : List (Key × U)} {vs : List (Key × V)}, RpUK K m H us vs → match lookK us k with | some u => ∃ v, valV vs k = some v ∧ RpU K m H u v | none => valV vs k = none
  | [], _, h => by cases h; exact rfl
  | (k', u) :: us, _, ⟨v, r, e, h1, h2⟩ => by
    subst e
    have ih := lookK_rp (k := k) h2
    unfold lookK valV at ih ⊢
    rw [List.find?_cons, List.find?_cons]
    by_cases e : k' = k
    · rw [decide_eq_true e]; exact ⟨v, rfl, h1⟩
    · rw [decide_eq_false e]; exact ih
theorem keyD_rp {u : U} {v : V} {k : Key} (h : RpU K m H u v) (e : keyD u = some k) : v = kV k := by
  unfold keyD at e
  split at e
  · cases e; exact h
  · cases e; exact h
  · cases e
theorem atI_rp {us : List U} {vs : List V} (h : RpUs K m H us vs) {i : Int} {u : U} (e : atI us i = some u) : ∃ v, atI vs i = some v ∧ RpU K m H u v := by
  unfold atI at e ⊢
  rw [h.length]
  cases q : ixN us.length i with
  | none => rw [q] at e; cases e
  | some j =>
    rw [q] at e
    exact h.get e
end
section
variable {X : Cx} {W : WX} {a b : Expr} {fa fb : F U} {pos : Pos}
theorem ix_dict (hu : X.A.units + 1 < cLine) : IxR X (fun x y H Q => ∃ p v, x = .ref p ∧ DGet H p y (some v) ∧ Q v H) := by
  intro value slice pins s σ H x y v u Q I rx ry h hs
  obtain ⟨p, w, rfl, g, q⟩ := h
  cases rx
  exact tail_any (ops := [.ref p, u]) (dict_typeIs I g) PySem.F.slot_dict_getitem.lookup (d_getItem hu I g ry fun w' s' I' r' => ⟨w, H, I', r', q⟩) hs
theorem ix_ok (hu : X.A.units + 1 < cLine) : IxR X (rG X.K oIx) := by
  intro value slice pins s σ H x y v u Q I rx ry h hs
  obtain ⟨m, st, a, b, r, ha, hb, p⟩ := h
  cases e : oIx a b st with
  | none => rw [e] at p; exact p.elim
  | some w =>
    rw [e] at p
    unfold oIx at e
    split at e
    · rename_i kvs hk
      split at e
      · rename_i k hkk
        obtain ⟨q, vs, rfl, h1, h2⟩ := getD_rp r ha hk
        have l := lookK_rp (k := k) h2
        rw [e] at l
        obtain ⟨z, hz, rz⟩ := l
        have hy := keyD_rp hb hkk
        subst hy
        exact ix_dict hu value slice pins s σ H _ _ v u Q I rx ry ⟨q, z, rfl, .inl ⟨vs, k, h1, rfl, hz.symm⟩, pv_flat r p rz⟩ hs
      · cases e
    · split at e
      · cases hb
        split at e
        · rename_i us hl
          obtain ⟨q, vs, rfl, h1, h2⟩ := getL_rp r ha hl
          obtain ⟨z, hz, rz⟩ := atI_rp h2 e
          exact ix_list value slice pins s σ H _ _ v u Q I rx ry ⟨q, vs, _, z, rfl, rfl, h1, hz, pv_flat r p rz⟩ hs
        · split at e
          · rename_i ds _ _
            obtain ⟨q, vs, rfl, h1, h2⟩ := ha
            cases e2 : atI ds _ with
            | none => rw [e2] at e; cases e
            | some d0 =>
              rw [e2] at e
              cases e
              obtain ⟨z, hz, rz⟩ := atI_rp (RpUs.ofD h2) (i := _) (u := .d d0) (by unfold atI at e2 ⊢; rw [List.length_map]; cases q3 : ixN ds.length _ with | none => rw [q3] at e2; cases e2 | some j => rw [q3] at e2; show (List.map U.d ds)[j]? = _; rw [List.getElem?_map]; show Option.map _ _ = _; rw [show ds[j]? = some d0 from e2]; rfl)
              exact ix_tup value slice pins s σ H _ _ v u Q I rx ry ⟨q, vs, _, z, rfl, rfl, h1.sq, hz, pv_flat r p rz⟩ hs
          · cases ha
            split at e
            · rename_i hz
              cases e2 : atI (Array.toList _) _ with
              | none => rw [e2] at e; cases e
              | some c =>
                rw [e2] at e
                cases e
                exact ix_str value slice pins s σ H _ _ v u Q I rx ry ⟨_, _, c, rfl, rfl, hz, e2, pv_flat r p rfl⟩ hs
            · cases e
          · cases e
      · cases e
theorem d_ix (hu : X.A.units + 1 < cLine) (ha : DE X W a fa) (hb : DE X W b fb) (hs : PlainIx b := by intro _ _; rfl) : DE X W (.Subscript a b pos) (f2 oIx fa fb) :=
  ⟨PE.imp (pe_ix (ix_ok hu) ha.pe hb.pe hs) fun _ _ _ h => t_op2 h⟩
end
/-! ### slices -/
def tFO (K : PySem.W.Frag) (W : WX) (f : F (Option Int)) : TO := fun σ H Q => ∃ m env st, Rep K m st H ∧ RpEnv K m H env σ ∧ PO' K m H (fun _ _ a b => b = a) Q (fun c d H' => W c d σ H') (f env st)
theorem tFO_step {K : PySem.W.Frag} {W : WX} {m : List Addr} {env : VEnv} {st : Store} {H : Hp} {σ : L2.St} {γ δ : Type} {rel : List Addr → Hp → γ → δ → Prop} {Q : δ → Hp → Prop} {f : F (Option Int)} {g : Option Int → F γ} {Z : Option Int → Hp → Prop}
    (r : Rep K m st H) (re : RpEnv K m H env σ) (p : PO' K m H rel Q (fun c d H' => W c d σ H') (bnd f g env st))
    (h : ∀ a st1 m1 H1, Rep K m1 st1 H1 → RpEnv K m1 H1 env σ → Ext m H m1 H1 → PO' K m1 H1 rel Q (fun c d H' => W c d σ H') (g a env st1) → Z a H1) : tFO K W f σ H Z :=
  ⟨m, env, st, r, re, by
    unfold bnd at p
    cases e : f env st with
    | ok a st1 => rw [e] at p; exact fun v m1 H1 h1 h2 h3 => by subst h1; exact h _ st1 m1 H1 h2 (re.ext h3) h3 (p.from h3)
    | ex c fs st1 => rw [e] at p; exact p
    | bad => rw [e] at p; exact p.elim⟩
structure DO (X : Cx) (W : WX) (e : Option Expr) (f : F (Option Int)) : Prop where
  po : PO X e (tFO X.K W f)
def oNone : F (Option Int) := fPure none
def oSome (f : F U) : F (Option Int) := bnd f fun u => fun _ st => match u with
  | .d (.int i) => .ok (some i) st
  | _ => .bad
def cutG {α : Type} (xs : List α) (lo hi : Option Int) : List α := (xs.drop (HT.sIx xs.length 0 lo)).take (HT.sIx xs.length xs.length hi - HT.sIx xs.length 0 lo)
def oSl (a : U) (lo hi : Option Int) (st : Store) : Option U := match a with
  | .d (.str z) => if z.length ≤ sizeLine then some (.d (.str (cutS z lo hi))) else none
  | .d (.tup ds) => some (.d (.tup (cutG ds lo hi)))
  | a => match getL st a with
    | some us => match pureL (cutG us lo hi) with
      | some ds => some (.d (.lst ds))
      | none => none
    | none => none
def fSl (f : F U) (l h : F (Option Int)) : F U := bnd f fun a => bnd l fun lo => bnd h fun hi => fun _ st => .of st (oSl a lo hi st)
section
variable {K : PySem.W.Frag} {m : List Addr} {H : Hp} {st : Store}
theorem cut_rp {us : List U} {vs : List V} (h : RpUs K m H us vs) (lo hi : Option Int) : RpUs K m H (cutG us lo hi) (cutV vs lo hi) := by
  unfold cutG cutV
  rw [h.length]
  exact (h.drop _).take _
theorem cutG_map {α β : Type} (f : α → β) (xs : List α) (lo hi : Option Int) : cutG (xs.map f) lo hi = (cutG xs lo hi).map f := by
  unfold cutG
  rw [List.length_map, List.map_take, List.map_drop]
theorem cutG_whole {α : Type} {xs : List α} {lo hi : Option Int} (h : HT.sIx xs.length 0 lo = 0 ∧ HT.sIx xs.length xs.length hi = xs.length) : cutG xs lo hi = xs := by
  unfold cutG
  rw [h.1, h.2, List.drop_zero, Nat.sub_zero, List.take_length]
end
section
variable {X : Cx} {W : WX} {a e : Expr} {fa fe : F U} {lo hi : Option Expr} {fl fh : F (Option Int)} {pos p2 : Pos}
theorem do_none : DO X W none oNone := ⟨⟨fun pins s σ H Q I h => po_none.run pins s σ H Q I (by
  obtain ⟨m, env, st, r, re, p⟩ := h
  exact p none m H rfl r (Ext.refl _ _))⟩⟩
theorem do_some (h : DE X W e fe) : DO X W (some e) (oSome fe) := ⟨⟨fun pins s σ H Q I hw => (po_some h.pe).run pins s σ H Q I (by
  obtain ⟨m, env, st, r, re, p⟩ := hw
  refine tF_step r re p fun u st1 v m1 H1 h1 r1 re1 e1 p1 => ?_
  cases u with
  | ref n => exact False.elim p1
  | d x =>
    cases x with
    | int i => exact ⟨i, h1, p1 _ m1 H1 rfl r1 (Ext.refl _ _)⟩
    | _ => exact False.elim p1)⟩⟩
theorem sl_ok : SlR X (fun x lo hi H Q => ∃ m st a, Rep X.K m st H ∧ RpU X.K m H a x ∧ PV X.K m st H Q (oSl a lo hi st)) := by
  intro pins s σ H x v vl vu lo hi sl Q I rx hs pl pu h
  obtain ⟨m, st, a, r, ha, p⟩ := h
  cases e : oSl a lo hi st with
  | none => rw [e] at p; exact p.elim
  | some w =>
    rw [e] at p
    unfold oSl at e
    split at e
    · cases ha
      split at e
      · rename_i hz
        cases e
        exact sl_str pins s σ H _ v vl vu lo hi sl Q I rx hs pl pu ⟨_, rfl, hz, pv_flat r p rfl⟩
      · cases e
    · rename_i ds
      cases e
      obtain ⟨q, vs, rfl, h1, h2⟩ := ha
      have hl := h2.length
      refine sl_tupA pins s σ H _ v vl vu lo hi sl Q I rx hs pl pu ⟨q, vs, rfl, h1.sq, fun hw => ?_, fun hw z hz => ?_⟩
      · rw [hl] at hw
        rw [cutG_whole hw] at p
        exact pv_flat r p ⟨q, vs, rfl, h1, h2⟩
      · have hc := cut_rp (RpUs.ofD h2) lo hi
        rw [cutG_map] at hc
        exact p _ _ (new_tup r hz (RpDs.toD hc)) (r.new hz _) (ext_new r hz _)
    · split at e
      · rename_i us hl
        split at e
        · rename_i ds hd
          cases e
          obtain ⟨q, vs, rfl, h1, h2⟩ := getL_rp r ha hl
          exact sl_list pins s σ H _ v vl vu lo hi sl Q I rx hs pl pu ⟨q, vs, rfl, h1, fun z hz => p _ _ (new_lst r hz (pureL_rp (cut_rp h2 lo hi) hd)) (r.new hz _) (ext_new r hz _)⟩
        · cases e
      · cases e
theorem d_sl (ha : DE X W a fa) (hl : DO X W lo fl) (hh : DO X W hi fh) : DE X W (.Subscript a (.Slice lo hi none p2) pos) (fSl fa fl fh) := ⟨PE.imp (pe_slice sl_ok ha.pe hl.po hh.po) fun σ H Q ⟨m, env, st, r, re, p⟩ =>
  tF_step r re p fun u st1 v m1 H1 h1 r1 re1 e1 p1 => tFO_step r1 re1 p1 fun lo st2 m2 H2 r2 re2 e2 p2 => tFO_step r2 re2 p2 fun hi st3 m3 H3 r3 re3 e3 p3 =>
    ⟨m3, st3, u, r3, (h1.ext e2).ext e3, PV.of p3⟩⟩
end
end VL

/-! VLe: statements, targets, loops. -/
namespace VL
open PySem PySem.Spec PyProof.Rows L2

def sNil : G := fun env st => .ok env .nx st
def sSeq (g h : G) : G := fun env st => match g env st with
  | .ok env1 .nx st1 => h env1 st1
  | r => r
def sRet (f : F U) : G := bndS f fun u => fun env st => .ok env (.rt u) st
def sRetN : G := fun env st => .ok env (.rt (.d .non)) st
def sExpr (f : F U) : G := bndS f fun _ => sNil
def sIf (c : F Bool) (g h : G) : G := bndS c fun k => if k = true then g else h
def sBk : G := fun env st => .ok env .bk st
def sCt : G := fun env st => .ok env .ct st
def tgN (i : Nat) (u : U) : G := fun env st => .ok (env.set i (some u)) .nx st
def sAsg (f : F U) (tg : U → G) : G := bndS f tg
/-- not reached -/
def sNo : G := fun _ _ => .bad

section
variable {X : Cx} {W : WX} {st : Stmt} {sts a b : List Stmt} {g h ga gb : G} {e c : Expr} {fe : F U} {bc : F Bool} {pos : Pos}
theorem db_nil : DB X W [] sNil := ⟨PSs.imp pss_nil fun D σ H ⟨m, env, st, r, re, p⟩ => p σ m H re r (Ext.refl _ _)⟩
theorem t_seq {D : Ends} {σ : L2.St} {H : Hp} (q : tG X.K W (sSeq g h) D σ H) : tSeq (tG X.K W g) (tG X.K W h) D σ H := by
  obtain ⟨m, env, st, r, re, p⟩ := q
  refine ⟨m, env, st, r, re, ?_⟩
  unfold sSeq at p
  cases e : g env st with
  | bad => rw [e] at p; exact p
  | ex c fs env1 st1 => rw [e] at p; exact p
  | ok env1 f st1 =>
    rw [e] at p
    cases f with
    | nx => exact fun σ' m' H' h1 h2 h3 => ⟨m', env1, st1, h2, h1, p.from h3⟩
    | rt u => exact p
    | bk => exact p
    | ct => exact p
theorem db_cons (h1 : DS X W st g) (h2 : DB X W sts h) : DB X W (st :: sts) (sSeq g h) := ⟨PSs.imp (pss_cons h1.ps h2.pss) fun _ _ _ q => t_seq q⟩
theorem db_one (h1 : DS X W st g) : DB X W [st] g := ⟨pss_one h1.ps⟩
theorem ds_ret (he : DE X W e fe) : DS X W (.Return (some e) pos) (sRet fe) := ⟨PS.imp (ps_ret he.pe) fun D σ H ⟨m, env, st, r, re, p⟩ => sF_step r re p fun u st1 v m1 H1 h1 r1 re1 e1 p1 => p1 v m1 H1 h1 r1 (Ext.refl _ _)⟩
theorem ds_retN : DS X W (.Return none pos) sRetN := ⟨PS.imp ps_retN fun D σ H ⟨m, env, st, r, re, p⟩ => p .non m H rfl r (Ext.refl _ _)⟩
theorem ds_expr (he : DE X W e fe) (hs : swapsWith e none pos.line X.env = pure false := by rfl) : DS X W (.Expr e pos) (sExpr fe) := ⟨PS.imp (ps_expr he.pe hs) fun D σ H ⟨m, env, st, r, re, p⟩ => sF_step r re p fun u st1 v m1 H1 h1 r1 re1 e1 p1 => p1 σ m1 H1 re1 r1 (Ext.refl _ _)⟩
theorem ds_doc {x : Str} {j : Nat} {pos' : Pos} : DS X W (.Expr (.Constant (.str x) j pos') pos) sNil := ⟨PS.imp ps_doc fun D σ H ⟨m, env, st, r, re, p⟩ => p σ m H re r (Ext.refl _ _)⟩
theorem ds_pass : DS X W (.Pass pos) sNil := ⟨PS.imp ps_pass fun D σ H ⟨m, env, st, r, re, p⟩ => p σ m H re r (Ext.refl _ _)⟩
theorem ds_break : DS X W (.Break pos) sBk := ⟨PS.imp ps_break fun D σ H ⟨m, env, st, r, re, p⟩ => p σ m H re r (Ext.refl _ _)⟩
theorem ds_continue : DS X W (.Continue pos) sCt := ⟨PS.imp ps_continue fun D σ H ⟨m, env, st, r, re, p⟩ => p σ m H re r (Ext.refl _ _)⟩
theorem ds_no : DS X W st sNo := ⟨PS.imp (t := tNever) ps_never fun D σ H ⟨m, env, st, r, re, p⟩ => p⟩
theorem db_no : DB X W sts sNo := ⟨PSs.imp (t := tNever) pss_never fun D σ H ⟨m, env, st, r, re, p⟩ => p⟩
theorem ds_if (hc : DT X W c bc) (ha : DB X W a ga) (hb : DB X W b gb) : DS X W (.If c a b pos) (sIf bc ga gb) := ⟨PS.imp (ps_if hc.pt ha.pss hb.pss) fun D σ H ⟨m, env, st, r, re, p⟩ => sFB_step r re p fun k st1 m1 H1 r1 re1 e1 p1 => by
  cases k with
  | true => exact iteT ⟨m1, env, st1, r1, re1, p1⟩
  | false => exact iteF ⟨m1, env, st1, r1, re1, p1⟩⟩
end

/-! ### targets -/
/-- the names at the slots is alone are new -/
def Out (is : List Nat) (σ σ' : L2.St) : Prop := σ'.length = σ.length ∧ ∀ i, i ∉ is → σ'[i]? = σ[i]?
theorem Out.refl (is : List Nat) (σ : L2.St) : Out is σ σ := ⟨rfl, fun _ _ => rfl⟩
theorem Out.trans {is js : List Nat} {σ σ1 σ2 : L2.St} (a : Out is σ σ1) (b : Out js σ1 σ2) : Out (is ++ js) σ σ2 :=
  ⟨b.1.trans a.1, fun i h => (b.2 i fun z => h (List.mem_append_right _ z)).trans (a.2 i fun z => h (List.mem_append_left _ z))⟩
theorem Out.set {σ : L2.St} (i : Nat) (v : Option V) : Out [i] σ (σ.set i v) := ⟨List.length_set, fun j h => List.getElem?_set_ne (fun e => h (by rw [e]; exact List.mem_singleton.mpr rfl))⟩
def tTg (K : PySem.W.Frag) (is : List Nat) (g : U → G) : TG := fun v σ H Q => ∃ m env st u, Rep K m st H ∧ RpEnv K m H env σ ∧ RpU K m H u v ∧ (match g u env st with
  | .ok env' .nx st' => ∀ σ' m' H', RpEnv K m' H' env' σ' → Rep K m' st' H' → Ext m H m' H' → Out is σ σ' → Q σ' H'
  | _ => False)
def tTgs (K : PySem.W.Frag) (is : List Nat) (g : List U → G) : TGs := fun vs σ H Q => ∃ m env st us, Rep K m st H ∧ RpEnv K m H env σ ∧ RpUs K m H us vs ∧ (match g us env st with
  | .ok env' .nx st' => ∀ σ' m' H', RpEnv K m' H' env' σ' → Rep K m' st' H' → Ext m H m' H' → Out is σ σ' → Q σ' H'
  | _ => False)
structure DG (X : Cx) (e : Expr) (is : List Nat) (g : U → G) : Prop where
  pg : PG X e (tTg X.K is g)
structure DGs (X : Cx) (es : List Expr) (is : List Nat) (g : List U → G) : Prop where
  pgs : PGs X es (tTgs X.K is g)
def tgNil : List U → G := fun us => match us with
  | [] => sNil
  | _ => sNo
def tgCons (g : U → G) (h : List U → G) : List U → G := fun us => match us with
  | u :: r => sSeq (g u) (h r)
  | _ => sNo
/-- the items of a tuple, a list -/
def unp (st : Store) : U → Option (List U)
  | .d (.tup ds) => some (ds.map .d)
  | u => match getL st u with
    | some us => some us
    | none => match u with
      | .ref n => match st[n]? with
        | some (.tup us) => some us
        | _ => none
      | _ => none
theorem unp_rp {K : PySem.W.Frag} {m : List Addr} {H : Hp} {st : Store} (r : Rep K m st H) {u : U} {v : V} {us : List U} (h : RpU K m H u v) (e : unp st u = some us) : ∃ a vs, v = .ref a ∧ (SqT K H a vs ∨ SqL K H a vs) ∧ RpUs K m H us vs := by
  unfold unp at e
  split at e
  · cases e
    obtain ⟨a, vs, rfl, h1, h2⟩ := h
    exact ⟨a, vs, rfl, .inl h1.sq, RpUs.ofD h2⟩
  · split at e
    · rename_i us' hl
      cases e
      obtain ⟨a, vs, e1, h1, h2⟩ := getL_rp r h hl
      exact ⟨a, vs, e1, .inr h1, h2⟩
    · split at e
      · split at e
        · rename_i us' hs
          cases e
          obtain ⟨a, ha, rfl⟩ := h
          obtain ⟨ho, h1, vs, e2, h2⟩ := r.cell _ _ a hs ha
          subst e2
          exact ⟨a, vs, rfl, .inl (.inl (.inl h1)), h2⟩
        · cases e
      · cases e
/-- a, b, .. = a tuple (list) of that length -/
def tgT (n : Nat) (g : List U → G) : U → G := fun u env st => match unp st u with
  | some us => if us.length = n then g us env st else .bad
  | none => .bad
theorem PG.imp {X : Cx} {e : Expr} {t t' : TG} (h : PG X e t) (i : ∀ v σ H Q, t' v σ H Q → t v σ H Q) : PG X e t' := ⟨fun pins s σ H v u Q I r q => h.run pins s σ H v u Q I r (i v σ H Q q)⟩
theorem PGs.imp {X : Cx} {e : List Expr} {t t' : TGs} (h : PGs X e t) (i : ∀ v σ H Q, t' v σ H Q → t v σ H Q) : PGs X e t' := ⟨fun pins s σ H v u Q I r q => h.run pins s σ H v u Q I r (i v σ H Q q)⟩
theorem PG.or {X : Cx} {e : Expr} {t t' : TG} (h : PG X e t) (h' : PG X e t') : PG X e (fun v σ H Q => t v σ H Q ∨ t' v σ H Q) := ⟨fun pins s σ H v u Q I r q => by
  rcases q with q | q
  · exact h.run pins s σ H v u Q I r q
  · exact h'.run pins s σ H v u Q I r q⟩
section
variable {X : Cx} {W : WX} {e : Expr} {es : List Expr} {is js : List Nat} {g : U → G} {gs : List U → G} {fe : F U} {pos : Pos}
theorem dg_name (i : Nat) {x : Str} (hN : X.N.Nodup) (hi : X.N[i]? = some x := by rfl) (hx : Loc X.env.scope x := by first | exact Or.inl rfl | exact Or.inr rfl) (hf : X.fn x = true ∨ X.env.scope.names.lookup x = some .local := by first | exact .inl rfl | exact .inr rfl | assumption) : DG X (.Name x pos) [i] (tgN i) :=
  ⟨PG.imp (pg_name hN hi hx hf) fun v σ H Q ⟨m, env, st, u, r, re, ru, p⟩ => p _ m H (re.set i ru) r (Ext.refl _ _) (Out.set i _)⟩
theorem dgs_nil : DGs X [] [] tgNil := ⟨PGs.imp pgs_nil fun vs σ H Q ⟨m, env, st, us, r, re, ru, p⟩ => by
  cases us with
  | nil => exact ⟨ru, p _ m H re r (Ext.refl _ _) (Out.refl _ _)⟩
  | cons u us => exact p.elim⟩
theorem dgs_cons (h1 : DG X e is g) (h2 : DGs X es js gs) (hs : (assignEach (e :: es) X.env).map (·.2) = assign e X.env :: (assignEach es X.env).map (·.2) := by rfl) : DGs X (e :: es) (is ++ js) (tgCons g gs) :=
  ⟨PGs.imp (pgs_cons h1.pg h2.pgs hs) fun vs σ H Q ⟨m, env, st, us, r, re, ru, p⟩ => by
    cases us with
    | nil => exact p.elim
    | cons u us =>
      obtain ⟨v, w, rfl, r1, r2⟩ := ru
      refine ⟨v, w, rfl, m, env, st, u, r, re, r1, ?_⟩
      unfold tgCons sSeq at p
      simp only at p
      cases e : g u env st with
      | bad => rw [e] at p; exact p
      | ex c fs env1 st1 => rw [e] at p; exact p
      | ok env1 f st1 =>
        rw [e] at p
        cases f with
        | nx =>
          refine fun σ' m' H' h1 h2 h3 h4 => ⟨m', env1, st1, us, h2, h1, r2.ext h3, ?_⟩
          cases e2 : gs us env1 st1 with
          | bad => simp only [e2] at p
          | ex c fs env2 st2 => simp only [e2] at p
          | ok env2 f2 st2 =>
            simp only [e2] at p
            cases f2 with
            | nx => exact fun σ'' m'' H'' k1 k2 k3 k4 => p σ'' m'' H'' k1 k2 (h3.trans k3) (h4.trans k4)
            | rt u => exact p
            | bk => exact p
            | ct => exact p
        | rt u => exact p
        | bk => exact p
        | ct => exact p⟩
theorem dg_tup {k n : Nat} (hc : X.calm = true) (h : DGs X es is gs) (hn : (assignEach es X.env).length = n := by rfl) (hst : (assignEach es X.env).findIdx? (·.1) = none := by rfl) : DG X (.Tuple es k pos) is (tgT n gs) :=
  ⟨PG.imp (PG.or (pg_tup hc h.pgs hn hst) (pg_lst hc h.pgs hn hst)) fun v σ H Q ⟨m, env, st, u, r, re, ru, p⟩ => by
    unfold tgT at p
    cases q : unp st u with
    | none => rw [q] at p; exact p.elim
    | some us =>
      rw [q] at p
      simp only at p
      by_cases hz : us.length = n
      · rw [if_pos hz] at p
        obtain ⟨a, vs, rfl, h1, h2⟩ := unp_rp r ru q
        rcases h1 with h1 | h1
        · exact .inl ⟨a, vs, rfl, h1, by rw [h2.length, hz], m, env, st, us, r, re, h2, p⟩
        · exact .inr ⟨a, vs, rfl, h1, by rw [h2.length, hz], m, env, st, us, r, re, h2, p⟩
      · rw [if_neg hz] at p; exact p.elim⟩
/-- what a target does ends well -/
def TgNx (g : U → G) : Prop := ∀ u env st, match g u env st with
  | .ok _ .nx _ => True
  | .bad => True
  | _ => False
theorem t_asg (hnx : TgNx g) {D : Ends} {σ : L2.St} {H : Hp} (q : tG X.K W (sAsg fe g) D σ H) : tAsg (tF X.K W fe) (tTg X.K is g) D σ H := by
  obtain ⟨m, env, st, r, re, p⟩ := q
  refine sF_step r re p fun u st1 v m1 H1 h1 r1 re1 e1 p1 => ⟨m1, env, st1, u, r1, re1, h1, ?_⟩
  have := hnx u env st1
  cases e : g u env st1 with
  | bad => rw [e] at p1; exact p1.elim
  | ex c fs env1 st1 => rw [e] at this; exact this.elim
  | ok env1 f st1 =>
    rw [e] at p1 this
    cases f with
    | nx => exact fun σ' m' H' k1 k2 k3 _ => p1 σ' m' H' k1 k2 k3
    | rt u => exact this.elim
    | bk => exact this.elim
    | ct => exact this.elim
theorem nx_name (i : Nat) : TgNx (tgN i) := fun _ _ _ => trivial
theorem ds_asg {tg : Expr} (he : DE X W e fe) (hg : DG X tg is g) (hnx : TgNx g) (hs : swapsWithSole [tg] e pos.line X.env = pure false := by rfl) (hw : swappedStores [tg] e X.env = pure none := by rfl)
    (h1 : (assignEach [tg] X.env).map (·.2) = [assign tg X.env] := by rfl) : DS X W (.Assign [tg] e pos) (sAsg fe g) := ⟨PS.imp (ps_asg he.pe hg.pg hs hw h1) fun _ _ _ q => t_asg hnx q⟩
theorem ds_set (i : Nat) {x : Str} {pos' : Pos} (hN : X.N.Nodup) (he : DE X W e fe) (hi : X.N[i]? = some x := by rfl) (hx : Loc X.env.scope x := by first | exact Or.inl rfl | exact Or.inr rfl) (hs : swapsWith e (some (.Name x pos')) pos.line X.env = pure false := by rfl)
    (hf : X.fn x = true ∨ X.env.scope.names.lookup x = some .local := by first | exact .inl rfl | exact .inr rfl | assumption) : DS X W (.Assign [.Name x pos'] e pos) (sAsg fe (tgN i)) :=
  ⟨PS.imp (ps_set hN hi hx he.pe hs hf) fun D σ H ⟨m, env, st, r, re, p⟩ => sF_step r re p fun u st1 v m1 H1 h1 r1 re1 e1 p1 => p1 _ m1 H1 (re1.set i h1) r1 (Ext.refl _ _)⟩
/-- a, b = x, y -/
def sPar (i j : Nat) (fs : F (List U)) : G := bndS fs fun us => fun env st => match us with
  | [u, w] => .ok ((env.set i (some u)).set j (some w)) .nx st
  | _ => .bad
theorem ds_par (i j : Nat) {x y : Str} {a b : Expr} {fs : F (List U)} {px py pt : Pos} {kt k2 : Nat} {pt2 : Pos} (hc : X.calm = true) (hN : X.N.Nodup) (ha : DA X W [a, b] fs) (hij : i ≠ j)
    (hw : swappedStores [.Tuple [.Name x px, .Name y py] kt pt] (.Tuple [a, b] k2 pt2) X.env = pure (some [x, y])) (hi : X.N[i]? = some x := by rfl) (hj : X.N[j]? = some y := by rfl)
    (hx : X.env.scope.names.lookup x = some .local := by rfl) (hy : X.env.scope.names.lookup y = some .local := by rfl)
    (hs : swapsWithSole [.Tuple [.Name x px, .Name y py] kt pt] (.Tuple [a, b] k2 pt2) pos.line X.env = pure false := by rfl) :
    DS X W (.Assign [.Tuple [.Name x px, .Name y py] kt pt] (.Tuple [a, b] k2 pt2) pos) (sPar i j fs) := ⟨PS.imp (ps_par hc hN hi hj hij hx hy ha.pa hw hs) fun D σ H ⟨m, env, st, r, re, p⟩ => sFs_step r re p fun us st1 vs m1 H1 h1 r1 re1 e1 p1 => by
  match us, h1, p1 with
  | [], _, p1 => exact p1.elim
  | [_], _, p1 => exact p1.elim
  | _ :: _ :: _ :: _, _, p1 => exact p1.elim
  | [u, w], h1, p1 =>
    obtain ⟨v, _, rfl, g1, w', _, rfl, g2, rfl⟩ := h1
    exact ⟨v, w', rfl, p1 _ m1 H1 ((re1.set i g1).set j g2) r1 (Ext.refl _ _)⟩⟩
end

/-! ### iterables and for -/
inductive Itb where
  | lst (us : List U)
  | cell (n : Nat) (f : Nat → U → Option U)
def IsIt (K : PySem.W.Frag) (m1 : List Addr) (H1 : Hp) (J : It) : Itb → Prop
  | .lst us => (∀ i m' st' H', i < us.length → Rep K m' st' H' → Ext m1 H1 m' H' → J.go i H') ∧ (∀ m' st' H', Rep K m' st' H' → Ext m1 H1 m' H' → J.stop us.length H') ∧
    ∀ i u m' st' H' x H'', us[i]? = some u → Rep K m' st' H' → Ext m1 H1 m' H' → J.yld i H' x H'' → Rep K m' st' H'' ∧ Ext m' H' m' H'' ∧ RpU K m' H'' u x
  | .cell n f => ∀ us m' st' H', Rep K m' st' H' → Ext m1 H1 m' H' → st'[n]? = some (.lst us) → (∀ i, i < us.length → J.go i H') ∧ (∀ i, us.length ≤ i → J.stop i H') ∧
    ∀ i u w x H'', us[i]? = some u → f i u = some w → J.yld i H' x H'' → Rep K m' st' H'' ∧ Ext m' H' m' H'' ∧ RpU K m' H'' w x
def tI (K : PySem.W.Frag) (W : WX) (f : F Itb) : TI := fun σ H R => ∃ m env st, Rep K m st H ∧ RpEnv K m H env σ ∧ PO' K m H (fun _ _ a b => b = a) (fun t H1 => ∀ m1 st1, f env st = .ok t st1 → Rep K m1 st1 H1 → Ext m H m1 H1 → ∀ J, IsIt K m1 H1 J t → R J H1) (fun c d H' => W c d σ H') (f env st)
structure DI (X : Cx) (W : WX) (tg iter : Expr) (f : F Itb) : Prop where
  pi : PI X tg iter (tI X.K W f)
def loopL (tg : U → G) (body : G) : List U → G
  | [] => sNil
  | u :: us => fun env st => match tg u env st with
    | .ok env1 .nx st1 => match body env1 st1 with
      | .ok env2 .nx st2 => loopL tg body us env2 st2
      | .ok env2 .ct st2 => loopL tg body us env2 st2
      | .ok env2 .bk st2 => .ok env2 .nx st2
      | r => r
    | _ => .bad
def loopC (tg : U → G) (body : G) (n : Nat) (f : Nat → U → Option U) : Nat → Nat → G
  | 0, _ => sNo
  | k + 1, i => fun env st => match st[n]? with
    | some (.lst us) => match us[i]? with
      | none => .ok env .nx st
      | some u => match f i u with
        | none => .bad
        | some w => match tg w env st with
          | .ok env1 .nx st1 => match body env1 st1 with
            | .ok env2 .nx st2 => loopC tg body n f k (i + 1) env2 st2
            | .ok env2 .ct st2 => loopC tg body n f k (i + 1) env2 st2
            | .ok env2 .bk st2 => .ok env2 .nx st2
            | r => r
          | _ => .bad
    | _ => .bad
def sFor (fi : F Itb) (tg : U → G) (body : G) : G := bndS fi fun t => match t with
  | .lst us => loopL tg body us
  | .cell n f => fun env st => match st[n]? with
    | some (.lst us) => loopC tg body n f (us.length + 1) 0 env st
    | _ => .bad
section
variable {X : Cx} {W : WX} {tg iter : Expr} {body : List Stmt} {is : List Nat} {g : U → G} {gb : G} {fi : F Itb} {pos : Pos}
theorem step_loop {K : PySem.W.Frag} {is : List Nat} {D : Ends} {N : L2.St → Hp → Prop} {g : U → G} {gb : G} {rest : G} {u : U} {m m1 : List Addr} {env : VEnv} {st : Store} {H H1 : Hp} {σ : L2.St} {x : V} (r : Rep K m st H) (re : RpEnv K m H env σ) (ru : RpU K m H u x)
    (e0 : Ext m1 H1 m H)
    (p : PS' K m H D W (match g u env st with
      | .ok env1 .nx st1 => match gb env1 st1 with
        | .ok env2 .nx st2 => rest env2 st2
        | .ok env2 .ct st2 => rest env2 st2
        | .ok env2 .bk st2 => .ok env2 .nx st2
        | r => r
      | _ => .bad))
    (hN : ∀ env2 st2 σ' m' H', RpEnv K m' H' env2 σ' → Rep K m' st2 H' → Ext m1 H1 m' H' → PS' K m' H' D W (rest env2 st2) → N σ' H') :
    tTg K is g x σ H fun σ2 H2 => tG K W gb { D with nx := N, ct := N, bk := D.nx } σ2 H2 := by
  refine ⟨m, env, st, u, r, re, ru, ?_⟩
  cases e : g u env st with
  | bad => rw [e] at p; exact p.elim
  | ex c fs env1 st1 => rw [e] at p; exact p.elim
  | ok env1 f st1 =>
    rw [e] at p
    cases f with
    | rt u => exact p.elim
    | bk => exact p.elim
    | ct => exact p.elim
    | nx =>
      refine fun σ2 m2 H2 k1 k2 k3 _ => ⟨m2, env1, st1, k2, k1, ?_⟩
      have p2 := PS'.from k3 p
      cases e2 : gb env1 st1 with
      | bad => simp only [e2] at p2; exact p2
      | ex c fs env2 st2 => simp only [e2] at p2; exact p2
      | ok env2 f2 st2 =>
        simp only [e2] at p2
        cases f2 with
        | nx => exact fun σ' m' H' j1 j2 j3 => hN env2 st2 σ' m' H' j1 j2 (e0.trans (k3.trans j3)) (p2.from j3)
        | ct => exact fun σ' m' H' j1 j2 j3 => hN env2 st2 σ' m' H' j1 j2 (e0.trans (k3.trans j3)) (p2.from j3)
        | bk => exact p2
        | rt u => exact p2
theorem t_for {D : Ends} {σ : L2.St} {H : Hp} (q : tG X.K W (sFor fi g gb) D σ H) : tFor (tI X.K W fi) (tTg X.K is g) (tG X.K W gb) D σ H := by
  obtain ⟨m, env, st, r, re, p⟩ := q
  refine ⟨m, env, st, r, re, ?_⟩
  unfold sFor bndS at p
  cases e : fi env st with
  | bad => rw [e] at p; exact p.elim
  | ex c fs st1 => rw [e] at p; exact fun d m' H' h1 h2 h3 => p d σ m' H' (re.ext h2) h1 h2 h3
  | ok t st1 =>
    rw [e] at p
    intro t' m0 H0 ht r0 e0 m1 st1' he r1 e1 J hJ
    subst ht
    cases he
    have re1 := re.ext e1
    have p1 := PS'.from e1 p
    cases t' with
    | lst us =>
      obtain ⟨go, stop, yld⟩ := hJ
      refine ⟨fun i k σ H => ∃ m' env' st', Rep X.K m' st' H ∧ RpEnv X.K m' H env' σ ∧ Ext m1 H0 m' H ∧ k = us.length - i ∧ i ≤ us.length ∧ PS' X.K m' H D W (loopL g gb (us.drop i) env' st'),
        ⟨us.length, m1, env, st1, r1, re1, Ext.refl _ _, by simp, Nat.zero_le _, p1⟩, ?_⟩
      rintro i k σ' H' ⟨m', env', st', r', re', e', rfl, hi, p'⟩
      by_cases hlt : i < us.length
      · have hu : us[i]? = some us[i] := List.getElem?_eq_getElem hlt
        rw [List.drop_eq_getElem_cons hlt] at p'
        refine .inr ⟨go i m' st' H' hlt r' e', fun σ2 H2 => ∃ m2 env2 st2, Rep X.K m2 st2 H2 ∧ RpEnv X.K m2 H2 env2 σ2 ∧ Ext m1 H0 m2 H2 ∧ PS' X.K m2 H2 D W (loopL g gb (us.drop (i + 1)) env2 st2), ?_, ?_⟩
        · rintro σ2 H2 ⟨m2, env2, st2, r2, re2, e2, p2⟩
          exact ⟨us.length - (i + 1), by omega, m2, env2, st2, r2, re2, e2, rfl, hlt, p2⟩
        · intro x H'' hy
          obtain ⟨r2, e2, ru⟩ := yld i _ m' st' H' x H'' hu r' e' hy
          exact step_loop r2 (re'.ext e2) ru (e'.trans e2) (PS'.from e2 p') fun env2 st2 σ2 m2 H2 k1 k2 k3 k4 => ⟨m2, env2, st2, k2, k1, k3, k4⟩
      · have : i = us.length := by omega
        subst this
        rw [List.drop_length] at p'
        exact .inl ⟨stop m' st' H' r' e', p' σ' m' H' re' r' (Ext.refl _ _)⟩
    | cell n f =>
      simp only at p1
      split at p1
      · rename_i us0 hs0
        refine ⟨fun i k σ H => ∃ m' env' st', Rep X.K m' st' H ∧ RpEnv X.K m' H env' σ ∧ Ext m1 H0 m' H ∧ PS' X.K m' H D W (loopC g gb n f k i env' st'),
          ⟨us0.length + 1, m1, env, st1, r1, re1, Ext.refl _ _, p1⟩, ?_⟩
        rintro i k σ' H' ⟨m', env', st', r', re', e', p'⟩
        cases k with
        | zero => exact p'.elim
        | succ k =>
          unfold loopC at p'
          split at p'
          · rename_i us hs
            obtain ⟨go, stop, yld⟩ := hJ us m' st' H' r' e' hs
            cases hu : us[i]? with
            | none =>
              simp only [hu] at p'
              exact .inl ⟨stop i (List.getElem?_eq_none_iff.mp hu), p' σ' m' H' re' r' (Ext.refl _ _)⟩
            | some u =>
              simp only [hu] at p'
              cases hf : f i u with
              | none => simp only [hf] at p'; exact p'.elim
              | some w =>
                simp only [hf] at p'
                refine .inr ⟨go i (List.getElem?_eq_some_iff.mp hu).1, fun σ2 H2 => ∃ m2 env2 st2, Rep X.K m2 st2 H2 ∧ RpEnv X.K m2 H2 env2 σ2 ∧ Ext m1 H0 m2 H2 ∧ PS' X.K m2 H2 D W (loopC g gb n f k (i + 1) env2 st2), ?_, ?_⟩
                · rintro σ2 H2 ⟨m2, env2, st2, r2, re2, e2, p2⟩
                  exact ⟨k, Nat.lt_succ_self k, m2, env2, st2, r2, re2, e2, p2⟩
                · intro x H'' hy
                  obtain ⟨r2, e2, ru⟩ := yld i u w x H'' hu hf hy
                  exact step_loop r2 (re'.ext e2) ru (e'.trans e2) (PS'.from e2 p') fun env2 st2 σ2 m2 H2 k1 k2 k3 k4 => ⟨m2, env2, st2, k2, k1, k3, k4⟩
          · exact p'.elim
      · exact p1.elim
theorem ds_for (hp : PassesOwn (model X.prog X.w) X.A X.env X.xe) (hc : X.calm = true) (hi : DI X W tg iter fi) (hg : DG X tg is g) (hb : DB X W body gb) (hs : ∀ x, foldedSetIterable iter X.env x = pure x := by intro _; rfl) :
    DS X W (.For tg iter body [] pos) (sFor fi g gb) := ⟨PS.imp (ps_for hp hc hi.pi hg.pg hb.pss hs) fun _ _ _ q => t_for q⟩
end
end VL

/-! VLf: what is iterated, comprehensions, while, defs and their calls. -/
namespace VL
open PySem PySem.Spec PyProof.Rows L2

/-! ### iterables -/
def itV (st : Store) (u : U) : Option Itb := match u with
  | .d (.lst ds) => some (.lst (ds.map .d))
  | .d (.scr ns) => some (.lst (ns.map fun i => .d (.int i)))
  | .d (.tup ds) => some (.lst (ds.map .d))
  | .d (.str z) => some (.lst (z.cps.toList.map fun c => .d (.str ⟨#[c]⟩)))
  | .ref n => match st[n]? with
    | some (.lst us) => some (.cell n fun _ u => some u)
    | _ => none
  | _ => none
def fIter (f : F U) : F Itb := bnd f fun u => fun _ st => .of st (itV st u)
theorem PI.or {X : Cx} {tg e : Expr} {t t' : TI} (h : PI X tg e t) (h' : PI X tg e t') : PI X tg e (fun σ H R => t σ H R ∨ t' σ H R) := ⟨fun pins s σ H R I q => by
  rcases q with q | q
  · exact h.run pins s σ H R I q
  · exact h'.run pins s σ H R I q⟩
theorem PI.imp {X : Cx} {tg e : Expr} {t t' : TI} (h : PI X tg e t) (i : ∀ σ H R, t' σ H R → t σ H R) : PI X tg e t' := ⟨fun pins s σ H R I q => h.run pins s σ H R I (i σ H R q)⟩
section
variable {K : PySem.W.Frag} {m : List Addr} {H : Hp} {st : Store}
theorem isIt_lst {a : Addr} {us : List U} {vs : List V} (hs : ∀ m' H', Ext m H m' H' → SqL K H' a vs) (hr : RpUs K m H us vs) : IsIt K m H (Itl K a) (.lst us) := by
  have hl := hr.length
  refine ⟨fun i m' st' H' hi r e => ⟨vs, vs[i]'(by omega), hs m' H' e, by simp [hl, hi]⟩, fun m' st' H' r e => ⟨vs, hs m' H' e, by omega⟩, fun i u m' st' H' x H'' hu r e y => ?_⟩
  obtain ⟨rfl, y⟩ := y
  obtain ⟨v, hv, rv⟩ := hr.get hu
  have := (y vs (hs m' _ e)).symm.trans hv
  cases this
  exact ⟨r, Ext.refl _ _, rv.ext e⟩
theorem isIt_tup {a : Addr} {us : List U} {vs : List V} (hs : ∀ m' H', Ext m H m' H' → SqT K H' a vs) (hr : RpUs K m H us vs) : IsIt K m H (Itt K a) (.lst us) := by
  have hl := hr.length
  refine ⟨fun i m' st' H' hi r e => ⟨vs, vs[i]'(by omega), hs m' H' e, by simp [hl, hi]⟩, fun m' st' H' r e => ⟨vs, hs m' H' e, by omega⟩, fun i u m' st' H' x H'' hu r e y => ?_⟩
  obtain ⟨rfl, y⟩ := y
  obtain ⟨v, hv, rv⟩ := hr.get hu
  have := (y vs (hs m' _ e)).symm.trans hv
  cases this
  exact ⟨r, Ext.refl _ _, rv.ext e⟩
theorem isIt_cell {a : Addr} {n : Nat} (hn : m[n]? = some a) : IsIt K m H (Itl K a) (.cell n fun _ u => some u) := by
  intro us m' st' H' r e hs
  have hn' : m'[n]? = some a := by
    obtain ⟨t, rfl⟩ := e.pre
    rw [List.getElem?_append_left (List.getElem?_eq_some_iff.mp hn).1]; exact hn
  obtain ⟨ho, h1, vs, e2, h2⟩ := r.cell n _ a hs hn'
  subst e2
  have hl := h2.length
  have hq : SqL K H' a vs := .inl (.inl h1)
  refine ⟨fun i hi => ⟨vs, vs[i]'(by omega), hq, by simp [hl, hi]⟩, fun i hi => ⟨vs, hq, by omega⟩, fun i u w x H'' hu hw y => ?_⟩
  cases hw
  obtain ⟨rfl, y⟩ := y
  obtain ⟨v, hv, rv⟩ := h2.get hu
  have := (y vs hq).symm.trans hv
  cases this
  exact ⟨r, Ext.refl _ _, rv⟩
theorem str_items {z : Str} {i : Nat} {c : Nat} (h : z.cps[i]? = some c) : (z.cps.toList.map fun c => U.d (.str ⟨#[c]⟩))[i]? = some (.d (.str ⟨#[c]⟩)) := by
  rw [List.getElem?_map, Array.getElem?_toList, h]; rfl
theorem isIt_str {z : Str} : IsIt K m H (Its z) (.lst (z.cps.toList.map fun c => .d (.str ⟨#[c]⟩))) := by
  have hl : (z.cps.toList.map fun c => U.d (.str ⟨#[c]⟩)).length = z.cps.size := by rw [List.length_map, Array.length_toList]
  refine ⟨fun i m' st' H' hi r e => (by rw [hl] at hi; exact hi), fun m' st' H' r e => (by rw [hl]; exact Nat.le_refl _), fun i u m' st' H' x H'' hu r e y => ?_⟩
  obtain ⟨rfl, c, hc, rfl⟩ := y
  rw [str_items hc] at hu
  cases hu
  exact ⟨r, Ext.refl _ _, rfl⟩
theorem isIt_rng {lo : Int} {n : Nat} : IsIt K m H (Itr lo n) (.lst ((List.range n).map fun i => .d (.int (lo + (i : Nat))))) := by
  have hl : ((List.range n).map fun i => U.d (.int (lo + (i : Nat)))).length = n := by rw [List.length_map, List.length_range]
  refine ⟨fun i m' st' H' hi r e => (by rw [hl] at hi; exact hi), fun m' st' H' r e => (by rw [hl]; exact Nat.le_refl _), fun i u m' st' H' x H'' hu r e y => ?_⟩
  obtain ⟨rfl, rfl⟩ := y
  have hi : i < n := by have := (List.getElem?_eq_some_iff.mp hu).1; rw [hl] at this; exact this
  rw [List.getElem?_map, List.getElem?_range hi] at hu
  cases hu
  exact ⟨r, Ext.refl _ _, rfl⟩
end
section
variable {X : Cx} {W : WX} {tg e : Expr} {es : List Expr} {fe : F U} {fs : F (List U)} {pos p : Pos}
theorem d_iter (he : DE X W e fe) : DI X W tg e (fIter fe) := ⟨PI.imp (PI.or (pi_list he.pe) (PI.or (pi_tup he.pe) (pi_str he.pe))) fun σ H R ⟨m, env, st, r, re, p⟩ => by
  unfold fIter at p
  have run : ∀ (Z : VK), (∀ a st1 v m1 H1, fe env st = .ok a st1 → RpU X.K m1 H1 a v → Rep X.K m1 st1 H1 → RpEnv X.K m1 H1 env σ → Ext m H m1 H1 → Z v H1) → tF X.K W fe σ H Z := fun Z hz => by
    refine ⟨m, env, st, r, re, ?_⟩
    unfold bnd at p
    cases e : fe env st with
    | ok a st1 => exact fun v m1 H1 h1 h2 h3 => hz a st1 v m1 H1 e h1 h2 (re.ext h3) h3
    | ex c fs st1 => simp only [e] at p; exact p
    | bad => simp only [e] at p; exact p.elim
  cases e : fe env st with
  | bad => unfold bnd at p; simp only [e] at p; exact p.elim
  | ex c fs st1 => exact .inl (run _ fun a st2 v m1 H1 q => by rw [e] at q; cases q)
  | ok u st1 =>
    have e2 : ∀ {t : Itb}, itV st1 u = some t → bnd fe (fun u => fun _ st => VL.R.of st (itV st u)) env st = .ok t st1 := fun {t} h => by unfold bnd; simp only [e, h]; rfl
    cases hi : itV st1 u with
    | none => unfold bnd at p; simp only [e, hi] at p; exact p.elim
    | some t =>
      rw [e2 hi] at p
      have fin : ∀ {m1 H1}, Rep X.K m1 st1 H1 → Ext m H m1 H1 → ∀ J, IsIt X.K m1 H1 J t → R J H1 := fun {m1 H1} r1 e1 J hJ => p t m1 H1 rfl r1 e1 m1 st1 rfl r1 e1 J hJ
      unfold itV at hi
      split at hi
      · cases hi
        exact .inl (run _ fun a st2 v m1 H1 q h1 h2 h3 h4 => by
          rw [e] at q; cases q
          obtain ⟨b, vs, rfl, g1, g2⟩ := h1
          exact ⟨b, rfl, ⟨vs, g1.sq⟩, fin h2 h4 _ (isIt_lst (fun m' H' e' => (g1.stay e'.toStay).sq) (RpUs.ofD g2))⟩)
      · cases hi
        exact .inl (run _ fun a st2 v m1 H1 q h1 h2 h3 h4 => by
          rw [e] at q; cases q
          obtain ⟨b, rfl, g1⟩ := h1
          exact ⟨b, rfl, ⟨_, g1.sq⟩, fin h2 h4 _ (isIt_lst (fun m' H' e' => (g1.stay e'.toStay).sq) (RpUs.ints _))⟩)
      · cases hi
        exact .inr (.inl (run _ fun a st2 v m1 H1 q h1 h2 h3 h4 => by
          rw [e] at q; cases q
          obtain ⟨b, vs, rfl, g1, g2⟩ := h1
          exact ⟨b, rfl, ⟨vs, g1.sq⟩, fin h2 h4 _ (isIt_tup (fun m' H' e' => (g1.stay e'.toStay).sq) (RpUs.ofD g2))⟩))
      · cases hi
        exact .inr (.inr (run _ fun a st2 v m1 H1 q h1 h2 h3 h4 => by
          rw [e] at q; cases q
          exact ⟨_, h1, fin h2 h4 _ isIt_str⟩))
      · split at hi
        · rename_i us hs
          cases hi
          exact .inl (run _ fun a st2 v m1 H1 q h1 h2 h3 h4 => by
            rw [e] at q; cases q
            obtain ⟨b, hb, rfl⟩ := h1
            obtain ⟨ho, k1, vs, k2, k3⟩ := h2.cell _ _ b hs hb
            subst k2
            exact ⟨b, rfl, ⟨vs, .inl (.inl k1)⟩, fin h2 h4 _ (isIt_cell hb)⟩)
        · cases hi
      · cases hi⟩
/-- range(n), range(a, b) -/
def itR (us : List U) : Option Itb := match us with
  | [.d (.int j)] => if -(2 ^ 62) ≤ j ∧ j < 2 ^ 62 then some (.lst ((List.range j.toNat).map fun i => .d (.int (0 + (i : Nat))))) else none
  | _ => none
def itR2 (us : List U) : Option Itb := match us with
  | [.d (.int i), .d (.int j)] => if -(2 ^ 62) ≤ i ∧ i < 2 ^ 62 ∧ -(2 ^ 62) ≤ j ∧ j < 2 ^ 62 then some (.lst ((List.range (j - i).toNat).map fun k => .d (.int (i + (k : Nat))))) else none
  | _ => none
def fItN (g : List U → Option Itb) (f : F (List U)) : F Itb := bnd f fun us => fun _ st => .of st (g us)
theorem t_itN {g : List U → Option Itb} {σ : L2.St} {H : Hp} {R : It → Hp → Prop} (h : tI X.K W (fItN g fs) σ H R) {Z : List V → Hp → Prop}
    (hz : ∀ us vs m1 st1 H1 t, RpUs X.K m1 H1 us vs → Rep X.K m1 st1 H1 → g us = some t → (∀ J, IsIt X.K m1 H1 J t → R J H1) → Z vs H1) : tFs X.K W fs σ H Z := by
  obtain ⟨m, env, st, r, re, p⟩ := h
  refine ⟨m, env, st, r, re, ?_⟩
  unfold fItN at p
  cases e : fs env st with
  | bad => unfold bnd at p; simp only [e] at p; exact p.elim
  | ex c fs st1 => unfold bnd at p; simp only [e] at p; exact p
  | ok us st1 =>
    intro vs m1 H1 h1 r1 e1
    cases hi : g us with
    | none => unfold bnd at p; simp only [e, hi] at p; exact p.elim
    | some t =>
      have e2 : bnd fs (fun us => fun _ st => VL.R.of st (g us)) env st = .ok t st1 := by unfold bnd; simp only [e, hi]; rfl
      rw [e2] at p
      exact hz us vs m1 st1 H1 t h1 r1 hi fun J hJ => p t m1 H1 rfl r1 e1 m1 st1 rfl r1 e1 J hJ
theorem d_range1 {a : Expr} (hm : X.mg "range" = none) (ha : DA X W [a] fs) (hg : Gl X "range" := by rfl) (hs : starEach [a] X.env = [(false, eval a X.env)] := by rfl) : DI X W tg (.Call (.Name "range" p) [a] [] pos) (fItN itR fs) :=
  ⟨PI.imp (pi_range1 hg hm ha.pa hs) fun σ H R h => t_itN h fun us vs m1 st1 H1 t h1 r1 ht q => by
    unfold itR at ht
    split at ht
    · split at ht
      · rename_i hb
        cases ht
        obtain ⟨v, _, rfl, rfl, rfl⟩ := h1
        exact ⟨_, rfl, hb.1, hb.2, q _ isIt_rng⟩
      · cases ht
    · cases ht⟩
theorem d_range2 {a b : Expr} (hm : X.mg "range" = none) (ha : DA X W [a, b] fs) (hg : Gl X "range" := by rfl) (hs : starEach [a, b] X.env = [(false, eval a X.env), (false, eval b X.env)] := by rfl) (hs2 : starEach [b] X.env = [(false, eval b X.env)] := by rfl) : DI X W tg (.Call (.Name "range" p) [a, b] [] pos) (fItN itR2 fs) :=
  ⟨PI.imp (pi_range2 hg hm ha.pa hs hs2) fun σ H R h => t_itN h fun us vs m1 st1 H1 t h1 r1 ht q => by
    unfold itR2 at ht
    split at ht
    · split at ht
      · rename_i hb
        cases ht
        obtain ⟨v, _, rfl, rfl, w, _, rfl, rfl, rfl⟩ := h1
        exact ⟨_, _, rfl, hb, q _ isIt_rng⟩
      · cases ht
    · cases ht⟩
end
/-- pairs of an index, an item -/
def pairsFrom : Nat → List D → List U
  | _, [] => []
  | i, d :: ds => .d (.tup [.int (i : Nat), d]) :: pairsFrom (i + 1) ds
theorem pairsFrom_get : ∀ (ds : List D) (k i : Nat) (u : U), (pairsFrom k ds)[i]? = some u → ∃ d, ds[i]? = some d ∧ u = .d (.tup [.int ((k + i : Nat) : Int), d])
  | [], k, i, u, h => by simp [pairsFrom] at h
  | d :: ds, k, 0, u, h => by simp [pairsFrom] at h; exact ⟨d, rfl, h.symm⟩
  | d :: ds, k, i + 1, u, h => by
    obtain ⟨d', h1, h2⟩ := pairsFrom_get ds (k + 1) i u (by simpa [pairsFrom] using h)
    exact ⟨d', by simpa using h1, by rw [h2]; congr 4; simp; omega⟩
theorem pairsFrom_length : ∀ (ds : List D) (k : Nat), (pairsFrom k ds).length = ds.length
  | [], _ => rfl
  | d :: ds, k => by rw [pairsFrom, List.length_cons, List.length_cons, pairsFrom_length]
def itE (st : Store) (us : List U) : Option Itb := match us with
  | [.d (.lst ds)] => some (.lst (pairsFrom 0 ds))
  | [.d (.scr ns)] => some (.lst (pairsFrom 0 (ns.map .int)))
  | [.ref n] => match st[n]? with
    | some (.lst _) => some (.cell n fun i u => match u with
      | .d x => some (.d (.tup [.int (i : Nat), x]))
      | _ => none)
    | _ => none
  | _ => none
def zipD : List D → List D → List U
  | x :: xs, y :: ys => .d (.tup [x, y]) :: zipD xs ys
  | _, _ => []
def itZ (us : List U) : Option Itb := match us with
  | [.d (.lst xs), .d (.lst ys)] => some (.lst (zipD xs ys))
  | _ => none
theorem zipD_get : ∀ (xs ys : List D) (i : Nat) (u : U), (zipD xs ys)[i]? = some u → ∃ x y, xs[i]? = some x ∧ ys[i]? = some y ∧ u = .d (.tup [x, y])
  | [], ys, i, u, h => by simp [zipD] at h
  | x :: xs, [], i, u, h => by simp [zipD] at h
  | x :: xs, y :: ys, 0, u, h => by simp [zipD] at h; exact ⟨x, y, rfl, rfl, h.symm⟩
  | x :: xs, y :: ys, i + 1, u, h => by
    obtain ⟨a, b, h1, h2, h3⟩ := zipD_get xs ys i u (by simpa [zipD] using h)
    exact ⟨a, b, by simpa using h1, by simpa using h2, h3⟩
theorem zipD_length : ∀ (xs ys : List D), (zipD xs ys).length = min xs.length ys.length
  | [], ys => by simp [zipD]
  | x :: xs, [] => by simp [zipD]
  | x :: xs, y :: ys => by rw [zipD, List.length_cons, zipD_length, List.length_cons, List.length_cons]; omega
section
variable {K : PySem.W.Frag} {m : List Addr} {H : Hp} {st : Store}
theorem pair_new (r : Rep K m st H) {T : Addr} (nT : H T = none) {a b : D} {x y : V} (h1 : RpD K m H a x) (h2 : RpD K m H b y) : Rep K m st (upd H T (.tup [x, y])) ∧ Ext m H m (upd H T (.tup [x, y])) ∧ RpU K m (upd H T (.tup [x, y])) (.d (.tup [a, b])) (.ref T) :=
  ⟨r.new nT _, ext_new r nT _, new_tup r nT ⟨x, _, rfl, h1, y, _, rfl, h2, rfl⟩⟩
theorem isIt_enum {a : Addr} {ds : List D} {vs : List V} (hs : ∀ m' H', Ext m H m' H' → SqL K H' a vs) (hr : RpDs K m H ds vs) : IsIt K m H (Ite K a) (.lst (pairsFrom 0 ds)) := by
  have hl := hr.length
  have hl2 := pairsFrom_length ds 0
  refine ⟨fun i m' st' H' hi r e => (walk_enum (K := K) (a := a) (xs := vs)).goes i H' (by omega) (hs m' H' e), fun m' st' H' r e => (by rw [hl2, ← hl]; exact (walk_enum (K := K) (a := a) (xs := vs)).stops H' (hs m' H' e)), fun i u m' st' H' x H'' hu r e y => ?_⟩
  have hi := (List.getElem?_eq_some_iff.mp hu).1
  obtain ⟨T, x1, y1, rfl, nT, rfl, e1, e2⟩ := (walk_enum (K := K) (a := a) (xs := vs)).yields i H' x H'' (by omega) (hs m' H' e) y
  cases e1
  obtain ⟨d, hd, rfl⟩ := pairsFrom_get ds 0 i u hu
  obtain ⟨v, hv, rv⟩ := hr.get hd
  cases hv.symm.trans e2
  rw [Nat.zero_add]
  exact pair_new r nT (a := .int (i : Nat)) rfl (rv.ext e)
theorem isIt_enumC {a : Addr} {n : Nat} (hn : m[n]? = some a) : IsIt K m H (Ite K a) (.cell n fun i u => match u with
    | .d x => some (.d (.tup [.int (i : Nat), x]))
    | _ => none) := by
  intro us m' st' H' r e hs
  have hn' : m'[n]? = some a := by
    obtain ⟨t, rfl⟩ := e.pre
    rw [List.getElem?_append_left (List.getElem?_eq_some_iff.mp hn).1]; exact hn
  obtain ⟨ho, h1, vs, e2, h2⟩ := r.cell n _ a hs hn'
  subst e2
  have hl := h2.length
  have hq : SqL K H' a vs := .inl (.inl h1)
  refine ⟨fun i hi => (walk_enum (K := K) (a := a) (xs := vs)).goes i H' (by omega) hq, fun i hi => ?_, fun i u w x H'' hu hw y => ?_⟩
  · exact ⟨vs, hq, by omega⟩
  · have hi := (List.getElem?_eq_some_iff.mp hu).1
    obtain ⟨T, x1, y1, rfl, nT, rfl, e1, e2⟩ := (walk_enum (K := K) (a := a) (xs := vs)).yields i H' x H'' (by omega) hq y
    cases e1
    obtain ⟨v, hv, rv⟩ := h2.get hu
    cases hv.symm.trans e2
    cases u with
    | ref k => cases hw
    | d z => cases hw; exact pair_new r nT (a := .int (i : Nat)) rfl rv
theorem isIt_zip {a b : Addr} {xs ys : List D} {vs ws : List V} (hs : ∀ m' H', Ext m H m' H' → SqL K H' a vs ∧ SqL K H' b ws) (hx : RpDs K m H xs vs) (hy : RpDs K m H ys ws) : IsIt K m H (Itz K a b) (.lst (zipD xs ys)) := by
  have hl := hx.length
  have hl' := hy.length
  have hl2 := zipD_length xs ys
  have wz := walk_zip (K := K) (a := a) (b := b) (xs := vs) (ys := ws) (n := min vs.length ws.length) rfl
  refine ⟨fun i m' st' H' hi r e => wz.goes i H' (by omega) (hs m' H' e), fun m' st' H' r e => (by rw [hl2, ← hl, ← hl']; exact wz.stops H' (hs m' H' e)), fun i u m' st' H' x H'' hu r e y => ?_⟩
  have hi := (List.getElem?_eq_some_iff.mp hu).1
  obtain ⟨T, x1, y1, rfl, nT, rfl, e1, e2⟩ := wz.yields i H' x H'' (by omega) (hs m' H' e) y
  obtain ⟨d1, d2, hd1, hd2, rfl⟩ := zipD_get xs ys i u hu
  obtain ⟨v, hv, rv⟩ := hx.get hd1
  obtain ⟨w, hw, rw'⟩ := hy.get hd2
  cases hv.symm.trans e1
  cases hw.symm.trans e2
  exact pair_new r nT (rv.ext e) (rw'.ext e)
end
section
variable {X : Cx} {W : WX} {e e2 : Expr} {fs : F (List U)} {pos p tpos : Pos} {elts : List Expr} {kk : Nat}
def fItS (g : Store → List U → Option Itb) (f : F (List U)) : F Itb := bnd f fun us => fun _ st => .of st (g st us)
theorem t_itS {g : Store → List U → Option Itb} {σ : L2.St} {H : Hp} {R : It → Hp → Prop} (h : tI X.K W (fItS g fs) σ H R) {Z : List V → Hp → Prop}
    (hz : ∀ us vs m1 st1 H1 t, RpUs X.K m1 H1 us vs → Rep X.K m1 st1 H1 → g st1 us = some t → (∀ J, IsIt X.K m1 H1 J t → R J H1) → Z vs H1) : tFs X.K W fs σ H Z := by
  obtain ⟨m, env, st, r, re, p⟩ := h
  refine ⟨m, env, st, r, re, ?_⟩
  unfold fItS at p
  cases e : fs env st with
  | bad => unfold bnd at p; simp only [e] at p; exact p.elim
  | ex c fs st1 => unfold bnd at p; simp only [e] at p; exact p
  | ok us st1 =>
    intro vs m1 H1 h1 r1 e1
    cases hi : g st1 us with
    | none => unfold bnd at p; simp only [e, hi] at p; exact p.elim
    | some t =>
      have e2 : bnd fs (fun us => fun _ st => VL.R.of st (g st us)) env st = .ok t st1 := by unfold bnd; simp only [e, hi]; rfl
      rw [e2] at p
      exact hz us vs m1 st1 H1 t h1 r1 hi fun J hJ => p t m1 H1 rfl r1 e1 m1 st1 rfl r1 e1 J hJ
theorem d_enum (hm : X.mg "enumerate" = none) (ha : DA X W [e] fs) (hg : Gl X "enumerate" := by rfl) (hs : starEach [e] X.env = [(false, eval e X.env)] := by rfl) : DI X W (.Tuple elts kk tpos) (.Call (.Name "enumerate" p) [e] [] pos) (fItS itE fs) :=
  ⟨PI.imp (pi_enum hg hm ha.pa hs) fun σ H R h => t_itS h fun us vs m1 st1 H1 t h1 r1 ht q => by
    unfold itE at ht
    split at ht
    · cases ht
      obtain ⟨v, _, rfl, ⟨a, ws, rfl, g1, g2⟩, rfl⟩ := h1
      exact ⟨a, ws, rfl, g1.sq, q _ (isIt_enum (fun m' H' e' => (g1.stay e'.toStay).sq) g2)⟩
    · cases ht
      rename_i ns
      obtain ⟨v, _, rfl, ⟨a, rfl, g1⟩, rfl⟩ := h1
      exact ⟨a, _, rfl, g1.sq, q _ (isIt_enum (fun m' H' e' => (g1.stay e'.toStay).sq) (RpDs.toD (by rw [List.map_map]; exact RpUs.ints ns)))⟩
    · split at ht
      · rename_i us hs
        cases ht
        obtain ⟨v, _, rfl, ⟨a, ha, rfl⟩, rfl⟩ := h1
        obtain ⟨ho, k1, ws, k2, k3⟩ := r1.cell _ _ a hs ha
        subst k2
        exact ⟨a, ws, rfl, .inl (.inl k1), q _ (isIt_enumC ha)⟩
      · cases ht
    · cases ht⟩
theorem d_zip (hm : X.mg "zip" = none) (ha : DA X W [e, e2] fs) (hg : Gl X "zip" := by rfl) (hs : starEach [e, e2] X.env = (false, eval e X.env) :: starEach [e2] X.env := by rfl) (hpl : (backTo pos (starEach [e2] X.env)).any (·.1) = false := by rfl) : DI X W (.Tuple elts kk tpos) (.Call (.Name "zip" p) [e, e2] [] pos) (fItN itZ fs) :=
  ⟨PI.imp (pi_zip hg hm ha.pa hs hpl) fun σ H R h => t_itN h fun us vs m1 st1 H1 t h1 r1 ht q => by
    unfold itZ at ht
    split at ht
    · cases ht
      obtain ⟨v, _, rfl, ⟨a, ws, rfl, g1, g2⟩, w, _, rfl, ⟨b, xs, rfl, g3, g4⟩, rfl⟩ := h1
      exact ⟨a, b, ws, xs, rfl, g1.sq, g3.sq, q _ (isIt_zip (fun m' H' e' => ⟨(g1.stay e'.toStay).sq, (g3.stay e'.toStay).sq⟩) g2 g4)⟩
    · cases ht⟩
end
end VL

/-! VLg: cutting the store, comprehensions, while, defs and their calls. -/
namespace VL
open PySem PySem.Spec PyProof.Rows L2

/-! ### cutting the store -/
def okU (k : Nat) : U → Bool
  | .d _ => true
  | .ref n => decide (n < k)
def okO (k : Nat) : O → Bool
  | .lst us => us.all (okU k)
  | .tup us => us.all (okU k)
  | .dct us => us.all fun p => okU k p.2
  | .ins _ us => us.all fun p => okU k p.2
  | .tbl _ _ => true
/-- no cell speaks of one that is not there -/
def wfB (st : Store) : Bool := st.all (okO st.length)
def cutS (k : Nat) (st : Store) : Option Store := if (st.take k).all (okO k) = true then some (st.take k) else none

theorem RpD.less {K : PySem.W.Frag} {m m' : List Addr} {H : Hp} (h : ∀ a, a ∉ m → a ∉ m') {d : D} {v : V} (r : RpD K m H d v) : RpD K m' H d v :=
  RpD.stay ⟨fun a o n e _ _ => ⟨e, h a n⟩, fun a kvs n e => ⟨e, h a n⟩⟩ d v r
section
variable {K : PySem.W.Frag} {m : List Addr} {H : Hp} {st : Store} {k : Nat}
theorem okU_rp {u : U} {v : V} (h : okU k u = true) (r : RpU K m H u v) : RpU K (m.take k) H u v := by
  cases u with
  | d x => exact RpD.less (fun a n z => n (List.mem_of_mem_take z)) r
  | ref n =>
    obtain ⟨a, ha, e⟩ := r
    exact ⟨a, by rw [List.getElem?_take_of_lt (of_decide_eq_true h)]; exact ha, e⟩
theorem okUs_rp : ∀ {us : List U} {vs : List V}, us.all (okU k) = true → RpUs K m H us vs → RpUs K (m.take k) H us vs
  | [], _, _, r => r
  | u :: us, _, h, ⟨v, t, e, h1, h2⟩ => by
    rw [List.all_cons, Bool.and_eq_true] at h
    exact ⟨v, t, e, okU_rp h.1 h1, okUs_rp h.2 h2⟩
theorem okUK_rp : ∀ {us : List (Key × U)} {vs : List (Key × V)}, (us.all fun p => okU k p.2) = true → RpUK K m H us vs → RpUK K (m.take k) H us vs
  | [], _, _, r => r
  | (_, u) :: us, _, h, ⟨v, t, e, h1, h2⟩ => by
    rw [List.all_cons, Bool.and_eq_true] at h
    exact ⟨v, t, e, okU_rp h.1 h1, okUK_rp h.2 h2⟩
theorem okUF_rp : ∀ {us : List (Str × U)} {vs : List (Str × V)}, (us.all fun p => okU k p.2) = true → RpUF K m H us vs → RpUF K (m.take k) H us vs
  | [], _, _, r => r
  | (_, u) :: us, _, h, ⟨v, t, e, h1, h2⟩ => by
    rw [List.all_cons, Bool.and_eq_true] at h
    exact ⟨v, t, e, okU_rp h.1 h1, okUF_rp h.2 h2⟩
theorem okO_rp {b : Addr} {c : O} {o : HO} (h : okO k c = true) (r : RpO K m H b c o) : RpO K (m.take k) H b c o := by
  cases c with
  | lst us => obtain ⟨vs, e, q⟩ := r; exact ⟨vs, e, okUs_rp h q⟩
  | tup us => obtain ⟨vs, e, q⟩ := r; exact ⟨vs, e, okUs_rp h q⟩
  | dct us => obtain ⟨vs, e, q⟩ := r; exact ⟨vs, e, okUK_rp h q⟩
  | ins C us => obtain ⟨dx, vs, e, q⟩ := r; exact ⟨dx, vs, e, okUF_rp h q⟩
  | tbl P q => obtain ⟨e, ps, e1, e2, g⟩ := r; exact ⟨e, ps, e1, e2, fun pos cv hc => let ⟨c, g1, g2, g3⟩ := g pos cv hc; ⟨c, g1, fun z => g2 (List.mem_of_mem_take z), g3⟩⟩
theorem Rep.cut (r : Rep K m st H) {s : Store} (e : cutS k st = some s) : Rep K (m.take k) s H := by
  unfold cutS at e
  split at e
  · rename_i h
    cases e
    refine ⟨by rw [List.length_take, List.length_take, r.len], r.nd.sublist (List.take_sublist _ _), fun n c a h1 h2 => ?_⟩
    have hn : n < k := by
      have := (List.getElem?_eq_some_iff.mp h1).1
      rw [List.length_take] at this
      omega
    rw [List.getElem?_take_of_lt hn] at h1 h2
    obtain ⟨ho, e1, q⟩ := r.cell n c a h1 h2
    have hc : okO k c = true := List.all_eq_true.mp h c (List.mem_of_getElem? (i := n) (by rw [List.getElem?_take_of_lt hn]; exact h1))
    exact ⟨ho, e1, okO_rp hc q⟩
  · cases e
theorem ext_cut {m0 : List Addr} {H0 : Hp} (e : Ext m0 H0 m H) (hk : m0.length ≤ k) : Ext m0 H0 (m.take k) H := by
  refine ⟨?_, fun a o n h nt => ⟨(e.stay a o n h nt).1, fun z => (e.stay a o n h nt).2 (List.mem_of_mem_take z)⟩⟩
  obtain ⟨t, rfl⟩ := e.pre
  rw [List.take_append, List.take_of_length_le hk]
  exact List.prefix_append _ _
end
/-! ### comprehensions -/
def wipeE (env : VEnv) : List Nat → VEnv
  | [] => env
  | v :: vs => (wipeE env vs).set v none
def lcStep (k : Nat) (tg : U → G) (tt : F Bool) (fe : F U) (env0 : VEnv) (u : U) : Store → R Unit := fun st => match tg u env0 st with
  | .ok env1 .nx st1 => match tt env1 st1 with
    | .ok true st2 => match fe env1 st2 with
      | .ok x st3 => match st3[k]? with
        | some (.lst acc) => if acc.length < sizeLine then .ok () (st3.set k (.lst (acc ++ [x]))) else .bad
        | _ => .bad
      | _ => .bad
    | .ok false st2 => .ok () st2
    | _ => .bad
  | _ => .bad
def lcL (k : Nat) (tg : U → G) (tt : F Bool) (fe : F U) (env0 : VEnv) : List U → Store → R Unit
  | [] => fun st => .ok () st
  | u :: us => fun st => match lcStep k tg tt fe env0 u st with
    | .ok _ st1 => lcL k tg tt fe env0 us st1
    | _ => .bad
def lcC (k : Nat) (tg : U → G) (tt : F Bool) (fe : F U) (env0 : VEnv) (n : Nat) (f : Nat → U → Option U) : Nat → Nat → Store → R Unit
  | 0, _ => fun _ => .bad
  | j + 1, i => fun st => match st[n]? with
    | some (.lst us) => match us[i]? with
      | none => .ok () st
      | some u => match f i u with
        | none => .bad
        | some w => match lcStep k tg tt fe env0 w st with
          | .ok _ st1 => lcC k tg tt fe env0 n f j (i + 1) st1
          | _ => .bad
    | _ => .bad
def lcEnd (k : Nat) : R Unit → R U
  | .ok _ st => match st[k]? with
    | some (.lst us) => match pureL us, cutS k st with
      | some ds, some s => .ok (.d (.lst ds)) s
      | _, _ => .bad
    | _ => .bad
  | _ => .bad
def fLc (fi : F Itb) (tg : U → G) (tt : F Bool) (fe : F U) (vs : List Nat) : F U := bnd fi fun t => fun env st => match t with
  | .lst us => lcEnd st.length (lcL st.length tg tt fe (wipeE env vs) us (st ++ [.lst []]))
  | .cell n f => match st[n]? with
    | some (.lst us) => lcEnd st.length (lcC st.length tg tt fe (wipeE env vs) n f (us.length + 1) 0 (st ++ [.lst []]))
    | _ => .bad
def tYesB : F Bool := fPure true

section
variable {K : PySem.W.Frag} {m : List Addr} {H : Hp} {st : Store}
theorem RpEnv.wipe {env : VEnv} {σ : L2.St} (h : RpEnv K m H env σ) : ∀ vs : List Nat, RpEnv K m H (wipeE env vs) (wipe σ vs)
  | [] => h
  | v :: vs => by
    have ih := RpEnv.wipe h vs
    refine ⟨by show ((wipeE env vs).set v none).length = ((L2.wipe σ vs).set v none).length; rw [List.length_set, List.length_set]; exact ih.len, fun i u hi => ?_⟩
    have hi' : ((wipeE env vs).set v none)[i]? = some (some u) := hi
    by_cases e : v = i
    · subst e
      by_cases hv : v < (wipeE env vs).length
      · rw [List.getElem?_set_self hv] at hi'; cases hi'
      · rw [List.getElem?_eq_none (by rw [List.length_set]; omega)] at hi'; cases hi'
    · rw [List.getElem?_set_ne e] at hi'
      obtain ⟨x, h1, h2⟩ := ih.at' i u hi'
      exact ⟨x, by show ((L2.wipe σ vs).set v none)[i]? = _; rw [List.getElem?_set_ne e]; exact h1, h2⟩
theorem wipe_get {σ : L2.St} : ∀ {vs : List Nat} {i : Nat}, (L2.wipe σ vs)[i]? = if i ∈ vs then (σ[i]?).map (fun _ => none) else σ[i]?
  | [], i => by simp [L2.wipe]
  | v :: vs, i => by
    show ((L2.wipe σ vs).set v none)[i]? = _
    by_cases e : v = i
    · subst e
      rw [if_pos (List.mem_cons_self)]
      by_cases hv : v < σ.length
      · rw [List.getElem?_set_self (by rw [wipe_length]; exact hv), List.getElem?_eq_getElem hv]; rfl
      · rw [List.getElem?_eq_none (by rw [List.length_set, wipe_length]; omega), List.getElem?_eq_none (by omega)]; rfl
    · rw [List.getElem?_set_ne e, wipe_get]
      have : (i ∈ v :: vs) ↔ i ∈ vs := by simp [Ne.symm e]
      by_cases h : i ∈ vs
      · rw [if_pos h, if_pos (this.mpr h)]
      · rw [if_neg h, if_neg (fun z => h (this.mp z))]
theorem wipe_out {is vs : List Nat} {σ σ' : L2.St} (h : ∀ i ∈ is, i ∈ vs) (o : Out is (L2.wipe σ vs) σ') : L2.wipe σ' vs = L2.wipe σ vs := by
  apply List.ext_getElem?
  intro i
  rw [wipe_get]
  by_cases hi : i ∈ vs
  · rw [if_pos hi, wipe_get, if_pos hi]
    have hl : σ'.length = σ.length := by rw [o.1, wipe_length]
    by_cases h2 : i < σ.length
    · rw [List.getElem?_eq_getElem h2, List.getElem?_eq_getElem (by omega)]; rfl
    · rw [List.getElem?_eq_none (by omega), List.getElem?_eq_none (by omega)]
  · rw [if_neg hi]
    exact o.2 i fun z => hi (h i z)
end
/-- a clause's tests -/
structure DTs (X : Cx) (W : WX) (es : List Expr) (f : F Bool) : Prop where
  pts : PTs X es (tFB X.K W f)
section
variable {X : Cx} {W : WX} {c : Expr} {fc : F Bool}
theorem dts_nil : DTs X W [] tYesB := ⟨⟨fun pins s σ H Q I ⟨m, env, st, r, re, p⟩ => pts_nil.run pins s σ H Q I (p true m H rfl r (Ext.refl _ _))⟩⟩
theorem dts_one (h : DT X W c fc) : DTs X W [c] fc := ⟨pts_one h.pt⟩
end
def W0 : WX := fun _ _ _ _ => False
section
variable {X : Cx} {W : WX} {elt tg iter : Expr} {ifs : List Expr} {scope : Scope} {own : List (Str × Nat)} {pos : Pos} {is : List Nat} {g : U → G} {gt : F Bool} {fe : F U} {fi : F Itb}
theorem pre_get {α : Type} {m m' : List α} (p : m <+: m') {k : Nat} {a : α} (h : m[k]? = some a) : m'[k]? = some a := by
  obtain ⟨t, rfl⟩ := p
  rw [List.getElem?_append_left (List.getElem?_eq_some_iff.mp h).1]; exact h
/-- what holds between two turns -/
structure LcI (K : PySem.W.Frag) (m1 : List Addr) (H1 : Hp) (k : Nat) (D0 : Addr) (m' : List Addr) (st' : Store) (H' : Hp) : Prop where
  rep : Rep K m' st' H'
  ext : Ext m1 H1 m' H'
  at' : m'[k]? = some D0
/-- one turn -/
theorem lc_turn {K : PySem.W.Frag} {σ : L2.St} {env : VEnv} {m1 m' : List Addr} {H1 H'' : Hp} {st' : Store} {u : U} {x : V} {k : Nat} {D0 : Addr} {Nx : Hp → Prop} {vs is : List Nat} {rest : Store → R Unit} {Q : VK} {E : XK}
    (hvs : ∀ i ∈ is, i ∈ vs) (I : LcI K m1 H1 k D0 m' st' H'') (hk : k = m1.length) (h0 : H1 D0 = none) (re : RpEnv K m' H'' (wipeE env vs) (L2.wipe σ vs)) (ru : RpU K m' H'' u x)
    (p : PU K m1 H1 Q E (lcEnd k (match lcStep k g gt fe (wipeE env vs) u st' with
      | .ok _ st1 => rest st1
      | _ => .bad)))
    (hN : ∀ m2 st2 H2, LcI K m1 H1 k D0 m2 st2 H2 → RpEnv K m2 H2 (wipeE env vs) (L2.wipe σ vs) → PU K m1 H1 Q E (lcEnd k (rest st2)) → Nx H2) :
    tTg K is g x (L2.wipe σ vs) H'' fun σ2 H2 => L2.wipe σ2 vs = L2.wipe σ vs ∧ tFB K W0 gt σ2 H2 fun b H3 =>
      if b = true then tF K W0 fe σ2 H3 fun y H4 => ∃ acc, H4 D0 = some (.lst acc) ∧ acc.length < sizeLine ∧ Nx (upd H4 D0 (.lst (acc ++ [y]))) else Nx H3 := by
  refine ⟨m', _, st', u, I.rep, re, ru, ?_⟩
  unfold lcStep at p
  split
  · rename_i env1 st1 e1
    simp only [e1] at p
    intro σ2 m2 H2 re2 r2 x2 o2
    refine ⟨wipe_out hvs o2, m2, env1, st1, r2, re2, ?_⟩
    cases e2 : gt env1 st1 with
    | bad => simp only [e2] at p; exact p.elim
    | ex c fs st2 => simp only [e2] at p; exact p.elim
    | ok b st2 =>
      simp only [e2] at p
      intro b' m3 H3 hb r3 x3
      subst hb
      cases b' with
      | false =>
        refine iteF (hN m3 st2 H3 ⟨r3, I.ext.trans (x2.trans x3), pre_get (x2.trans x3).pre I.at'⟩ (re.ext (x2.trans x3)) p)
      | true =>
        refine iteT ⟨m3, env1, st2, r3, re2.ext x3, ?_⟩
        cases e3 : fe env1 st2 with
        | bad => simp only [e3] at p; exact p.elim
        | ex c fs st3 => simp only [e3] at p; exact p.elim
        | ok z st3 =>
          simp only [e3] at p
          intro y m4 H4 ry r4 x4
          have x24 := x2.trans (x3.trans x4)
          have hat := pre_get x24.pre I.at'
          cases hacc : st3[k]? with
          | none => simp only [hacc] at p; exact p.elim
          | some cell =>
          cases cell with
          | dct _ => simp only [hacc] at p; exact p.elim
          | tup _ => simp only [hacc] at p; exact p.elim
          | ins _ _ => simp only [hacc] at p; exact p.elim
          | tbl _ _ => simp only [hacc] at p; exact p.elim
          | lst acc =>
            simp only [hacc] at p
            by_cases hlen : acc.length < sizeLine
            · rw [if_pos hlen] at p
              obtain ⟨ho, g1, ws, g2, g3⟩ := r4.cell k _ D0 hacc hat
              subst g2
              refine ⟨ws, g1, by rw [g3.length]; exact hlen, ?_⟩
              have hm : D0 ∈ m4 := List.mem_of_getElem? hat
              have rW : Rep K m4 (st3.set k (.lst (acc ++ [z]))) (upd H4 D0 (.lst (ws ++ [y]))) :=
                r4.write hat ⟨_, rfl, (g3.append (show RpUs K m4 H4 [z] [y] from ⟨y, _, rfl, ry, rfl⟩)).ext (ext_write hm _)⟩
              have eW : Ext m1 H1 m4 (upd H4 D0 (.lst (ws ++ [y]))) := (I.ext.trans x24).trans (ext_write hm _)
              exact hN m4 _ _ ⟨rW, eW, hat⟩ ((re.ext x24).ext (ext_write hm _)) p
            · rw [if_neg hlen] at p; exact p.elim
  · rename_i hn
    split at p
    · rename_i q
      split at q
      · rename_i env1 st1 e1
        exact (hn env1 st1 e1).elim
      · cases q
    · exact p.elim
theorem lc_fin {K : PySem.W.Frag} {m1 m' : List Addr} {H1 H' : Hp} {st' : Store} {k : Nat} {D0 : Addr} {Q : VK} {E : XK} (I : LcI K m1 H1 k D0 m' st' H') (hk : k = m1.length) (p : PU K m1 H1 Q E (lcEnd k (.ok () st'))) : Q (.ref D0) H' := by
  unfold lcEnd at p
  simp only at p
  split at p
  · rename_i us hus
    split at p
    · rename_i ds s hd hs
      obtain ⟨ho, g1, ws, g2, g3⟩ := I.rep.cell k _ D0 hus I.at'
      subst g2
      have hnot : D0 ∉ m'.take k := fun z => by
        obtain ⟨j, hj, e⟩ := List.mem_iff_getElem.mp z
        rw [List.length_take] at hj
        rw [List.getElem_take] at e
        obtain ⟨hk', e'⟩ := List.getElem?_eq_some_iff.mp I.at'
        have := (List.getElem_inj I.rep.nd).mp (e.trans e'.symm)
        omega
      refine p _ (m'.take k) H' ⟨D0, ws, rfl, ⟨hnot, g1⟩, ?_⟩ (I.rep.cut hs) (ext_cut I.ext (by omega))
      have := pureL_rp g3 hd
      exact RpDs.stay ⟨fun a o n e _ _ => ⟨e, fun z => n (List.mem_of_mem_take z)⟩, fun a kvs n e => ⟨e, fun z => n (List.mem_of_mem_take z)⟩⟩ _ _ this
    · exact p.elim
  · exact p.elim
theorem t_lc {vs : List Nat} (hvs : ∀ i ∈ is, i ∈ vs) {σ : L2.St} {H : Hp} {Q : VK} (q : tF X.K W (fLc fi g gt fe vs) σ H Q) :
    tLc (tI X.K W fi) (tTg X.K is g) (tFB X.K W0 gt) (tF X.K W0 fe) vs σ H Q := by
  obtain ⟨m, env, st, r, re, p⟩ := q
  refine ⟨m, env, st, r, re, ?_⟩
  unfold fLc bnd at p
  cases e : fi env st with
  | bad => rw [e] at p; exact p.elim
  | ex c fs st1 => rw [e] at p; exact p
  | ok t st1 =>
    rw [e] at p
    intro t' m0 H0 ht r0 e0 m1 st1' he r1 e1 J hJ D0 hD0
    subst ht
    cases he
    have re1 := re.ext e1
    have p1 := PO'.from e1 p
    have hpush := push_lst r1 hD0 (us := []) (vs := []) rfl
    have start : LcI X.K m1 H0 m1.length D0 (m1 ++ [D0]) (st1 ++ [.lst []]) (upd H0 D0 (.lst [])) := ⟨hpush.2, ext_push r1 hD0 _, by simp⟩
    have reS : RpEnv X.K (m1 ++ [D0]) (upd H0 D0 (.lst [])) (wipeE env vs) (L2.wipe σ vs) := (re1.ext (ext_push r1 hD0 _)).wipe vs
    have hlen := r1.len
    cases t' with
    | lst us =>
      simp only [← hlen] at p1
      obtain ⟨go, stop, yld⟩ := hJ
      refine ⟨fun i n H => ∃ m' st', LcI X.K m1 H0 m1.length D0 m' st' H ∧ RpEnv X.K m' H (wipeE env vs) (L2.wipe σ vs) ∧ n = us.length - i ∧ i ≤ us.length ∧ PU X.K m1 H0 Q (fun c d H' => W c d σ H') (lcEnd m1.length (lcL m1.length g gt fe (wipeE env vs) (us.drop i) st')),
        ⟨us.length, _, _, start, reS, by simp, Nat.zero_le _, p1⟩, ?_⟩
      rintro i n H' ⟨m', st', I, re', rfl, hi, p'⟩
      by_cases hlt : i < us.length
      · have hu : us[i]? = some us[i] := List.getElem?_eq_getElem hlt
        rw [List.drop_eq_getElem_cons hlt] at p'
        refine .inr ⟨go i m' st' H' hlt I.rep I.ext, fun H2 => ∃ m2 st2, LcI X.K m1 H0 m1.length D0 m2 st2 H2 ∧ RpEnv X.K m2 H2 (wipeE env vs) (L2.wipe σ vs) ∧ PU X.K m1 H0 Q (fun c d H' => W c d σ H') (lcEnd m1.length (lcL m1.length g gt fe (wipeE env vs) (us.drop (i + 1)) st2)), ?_, ?_⟩
        · rintro H2 ⟨m2, st2, I2, re2, p2⟩
          exact ⟨us.length - (i + 1), by omega, m2, st2, I2, re2, rfl, hlt, p2⟩
        · intro x H'' hy
          obtain ⟨r2, e2, ru⟩ := yld i _ m' st' H' x H'' hu I.rep I.ext hy
          exact lc_turn hvs ⟨r2, I.ext.trans e2, I.at'⟩ rfl hD0 (re'.ext e2) ru p' fun m2 st2 H2 I2 re2 p2 => ⟨m2, st2, I2, re2, p2⟩
      · have : i = us.length := by omega
        subst this
        rw [List.drop_length] at p'
        exact .inl ⟨stop m' st' H' I.rep I.ext, lc_fin I rfl p'⟩
    | cell n f =>
      simp only at p1
      split at p1
      · rename_i us0 hs0
        simp only [← hlen] at p1
        refine ⟨fun i j H => ∃ m' st', LcI X.K m1 H0 m1.length D0 m' st' H ∧ RpEnv X.K m' H (wipeE env vs) (L2.wipe σ vs) ∧ PU X.K m1 H0 Q (fun c d H' => W c d σ H') (lcEnd m1.length (lcC m1.length g gt fe (wipeE env vs) n f j i st')),
          ⟨us0.length + 1, _, _, start, reS, p1⟩, ?_⟩
        rintro i j H' ⟨m', st', I, re', p'⟩
        cases j with
        | zero => exact p'.elim
        | succ j =>
          unfold lcC at p'
          split at p'
          · rename_i us hs
            obtain ⟨go, stop, yld⟩ := hJ us m' st' H' I.rep I.ext hs
            cases hu : us[i]? with
            | none =>
              simp only [hu] at p'
              exact .inl ⟨stop i (List.getElem?_eq_none_iff.mp hu), lc_fin I rfl p'⟩
            | some u =>
              simp only [hu] at p'
              cases hf : f i u with
              | none => simp only [hf] at p'; exact p'.elim
              | some w =>
                simp only [hf] at p'
                refine .inr ⟨go i (List.getElem?_eq_some_iff.mp hu).1, fun H2 => ∃ m2 st2, LcI X.K m1 H0 m1.length D0 m2 st2 H2 ∧ RpEnv X.K m2 H2 (wipeE env vs) (L2.wipe σ vs) ∧ PU X.K m1 H0 Q (fun c d H' => W c d σ H') (lcEnd m1.length (lcC m1.length g gt fe (wipeE env vs) n f j (i + 1) st2)), ?_, ?_⟩
                · rintro H2 ⟨m2, st2, I2, re2, p2⟩
                  exact ⟨j, Nat.lt_succ_self j, m2, st2, I2, re2, p2⟩
                · intro x H'' hy
                  obtain ⟨r2, e2, ru⟩ := yld i u w x H'' hu hf hy
                  exact lc_turn hvs ⟨r2, I.ext.trans e2, I.at'⟩ rfl hD0 (re'.ext e2) ru p' fun m2 st2 H2 I2 re2 p2 => ⟨m2, st2, I2, re2, p2⟩
          · exact p'.elim
      · exact p1.elim
theorem d_lc (hc : X.calm = true) (hN : X.N.Nodup) (hi : DI X W tg iter fi) (ok : BlkOk X.N X.env.scope scope own)
    (hg : ∀ (s : Shared) (H : Hp) (C : Addr) (cl : List (Str × Addr)) (fp : List Addr), DG (X.blk s H scope (compEnvC scope cl C X.env) fp) tg is g)
    (ht : ∀ (s : Shared) (H : Hp) (C : Addr) (cl : List (Str × Addr)) (fp : List Addr), DTs (X.blk s H scope (compEnvC scope cl C X.env) fp) W0 ifs gt)
    (he : ∀ (s : Shared) (H : Hp) (C : Addr) (cl : List (Str × Addr)) (fp : List Addr), DE (X.blk s H scope (compEnvC scope cl C X.env) fp) W0 elt fe)
    (hvs : ∀ i ∈ is, i ∈ own.map (·.2) := by decide) (hs : ∀ x, foldedSetIterable iter X.env x = pure x := by intro _; rfl) :
    DE X W (.ListComp elt [⟨tg, iter, ifs, 0⟩] scope pos) (fLc fi g gt fe (own.map (·.2))) :=
  ⟨PE.imp (pe_lc hc hN hi.pi ok (fun s H C cl fp => (hg s H C cl fp).pg) (fun s H C cl fp => (ht s H C cl fp).pts) (fun s H C cl fp => (he s H C cl fp).pe) hs) fun _ _ _ q => t_lc hvs q⟩
/-- name = [..] -/
theorem ds_setLc (i : Nat) {y : Str} {py spos : Pos} (hc : X.calm = true) (hN : X.N.Nodup) (hsw : swapsWith (.ListComp elt [⟨tg, iter, ifs, 0⟩] scope pos) (some (.Name y py)) spos.line X.env = pure true) (hi : DI X W tg iter fi) (ok : BlkOk X.N X.env.scope scope own)
    (hg : ∀ (s : Shared) (H : Hp) (C : Addr) (cl : List (Str × Addr)) (fp : List Addr), DG (X.blk s H scope (compEnvC scope cl C X.env) fp) tg is g)
    (ht : ∀ (s : Shared) (H : Hp) (C : Addr) (cl : List (Str × Addr)) (fp : List Addr), DTs (X.blk s H scope (compEnvC scope cl C X.env) fp) W0 ifs gt)
    (he : ∀ (s : Shared) (H : Hp) (C : Addr) (cl : List (Str × Addr)) (fp : List Addr), DE (X.blk s H scope (compEnvC scope cl C X.env) fp) W0 elt fe)
    (hvs : ∀ i ∈ is, i ∈ own.map (·.2) := by decide) (hy : X.N[i]? = some y := by rfl) (hyl : X.env.scope.names.lookup y = some .local := by rfl) (hs : ∀ x, foldedSetIterable iter X.env x = pure x := by intro _; rfl) :
    DS X W (.Assign [.Name y py] (.ListComp elt [⟨tg, iter, ifs, 0⟩] scope pos) spos) (sAsg (fLc fi g gt fe (own.map (·.2))) (tgN i)) :=
  ⟨PS.imp (ps_setLc (i := i) hc hN hy hyl hsw hi.pi ok (fun s H C cl fp => (hg s H C cl fp).pg) (fun s H C cl fp => (ht s H C cl fp).pts) (fun s H C cl fp => (he s H C cl fp).pe) hs) fun D σ H ⟨m, env, st, r, re, p⟩ => by
    have h2 : tF X.K W (fLc fi g gt fe (own.map (·.2))) σ H (fun x H1 => gName i x σ H1 D.nx) := sF_step r re p fun u st1 v m1 H1 h1 r1 re1 e1 p1 => p1 _ m1 H1 (re1.set i h1) r1 (Ext.refl _ _)
    exact t_lc hvs h2⟩
end
end VL

/-! VLh: while, defs, calls. -/
namespace VL
open PySem PySem.Spec PyProof.Rows L2

def loopW (c : F Bool) (body : G) : Nat → G
  | 0 => sNo
  | n + 1 => bndS c fun k => if k = true then fun env st => match body env st with
      | .ok env2 .nx st2 => loopW c body n env2 st2
      | .ok env2 .ct st2 => loopW c body n env2 st2
      | .ok env2 .bk st2 => .ok env2 .nx st2
      | r => r
    else sNil
section
variable {X : Cx} {W : WX} {c : Expr} {body : List Stmt} {bc : F Bool} {gb : G} {pos : Pos}
theorem ds_while (N : Nat) (hp : PassesOwn (model X.prog X.w) X.A X.env X.xe) (hc : DT X W c bc) (hb : DB X W body gb) : DS X W (.While c body [] pos) (loopW bc gb N) := ⟨PS.imp (ps_while hp hc.pt hb.pss) fun D σ H ⟨m, env, st, r, re, p⟩ => by
  refine ⟨fun k σ' H' => ∃ m' env' st', Rep X.K m' st' H' ∧ RpEnv X.K m' H' env' σ' ∧ Ext m H m' H' ∧ PS' X.K m' H' D W (loopW bc gb k env' st'), ⟨N, m, env, st, r, re, Ext.refl _ _, p⟩, ?_⟩
  rintro k σ' H' ⟨m', env', st', r', re', e', p'⟩
  cases k with
  | zero => exact p'.elim
  | succ k =>
    refine sFB_step r' re' p' fun b st1 m1 H1 r1 re1 e1 p1 => ?_
    cases b with
    | false => exact iteF (p1 σ' m1 H1 re1 r1 (Ext.refl _ _))
    | true =>
      refine iteT ⟨fun σ2 H2 => ∃ m2 env2 st2, Rep X.K m2 st2 H2 ∧ RpEnv X.K m2 H2 env2 σ2 ∧ Ext m H m2 H2 ∧ PS' X.K m2 H2 D W (loopW bc gb k env2 st2), ?_, m1, env', st1, r1, re1, ?_⟩
      · rintro σ2 H2 ⟨m2, env2, st2, h⟩
        exact ⟨k, Nat.lt_succ_self k, m2, env2, st2, h⟩
      · simp only [if_true] at p1
        cases e2 : gb env' st1 with
        | bad => simp only [e2] at p1; exact p1
        | ex c fs env2 st2 => simp only [e2] at p1; exact p1
        | ok env2 f st2 =>
          simp only [e2] at p1
          cases f with
          | nx => exact fun σ2 m2 H2 k1 k2 k3 => ⟨m2, env2, st2, k2, k1, e'.trans (e1.trans k3), p1.from k3⟩
          | ct => exact fun σ2 m2 H2 k1 k2 k3 => ⟨m2, env2, st2, k2, k1, e'.trans (e1.trans k3), p1.from k3⟩
          | bk => exact p1
          | rt u => exact p1⟩
end

/-! ### defs -/
abbrev Wr := Nat → U → Store → R U
def wId : Wr := fun _ u st => .ok u st
def wCut : Wr := fun k u st => match u with
  | .d x => match cutS k st with
    | some s => .ok (.d x) s
    | none => .bad
  | .ref n => if n < k then match cutS k st with
    | some s => .ok (.ref n) s
    | none => .bad
    else .bad
def frz (st : Store) (k : Nat) : Nat → U → Option D
  | _, .d x => some x
  | 0, .ref _ => none
  | f + 1, .ref n => if n < k then none else match st[n]? with
    | some (.lst us) => (allM (frz st k f) us).map .lst
    | some (.tup us) => (allM (frz st k f) us).map .tup
    | some (.dct us) => (allM (fun p => (frz st k f p.2).map fun d => (p.1, d)) us).map .dct
    | some (.ins C us) => (allM (fun p => (frz st k f p.2).map fun d => (p.1, d)) us).map (.ins C)
    | some (.tbl _ _) => none
    | none => none
def wFrz : Wr := fun k u st => match frz st k 4 u, cutS k st with
  | some x, some s => .ok (.d x) s
  | _, _ => .bad
def wKeep : Wr := fun k u st => match u with
  | .d _ => .bad
  | .ref n => if n < k then .bad else match st[n]? with
    | some o => if okO k o = true then match cutS k st with
      | some s => if s.length = k then .ok (.ref k) (s ++ [o]) else .bad
      | none => .bad
      else .bad
    | none => .bad
structure WOk (w : Wr) : Prop where
  ok : ∀ (K : PySem.W.Frag) (k : Nat) (u : U) (st : Store) (m : List Addr) (H : Hp) (v : V), Rep K m st H → RpU K m H u v → k ≤ m.length → match w k u st with
    | .ok u' st' => ∃ m', Rep K m' st' H ∧ RpU K m' H u' v ∧ m.take k <+: m' ∧ ∀ a, a ∈ m' → a ∈ m
    | .ex _ _ _ => False
    | .bad => True
theorem wId_ok : WOk wId := ⟨fun K k u st m H v r ru hk => ⟨m, r, ru, List.take_prefix _ _, fun _ h => h⟩⟩
theorem wCut_ok : WOk wCut := ⟨fun K k u st m H v r ru hk => by
  unfold wCut
  cases u with
  | d x =>
    simp only
    cases e : cutS k st with
    | none => trivial
    | some s => exact ⟨m.take k, r.cut e, okU_rp (u := .d x) rfl ru, List.prefix_refl _, fun _ h => List.mem_of_mem_take h⟩
  | ref n =>
    simp only
    by_cases hn : n < k
    · rw [if_pos hn]
      cases e : cutS k st with
      | none => trivial
      | some s => exact ⟨m.take k, r.cut e, okU_rp (u := .ref n) (decide_eq_true hn) ru, List.prefix_refl _, fun _ h => List.mem_of_mem_take h⟩
    · rw [if_neg hn]; trivial⟩
section
variable {K : PySem.W.Frag} {m : List Addr} {H : Hp} {st : Store} {k : Nat}
theorem not_take (r : Rep K m st H) {n : Nat} {a : Addr} (hn : ¬ n < k) (ha : m[n]? = some a) : a ∉ m.take k := fun z => by
  obtain ⟨j, hj, e⟩ := List.mem_iff_getElem.mp z
  rw [List.length_take] at hj
  rw [List.getElem_take] at e
  obtain ⟨hk', e'⟩ := List.getElem?_eq_some_iff.mp ha
  have := (List.getElem_inj r.nd).mp (e.trans e'.symm)
  omega
theorem frz_rp (r : Rep K m st H) : ∀ (f : Nat) (u : U) (v : V) (d : D), RpU K m H u v → frz st k f u = some d → RpD K (m.take k) H d v := by
  intro f
  induction f with
  | zero =>
    intro u v d h e
    cases u with
    | d x => cases e; exact RpD.less (fun a n z => n (List.mem_of_mem_take z)) h
    | ref n => cases e
  | succ f ih =>
    intro u v d h e
    cases u with
    | d x => cases e; exact RpD.less (fun a n z => n (List.mem_of_mem_take z)) h
    | ref n =>
      obtain ⟨a, ha, rfl⟩ := h
      unfold frz at e
      by_cases hn : n < k
      · rw [if_pos hn] at e; cases e
      · rw [if_neg hn] at e
        have na := not_take (k := k) r hn ha
        have all1 : ∀ {us : List U} {vs : List V} {ds : List D}, RpUs K m H us vs → allM (frz st k f) us = some ds → RpDs K (m.take k) H ds vs := by
          intro us
          induction us with
          | nil => intro vs ds h e; cases e; exact h
          | cons u us ih2 =>
            intro vs ds h e
            obtain ⟨v, t, rfl, h1, h2⟩ := h
            unfold allM at e
            cases q1 : frz st k f u with
            | none => rw [q1] at e; cases e
            | some x =>
              cases q2 : allM (frz st k f) us with
              | none => rw [q1, q2] at e; cases e
              | some xs => rw [q1, q2] at e; cases e; exact ⟨v, t, rfl, ih u v x h1 q1, ih2 h2 q2⟩
        have all2 : ∀ {us : List (Key × U)} {vs : List (Key × V)} {ds : List (Key × D)}, RpUK K m H us vs → allM (fun p => (frz st k f p.2).map fun d => (p.1, d)) us = some ds → RpK K (m.take k) H ds vs := by
          intro us
          induction us with
          | nil => intro vs ds h e; cases e; exact h
          | cons u us ih2 =>
            obtain ⟨kk, u⟩ := u
            intro vs ds h e
            obtain ⟨v, t, rfl, h1, h2⟩ := h
            unfold allM at e
            cases q1 : frz st k f u with
            | none => simp only [q1] at e; cases e
            | some x =>
              cases q2 : allM (fun p : Key × U => (frz st k f p.2).map fun d => (p.1, d)) us with
              | none => simp only [q1, q2] at e; cases e
              | some xs => simp only [q1, q2] at e; cases e; exact ⟨v, t, rfl, ih u v x h1 q1, ih2 h2 q2⟩
        have all3 : ∀ {us : List (Str × U)} {vs : List (Str × V)} {ds : List (Str × D)}, RpUF K m H us vs → allM (fun p => (frz st k f p.2).map fun d => (p.1, d)) us = some ds → RpF K (m.take k) H ds vs := by
          intro us
          induction us with
          | nil => intro vs ds h e; cases e; exact h
          | cons u us ih2 =>
            obtain ⟨kk, u⟩ := u
            intro vs ds h e
            obtain ⟨v, t, rfl, h1, h2⟩ := h
            unfold allM at e
            cases q1 : frz st k f u with
            | none => simp only [q1] at e; cases e
            | some x =>
              cases q2 : allM (fun p : Str × U => (frz st k f p.2).map fun d => (p.1, d)) us with
              | none => simp only [q1, q2] at e; cases e
              | some xs => simp only [q1, q2] at e; cases e; exact ⟨v, t, rfl, ih u v x h1 q1, ih2 h2 q2⟩
        split at e
        · rename_i us hs
          obtain ⟨ho, g1, vs, g2, g3⟩ := r.cell n _ a hs ha
          subst g2
          cases q : allM (frz st k f) us with
          | none => rw [q] at e; cases e
          | some ds => rw [q] at e; cases e; exact ⟨a, vs, rfl, ⟨na, g1⟩, all1 g3 q⟩
        · rename_i us hs
          obtain ⟨ho, g1, vs, g2, g3⟩ := r.cell n _ a hs ha
          subst g2
          cases q : allM (frz st k f) us with
          | none => rw [q] at e; cases e
          | some ds => rw [q] at e; cases e; exact ⟨a, vs, rfl, .inl ⟨na, g1⟩, all1 g3 q⟩
        · rename_i us hs
          obtain ⟨ho, g1, vs, g2, g3⟩ := r.cell n _ a hs ha
          subst g2
          cases q : allM (fun p : Key × U => (frz st k f p.2).map fun d => (p.1, d)) us with
          | none => rw [q] at e; cases e
          | some ds => rw [q] at e; cases e; exact ⟨a, vs, rfl, ⟨na, .inl g1⟩, all2 g3 q⟩
        · rename_i C us hs
          obtain ⟨ho, g1, dx, vs, g2, g3⟩ := r.cell n _ a hs ha
          subst g2
          cases q : allM (fun p : Str × U => (frz st k f p.2).map fun d => (p.1, d)) us with
          | none => rw [q] at e; cases e
          | some ds => rw [q] at e; cases e; exact ⟨a, dx, vs, rfl, ⟨na, g1⟩, all3 g3 q⟩
        · cases e
        · cases e
end
theorem wFrz_ok : WOk wFrz := ⟨fun K k u st m H v r ru hk => by
  unfold wFrz
  cases e1 : frz st k 4 u with
  | none => trivial
  | some x =>
    cases e : cutS k st with
    | none => trivial
    | some s => exact ⟨m.take k, r.cut e, frz_rp r 4 u v x ru e1, List.prefix_refl _, fun _ h => List.mem_of_mem_take h⟩⟩
theorem wKeep_ok : WOk wKeep := ⟨fun K k u st m H v r ru hk => by
  unfold wKeep
  cases u with
  | d x => trivial
  | ref n =>
    simp only
    by_cases hn : n < k
    · rw [if_pos hn]; trivial
    · rw [if_neg hn]
      cases e0 : st[n]? with
      | none => trivial
      | some o =>
        simp only
        by_cases ho : okO k o = true
        · rw [if_pos ho]
          cases e : cutS k st with
          | none => trivial
          | some s =>
            simp only
            by_cases hs : s.length = k
            · rw [if_pos hs]
              obtain ⟨a, ha, rfl⟩ := ru
              have rc := r.cut e
              have na := not_take (k := k) r hn ha
              have hl : (m.take k).length = k := by rw [rc.len, hs]
              have less : ∀ b, b ∉ m.take k ++ [a] → b ∉ m.take k := fun b h z => h (List.mem_append_left _ z)
              refine ⟨m.take k ++ [a], ⟨by rw [List.length_append, List.length_append, rc.len]; rfl, ?_, fun j c b h1 h2 => ?_⟩, ⟨a, by rw [List.getElem?_append_right (by omega), hl, Nat.sub_self]; rfl, rfl⟩, List.prefix_append _ _, fun b hb => ?_⟩
              · rw [List.nodup_append]
                refine ⟨rc.nd, by simp, fun x hx y hy => ?_⟩
                rw [List.mem_singleton] at hy
                subst hy
                exact fun e => na (by rw [← e]; exact hx)
              · -- the cells
                have st0 : Stay m H (m.take k ++ [a]) H := ⟨fun b o nb e _ _ => ⟨e, fun z => by
                    rcases List.mem_append.mp z with z | z
                    · exact nb (List.mem_of_mem_take z)
                    · rw [List.mem_singleton] at z; subst z; exact nb (List.mem_of_getElem? ha)⟩,
                  fun b kvs nb e => ⟨e, fun z => by
                    rcases List.mem_append.mp z with z | z
                    · exact nb (List.mem_of_mem_take z)
                    · rw [List.mem_singleton] at z; subst z; exact nb (List.mem_of_getElem? ha)⟩⟩
                have upU : ∀ {u : U} {v : V}, okU k u = true → RpU K m H u v → RpU K (m.take k ++ [a]) H u v := fun {u v} h h2 => by
                  cases u with
                  | d x => exact RpD.stay st0 _ _ h2
                  | ref j =>
                    obtain ⟨b, hb, e⟩ := h2
                    have hj : j < k := of_decide_eq_true h
                    exact ⟨b, by rw [List.getElem?_append_left (by omega), List.getElem?_take_of_lt hj]; exact hb, e⟩
                have upO : ∀ {b : Addr} {c : O} {ho : HO}, okO k c = true → RpO K m H b c ho → RpO K (m.take k ++ [a]) H b c ho := fun {b c ho} h h2 => by
                  cases c with
                  | lst us =>
                    obtain ⟨vs, e, q⟩ := h2
                    refine ⟨vs, e, ?_⟩
                    clear e
                    induction us generalizing vs with
                    | nil => exact q
                    | cons u us ih =>
                      obtain ⟨v, t, rfl, h1, h2⟩ := q
                      have h' : okU k u = true ∧ us.all (okU k) = true := by simpa [okO] using h
                      exact ⟨v, t, rfl, upU h'.1 h1, ih h'.2 t h2⟩
                  | tup us =>
                    obtain ⟨vs, e, q⟩ := h2
                    refine ⟨vs, e, ?_⟩
                    clear e
                    induction us generalizing vs with
                    | nil => exact q
                    | cons u us ih =>
                      obtain ⟨v, t, rfl, h1, h2⟩ := q
                      have h' : okU k u = true ∧ us.all (okU k) = true := by simpa [okO] using h
                      exact ⟨v, t, rfl, upU h'.1 h1, ih h'.2 t h2⟩
                  | dct us =>
                    obtain ⟨vs, e, q⟩ := h2
                    refine ⟨vs, e, ?_⟩
                    clear e
                    induction us generalizing vs with
                    | nil => exact q
                    | cons u us ih =>
                      obtain ⟨kk, u⟩ := u
                      obtain ⟨v, t, rfl, h1, h2⟩ := q
                      have h' : okU k u = true ∧ (us.all fun p => okU k p.2) = true := by simpa [okO] using h
                      exact ⟨v, t, rfl, upU h'.1 h1, ih h'.2 t h2⟩
                  | ins C us =>
                    obtain ⟨dx, vs, e, q⟩ := h2
                    refine ⟨dx, vs, e, ?_⟩
                    clear e
                    induction us generalizing vs with
                    | nil => exact q
                    | cons u us ih =>
                      obtain ⟨kk, u⟩ := u
                      obtain ⟨v, t, rfl, h1, h2⟩ := q
                      have h' : okU k u = true ∧ (us.all fun p => okU k p.2) = true := by simpa [okO] using h
                      exact ⟨v, t, rfl, upU h'.1 h1, ih h'.2 t h2⟩
                  | tbl P q =>
                    obtain ⟨e, ps, e1, e2, g⟩ := h2
                    exact ⟨e, ps, e1, e2, fun pos cv hc => let ⟨c, g1, g2, g3⟩ := g pos cv hc
                      ⟨c, g1, fun z => (List.mem_append.mp z).elim (fun z => g2 (List.mem_of_mem_take z)) fun z => g2 (by rw [List.mem_singleton.mp z]; exact List.mem_of_getElem? ha), g3⟩⟩
                by_cases hj : j < k
                · rw [List.getElem?_append_left (by omega)] at h1 h2
                  unfold cutS at e
                  split at e
                  · rename_i hall
                    cases e
                    rw [List.getElem?_take_of_lt hj] at h1 h2
                    obtain ⟨ho', e1, q⟩ := r.cell j c b h1 h2
                    exact ⟨ho', e1, upO (List.all_eq_true.mp hall c (List.mem_of_getElem? (i := j) (by rw [List.getElem?_take_of_lt hj]; exact h1))) q⟩
                  · cases e
                · have hjk : j = k := by
                    have := (List.getElem?_eq_some_iff.mp h1).1
                    rw [List.length_append, hs] at this
                    simp at this
                    omega
                  subst hjk
                  rw [List.getElem?_append_right (by omega), hs, Nat.sub_self] at h1
                  rw [List.getElem?_append_right (by omega), hl, Nat.sub_self] at h2
                  cases h1; cases h2
                  obtain ⟨ho', e1, q⟩ := r.cell n o a e0 ha
                  exact ⟨ho', e1, upO ho q⟩
              · rcases List.mem_append.mp hb with z | z
                · exact List.mem_of_mem_take z
                · rw [List.mem_singleton] at z; subst z; exact List.mem_of_getElem? ha
            · rw [if_neg hs]; trivial
        · rw [if_neg ho]; trivial⟩

/-- a def's mirror from its body's -/
def fnM (n : Nat) (g : G) (w : Wr) : List U → M U := fun us st => match g (us.map some ++ List.replicate (n - us.length) none) st with
  | .ok _ (.rt u) st' => w st.length u st'
  | .ok _ .nx st' => w st.length (.d .non) st'
  | .ex c fs _ st' => match cutS st.length st' with
    | some s => .ex c fs s
    | none => .bad
  | _ => .bad
def spM (K : PySem.W.Frag) (n : Nat) (mf : List U → M U) : Sp := fun vs H Q E => vs.length = n ∧ ∃ m st us, Rep K m st H ∧ RpUs K m H us vs ∧ PU K m H Q E (mf us st)

theorem start_env {K : PySem.W.Frag} {m : List Addr} {H : Hp} {N : List Str} {us : List U} {vs : List V} (h : RpUs K m H us vs) : RpEnv K m H (us.map some ++ List.replicate (N.length - us.length) none) (L2.start N vs) := by
  have hl := h.length
  refine ⟨by unfold L2.start; rw [List.length_append, List.length_append, List.length_map, List.length_map, List.length_replicate, List.length_replicate]; omega, fun i u hi => ?_⟩
  by_cases hlt : i < us.length
  · rw [List.getElem?_append_left (by rw [List.length_map]; exact hlt), List.getElem?_map] at hi
    cases q : us[i]? with
    | none => rw [q] at hi; cases hi
    | some w =>
      rw [q] at hi; cases hi
      obtain ⟨v, hv, rv⟩ := h.get q
      exact ⟨v, by unfold L2.start; rw [List.getElem?_append_left (by rw [List.length_map]; omega), List.getElem?_map, hv]; rfl, rv⟩
  · rw [List.getElem?_append_right (by rw [List.length_map]; omega), List.getElem?_replicate] at hi
    split at hi <;> cases hi

end VL

/-! VLi: calls of built-in functions and classes, methods of built-in types. -/
namespace VL
open PySem PySem.Spec PyProof.Rows L2

/-- what an operation that may write cells gives -/
def PV2 (K : PySem.W.Frag) (m : List Addr) (H : Hp) (Q : VK) : Option (U × Store) → Prop
  | some (u, st') => ∀ v m' H', RpU K m' H' u v → Rep K m' st' H' → Ext m H m' H' → Q v H'
  | none => False
theorem PV2.of {K : PySem.W.Frag} {m : List Addr} {H : Hp} {Q : VK} {E : XK} : ∀ {o : Option (U × Store)}, PU K m H Q E (R.of2 o) → PV2 K m H Q o
  | some (u, st'), h => h
  | none, h => h
abbrev P3 := List U → Store → Option (U × Store)
abbrev P4 := U → List U → Store → Option (U × Store)
/-- leaves the cells -/
def pu (g : List U → Store → Option U) : P3 := fun us st => (g us st).map fun u => (u, st)
def pu4 (g : U → List U → Store → Option U) : P4 := fun u us st => (g u us st).map fun u => (u, st)
def rM (K : PySem.W.Frag) (g : P3) : List V → Hp → VK → Prop := fun vs H Q => ∃ m st us, Rep K m st H ∧ RpUs K m H us vs ∧ PV2 K m H Q (g us st)
def mM (K : PySem.W.Frag) (g : P4) : V → List V → Hp → VK → Prop := fun x vs H Q => ∃ m st u us, Rep K m st H ∧ RpU K m H u x ∧ RpUs K m H us vs ∧ PV2 K m H Q (g u us st)
def fB (g : P3) (fs : F (List U)) : F U := bnd fs fun us => fun _ st => .of2 (g us st)
section
variable {K : PySem.W.Frag} {m : List Addr} {H : Hp} {st : Store} {Q : VK}
theorem PV2.here {u : U} {v : V} (r : Rep K m st H) (p : PV2 K m H Q (some (u, st))) (h : RpU K m H u v) : Q v H := p v m H h r (Ext.refl _ _)
theorem PV2.pu {g : List U → Store → Option U} {us : List U} (p : PV2 K m H Q (VL.pu g us st)) : ∃ u, g us st = some u ∧ PV2 K m H Q (some (u, st)) := by
  unfold VL.pu at p
  cases e : g us st with
  | none => rw [e] at p; exact p.elim
  | some u => rw [e] at p; exact ⟨u, rfl, p⟩
theorem PV2.pu4 {g : U → List U → Store → Option U} {x : U} {us : List U} (p : PV2 K m H Q (VL.pu4 g x us st)) : ∃ u, g x us st = some u ∧ PV2 K m H Q (some (u, st)) := by
  unfold VL.pu4 at p
  cases e : g x us st with
  | none => rw [e] at p; exact p.elim
  | some u => rw [e] at p; exact ⟨u, rfl, p⟩
theorem RpUs.one {u : U} {vs : List V} (h : RpUs K m H [u] vs) : ∃ v, vs = [v] ∧ RpU K m H u v := by
  obtain ⟨v, _, rfl, h1, rfl⟩ := h
  exact ⟨v, rfl, h1⟩
theorem RpUs.two {u w : U} {vs : List V} (h : RpUs K m H [u, w] vs) : ∃ v x, vs = [v, x] ∧ RpU K m H u v ∧ RpU K m H w x := by
  obtain ⟨v, _, rfl, h1, x, _, rfl, h2, rfl⟩ := h
  exact ⟨v, x, rfl, h1, h2⟩
end
theorem CallR.imp {X : Cx} {f : Value} {r r' : List V → Hp → VK → Prop} (h : CallR X f r) (i : ∀ vs H Q, r' vs H Q → r vs H Q) : CallR X f r' := fun pins s σ H xs us Q I rv q => h pins s σ H xs us Q I rv (i xs H Q q)
theorem MtR.imp {X : Cx} {id : String} {r r' : V → List V → Hp → VK → Prop} (h : MtR X id r) (i : ∀ x vs H Q, r' x vs H Q → r x vs H Q) : MtR X id r' := fun pins s σ H x xs v us Q I rx rv q => h pins s σ H x xs v us Q I rx rv (i x xs H Q q)
section
variable {X : Cx} {W : WX} {x : Str} {p pos : Pos} {e : Expr} {es : List Expr} {fs : F (List U)} {g : P3}
theorem t_fB {σ : L2.St} {H : Hp} {Q : VK} (h : tF X.K W (fB g fs) σ H Q) : tCB (rM X.K g) (tFs X.K W fs) σ H Q := by
  obtain ⟨m, env, st, r, re, p⟩ := h
  exact tFs_step r re p fun us st1 vs m1 H1 h1 r1 re1 e1 p1 => ⟨m1, st1, us, r1, h1, PV2.of p1⟩
/-- len(e), .. -/
theorem d_bi {id : String} (h : CallR X (.builtin id) (rM X.K g)) (hm : X.mg x = none) (hb : bootBuiltins x = some (.builtin id)) (ha : DA X W (e :: es) fs) (hg : Gl X x := by rfl) (hn : x ≠ "__name__" := by decide) (hd : (x == ("__debug__" : Str)) = false := by decide)
    (he : starEach (e :: es) X.env = (false, eval e X.env) :: starEach es X.env := by rfl) (hpl : (backTo pos (starEach es X.env)).any (·.1) = false := by rfl) : DE X W (.Call (.Name x p) (e :: es) [] pos) (fB g fs) :=
  ⟨PE.imp (pe_callB h hg hm hb ha.pa hn hd he hpl) fun _ _ _ q => t_fB q⟩
/-- int(e), .. -/
theorem d_bt {T : String} (h : CallR X (.type T) (rM X.K g)) (hm : X.mg x = none) (hb : bootBuiltins x = some (.type T)) (ha : DA X W (e :: es) fs) (hg : Gl X x := by rfl) (hn : x ≠ "__name__" := by decide) (hd : (x == ("__debug__" : Str)) = false := by decide)
    (he : starEach (e :: es) X.env = (false, eval e X.env) :: starEach es X.env := by rfl) (hpl : (backTo pos (starEach es X.env)).any (·.1) = false := by rfl) : DE X W (.Call (.Name x p) (e :: es) [] pos) (fB g fs) :=
  ⟨PE.imp (pe_callTy h hg hm hb ha.pa hn hd he hpl) fun _ _ _ q => t_fB q⟩
end

/-! ### functions -/
def lenN (st : Store) (u : U) : Option Nat := match u with
  | .d (.str x) => if x.length ≤ sizeLine then some x.length else none
  | .d (.tup ds) => some ds.length
  | u => match getL st u with
    | some us => some us.length
    | none => (getD st u).map (·.length)
def oLen : List U → Store → Option U := fun us st => match us with
  | [u] => (lenN st u).map fun n => .d (.int n)
  | _ => none
def oInt : List U → Store → Option U := fun us _ => match us with
  | [.d (.int i)] => some (.d (.int i))
  | [.d (.bl k)] => some (.d (.int (if k = true then 1 else 0)))
  | [.d (.str a)] => if a.length ≤ 640 then (intText? a).map fun n => .d (.int n) else none
  | _ => none
def oAbs : List U → Store → Option U := fun us _ => match us with
  | [.d (.int i)] => some (.d (.int (if i < 0 then -i else i)))
  | _ => none
def oMin : List U → Store → Option U := fun us _ => match us with
  | [.d (.int i), .d (.int j)] => some (.d (.int (if j < i then j else i)))
  | _ => none
def oMax : List U → Store → Option U := fun us _ => match us with
  | [.d (.int i), .d (.int j)] => some (.d (.int (if j > i then j else i)))
  | _ => none
def oStr : List U → Store → Option U := fun us _ => match us with
  | [.d (.int i)] => if i.natAbs.log2 < 1920 then some (.d (.str (Str.ofString (toString i)))) else none
  | _ => none
def itemsU (st : Store) (u : U) : Option (List U) := match getL st u with
  | some us => some us
  | none => (getT u).map fun ds => ds.map .d
/-- list(x): data -/
def oList : List U → Store → Option U := fun us st => match us with
  | [u] => match itemsU st u with
    | some us => (pureL us).map fun ds => .d (.lst ds)
    | none => none
  | _ => none
/-- list(x): a cell -/
def oListC : P3 := fun us st => match us with
  | [u] => match itemsU st u with
    | some us => some (.ref st.length, st ++ [.lst us])
    | none => none
  | _ => none
def oTuple : List U → Store → Option U := fun us st => match us with
  | [.d (.tup ds)] => some (.d (.tup ds))
  | [u] => match getL st u with
    | some us => (pureL us).map fun ds => .d (.tup ds)
    | none => none
  | _ => none
def blsU : List U → Option (List Bool) := allM fun u => match u with
  | .d (.bl k) => some k
  | _ => none
def intsU : List U → Option (List Int) := allM fun u => match u with
  | .d (.int k) => some k
  | _ => none
def strsU : List U → Option (List Str) := allM fun u => match u with
  | .d (.str k) => some k
  | _ => none
def oAll : List U → Store → Option U := fun us st => match us with
  | [u] => match getL st u with
    | some us => (blsU us).map fun ks => .d (.bl (ks.all id))
    | none => none
  | _ => none
def oAny : List U → Store → Option U := fun us st => match us with
  | [u] => match getL st u with
    | some us => (blsU us).map fun ks => .d (.bl (ks.any id))
    | none => none
  | _ => none
/-- a value's class -/
def tyN (cs : List Addr) (st : Store) : U → Option Value
  | .d .non => some (.type "NoneType")
  | .d (.bl _) => some (.type "bool")
  | .d (.int _) => some (.type "int")
  | .d (.str _) => some (.type "str")
  | .d (.tup _) => some (.type "tuple")
  | .d (.lst _) => some (.type "list")
  | .d (.scr _) => some (.type "list")
  | .d (.dct _) => some (.type "dict")
  | .d (.ins C _) => if C ∈ cs then some (.ref C) else none
  | .ref n => match st[n]? with
    | some (.lst _) => some (.type "list")
    | some (.tup _) => some (.type "tuple")
    | some (.dct _) => some (.type "dict")
    | some (.ins C _) => if C ∈ cs then some (.ref C) else none
    | some (.tbl _ _) => none
    | none => none
  | _ => none
def oIsi (K : PySem.W.Frag) (cs : List Addr) : List U → Store → Option U := fun us st => match us with
  | [u, .d (.ty n)] => match tyN cs st u with
    | some t => (PySem.W.kitOne K t (.type n)).map fun k => .d (.bl k)
    | none => none
  | [u, .d (.obj C)] => match tyN cs st u with
    | some t => (PySem.W.kitOne K t (.ref C)).map fun k => .d (.bl k)
    | none => none
  | _ => none
def oSortI : List U → Store → Option U := fun us st => match us with
  | [u] => match getL st u with
    | some us => (intsU us).map fun ns => .d (.lst ((ns.mergeSort fun a b => decide (a ≤ b)).map .int))
    | none => none
  | _ => none

section
variable {K : PySem.W.Frag} {m : List Addr} {H : Hp} {st : Store}
theorem RpUK.length : ∀ {us : List (Key × U)} {vs : List (Key × V)}, RpUK K m H us vs → vs.length = us.length
  | [], _, h => by rw [show _ = [] from h]; rfl
  | (k, u) :: us, _, ⟨v, r, e, h1, h2⟩ => by rw [e, List.length_cons, List.length_cons, RpUK.length h2]
theorem lenN_rp (r : Rep K m st H) {u : U} {v : V} {n : Nat} (h : RpU K m H u v) (e : lenN st u = some n) : LenV K v H n ∨ ∃ a kvs, v = .ref a ∧ Rd H a (.dK kvs) ∧ kvs.length = n := by
  unfold lenN at e
  split at e
  · rename_i x
    cases h
    split at e
    · rename_i hz; cases e; exact .inl ⟨hz, rfl⟩
    · cases e
  · rename_i ds
    obtain ⟨a, vs, rfl, t, q⟩ := h
    cases e
    exact .inl (.inr ⟨vs, t.sq, q.length.symm⟩)
  · split at e
    · rename_i us hl
      obtain ⟨a, vs, rfl, t, q⟩ := getL_rp r h hl
      cases e
      exact .inl (.inl ⟨vs, t, q.length.symm⟩)
    · cases q : getD st u with
      | none => rw [q] at e; cases e
      | some kvs =>
        rw [q] at e; cases e
        obtain ⟨a, vs, rfl, t, q⟩ := getD_rp r h q
        refine .inr ⟨a, vs, rfl, t, ?_⟩
        exact q.length
theorem ints_rp : ∀ {us : List U} {vs : List V} {ns : List Int}, RpUs K m H us vs → intsU us = some ns → vs = ns.map V.int
  | [], vs, ns, h, e => by cases e; exact h
  | u :: us, vs, ns, ⟨v, r, ev, h1, h2⟩, e => by
    subst ev
    unfold intsU allM at e
    split at e
    · rename_i b bs q1 q2
      cases e
      rw [List.map_cons, ← ints_rp h2 q2]
      split at q1
      · cases q1; rw [show v = V.int b from h1]
      · cases q1
    · cases e
theorem bls_rp : ∀ {us : List U} {vs : List V} {ns : List Bool}, RpUs K m H us vs → blsU us = some ns → vs = ns.map V.bl
  | [], vs, ns, h, e => by cases e; exact h
  | u :: us, vs, ns, ⟨v, r, ev, h1, h2⟩, e => by
    subst ev
    unfold blsU allM at e
    split at e
    · rename_i b bs q1 q2
      cases e
      rw [List.map_cons, ← bls_rp h2 q2]
      split at q1
      · cases q1; rw [show v = V.bl b from h1]
      · cases q1
    · cases e
theorem strs_rp : ∀ {us : List U} {vs : List V} {ns : List Str}, RpUs K m H us vs → strsU us = some ns → vs = ns.map V.str
  | [], vs, ns, h, e => by cases e; exact h
  | u :: us, vs, ns, ⟨v, r, ev, h1, h2⟩, e => by
    subst ev
    unfold strsU allM at e
    split at e
    · rename_i b bs q1 q2
      cases e
      rw [List.map_cons, ← strs_rp h2 q2]
      split at q1
      · cases q1; rw [show v = V.str b from h1]
      · cases q1
    · cases e
theorem RpDs.ints : ∀ (ns : List Int), RpDs K m H (ns.map .int) (ns.map V.int)
  | [] => rfl
  | n :: ns => ⟨.int n, _, rfl, rfl, RpDs.ints ns⟩
theorem RpDs.strs : ∀ (ns : List Str), RpDs K m H (ns.map .str) (ns.map V.str)
  | [] => rfl
  | n :: ns => ⟨.str n, _, rfl, rfl, RpDs.strs ns⟩
theorem itemsU_rp (r : Rep K m st H) {u : U} {v : V} {us : List U} (h : RpU K m H u v) (e : itemsU st u = some us) : ∃ a vs, v = .ref a ∧ (SqL K H a vs ∨ SqT K H a vs) ∧ RpUs K m H us vs := by
  unfold itemsU at e
  split at e
  · rename_i us' hl
    cases e
    obtain ⟨a, vs, e1, t, q⟩ := getL_rp r h hl
    exact ⟨a, vs, e1, .inl t, q⟩
  · cases q : getT u with
    | none => rw [q] at e; cases e
    | some ds =>
      rw [q] at e; cases e
      obtain ⟨a, vs, e1, t, q⟩ := getT_rp h q
      exact ⟨a, vs, e1, .inr t.sq, RpUs.ofD q⟩
/-- the class of an own class's instances, as the model asks it -/
structure ClsTy (K : PySem.W.Frag) (C : Addr) : Prop where
  cl : Cls K C
  f1 : PySem.W.findIn K (.ref C) "__class__" = some (some (.builtin "object.__class__"))
  f2 : PySem.W.specialIn K (.builtin "object.__class__") "__get__" = some (some (.builtin "getset_descriptor.__get__"))
  f3 : PySem.W.takesIn K (.builtin "object.__class__") = some true
  f4 : PySem.W.mroIn K C (.type "object") = some true
theorem ktup_ty {a : Addr} {vs : List V} (h : TpV K m H a vs) : TyX K H (.ref a) (.type "tuple") := by
  rcases h with ⟨_, r⟩ | (r | ⟨_, r⟩) | ⟨o, its, n, h1, h2, _⟩
  · exact .base (.tup r)
  · cases r
  · cases r
  · exact .kTuple h1 h2
theorem scV_ty {a : Addr} {vs : List V} (h : ScV K m H a vs) : TyX K H (.ref a) (.type "list") := by
  rcases h with ⟨_, ob, r⟩ | (r | ⟨_, r⟩) | ⟨o, its, n, h1, h2, _⟩
  · exact .base (.frz r)
  · cases r
  · cases r
  · exact .kList h1 h2
/-- the own classes whose instances are asked for their class -/
def Own (K : PySem.W.Frag) (cs : List Addr) : Prop := ∀ C ∈ cs, ClsTy K C
theorem tyN_rp {cs : List Addr} (r : Rep K m st H) (hC : Own K cs) {u : U} {v : V} {t : Value} (h : RpU K m H u v) (e : tyN cs st u = some t) : TyX K H v t := by
  cases u with
  | ref n =>
    obtain ⟨a, ha, rfl⟩ := h
    simp only [tyN] at e
    split at e
    · rename_i us hs
      obtain ⟨ho, h1, vs, e2, h2⟩ := r.cell n _ a hs ha
      subst e2; cases e; exact .base (.lst h1)
    · rename_i us hs
      obtain ⟨ho, h1, vs, e2, h2⟩ := r.cell n _ a hs ha
      subst e2; cases e; exact .base (.tup h1)
    · rename_i us hs
      obtain ⟨ho, h1, vs, e2, h2⟩ := r.cell n _ a hs ha
      subst e2; cases e; exact .base (.dK h1)
    · rename_i C us hs
      obtain ⟨ho, h1, dx, vs, e2, h2⟩ := r.cell n _ a hs ha
      split at e
      · rename_i hc
        subst e2; cases e
        have c := hC C hc
        exact .base (.ins h1 c.cl c.f1 c.f2 c.f3 c.f4)
      · cases e
    · cases e
    · cases e
  | d x =>
    cases x with
    | non => cases h; cases e; exact .base .non
    | bl b => cases h; cases e; exact .base (.bl b)
    | int i => cases h; cases e; exact .base (.int i)
    | str x => cases h; cases e; exact .base (.str x)
    | tup ds =>
      obtain ⟨a, vs, rfl, t, q⟩ := h
      cases e
      exact ktup_ty t
    | lst ds =>
      obtain ⟨a, vs, rfl, t, q⟩ := h
      cases e
      exact .base (.lst t.2)
    | scr ns =>
      obtain ⟨a, rfl, t⟩ := h
      cases e
      exact scV_ty t
    | dct kvs =>
      obtain ⟨a, vs, rfl, t, q⟩ := h
      cases e
      rcases t.2 with t | ⟨o, t⟩
      · exact .base (.dK t)
      · exact .fDict t
    | ins C fs =>
      obtain ⟨a, dx, vs, rfl, t, q⟩ := h
      simp only [tyN] at e
      split at e
      · rename_i hc
        cases e
        have c := hC C hc
        exact .base (.ins t.2 c.cl c.f1 c.f2 c.f3 c.f4)
      · cases e
    | _ => cases e
end

section
variable {X : Cx}
theorem cr_len : CallR X (.builtin "len") (rM X.K (pu oLen)) := by
  have h2 : CallR X (.builtin "len") (fun xs H Q => ∃ a kvs, xs = [V.ref a] ∧ Rd H a (.dK kvs) ∧ Q (.int (kvs.length : Nat)) H) := by
    intro pins s σ H xs us Q I r h
    obtain ⟨a, kvs, rfl, ha, q⟩ := h
    obtain ⟨u, rfl, ru⟩ := L2.vals1 r
    cases ru
    exact L2.d_len I ha fun t s' I' => ⟨.int (kvs.length : Nat), H, I', ⟨t, rfl⟩, q⟩
  refine CallR.imp (call_len.or h2) fun vs H Q ⟨m, st, us, r, ru, p⟩ => ?_
  obtain ⟨u, e, p⟩ := p.pu
  unfold oLen at e
  split at e
  · rename_i x
    obtain ⟨v, rfl, hv⟩ := ru.one
    cases q : lenN st x with
    | none => rw [q] at e; cases e
    | some n =>
      rw [q] at e; cases e
      rcases lenN_rp r hv q with h | ⟨a, kvs, rfl, h, rfl⟩
      · exact .inl ⟨v, n, rfl, h, p.here r rfl⟩
      · exact .inr ⟨a, kvs, rfl, h, p.here r rfl⟩
  · cases e
theorem cr_int : CallR X (.type "int") (rM X.K (pu oInt)) := by
  refine CallR.imp (call_int1.or call_int_str) fun vs H Q ⟨m, st, us, r, ru, p⟩ => ?_
  obtain ⟨u, e, p⟩ := p.pu
  unfold oInt at e
  split at e
  · obtain ⟨v, rfl, hv⟩ := ru.one
    cases hv; cases e
    exact .inl (.inl ⟨_, rfl, p.here r rfl⟩)
  · obtain ⟨v, rfl, hv⟩ := ru.one
    cases hv; cases e
    exact .inl (.inr ⟨_, rfl, p.here r rfl⟩)
  · obtain ⟨v, rfl, hv⟩ := ru.one
    cases hv
    split at e
    · rename_i hz
      cases q : intText? _ with
      | none => rw [q] at e; cases e
      | some n => rw [q] at e; cases e; exact .inr ⟨_, n, rfl, q, hz, p.here r rfl⟩
    · cases e
  · cases e
theorem cr_abs : CallR X (.builtin "abs") (rM X.K (pu oAbs)) := by
  refine CallR.imp call_abs fun vs H Q ⟨m, st, us, r, ru, p⟩ => ?_
  obtain ⟨u, e, p⟩ := p.pu
  unfold oAbs at e
  split at e
  · obtain ⟨v, rfl, hv⟩ := ru.one
    cases hv; cases e
    exact ⟨_, rfl, p.here r rfl⟩
  · cases e
theorem cr_min (hc : X.calm = true) : CallR X (.builtin "min") (rM X.K (pu oMin)) := by
  refine CallR.imp (call_min2 hc) fun vs H Q ⟨m, st, us, r, ru, p⟩ => ?_
  obtain ⟨u, e, p⟩ := p.pu
  unfold oMin at e
  split at e
  · obtain ⟨v, x, rfl, hv, hx⟩ := ru.two
    cases hv; cases hx; cases e
    exact ⟨_, _, rfl, p.here r rfl⟩
  · cases e
theorem cr_max (hc : X.calm = true) : CallR X (.builtin "max") (rM X.K (pu oMax)) := by
  refine CallR.imp (call_max2 hc) fun vs H Q ⟨m, st, us, r, ru, p⟩ => ?_
  obtain ⟨u, e, p⟩ := p.pu
  unfold oMax at e
  split at e
  · obtain ⟨v, x, rfl, hv, hx⟩ := ru.two
    cases hv; cases hx; cases e
    exact ⟨_, _, rfl, p.here r rfl⟩
  · cases e
theorem cr_str : CallR X (.type "str") (rM X.K (pu oStr)) := by
  refine CallR.imp call_str_int fun vs H Q ⟨m, st, us, r, ru, p⟩ => ?_
  obtain ⟨u, e, p⟩ := p.pu
  unfold oStr at e
  split at e
  · obtain ⟨v, rfl, hv⟩ := ru.one
    cases hv
    split at e
    · rename_i hz; cases e
      exact ⟨_, rfl, hz, p.here r rfl⟩
    · cases e
  · cases e
theorem cr_list : CallR X (.type "list") (rM X.K (pu oList)) := by
  refine CallR.imp call_list_of fun vs H Q ⟨m, st, us, r, ru, p⟩ => ?_
  obtain ⟨u, e, p⟩ := p.pu
  unfold oList at e
  split at e
  · obtain ⟨v, rfl, hv⟩ := ru.one
    split at e
    · rename_i us hl
      obtain ⟨a, ws, rfl, t, q⟩ := itemsU_rp r hv hl
      cases q2 : pureL us with
      | none => rw [q2] at e; cases e
      | some ds =>
        rw [q2] at e; cases e
        exact ⟨a, ws, rfl, t, fun l hl => p _ m _ (new_lst r hl (pureL_rp q q2)) (r.new hl _) (ext_new r hl _)⟩
    · cases e
  · cases e
theorem cr_listC : CallR X (.type "list") (rM X.K oListC) := by
  refine CallR.imp call_list_of fun vs H Q ⟨m, st, us, r, ru, p⟩ => ?_
  unfold oListC at p
  split at p
  · obtain ⟨v, rfl, hv⟩ := ru.one
    split at p
    · rename_i us hl
      obtain ⟨a, ws, rfl, t, q⟩ := itemsU_rp r hv hl
      refine ⟨a, ws, rfl, t, fun l hl => ?_⟩
      obtain ⟨g1, g2⟩ := push_lst r hl q
      exact p _ _ _ g1 g2 (ext_push r hl _)
    · exact p.elim
  · exact p.elim
theorem cr_tuple : CallR X (.type "tuple") (rM X.K (pu oTuple)) := by
  refine CallR.imp call_tuple_of fun vs H Q ⟨m, st, us, r, ru, p⟩ => ?_
  obtain ⟨u, e, p⟩ := p.pu
  unfold oTuple at e
  split at e
  · obtain ⟨v, rfl, hv⟩ := ru.one
    have hv' := hv
    obtain ⟨a, ws, rfl, t, q⟩ := hv
    cases e
    exact ⟨a, ws, rfl, .inr ⟨t.sq, p.here r hv'⟩⟩
  · obtain ⟨v, rfl, hv⟩ := ru.one
    split at e
    · rename_i us hl
      obtain ⟨a, ws, rfl, t, q⟩ := getL_rp r hv hl
      cases q2 : pureL us with
      | none => rw [q2] at e; cases e
      | some ds =>
        rw [q2] at e; cases e
        exact ⟨a, ws, rfl, .inl ⟨t, fun l hl => p _ m _ (new_tup r hl (pureL_rp q q2)) (r.new hl _) (ext_new r hl _)⟩⟩
    · cases e
  · cases e
theorem cr_all' (hc : X.calm = true) : CallR X (.builtin "all") (rM X.K (pu oAll)) := by
  refine CallR.imp (cr_all hc) fun vs H Q ⟨m, st, us, r, ru, p⟩ => ?_
  obtain ⟨u, e, p⟩ := p.pu
  unfold oAll at e
  split at e
  · obtain ⟨v, rfl, hv⟩ := ru.one
    split at e
    · rename_i us hl
      obtain ⟨a, ws, rfl, t, q⟩ := getL_rp r hv hl
      cases q2 : blsU us with
      | none => rw [q2] at e; cases e
      | some ds =>
        rw [q2] at e; cases e
        have := bls_rp q q2
        subst this
        exact ⟨a, ds, rfl, t, p.here r rfl⟩
    · cases e
  · cases e
theorem cr_any' (hc : X.calm = true) : CallR X (.builtin "any") (rM X.K (pu oAny)) := by
  refine CallR.imp (cr_any hc) fun vs H Q ⟨m, st, us, r, ru, p⟩ => ?_
  obtain ⟨u, e, p⟩ := p.pu
  unfold oAny at e
  split at e
  · obtain ⟨v, rfl, hv⟩ := ru.one
    split at e
    · rename_i us hl
      obtain ⟨a, ws, rfl, t, q⟩ := getL_rp r hv hl
      cases q2 : blsU us with
      | none => rw [q2] at e; cases e
      | some ds =>
        rw [q2] at e; cases e
        have := bls_rp q q2
        subst this
        exact ⟨a, ds, rfl, t, p.here r rfl⟩
    · cases e
  · cases e
theorem cr_isi {cs : List Addr} (hC : Own X.K cs) : CallR X (.builtin "isinstance") (rM X.K (pu (oIsi X.K cs))) := by
  refine CallR.imp call_isi fun vs H Q ⟨m, st, us, r, ru, p⟩ => ?_
  obtain ⟨u, e, p⟩ := p.pu
  unfold oIsi at e
  split at e
  · obtain ⟨v, x, rfl, hv, hx⟩ := ru.two
    cases hx
    split at e
    · rename_i t ht
      cases q : PySem.W.kitOne X.K t (.type _) with
      | none => rw [q] at e; cases e
      | some k =>
        rw [q] at e; cases e
        exact ⟨v, _, t, _, k, rfl, .ty _, tyN_rp r hC hv ht, q, p.here r rfl⟩
    · cases e
  · obtain ⟨v, x, rfl, hv, hx⟩ := ru.two
    cases hx
    split at e
    · rename_i t ht
      cases q : PySem.W.kitOne X.K t (.ref _) with
      | none => rw [q] at e; cases e
      | some k =>
        rw [q] at e; cases e
        exact ⟨v, _, t, _, k, rfl, .own _, tyN_rp r hC hv ht, q, p.here r rfl⟩
    · cases e
  · cases e
theorem cr_sortI : CallR X (.builtin "sorted") (rM X.K (pu oSortI)) := by
  refine CallR.imp cr_sortedI fun vs H Q ⟨m, st, us, r, ru, p⟩ => ?_
  obtain ⟨u, e, p⟩ := p.pu
  unfold oSortI at e
  split at e
  · obtain ⟨v, rfl, hv⟩ := ru.one
    split at e
    · rename_i us hl
      obtain ⟨a, ws, rfl, t, q⟩ := getL_rp r hv hl
      cases q2 : intsU us with
      | none => rw [q2] at e; cases e
      | some ns =>
        rw [q2] at e; cases e
        have := ints_rp q q2
        subst this
        refine ⟨a, ns, rfl, t, fun ns' l hp hs hl => ?_⟩
        have : ns' = ns.mergeSort (fun a b => decide (a ≤ b)) := by
          refine List.Perm.eq_of_pairwise (le := fun a b => a ≤ b) (fun a b _ _ h1 h2 => Int.le_antisymm h1 h2) hs ?_ (hp.trans (List.mergeSort_perm _ _).symm)
          have := List.pairwise_mergeSort (le := fun a b : Int => decide (a ≤ b)) (fun a b c h1 h2 => by simp at *; omega) (fun a b => by simp; omega) ns
          exact this.imp fun h => by simpa using h
        subst this
        exact p _ m _ (new_lst r hl (RpDs.ints _)) (r.new hl _) (ext_new r hl _)
    · cases e
  · cases e
end
end VL

/-! VLj: methods of built-in types, item stores, f-strings. -/
namespace VL
open PySem PySem.Spec PyProof.Rows L2

def tyB (T : String) (st : Store) (u : U) : Bool := match u with
  | .d (.str _) => decide (T = "str")
  | .ref n => match st[n]? with
    | some (.lst _) => decide (T = "list")
    | some (.dct _) => decide (T = "dict")
    | _ => false
  | u => decide (T = "list") && (getL st u).isSome
def fM (T : String) (g : P4) (fo : F U) (fs : F (List U)) : F U := bnd fo fun u => fun env st => if tyB T st u = true then bnd fs (fun us => fun _ st => .of2 (g u us st)) env st else .bad
section
variable {K : PySem.W.Frag} {m : List Addr} {H : Hp} {st : Store}
theorem tyB_rp {T : String} (r : Rep K m st H) {u : U} {v : V} (h : RpU K m H u v) (e : tyB T st u = true) : tyV K T v H := by
  unfold tyB at e
  split at e
  · cases h; exact (of_decide_eq_true e : T = "str")
  · obtain ⟨a, ha, rfl⟩ := h
    split at e
    · rename_i us hs
      obtain ⟨ho, h1, vs, e2, h2⟩ := r.cell _ _ a hs ha
      subst e2
      exact .inl ⟨of_decide_eq_true e, vs, .inl (.inl h1)⟩
    · rename_i us hs
      obtain ⟨ho, h1, vs, e2, h2⟩ := r.cell _ _ a hs ha
      subst e2
      exact .inr (.inr (.inl ⟨of_decide_eq_true e, .inl ⟨vs, h1⟩⟩))
    · cases e
  · rw [Bool.and_eq_true] at e
    obtain ⟨e1, e2⟩ := e
    obtain ⟨us, hus⟩ := Option.isSome_iff_exists.mp e2
    obtain ⟨a, vs, rfl, t, q⟩ := getL_rp r h hus
    exact .inl ⟨of_decide_eq_true e1, vs, t⟩
theorem PU.ofM {Q : VK} {E : XK} {o : Option (U × Store)} (p : PU K m H Q E (R.of2 o)) : PV2 K m H Q o := PV2.of p
end
section
variable {X : Cx} {W : WX} {pos apos cpos : Pos} {o e : Expr} {es : List Expr} {fo : F U} {fs : F (List U)} {g : P4} {T id : String} {name : Str}
theorem t_fM {σ : L2.St} {H : Hp} {Q : VK} (h : tF X.K W (fM T g fo fs) σ H Q) : tBM X.K T (mM X.K g) (tF X.K W fo) (tFs X.K W fs) σ H Q := by
  obtain ⟨m, env, st, r, re, p⟩ := h
  refine tF_step r re p fun u st1 v m1 H1 h1 r1 re1 e1 p1 => ?_
  by_cases ht : tyB T st1 u = true
  · simp only [ht, if_true] at p1
    exact ⟨tyB_rp r1 h1 ht, tFs_step r1 re1 p1 fun us st2 vs m2 H2 h2 r2 re2 e2 p2 => ⟨m2, st2, u, us, r2, h1.ext e2, h2, PV2.of p2⟩⟩
  · rw [if_neg ht] at p1; exact p1.elim
theorem d_m (hp : PlainAttrs T) (hs : Slot T name id) (ht : typeOf (.builtin id) = pure (.type "method_descriptor")) (h : MtR X id (mM X.K g)) (ho : DE X W o fo) (ha : DA X W (e :: es) fs)
    (h1 : attributeBase o name X.env (eval o X.env) = eval o X.env := by rfl)
    (h2 : (((backTo cpos (starEach (e :: es) X.env)).all (fun x => !x.1) && (backToKw cpos (keywordEach [] X.env)).all (fun x => x.1.isSome)) && decide ((e :: es).length + ([] : List Keyword).length + (if ([] : List Keyword).isEmpty = true then 0 else 1) < 30)) = true := by rfl)
    (h3 : (apos.endLine == cpos.line) = true := by rfl) (h4 : starEach (e :: es) X.env = (false, eval e X.env) :: starEach es X.env := by rfl) (h5 : (backTo cpos (starEach es X.env)).any (fun x => x.1) = false := by rfl) :
    DE X W (.Call (.Attribute o name apos) (e :: es) [] cpos) (fM T g fo fs) := ⟨PE.imp (pe_bm hp hs ht h ho.pe ha.pa h1 h2 h3 h4 h5) fun _ _ _ q => t_fM q⟩
theorem d_m0 (hp : PlainAttrs T) (hs : Slot T name id) (ht : typeOf (.builtin id) = pure (.type "method_descriptor")) (h : MtR X id (mM X.K g)) (ho : DE X W o fo)
    (h1 : attributeBase o name X.env (eval o X.env) = eval o X.env := by rfl) (h3 : (apos.endLine == cpos.line) = true := by rfl) :
    DE X W (.Call (.Attribute o name apos) [] [] cpos) (fM T g fo fNil) := ⟨PE.imp (pe_bm0 hp hs ht h ho.pe h1 h3) fun σ H Q q => by
  obtain ⟨m, env, st, r, re, p⟩ := q
  refine tF_step r re p fun u st1 v m1 H1 h1 r1 re1 e1 p1 => ?_
  by_cases ht : tyB T st1 u = true
  · simp only [ht, if_true] at p1
    exact ⟨tyB_rp r1 h1 ht, m1, st1, u, [], r1, h1, rfl, PV2.of p1⟩
  · rw [if_neg ht] at p1; exact p1.elim⟩
end

/-! ### list methods -/
def lstC (st : Store) : U → Option (Nat × List U)
  | .ref n => match st[n]? with
    | some (.lst us) => some (n, us)
    | _ => none
  | _ => none
def mAppend : P4 := fun u us st => match lstC st u, us with
  | some (n, xs), [y] => if xs.length < sizeLine then some (.d .non, st.set n (.lst (xs ++ [y]))) else none
  | _, _ => none
def mPop : P4 := fun u us st => match lstC st u, us with
  | some (n, xs), [] => (xs[xs.length - 1]?).map fun y => (y, st.set n (.lst xs.dropLast))
  | some (n, xs), [.d (.int i)] => if -2 ^ 63 ≤ i ∧ i < 2 ^ 63 then match seqIndex? i xs.length with
      | some k => (xs[k]?).map fun y => (y, st.set n (.lst (xs.eraseIdx k)))
      | none => none
    else none
  | _, _ => none
def mInsert : P4 := fun u us st => match lstC st u, us with
  | some (n, xs), [.d (.int i), y] => if xs.length < sizeLine ∧ 0 ≤ i ∧ i < 2 ^ 63 then some (.d .non, st.set n (.lst (xs.take i.toNat ++ [y] ++ xs.drop i.toNat))) else none
  | _, _ => none
def mExtend : P4 := fun u us st => match lstC st u, us with
  | some (n, xs), [b] => match b with
    | .d (.lst ds) => if xs.length + ds.length ≤ sizeLine then some (.d .non, st.set n (.lst (xs ++ ds.map .d))) else none
    | b => match lstC st b with
      | some (_, ys) => if xs.length + ys.length ≤ sizeLine then some (.d .non, st.set n (.lst (xs ++ ys))) else none
      | none => none
  | _, _ => none
def mReverse : P4 := fun u us st => match lstC st u, us with
  | some (n, xs), [] => some (.d .non, st.set n (.lst xs.reverse))
  | _, _ => none
def mClear : P4 := fun u us st => match lstC st u, us with
  | some (n, _), [] => some (.d .non, st.set n (.lst []))
  | _, _ => none
/-- the first place -/
def idxP (p : PyData) : List PyData → Option Nat
  | [] => none
  | q :: qs => if PyData.eqv q p = true then some 0 else (idxP p qs).map (· + 1)
def mIndex : U → List U → Store → Option U := fun u us st => match us with
  | [y] => match getL st u with
    | some _ => match asP st u, asP st y with
      | some (.list qs), some p => if SeqAt.shaped p = true ∧ SeqAt.shaped (.list qs) = true then (idxP p qs).map fun j => .d (.int j) else none
      | _, _ => none
    | none => none
  | _ => none
/-! ### text methods -/
def mSplit : U → List U → Store → Option U := fun u us _ => match u, us with
  | .d (.str a), [.d (.str b)] => if (b.length == 0) = false ∧ a.length + 2 ≤ sizeLine then some (.d (.lst ((Txt.split a b).map .str))) else none
  | _, _ => none
def mPartition : U → List U → Store → Option U := fun u us _ => match u, us with
  | .d (.str a), [.d (.str b)] => if (b.length == 0) = false ∧ a.length ≤ sizeLine then some (.d (.tup [.str (Txt.partition a b).1, .str (Txt.partition a b).2.1, .str (Txt.partition a b).2.2])) else none
  | _, _ => none
def mJoin : U → List U → Store → Option U := fun u us st => match u, us with
  | .d (.str a), [b] => match itemsU st b with
    | some us => match strsU us with
      | some ys => if (ys.map fun x => x.length).sum + ys.length * a.length ≤ 16777216 then some (.d (.str (Txt.join a ys))) else none
      | none => none
    | none => none
  | _, _ => none
def mStarts : U → List U → Store → Option U := fun u us _ => match u, us with
  | .d (.str a), [.d (.str b)] => some (.d (.bl (Txt.startswith a b)))
  | _, _ => none
def mEnds : U → List U → Store → Option U := fun u us _ => match u, us with
  | .d (.str a), [.d (.str b)] => some (.d (.bl (Txt.endswith a b)))
  | _, _ => none
def mUpper : U → List U → Store → Option U := fun u us _ => match u, us with
  | .d (.str a), [] => if a.length ≤ 5592405 then some (.d (.str (Txt.upper a))) else none
  | _, _ => none

section
variable {K : PySem.W.Frag} {m : List Addr} {H : Hp} {st : Store}
theorem lstC_rp (r : Rep K m st H) {u : U} {v : V} {n : Nat} {us : List U} (h : RpU K m H u v) (e : lstC st u = some (n, us)) :
    ∃ a vs, v = .ref a ∧ H a = some (.lst vs) ∧ RpUs K m H us vs ∧ (∀ us' vs', RpUs K m H us' vs' → Rep K m (st.set n (.lst us')) (upd H a (.lst vs')) ∧ Ext m H m (upd H a (.lst vs'))) := by
  cases u with
  | d x => cases e
  | ref k =>
    obtain ⟨a, ha, rfl⟩ := h
    simp only [lstC] at e
    split at e
    · rename_i zs hs
      cases e
      obtain ⟨ho, h1, vs, e2, h2⟩ := r.cell _ _ a hs ha
      subst e2
      have ma : a ∈ m := List.mem_of_getElem? ha
      exact ⟨a, vs, rfl, h1, h2, fun us' vs' q => ⟨r.write ha ⟨vs', rfl, q.ext (ext_write ma _)⟩, ext_write ma _⟩⟩
    · cases e
theorem RpUs.snoc {us : List U} {vs : List V} {u : U} {v : V} (h : RpUs K m H us vs) (k : RpU K m H u v) : RpUs K m H (us ++ [u]) (vs ++ [v]) := h.append ⟨v, [], rfl, k, rfl⟩
theorem RpUs.erase : ∀ {us : List U} {vs : List V} (i : Nat), RpUs K m H us vs → RpUs K m H (us.eraseIdx i) (vs.eraseIdx i)
  | [], _, _, h => by rw [show _ = [] from h]; rfl
  | u :: us, _, 0, ⟨x, r, e, h1, h2⟩ => by subst e; exact h2
  | u :: us, _, i + 1, ⟨x, r, e, h1, h2⟩ => by subst e; exact ⟨x, r.eraseIdx i, rfl, h1, RpUs.erase i h2⟩
theorem RpUs.dropLast : ∀ {us : List U} {vs : List V}, RpUs K m H us vs → RpUs K m H us.dropLast vs.dropLast
  | [], _, h => by rw [show _ = [] from h]; rfl
  | [u], _, ⟨x, r, e, h1, h2⟩ => by cases h2; subst e; rfl
  | u :: w :: us, _, ⟨x, r, e, h1, ⟨y, t, e2, h3, h4⟩⟩ => by subst e; subst e2; exact ⟨x, _, rfl, h1, RpUs.dropLast (us := w :: us) ⟨y, t, rfl, h3, h4⟩⟩
theorem RpUs.reverse : ∀ {us : List U} {vs : List V}, RpUs K m H us vs → RpUs K m H us.reverse vs.reverse
  | [], _, h => by rw [show _ = [] from h]; rfl
  | u :: us, _, ⟨x, r, e, h1, h2⟩ => by subst e; rw [List.reverse_cons, List.reverse_cons]; exact (RpUs.reverse h2).snoc h1
theorem RpUs.nil {vs : List V} (h : RpUs K m H [] vs) : vs = [] := h
theorem idxP_ok {p : PyData} : ∀ {qs : List PyData} {j : Nat}, idxP p qs = some j → ∃ z, qs[j]? = some z ∧ PyData.eqv z p = true ∧ ∀ (k : Nat) (z' : PyData), k < j → qs[k]? = some z' → PyData.eqv z' p = false
  | [], _, e => by cases e
  | q :: qs, j, e => by
    unfold idxP at e
    split at e
    · rename_i hq
      cases e
      exact ⟨q, rfl, hq, fun k z' hk => absurd hk (Nat.not_lt_zero _)⟩
    · rename_i hq
      cases q2 : idxP p qs with
      | none => rw [q2] at e; cases e
      | some i =>
        rw [q2] at e; cases e
        obtain ⟨z, h1, h2, h3⟩ := idxP_ok q2
        refine ⟨z, by simpa using h1, h2, fun k z' hk hz => ?_⟩
        cases k with
        | zero => simp at hz; subst hz; exact Bool.not_eq_true _ ▸ hq
        | succ k => exact h3 k z' (Nat.lt_of_succ_lt_succ hk) (by simpa using hz)
end
section
variable {X : Cx}
theorem mt_append' : MtR X "list.append" (mM X.K mAppend) := by
  refine MtR.imp mt_append fun x vs H Q ⟨m, st, u, us, r, ru, rus, p⟩ => ?_
  unfold mAppend at p
  split at p
  · rename_i n xs y hl
    split at p
    · rename_i hz
      obtain ⟨a, ws, rfl, h1, h2, h3⟩ := lstC_rp r ru hl
      obtain ⟨v, rfl, hv⟩ := rus.one
      obtain ⟨g1, g2⟩ := h3 _ _ (h2.snoc hv)
      exact ⟨a, ws, v, rfl, rfl, h1, by rw [h2.length]; exact hz, p _ m _ rfl g1 g2⟩
    · exact p.elim
  · exact p.elim
theorem mt_pop' : MtR X "list.pop" (mM X.K mPop) := by
  have hor : MtR X "list.pop" (fun x vs H Q => rPop x vs H Q ∨ rPopAt x vs H Q) := fun pins s σ H x xs v us Q I rx rv q => by
    rcases q with q | q
    · exact mt_pop pins s σ H x xs v us Q I rx rv q
    · exact mt_popAt pins s σ H x xs v us Q I rx rv q
  refine MtR.imp hor fun x vs H Q ⟨m, st, u, us, r, ru, rus, p⟩ => ?_
  unfold mPop at p
  split at p
  · rename_i n xs hl
    cases q : xs[xs.length - 1]? with
    | none => rw [q] at p; exact p.elim
    | some y =>
      rw [q] at p
      obtain ⟨a, ws, rfl, h1, h2, h3⟩ := lstC_rp r ru hl
      obtain ⟨g1, g2⟩ := h3 _ _ h2.dropLast
      obtain ⟨z, hz, rz⟩ := h2.get q
      exact .inl ⟨a, ws, z, rfl, rus.nil, h1, by rw [h2.length]; exact hz, p _ m _ (rz.ext g2) g1 g2⟩
  · rename_i n xs i hl
    split at p
    · rename_i hi
      split at p
      · rename_i k hk
        cases q : xs[k]? with
        | none => rw [q] at p; exact p.elim
        | some y =>
          rw [q] at p
          obtain ⟨a, ws, rfl, h1, h2, h3⟩ := lstC_rp r ru hl
          obtain ⟨v, rfl, hv⟩ := rus.one
          obtain ⟨g1, g2⟩ := h3 _ _ (h2.erase k)
          obtain ⟨z, hz, rz⟩ := h2.get q
          cases hv
          exact .inr ⟨a, ws, i, k, z, rfl, rfl, h1, hi.1, hi.2, by rw [h2.length]; exact hk, hz, p _ m _ (rz.ext g2) g1 g2⟩
      · exact p.elim
    · exact p.elim
  · exact p.elim
theorem mt_insert' : MtR X "list.insert" (mM X.K mInsert) := by
  refine MtR.imp mt_insert fun x vs H Q ⟨m, st, u, us, r, ru, rus, p⟩ => ?_
  unfold mInsert at p
  split at p
  · rename_i n xs i y hl
    split at p
    · rename_i hz
      obtain ⟨a, ws, rfl, h1, h2, h3⟩ := lstC_rp r ru hl
      obtain ⟨v, w, rfl, hv, hw⟩ := rus.two
      cases hv
      obtain ⟨g1, g2⟩ := h3 _ _ (((h2.take i.toNat).snoc hw).append (h2.drop i.toNat))
      exact ⟨a, ws, i, w, rfl, rfl, h1, by rw [h2.length]; exact hz.1, hz.2.1, hz.2.2, p _ m _ rfl g1 g2⟩
    · exact p.elim
  · exact p.elim
theorem mt_extend' : MtR X "list.extend" (mM X.K mExtend) := by
  refine MtR.imp mt_extend fun x vs H Q ⟨m, st, u, us, r, ru, rus, p⟩ => ?_
  unfold mExtend at p
  split at p
  · rename_i n xs b hl
    obtain ⟨a, ws, rfl, h1, h2, h3⟩ := lstC_rp r ru hl
    obtain ⟨v, rfl, hv⟩ := rus.one
    split at p
    · rename_i ds
      split at p
      · rename_i hz
        obtain ⟨b, zs, rfl, t, q⟩ := hv
        obtain ⟨g1, g2⟩ := h3 _ _ (h2.append (RpUs.ofD q))
        exact ⟨a, b, ws, zs, rfl, rfl, h1, t.2, by rw [h2.length, q.length]; exact hz, p _ m _ rfl g1 g2⟩
      · exact p.elim
    · split at p
      · rename_i k ys hy
        split at p
        · rename_i hz
          obtain ⟨b, zs, rfl, t, q, _⟩ := lstC_rp r hv hy
          obtain ⟨g1, g2⟩ := h3 _ _ (h2.append q)
          exact ⟨a, b, ws, zs, rfl, rfl, h1, t, by rw [h2.length, q.length]; exact hz, p _ m _ rfl g1 g2⟩
        · exact p.elim
      · exact p.elim
  · exact p.elim
theorem mt_reverse' : MtR X "list.reverse" (mM X.K mReverse) := by
  refine MtR.imp mt_reverse fun x vs H Q ⟨m, st, u, us, r, ru, rus, p⟩ => ?_
  unfold mReverse at p
  split at p
  · rename_i n xs hl
    obtain ⟨a, ws, rfl, h1, h2, h3⟩ := lstC_rp r ru hl
    obtain ⟨g1, g2⟩ := h3 _ _ h2.reverse
    exact ⟨a, ws, rfl, rus.nil, h1, p _ m _ rfl g1 g2⟩
  · exact p.elim
theorem mt_clear' : MtR X "list.clear" (mM X.K mClear) := by
  refine MtR.imp mt_clear fun x vs H Q ⟨m, st, u, us, r, ru, rus, p⟩ => ?_
  unfold mClear at p
  split at p
  · rename_i n xs hl
    obtain ⟨a, ws, rfl, h1, h2, h3⟩ := lstC_rp r ru hl
    obtain ⟨g1, g2⟩ := h3 [] [] rfl
    exact ⟨a, ws, rfl, rus.nil, h1, p _ m _ rfl g1 g2⟩
  · exact p.elim
theorem mt_index' (hu : X.A.units + 65 < cLine) : MtR X "list.index" (mM X.K (pu4 mIndex)) := by
  refine MtR.imp (mt_indexD hu) fun x vs H Q ⟨m, st, u, us, r, ru, rus, p⟩ => ?_
  obtain ⟨w, e, p⟩ := p.pu4
  unfold mIndex at e
  split at e
  · obtain ⟨v, rfl, hv⟩ := rus.one
    split at e
    · rename_i zs hz
      obtain ⟨a, ws, rfl, _, _⟩ := getL_rp r ru hz
      split at e
      · rename_i qs pd h1 h2
        split at e
        · rename_i hsh
          cases q : idxP pd qs with
          | none => rw [q] at e; cases e
          | some j =>
            rw [q] at e; cases e
            obtain ⟨z, g1, g2, g3⟩ := idxP_ok q
            exact ⟨a, v, pd, qs, j, z, rfl, rfl, asP_dp r ru h1, asP_dp r hv h2, hsh.2, hsh.1, g1, g2, g3, p.here r rfl⟩
        · cases e
      · cases e
    · cases e
  · cases e
theorem mt_split' : MtR X "str.split" (mM X.K (pu4 mSplit)) := by
  refine MtR.imp mt_split fun x vs H Q ⟨m, st, u, us, r, ru, rus, p⟩ => ?_
  obtain ⟨w, e, p⟩ := p.pu4
  unfold mSplit at e
  split at e
  · rename_i a b
    obtain ⟨v, rfl, hv⟩ := rus.one
    cases ru; cases hv
    split at e
    · rename_i hz; cases e
      exact ⟨a, b, rfl, rfl, hz.1, hz.2, fun l hl => p _ m _ (new_lst r hl (RpDs.strs _)) (r.new hl _) (ext_new r hl _)⟩
    · cases e
  · cases e
theorem mt_partition' : MtR X "str.partition" (mM X.K (pu4 mPartition)) := by
  refine MtR.imp mt_partition fun x vs H Q ⟨m, st, u, us, r, ru, rus, p⟩ => ?_
  obtain ⟨w, e, p⟩ := p.pu4
  unfold mPartition at e
  split at e
  · rename_i a b
    obtain ⟨v, rfl, hv⟩ := rus.one
    cases ru; cases hv
    split at e
    · rename_i hz; cases e
      exact ⟨a, b, rfl, rfl, hz.1, hz.2, fun l hl => p _ m _ (new_tup r hl (RpDs.strs [_, _, _])) (r.new hl _) (ext_new r hl _)⟩
    · cases e
  · cases e
theorem mt_join' : MtR X "str.join" (mM X.K (pu4 mJoin)) := by
  refine MtR.imp mt_join fun x vs H Q ⟨m, st, u, us, r, ru, rus, p⟩ => ?_
  obtain ⟨w, e, p⟩ := p.pu4
  unfold mJoin at e
  split at e
  · rename_i a b
    obtain ⟨v, rfl, hv⟩ := rus.one
    cases ru
    split at e
    · rename_i zs hz
      obtain ⟨l, ws, rfl, t, q⟩ := itemsU_rp r hv hz
      split at e
      · rename_i ys hy
        have := strs_rp q hy
        subst this
        split at e
        · rename_i hs; cases e
          exact ⟨a, l, ys, rfl, rfl, t, hs, p.here r rfl⟩
        · cases e
      · cases e
    · cases e
  · cases e
theorem mt_starts' : MtR X "str.startswith" (mM X.K (pu4 mStarts)) := by
  refine MtR.imp mt_startswith fun x vs H Q ⟨m, st, u, us, r, ru, rus, p⟩ => ?_
  obtain ⟨w, e, p⟩ := p.pu4
  unfold mStarts at e
  split at e
  · obtain ⟨v, rfl, hv⟩ := rus.one
    cases ru; cases hv; cases e
    exact ⟨_, _, rfl, rfl, p.here r rfl⟩
  · cases e
theorem mt_ends' : MtR X "str.endswith" (mM X.K (pu4 mEnds)) := by
  refine MtR.imp mt_endswith fun x vs H Q ⟨m, st, u, us, r, ru, rus, p⟩ => ?_
  obtain ⟨w, e, p⟩ := p.pu4
  unfold mEnds at e
  split at e
  · obtain ⟨v, rfl, hv⟩ := rus.one
    cases ru; cases hv; cases e
    exact ⟨_, _, rfl, rfl, p.here r rfl⟩
  · cases e
theorem mt_upper' : MtR X "str.upper" (mM X.K (pu4 mUpper)) := by
  refine MtR.imp mt_upper fun x vs H Q ⟨m, st, u, us, r, ru, rus, p⟩ => ?_
  obtain ⟨w, e, p⟩ := p.pu4
  unfold mUpper at e
  split at e
  · have := rus.nil; subst this
    cases ru
    split at e
    · rename_i hz; cases e
      exact ⟨_, rfl, rfl, hz, p.here r rfl⟩
    · cases e
  · cases e
end

/-! ### stores at an item -/
def putU (kvs : List (Key × U)) (k : Key) (v : U) : List (Key × U) :=
  if (kvs.any fun kv => decide (kv.1 = k)) = true then kvs.map fun kv => if kv.1 = k then (kv.1, v) else kv else kvs ++ [(k, v)]
def setU (o i u : U) (st : Store) : Option Store := match o with
  | .ref n => match st[n]? with
    | some (.lst us) => match i with
      | .d (.int j) => (ixN us.length j).map fun k => st.set n (.lst (us.set k u))
      | _ => none
    | some (.dct kvs) => match keyD i with
      | some k => if kvs.length < sizeLine then some (st.set n (.dct (putU kvs k u))) else none
      | none => none
    | _ => none
  | _ => none
def tgSub (fo fi : F U) : U → G := fun u env st => match fo env st with
  | .ok o st1 => match fi env st1 with
    | .ok i st2 => match setU o i u st2 with
      | some st' => .ok env .nx st'
      | none => .bad
    | _ => .bad
  | _ => .bad
section
variable {K : PySem.W.Frag} {m : List Addr} {H : Hp} {st : Store}
theorem RpUK.any {k : Key} : ∀ {us : List (Key × U)} {vs : List (Key × V)}, RpUK K m H us vs → (us.any fun kv => decide (kv.1 = k)) = (vs.any fun kv => decide (kv.1 = k))
  | [], _, h => by rw [show _ = [] from h]; rfl
  | (k', u) :: us, _, ⟨v, r, e, h1, h2⟩ => by subst e; rw [List.any_cons, List.any_cons, RpUK.any h2]
theorem RpUK.mapP {k : Key} {w : U} {x : V} (hw : RpU K m H w x) : ∀ {us : List (Key × U)} {vs : List (Key × V)}, RpUK K m H us vs → RpUK K m H (us.map fun kv => if kv.1 = k then (kv.1, w) else kv) (vs.map fun kv => if kv.1 = k then (kv.1, x) else kv)
  | [], _, h => by rw [show _ = [] from h]; rfl
  | (k', u) :: us, _, ⟨v, r, e, h1, h2⟩ => by
    subst e
    rw [List.map_cons, List.map_cons]
    by_cases hk : k' = k
    · subst hk; simp only [if_true]; exact ⟨x, _, rfl, hw, RpUK.mapP hw h2⟩
    · simp only [hk, if_false]; exact ⟨v, _, rfl, h1, RpUK.mapP hw h2⟩
theorem RpUK.snoc {k : Key} {w : U} {x : V} (hw : RpU K m H w x) : ∀ {us : List (Key × U)} {vs : List (Key × V)}, RpUK K m H us vs → RpUK K m H (us ++ [(k, w)]) (vs ++ [(k, x)])
  | [], _, h => by rw [show _ = [] from h]; exact ⟨x, [], rfl, hw, rfl⟩
  | (k', u) :: us, _, ⟨v, r, e, h1, h2⟩ => by subst e; exact ⟨v, _, rfl, h1, RpUK.snoc hw h2⟩
theorem RpUK.put {us : List (Key × U)} {vs : List (Key × V)} (h : RpUK K m H us vs) (k : Key) {w : U} {x : V} (hw : RpU K m H w x) : RpUK K m H (putU us k w) (putK vs k x) := by
  unfold putU putK
  rw [h.any]
  split
  · exact h.mapP hw
  · exact h.snoc hw
def dctC (st : Store) : U → Option (Nat × List (Key × U))
  | .ref n => match st[n]? with
    | some (.dct us) => some (n, us)
    | _ => none
  | _ => none
theorem dctC_rp (r : Rep K m st H) {u : U} {v : V} {n : Nat} {us : List (Key × U)} (h : RpU K m H u v) (e : dctC st u = some (n, us)) :
    ∃ a vs, v = .ref a ∧ H a = some (.dK vs) ∧ RpUK K m H us vs ∧ (∀ us' vs', RpUK K m H us' vs' → Rep K m (st.set n (.dct us')) (upd H a (.dK vs')) ∧ Ext m H m (upd H a (.dK vs'))) := by
  cases u with
  | d x => cases e
  | ref k =>
    obtain ⟨a, ha, rfl⟩ := h
    simp only [dctC] at e
    split at e
    · rename_i zs hs
      cases e
      obtain ⟨ho, h1, vs, e2, h2⟩ := r.cell _ _ a hs ha
      subst e2
      have ma : a ∈ m := List.mem_of_getElem? ha
      exact ⟨a, vs, rfl, h1, h2, fun us' vs' q => ⟨r.write ha ⟨vs', rfl, q.ext (ext_write ma _)⟩, ext_write ma _⟩⟩
    · cases e
end
section
variable {X : Cx} {W : WX} {o i : Expr} {fo fi : F U} {pos : Pos}
def tSetU (K : PySem.W.Frag) : TSet := fun o i v H Q => ∃ m st a b u, Rep K m st H ∧ RpU K m H a o ∧ RpU K m H b i ∧ RpU K m H u v ∧ (match setU a b u st with
  | some st' => ∀ H', Rep K m st' H' → Ext m H m H' → Q H'
  | none => False)
theorem set_ok (hu : X.A.units + 1 < cLine) : PSet X (tSetU X.K) := by
  intro pins s σ H o i v ov iv u Q I ro ri rv h
  obtain ⟨m, st, a, b, w, r, ha, hb, hw, p⟩ := h
  have run : (rSetL o i v H Q ∨ rSetD o i v H Q) → wpAny (model X.prog X.w) X.A (setItem ov iv u) (fun x s' => ∃ H', L2.Inv X pins σ H' s' ∧ Q H') X.xe s := fun h => by
    rcases h with h | h
    · exact set_list pins s σ H o i v ov iv u Q I ro ri rv h
    · exact set_dict hu pins s σ H o i v ov iv u Q I ro ri rv h
  refine run ?_
  cases e : setU a b w st with
  | none => rw [e] at p; exact p.elim
  | some st' =>
    rw [e] at p
    unfold setU at e
    split at e
    · rename_i n
      split at e
      · rename_i us hs
        split at e
        · rename_i j
          cases q : ixN us.length j with
          | none => rw [q] at e; cases e
          | some k =>
            rw [q] at e; cases e
            obtain ⟨l, vs, rfl, h1, h2, h3⟩ := lstC_rp r ha (show lstC st (.ref n) = some (n, us) by simp only [lstC, hs])
            cases hb
            obtain ⟨g1, g2⟩ := h3 _ _ (h2.set k hw)
            exact .inl ⟨l, vs, j, k, rfl, rfl, h1, by rw [h2.length]; exact q, p _ g1 g2⟩
        · cases e
      · rename_i us hs
        split at e
        · rename_i k hk
          split at e
          · rename_i hz
            cases e
            obtain ⟨l, vs, rfl, h1, h2, h3⟩ := dctC_rp r ha (show dctC st (.ref n) = some (n, us) by simp only [dctC, hs])
            obtain ⟨g1, g2⟩ := h3 _ _ (h2.put k hw)
            have hy := keyD_rp hb hk
            subst hy
            exact .inr ⟨l, _, rfl, .inl ⟨vs, k, h1, rfl, by rw [h2.length]; exact hz, rfl⟩, p _ g1 g2⟩
          · cases e
        · cases e
      · cases e
    · cases e
theorem dg_sub (hu : X.A.units + 1 < cLine) (ho : DE X W o fo) (hi : DE X W i fi)
    (ha : ∀ (v : Value), assign (Expr.Subscript o i pos) X.env v = (do
        let ov ← holding [v] (eval o X.env)
        let iv ← holding [v, ov] (eval i X.env)
        standAt pos
        holding [v, ov, iv] (setItem ov iv v)
        release [v, ov, iv] []) := by intro _; rfl) : DG X (.Subscript o i pos) [] (tgSub fo fi) :=
  ⟨PG.imp (pg_sub ho.pe hi.pe (set_ok hu) ha) fun v σ H Q ⟨m, env, st, u, r, re, ru, p⟩ => by
    cases e1 : fo env st with
    | bad => simp only [tgSub, e1] at p
    | ex c fs st1 => simp only [tgSub, e1] at p
    | ok a st1 =>
      simp only [tgSub, e1] at p
      refine ⟨m, env, st, r, re, ?_⟩
      rw [e1]
      intro ov m1 H1 h1 r1 x1
      refine ⟨m1, env, st1, r1, re.ext x1, ?_⟩
      cases e2 : fi env st1 with
      | bad => simp only [e2] at p
      | ex c fs st1 => simp only [e2] at p
      | ok b st2 =>
        simp only [e2] at p
        intro iv m2 H2 h2 r2 x2
        refine ⟨m2, st2, a, b, u, r2, h1.ext x2, h2, (ru.ext x1).ext x2, ?_⟩
        cases e3 : setU a b u st2 with
        | none => simp only [e3] at p
        | some st3 =>
          simp only [e3] at p
          exact fun H' r3 x3 => p σ m2 H' (re.ext (x1.trans (x2.trans x3))) r3 (x1.trans (x2.trans x3)) (Out.refl _ _)⟩
theorem nx_sub : TgNx (tgSub fo fi) := fun u env st => by
  unfold tgSub
  cases fo env st with
  | bad => trivial
  | ex c fs st1 => trivial
  | ok a st1 =>
    simp only
    cases fi env st1 with
    | bad => trivial
    | ex c fs st1 => trivial
    | ok b st2 =>
      simp only
      cases setU a b u st2 with
      | none => trivial
      | some st3 => trivial
end
end VL

/-! VLk: defs and their calls where the guards are known. -/
namespace VL
open PySem PySem.Spec PyProof.Rows L2

structure RoomG (k : Nat) (A : Around) : Prop where
  rm : Room k A
  gd : A.guards = some []
theorem RoomG.deeper {k : Nat} {A : Around} (r : RoomG (k + 1) A) (env : Env) : RoomG k (A.deeper env) := ⟨r.rm.deeper env, r.gd⟩
theorem RoomG.mono {j k : Nat} {A : Around} (r : RoomG k A) (h : j ≤ k) : RoomG j A := ⟨r.rm.mono h, r.gd⟩
theorem RoomG.make {k : Nat} {A : Around} (r : RoomG (k + 1) A) (C : Addr) (us : List Value) (kw : List (Str × Value)) : RoomG k (A.under (.builtin "type.__call__" { pos := Value.ref C :: us, kw := kw })) :=
  ⟨r.rm.make C us kw, r.gd⟩
structure FnG (P : Program) (w : World) (K : PySem.W.Frag) (mg : Str → Option Value) (base : Heap) (k : Nat) (f : Addr) (fd : FuncData) (ps : List Str) (sp : Sp) : Prop where
  len : ∀ (vs : List V) (H : Hp) (Q : VK) (E : XK), sp vs H Q E → vs.length = ps.length
  run : ∀ (A : Around) (outer : List Env) (s : Shared) (H : Hp) (args : Args) (us : List Value) (vs : List V) (Q : VK) (E : XK), RoomG k A → Env0 P w K mg base A outer s H → BindsTo s fd args (ps.zip us) → Vals vs us → sp vs H Q E →
    codeAny (model P w) A (.call (.ref f) args) (CR (L2.CX P w) outer P w H s Q E) s
section
variable {P : Program} {w : World} {K : PySem.W.Frag} {mg : Str → Option Value} {base : Heap}
theorem FnG.mono {j k : Nat} {f : Addr} {fd : FuncData} {ps : List Str} {sp : Sp} (F : FnG P w K mg base j f fd ps sp) (h : j ≤ k) : FnG P w K mg base k f fd ps sp :=
  ⟨F.len, fun A outer s H args us vs Q E r => F.run A outer s H args us vs Q E (r.mono h)⟩
theorem fn_ofG {k : Nat} {f : Addr} {name qual : Str} {params : Arguments} {body : List Stmt} {scope : Scope} {dV kV doc pm cdv ct oc : Value} {an od : Option Addr} {osl : Array (Option Value)} {N ps : List Str} {sp : Sp}
    (lk : K.lookup f = some { cls := oc, dict := od, data := .func (PySem.W.fnOf name qual params body scope dV kV doc pm an cdv ct), slots := osl }) (hcd : PySem.W.codeIn K cdv qual = true) (S : FnScope N ps scope)
    (len : ∀ (vs : List V) (H : Hp) (Q : VK) (E : XK), sp vs H Q E → vs.length = ps.length)
    (hbody : ∀ (A : Around) (outer : List Env) (s : Shared) (H : Hp) (vs : List V) (Q : VK) (E : XK), RoomG k (A.deeper (envOfC qual scope s.heap.objs.size f cdv)) → sp vs H Q E →
      ∃ t, PSs (cxOf (L2.CX P w) P w K mg base N qual scope f cdv A outer s H E) body t ∧ t { nx := fun _ H' => Q .non H', rt := Q } (L2.start N vs) H) :
    FnG P w K mg base (k + 1) f (PySem.W.fnOf name qual params body scope dV kV doc pm an cdv ct) ps sp := ⟨len, fun A outer s H args us vs Q E hr e0 hb r hsp => by
  have hl := len vs H Q E hsp
  have KX : PySem.W.Frag.In K s.heap := PySem.W.Frag.In.keeps e0.mod.kin fun b o e => (e0.bs b o e).1
  have lim := Heap.NoLimit.keeps e0.mod.nolimit fun b o e => (e0.bs b o e).1
  have hkind : ∀ x ∈ ps.zip us, scope.names.lookup x.1 = some .local ∨ scope.names.lookup x.1 = some .cell ∧ ((cellsFrom (s.heap.objs.size + 1) scope.names []).lookup x.1).isSome = true := fun x hy => by
    obtain ⟨n, v⟩ := x
    rcases S.par n (List.of_mem_zip hy).1 with q | q
    · exact .inl q
    · exact .inr ⟨q, PySem.W.cellsFrom_some scope.names (s.heap.objs.size + 1) [] (.inl q)⟩
  refine codeAny_call_function hr.rm.depth (KX f _ lk) rfl S.co S.gen rfl (PySem.W.codeRec_of KX hcd) (hb (model P w) A.in1 _ _ ?_)
  refine wpAny_newFunctionEnv_cells S.kind hkind fun env he s1 x => ?_
  subst he
  refine ⟨Heap.NoLimit.keeps lim x.toInCall.keep, codeAny_func ?_⟩
  obtain ⟨t, ht, hq⟩ := hbody A outer s H vs Q E (hr.deeper _) hsp
  have I := inv_start (CX := L2.CX P w) (mg := mg) (E := E) S hr.rm.hd e0 hl r x
  refine wpAny_mono (ht.run [] s1 (L2.start N vs) H { nx := fun _ H' => Q .non H', rt := Q } I hq) (fun fl s' hs => ?_) fun e s' hs => hs
  cases fl with
  | next =>
    obtain ⟨σ', H', J, q⟩ := hs
    exact ⟨.non, H', J.os, J.bare, J.base, J.hok, rfl, q⟩
  | brk => obtain ⟨_, _, _, q⟩ := hs; exact q.elim
  | cont => obtain ⟨_, _, _, q⟩ := hs; exact q.elim
  | ret u =>
    obtain ⟨v, σ', H', J, rv, q⟩ := hs
    exact ⟨v, H', J.os, J.bare, J.base, J.hok, rv, q⟩⟩
theorem law_callG {mb : Str → Option Value} {k : Nat} {fa a : Addr} {fd : FuncData} {x : Str} {sp : Sp} {s₁ : Shared} {vs : List Value} {ns : List Int} (KX : PySem.W.Frag.In K s₁.heap) (hns : s₁.heap.Ns mainGlobals mg) (hb : s₁.heap.Ns builtinsNs mb)
    (hbb : ∀ x : Str, x ≠ "__name__" → mb x = bootBuiltins x) (hlim : s₁.heap.NoLimit) (hg : s₁.gens = #[]) (ha : s₁.heap.get? a = some { cls := .type "list", data := .seq vs.toArray }) (hi : IntsAre vs ns) (hl : ns.length ≤ sizeLine)
    (hr : RoomG k callerA) (F : ∀ base : Heap, PySem.W.Frag.In K base → base.Ns mainGlobals mg → FnG P w K mg base k fa fd [x] sp) (hbind : ∀ (s : Shared) (u : Value), BindsTo s fd { pos := [u] } [(x, u)])
    (hsp : ∀ H : Hp, Only H → SqL K H a (ns.map V.int) → sp [.ref a] H (fun v _ => v = .bl true) fun _ _ _ => False) :
    codeAny (model P w) callerA (.call (.ref fa) { pos := [.ref a] }) (fun r s' => r = .ok (.ret (.bool true)) ∧ OldK s₁.heap s'.heap ∧ s'.os = s₁.os ∧ AllBare s'.gens) s₁ := by
  have rv := vals_ints hi
  have lenV := hi.length
  have core : ∀ H : Hp, Only H → SqL K H a (ns.map V.int) → HOk P w H s₁.heap → (∀ b, H b ≠ none → b = a) → (H a ≠ none → K.lookup a = none) →
      codeAny (model P w) callerA (.call (.ref fa) { pos := [.ref a] }) (fun r s' => r = .ok (.ret (.bool true)) ∧ OldK s₁.heap s'.heap ∧ s'.os = s₁.os ∧ AllBare s'.gens) s₁ := fun H hO hS hok hA hK => by
    have noA : ∀ {b : Addr} {o : Obj} {es : _} {ep : _}, s₁.heap.get? b = some o → o.data = .dict es ep → H b = none := fun {b o es ep} e d => by
      cases q : H b with
      | none => rfl
      | some u =>
        have e' := hA b (by rw [q]; exact fun z => nomatch z)
        subst e'
        rw [ha] at e
        cases e
        cases d
    have nsK : ∀ {b : Addr} {m : Str → Option Value}, s₁.heap.Ns b m → (hidT s₁.heap H).Ns b m := fun {b m} x => by
      obtain ⟨o, es, ep, e, d, r⟩ := x
      exact ⟨o, es, ep, hidT_get e (noA e d), d, r⟩
    have hKb : PySem.W.Frag.In K (hidT s₁.heap H) := fun b o e => hidT_get (KX b o e) (by
      cases q : H b with
      | none => rfl
      | some u =>
        have e' := hA b (by rw [q]; exact fun z => nomatch z)
        subst e'
        rw [hK (by rw [q]; exact fun z => nomatch z)] at e
        cases e)
    have hM : L2.Mod K mg (hidT s₁.heap H) := ⟨hKb, nsK hns, ⟨mb, nsK hb, hbb⟩, by
      obtain ⟨mc, h1, h2⟩ := hlim
      exact ⟨mc, nsK h1, h2⟩⟩
    have e0 : Env0 P w K mg (hidT s₁.heap H) callerA [] s₁ H :=
      { frames := rfl, mod := hM, bs := fun b o e => of_hidT e, bsz := Nat.le_of_eq (hidT_size s₁.heap H), funs := trivial, frf := fun b hb => absurd hb List.not_mem_nil, hok := hok, bare := AllBare.of_eq hg }
    refine codeAny_mono ((F (hidT s₁.heap H) hKb (nsK hns)).run callerA [] s₁ H { pos := [.ref a] } [.ref a] [.ref a] (fun v _ => v = .bl true) (fun _ _ _ => False) hr e0 (hbind s₁ (.ref a)) (.cons rfl .nil) (hsp H hO hS)) fun r s' h => ?_
    cases r with
    | error e =>
      obtain ⟨_, _, _, _, _, _, _, _, _, _, _, _, h⟩ := h
      exact h.elim
    | ok fl =>
      cases fl with
      | next => exact False.elim h
      | brk => exact False.elim h
      | cont => exact False.elim h
      | ret u =>
        obtain ⟨v, H', os, bare, un, hok', r', q⟩ := h
        have q' : v = .bl true := q
        subst q'
        have r2 : u = .bool true := r'
        subst r2
        refine ⟨rfl, OldK.of_keep fun b o e => ?_, os, bare⟩
        cases q : H b with
        | none => exact un.keep b o e q List.not_mem_nil List.not_mem_nil
        | some u =>
          rcases hO b with z | ⟨ob, xs, z⟩
          · rw [q] at z; cases z
          · have z2 := un.frzs b ob _ z
            have h1 := hok b _ z
            have h2 := hok' b _ z2
            obtain ⟨e1, _⟩ := h1
            obtain ⟨e2, _⟩ := h2
            rw [e] at e1
            cases e1
            exact e2
  cases hk : K.lookup a with
  | none =>
    refine core (fun b => if b = a then some (.frz { cls := .type "list", data := .seq vs.toArray } (.lst (ns.map V.int))) else none) (fun b => ?_) (.inl (.inr ⟨_, if_pos rfl⟩)) (fun b u z => ?_) (fun b z => ?_) fun _ => hk
    · by_cases hb : b = a
      · exact .inr ⟨_, _, if_pos hb⟩
      · exact .inl (if_neg hb)
    · by_cases hb : b = a
      · subst hb
        have z' := (if_pos rfl).symm.trans z
        cases z'
        exact ⟨ha, by rw [List.length_map]; exact hl, vs, 0, rv, ha⟩
      · have z' := (if_neg hb).symm.trans z
        cases z'
    · by_cases hb : b = a
      · exact hb
      · exact absurd (if_neg hb) z
  | some o =>
    have e := KX a o hk
    rw [ha] at e
    cases e
    refine core (fun _ => none) (fun _ => .inl rfl) (.inr ⟨_, vs.toArray, 0, hk, rfl, rfl, rfl, ?_, rv⟩) (fun b u z => by cases z) (fun b z => absurd rfl z) fun z => absurd rfl z
    rw [List.size_toArray, lenV]; exact hl
theorem walk_ofG {l : PySem.W.OpenLaw} {n k : Nat} {q : Program} {loose : List Str} {XP : (Str → Option Value) → Heap → Prop} {YP : World → Heap → Prop} {d : DefRec} {K : Params → PySem.W.Frag} {sp : World → Sp} {x : Str} (hn : l.most = some n) (hn2 : n ≤ sizeLine)
    (hdf : d.params.defaults = []) (hr : RoomG k callerA) (hY : ∀ (w : World) (h : Heap), YP w h → PySem.W.Frag.In (K w.params) h)
    (F : ∀ (w : World) (mg : Str → Option Value) (fa : Addr) (h : Heap), PySem.W.Frag.In (K w.params) h → h.Ns mainGlobals mg → mg d.name = some (.ref fa) →
      ∃ fd, (∀ (s : Shared) (u : Value), BindsTo s fd { pos := [u] } [(x, u)]) ∧ ∀ base : Heap, PySem.W.Frag.In (K w.params) base → base.Ns mainGlobals mg → FnG l.prog w (K w.params) mg base k fa fd [x] (sp w))
    (hsp : ∀ (w : World) (H : Hp) (a : Addr) (ns : List Int), ns.length ≤ n → Only H → SqL (K w.params) H a (ns.map V.int) → sp w [.ref a] H (fun v _ => v = .bl true) fun _ _ _ => False) :
    PySem.W.WalkO q loose XP YP l.row.toRowW d [] fun f vs => call f vs :=
  Att.attach_call hn hdf fun w s₀ s₁ mg mb fa o pm cd doc a vs ns G Y ho hd hcd hmg hobj hints hlen hg => by
    have KX := hY w s₁.heap Y
    obtain ⟨fd, hb, hF⟩ := F w mg fa s₁.heap KX G.T.g hmg
    exact law_callG KX G.T.g G.T.b G.T.builtins G.T.nolimit hg hobj hints (Nat.le_trans hlen hn2) hr hF hb fun H hO hS => hsp w H a ns hlen hO hS
end
end VL

/-! VLl: calls of defs, classes, methods; fields. -/
namespace VL
open PySem PySem.Spec PyProof.Rows L2

section
variable {P : Program} {w : World} {K : PySem.W.Frag} {mg : Str → Option Value} {base : Heap}
theorem okG {x qual : Str} {st : Stmt} {f : Addr} {fd : FuncData} {N ps : List Str} {k : Nat} {sp : Sp} (Fn : Fun K x qual st f fd) (S : FnScope N ps (defScope st)) (len : ∀ (vs : List V) (H : Hp) (Q : VK) (E : XK), sp vs H Q E → vs.length = ps.length)
    (hbody : ∀ (cdv : Value), fd.code = cdv → ∀ (A : Around) (outer : List Env) (s : Shared) (H : Hp) (vs : List V) (Q : VK) (E : XK), RoomG k (A.deeper (envOfC qual (defScope st) s.heap.objs.size f cdv)) → sp vs H Q E →
      ∃ t, PSs (cxOf (L2.CX P w) P w K mg base N qual (defScope st) f cdv A outer s H E) (defBody st) t ∧ t { nx := fun _ H' => Q .non H', rt := Q } (L2.start N vs) H) : FnG P w K mg base (k + 1) f fd ps sp := by
  obtain ⟨oc, od, kV, doc, pm, an, cdv, ct, osl, rfl, lk, hcd⟩ := Fn.ex
  exact fn_ofG lk hcd S len fun A outer s H vs Q E hr hsp => hbody cdv rfl A outer s H vs Q E hr hsp
/-- THE RULE for a def -/
theorem fn_okC {x qual : Str} {st : Stmt} {f : Addr} {fd : FuncData} {N ps : List Str} {k : Nat} {g : G} {wr : Wr} (Fn : Fun K x qual st f fd) (S : FnScope N ps (defScope st)) (hw : WOk wr)
    (hbody : ∀ (cdv : Value), fd.code = cdv → ∀ (A : Around) (outer : List Env) (s : Shared) (H : Hp) (E : XK), RoomG k (A.deeper (envOfC qual (defScope st) s.heap.objs.size f cdv)) →
      DB (cxOf (L2.CX P w) P w K mg base N qual (defScope st) f cdv A outer s H E) (fun c d _ H' => E c d H') (defBody st) g) : FnG P w K mg base (k + 1) f fd ps (spM K ps.length (fnM N.length g wr)) := by
  refine okG Fn S (fun vs H Q E h => h.1) fun cdv hcv A outer s H vs Q E hr h => ?_
  obtain ⟨hl, m, st, us, r, ru, p⟩ := h
  refine ⟨tG K (fun c d _ H' => E c d H') g, (hbody cdv hcv A outer s H E hr).pss, m, _, st, r, start_env ru, ?_⟩
  unfold fnM at p
  have fin : ∀ {u : U} {st' : Store}, PU K m H Q E (wr st.length u st') → ∀ v m' H', RpU K m' H' u v → Rep K m' st' H' → Ext m H m' H' → Q v H' := fun {u st'} p v m' H' h1 h2 h3 => by
    have hk : st.length ≤ m'.length := by rw [← r.len]; exact h3.pre.length_le
    have := hw.ok K st.length u st' m' H' v h2 h1 hk
    cases e : wr st.length u st' with
    | bad => rw [e] at p; exact p.elim
    | ex c fs s => rw [e] at this; exact this.elim
    | ok u' s =>
      rw [e] at p this
      obtain ⟨m2, g1, g2, g3, g4⟩ := this
      refine p v m2 H' g2 g1 ⟨?_, fun a o n h nt => ⟨(h3.stay a o n h nt).1, fun z => (h3.stay a o n h nt).2 (g4 a z)⟩⟩
      obtain ⟨t, ht⟩ := h3.pre
      have : m'.take st.length = m := by rw [← ht, ← r.len]; simp
      rw [this] at g3
      exact g3
  cases e : g (us.map some ++ List.replicate (N.length - us.length) none) st with
  | bad => rw [e] at p; exact p
  | ex c fs env2 st2 =>
    rw [e] at p
    simp only at p
    intro d σ' m' H' h0 h1 h2 h3
    cases q : cutS st.length st2 with
    | none => simp only [q] at p; exact p.elim
    | some s2 =>
      simp only [q] at p
      refine p d (m'.take st.length) H' (h1.cut q) (ext_cut h2 (by rw [r.len]; exact Nat.le_refl _)) ?_
      cases fs with
      | none => cases d with
        | none => trivial
        | some d => exact h3.elim
      | some fs => cases d with
        | none => exact h3.elim
        | some d =>
          obtain ⟨vs, g1, g2, g3⟩ := h3
          exact ⟨vs, g1, fun z => g2 (List.mem_of_mem_take z), RpF.stay ⟨fun a o n e _ _ => ⟨e, fun z => n (List.mem_of_mem_take z)⟩, fun a kvs n e => ⟨e, fun z => n (List.mem_of_mem_take z)⟩⟩ _ _ g3⟩
  | ok env2 fl st2 =>
    rw [e] at p
    cases fl with
    | nx => exact fun σ' m' H' h0 h1 h2 => fin p .non m' H' rfl h1 h2
    | rt u => exact fun v m' H' h0 h1 h2 => fin p v m' H' h0 h1 h2
    | bk => exact p.elim
    | ct => exact p.elim
end
section
variable {P : Program} {w : World} {K : PySem.W.Frag} {mg : Str → Option Value} {base : Heap}
theorem fn_ok {x qual : Str} {st : Stmt} {f : Addr} {fd : FuncData} {N ps : List Str} {k : Nat} {g : G} {wr : Wr} (Fn : Fun K x qual st f fd) (S : FnScope N ps (defScope st)) (hw : WOk wr)
    (hbody : ∀ (cdv : Value) (A : Around) (outer : List Env) (s : Shared) (H : Hp) (E : XK), RoomG k (A.deeper (envOfC qual (defScope st) s.heap.objs.size f cdv)) →
      DB (cxOf (L2.CX P w) P w K mg base N qual (defScope st) f cdv A outer s H E) (fun c d _ H' => E c d H') (defBody st) g) : FnG P w K mg base (k + 1) f fd ps (spM K ps.length (fnM N.length g wr)) :=
  fn_okC Fn S hw fun cdv _ A outer s H E hr => hbody cdv A outer s H E hr
end
/-! ### arguments -/
structure DK (X : Cx) (W : WX) (kws : List Keyword) (f : F (List U)) : Prop where
  pk : PK X kws (tFs X.K W f)
theorem PK.imp {X : Cx} {e : List Keyword} {t t' : TA} (h : PK X e t) (i : ∀ σ H Q, t' σ H Q → t σ H Q) : PK X e t' := ⟨fun pos pins s σ H Q I q => h.run pos pins s σ H Q I (i σ H Q q)⟩
theorem dk_nil {X : Cx} {W : WX} : DK X W [] fNil := ⟨PK.imp pk_nil fun σ H Q ⟨m, env, st, r, re, p⟩ => p [] m H rfl r (Ext.refl _ _)⟩
theorem dk_cons {X : Cx} {W : WX} {nm : Option Str} {e : Expr} {kpos : Pos} {kws : List Keyword} {fe : F U} {fs : F (List U)} (he : DE X W e fe) (hs : DK X W kws fs) : DK X W ({ arg := nm, value := e, pos := kpos } :: kws) (fCons fe fs) :=
  ⟨PK.imp (pk_cons he.pe hs.pk) fun σ H Q ⟨m, env, st, r, re, p⟩ => tF_step r re p fun u st1 v m1 H1 h1 r1 re1 e1 p1 => tFs_step r1 re1 p1 fun us st2 vs m2 H2 h2 r2 re2 e2 p2 =>
    p2 (v :: vs) m2 H2 ⟨v, vs, rfl, h1.ext e2, h2⟩ r2 (Ext.refl _ _)⟩
def fCW (f g : F (List U)) : F (List U × List U) := bnd f fun us => bnd g fun ws => fPure (us, ws)
def rel2 (K : PySem.W.Frag) (m : List Addr) (H : Hp) (a : List U × List U) (b : List V × List V) : Prop := RpUs K m H a.1 b.1 ∧ RpUs K m H a.2 b.2
def tFs2 (K : PySem.W.Frag) (W : WX) (f : F (List U × List U)) (σ : L2.St) (H : Hp) (Z : List V × List V → Hp → Prop) : Prop := ∃ m env st, Rep K m st H ∧ RpEnv K m H env σ ∧ PO' K m H (rel2 K) Z (fun c d H' => W c d σ H') (f env st)
theorem tFs2_step {K : PySem.W.Frag} {W : WX} {m : List Addr} {env : VEnv} {st : Store} {H : Hp} {σ : L2.St} {γ δ : Type} {rel : List Addr → Hp → γ → δ → Prop} {Q : δ → Hp → Prop} {f : F (List U × List U)} {g : List U × List U → F γ} {Z : List V × List V → Hp → Prop}
    (r : Rep K m st H) (re : RpEnv K m H env σ) (p : PO' K m H rel Q (fun c d H' => W c d σ H') (bnd f g env st))
    (h : ∀ a st1 v m1 H1, rel2 K m1 H1 a v → Rep K m1 st1 H1 → RpEnv K m1 H1 env σ → Ext m H m1 H1 → PO' K m1 H1 rel Q (fun c d H' => W c d σ H') (g a env st1) → Z v H1) : tFs2 K W f σ H Z :=
  ⟨m, env, st, r, re, by
    unfold bnd at p
    cases e : f env st with
    | ok a st1 => rw [e] at p; exact fun v m1 H1 h1 h2 h3 => h a st1 v m1 H1 h1 h2 (re.ext h3) h3 (p.from h3)
    | ex c fs st1 => rw [e] at p; exact p
    | bad => rw [e] at p; exact p.elim⟩
/-- a call's arguments, by place and by name -/
structure DCW (X : Cx) (W : WX) (pos : Pos) (args : List Expr) (kws : List Keyword) (ks : List Str) (f : F (List U × List U)) : Prop where
  run : ∀ (pins : List (Addr × Obj)) (s : Shared) (σ : L2.St) (H : Hp) (c : Value) (first : List Value) (Q : Value → Shared → Prop) (Z : List V × List V → Hp → Prop), Inv X pins σ H s → PySem.W.keepIn X.K c = true → tFs2 X.K W f σ H Z →
    (∀ (vs zs : List V) (us ws : List Value) (H' : Hp) (s' : Shared), Inv X pins σ H' s' → Vals vs us → Vals zs ws → Z (vs, zs) H' → wpAny (model X.prog X.w) X.A (call c (first ++ us) (ks.zip ws)) Q X.xe s') →
    wpAny (model X.prog X.w) X.A (callWith pos c first (backTo pos (starEach args X.env)) (backToKw pos (keywordEach kws X.env))) Q X.xe s
section
variable {X : Cx} {W : WX} {e : Expr} {es : List Expr} {kws : List Keyword} {ks : List Str} {fs fk : F (List U)} {pos : Pos}
theorem split2 {σ : L2.St} {H : Hp} {Z : List V × List V → Hp → Prop} (h : tFs2 X.K W (fCW fs fk) σ H Z) : tFs X.K W fs σ H fun vs H1 => tFs X.K W fk σ H1 fun zs H2 => Z (vs, zs) H2 := by
  obtain ⟨m, env, st, r, re, p⟩ := h
  exact tFs_step r re p fun us st1 vs m1 H1 h1 r1 re1 e1 p1 => tFs_step r1 re1 p1 fun ws st2 zs m2 H2 h2 r2 re2 e2 p2 => p2 (vs, zs) m2 H2 ⟨h1.ext e2, h2⟩ r2 (Ext.refl _ _)
theorem tNilF {σ : L2.St} {H : Hp} {Z : List V → Hp → Prop} (h : tFs X.K W fNil σ H Z) : Z [] H := by
  obtain ⟨m, env, st, r, re, p⟩ := h
  exact p [] m H rfl r (Ext.refl _ _)
theorem cw_pos (ha : DA X W (e :: es) fs) (he : starEach (e :: es) X.env = (false, eval e X.env) :: starEach es X.env := by rfl) (hpl : (backTo pos (starEach es X.env)).any (·.1) = false := by rfl) : DCW X W pos (e :: es) [] [] (fCW fs fNil) :=
  ⟨fun pins s σ H c first Q Z I hk t k => PySem.W.callWith_K (Mod.kin I.ok.mod) hk (thn (ha.pa.run pos pins s σ H _ I (split2 t)) fun us s1 ⟨vs, H1, I1, rv, q⟩ => ⟨I1.kIn, k vs [] us [] H1 s1 I1 rv .nil (tNilF q)⟩) he hpl⟩
theorem cw_none : DCW X W pos [] [] [] (fCW fNil fNil) :=
  ⟨fun pins s σ H c first Q Z I hk t k => PySem.W.callWith_K0 I.kIn hk (k [] [] [] [] H s I .nil .nil (tNilF (tNilF (split2 t))))⟩
theorem cw_kw (ha : DA X W (e :: es) fs) (hk : DK X W kws fk) (h1 : (backToKw pos (keywordEach kws X.env)).all (fun x => x.1.isSome) = true := by rfl) (h2 : (backToKw pos (keywordEach kws X.env)).filterMap (·.1) = ks := by rfl)
    (h3 : ((backTo pos (starEach (e :: es) X.env)).any (·.1) || (backToKw pos (keywordEach kws X.env)).any (fun x => x.1.isNone)) = false := by rfl) (he : starEach (e :: es) X.env = (false, eval e X.env) :: starEach es X.env := by rfl) : DCW X W pos (e :: es) kws ks (fCW fs fk) :=
  ⟨fun pins s σ H c first Q Z I hkp t k => PySem.W.callWith_KW (Mod.kin I.ok.mod) hkp h1 (thn (ha.pa.run pos pins s σ H _ I (split2 t)) fun us s1 ⟨vs, H1, I1, rv, q⟩ =>
    thn (hk.pk.run pos pins s1 σ H1 _ I1 q) fun ws s2 ⟨zs, H2, I2, rz, q2⟩ => ⟨I2.kIn, by rw [h2]; exact k vs zs us ws H2 s2 I2 rv rz q2⟩) h3 he⟩
theorem cw_kw0 (hk : DK X W kws fk) (h1 : (backToKw pos (keywordEach kws X.env)).all (fun x => x.1.isSome) = true := by rfl) (h2 : (backToKw pos (keywordEach kws X.env)).filterMap (·.1) = ks := by rfl)
    (h3 : ((backTo pos (starEach [] X.env)).any (·.1) || (backToKw pos (keywordEach kws X.env)).any (fun x => x.1.isNone)) = false := by rfl) : DCW X W pos [] kws ks (fCW fNil fk) :=
  ⟨fun pins s σ H c first Q Z I hkp t k => PySem.W.callWith_KW0 (Mod.kin I.ok.mod) hkp h1 (thn (hk.pk.run pos pins s σ H _ I (tNilF (split2 t))) fun ws s2 ⟨zs, H2, I2, rz, q2⟩ => ⟨I2.kIn, by rw [h2]; exact k [] zs [] ws H2 s2 I2 .nil rz q2⟩) h3⟩
end

/-! ### how arguments meet parameters -/
structure Bd (K : PySem.W.Frag) (fd : FuncData) (ps : List Str) (n : Nat) (ks : List Str) (g : List Value → List Value → List Value) (gV : List V → List V → List V) (gU : List U → List U → List U) : Prop where
  to : ∀ (s : Shared) (us ws : List Value), PySem.W.Frag.In K s.heap → us.length = n → ws.length = ks.length → BindsTo s fd { pos := us, kw := ks.zip ws } (ps.zip (g us ws))
  relV : ∀ {vs : List V} {us : List Value} {zs : List V} {ws : List Value}, vs.length = n → zs.length = ks.length → Vals vs us → Vals zs ws → Vals (gV vs zs) (g us ws)
  relU : ∀ {m : List Addr} {H : Hp} {us ws : List U} {vs zs : List V}, us.length = n → ws.length = ks.length → RpUs K m H us vs → RpUs K m H ws zs → RpUs K m H (gU us ws) (gV vs zs)
  len : ∀ {us ws : List U}, us.length = n → ws.length = ks.length → (gU us ws).length = ps.length
def gPos {α : Type} (us _ws : List α) : List α := us
theorem bd_pos {K : PySem.W.Frag} {fd : FuncData} {ps : List Str} (b : Binds K fd ps []) : Bd K fd ps ps.length [] gPos gPos gPos :=
  ⟨fun s us ws KX h1 h2 => by
    have := b s us KX (by rw [List.append_nil]; exact h1)
    rw [List.append_nil] at this
    exact this, fun _ _ r _ => r, fun _ _ r _ => r, fun h _ => h⟩
/-- a def as its callers see it -/
structure Fd (P : Program) (w : World) (K : PySem.W.Frag) (mg : Str → Option Value) (base : Heap) (f : Addr) (k n : Nat) (ks : List Str) (gU : List U → List U → List U) (mf : List U → M U) : Prop where
  ex : ∃ (fd : FuncData) (ps : List Str) (g : List Value → List Value → List Value) (gV : List V → List V → List V), FnG P w K mg base k f fd ps (spM K ps.length mf) ∧ Bd K fd ps n ks g gV gU
theorem Fd.mono {P : Program} {w : World} {K : PySem.W.Frag} {mg : Str → Option Value} {base : Heap} {f : Addr} {j k n : Nat} {ks : List Str} {gU : List U → List U → List U} {mf : List U → M U} (h : Fd P w K mg base f j n ks gU mf) (hk : j ≤ k) : Fd P w K mg base f k n ks gU mf := by
  obtain ⟨fd, ps, g, gV, a, b⟩ := h.ex
  exact ⟨fd, ps, g, gV, a.mono hk, b⟩

section
variable {X : Cx} {W : WX}
theorem run_g {k n : Nat} {f : Addr} {ks : List Str} {gU : List U → List U → List U} {mf : List U → M U} {pins : List (Addr × Obj)} {σ : L2.St} {H : Hp} {s : Shared} {Q : VK} {us ws : List Value} {vs zs : List V} {m : List Addr} {st : Store} {as bs : List U} (F : Fd X.prog X.w X.K X.mg X.base f k n ks gU mf) (hr : RoomG k X.A) (tk : Takes X W) (I : Inv X pins σ H s)
    (rv : Vals vs us) (rz : Vals zs ws) (r : Rep X.K m st H) (ra : RpUs X.K m H as vs) (rb : RpUs X.K m H bs zs) (la : as.length = n) (lb : bs.length = ks.length) (h : PU X.K m H Q (fun c d H' => W c d σ H') (mf (gU as bs) st)) :
    wpAny (model X.prog X.w) X.A (call (.ref f) us (ks.zip ws)) (EP X pins σ Q) X.xe s := by
  obtain ⟨fd, ps, g, gV, F, b⟩ := F.ex
  have l1 : vs.length = n := ra.length.trans la
  have l2 : zs.length = ks.length := rb.length.trans lb
  have rg := b.relU la lb ra rb
  refine wpAny_call (codeAny_mono (F.run X.A X.stack s H { pos := us, kw := ks.zip ws } (g us ws) (gV vs zs) Q (fun c d H' => W c d σ H') hr I.env0 (b.to s us ws I.kIn (by rw [← l1]; exact (Vals.length rv).symm) (by rw [← l2]; exact (Vals.length rz).symm)) (b.relV l1 l2 rv rz)
    ⟨rg.length.trans (b.len la lb), m, st, gU as bs, r, rg, h⟩) fun r s' hq => ?_)
  cases r with
  | error e => exact passAt tk σ pins H s e s' I hq
  | ok fl =>
    cases fl with
    | next => exact False.elim hq
    | brk => exact False.elim hq
    | cont => exact False.elim hq
    | ret u => exact Inv.after I hq
def fCall (n m : Nat) (gU : List U → List U → List U) (mf : List U → M U) (f : F (List U × List U)) : F U := bnd f fun p => fun _ st => if p.1.length = n ∧ p.2.length = m then mf (gU p.1 p.2) st else .bad
/-- f(..) -/
theorem d_call {x : Str} {p pos : Pos} {args : List Expr} {kws : List Keyword} {ks : List Str} {k n : Nat} {f : Addr} {gU : List U → List U → List U} {mf : List U → M U} {fc : F (List U × List U)} (Fn : Fd X.prog X.w X.K X.mg X.base f k n ks gU mf) (hm : X.mg x = some (.ref f)) (hk : PySem.W.keepIn X.K (.ref f) = true) (hr : RoomG k X.A) (tk : Takes X W) (ha : DCW X W pos args kws ks fc)
    (hg : Gl X x := by rfl) (hdb : (x == ("__debug__" : Str)) = false := by decide) : DE X W (.Call (.Name x p) args kws pos) (fCall n ks.length gU mf fc) :=
  ⟨⟨fun pins s σ H Q I q => wpAny_Call_Name_kw (ld_glob I hg hm (by
    obtain ⟨m, env, st, r, re, p⟩ := q
    refine ha.run pins s σ H (.ref f) [] _ (fun v H1 => ∃ m1 st1 as bs, Rep X.K m1 st1 H1 ∧ RpUs X.K m1 H1 as v.1 ∧ RpUs X.K m1 H1 bs v.2 ∧ as.length = n ∧ bs.length = ks.length ∧ PU X.K m1 H1 Q (fun c d H' => W c d σ H') (mf (gU as bs) st1)) I hk (tFs2_step r re p fun a st1 v m1 H1 h1 r1 re1 e1 p1 => ?_) ?_
    · by_cases hl : a.1.length = n ∧ a.2.length = ks.length
      · rw [if_pos hl] at p1
        exact ⟨m1, st1, a.1, a.2, r1, h1.1, h1.2, hl.1, hl.2, p1⟩
      · rw [if_neg hl] at p1; exact p1.elim
    · rintro vs zs us ws H' s' I' rv rz ⟨m1, st1, as, bs, r1, h1, h2, la, lb, p1⟩
      exact run_g Fn hr tk I' rv rz r1 h1 h2 la lb p1) hdb)⟩⟩

/-! ### C(..) -/
theorem run_makeG {k n : Nat} {f C : Addr} {ks : List Str} {gU : List U → List U → List U} {mf : List U → M U} {pins : List (Addr × Obj)} {σ : L2.St} {H : Hp} {s : Shared} {Q : VK} {us ws : List Value} {vs zs : List V} {m : List Addr} {st : Store} {as bs : List U} (Mc : Mk X.K C f) (F : Fd X.prog X.w X.K X.mg X.base f k (n + 1) ks gU mf) (hr : RoomG (k + 1) X.A) (tk : Takes X W) (I : Inv X pins σ H s)
    (rv : Vals vs us) (rz : Vals zs ws) (r : Rep X.K m st H) (ra : RpUs X.K m H as vs) (rb : RpUs X.K m H bs zs) (la : as.length = n) (lb : bs.length = ks.length)
    (h : PU X.K m H Q (fun c d H' => W c d σ H') (match mf (gU (.ref st.length :: as) bs) (st ++ [.ins C []]) with
      | .ok (.d .non) st' => .ok (.ref st.length) st'
      | .ok _ _ => .bad
      | .ex c fs st' => .ex c fs st'
      | .bad => .bad)) :
    wpAny (model X.prog X.w) X.A (call (.ref C) us (ks.zip ws)) (EP X pins σ Q) X.xe s := by
  obtain ⟨fd, ps, g, gV, F, b⟩ := F.ex
  have nx : H (s.heap.objs.size + 1) = none := HOk.fresh I.hok (Nat.le_succ _)
  have nd : H s.heap.objs.size = none := HOk.fresh I.hok (Nat.le_refl _)
  have ne : s.heap.objs.size ≠ s.heap.objs.size + 1 := Nat.ne_of_lt (Nat.lt_succ_self _)
  have I2 := Inv.made (C := C) I
  have e1 := ext_new r nd (.own (s.heap.objs.size + 1))
  have r1 := r.new nd (.own (s.heap.objs.size + 1))
  have nx1 : (upd H s.heap.objs.size (.own (s.heap.objs.size + 1))) (s.heap.objs.size + 1) = none := by rw [upd_ne ne.symm]; exact nx
  have e2 := ext_push r1 nx1 (.ins C s.heap.objs.size [])
  have r2 := r1.push nx1 (c := .ins C []) (o := .ins C s.heap.objs.size []) ⟨_, [], rfl, rfl⟩
  have e12 := e1.trans e2
  have l1 : vs.length = n := ra.length.trans la
  have l2 : zs.length = ks.length := rb.length.trans lb
  have rx : RpUs X.K (m ++ [s.heap.objs.size + 1]) (upd (upd H s.heap.objs.size (.own (s.heap.objs.size + 1))) (s.heap.objs.size + 1) (.ins C s.heap.objs.size [])) (.ref st.length :: as) (.ref (s.heap.objs.size + 1) :: vs) := ⟨_, _, rfl, ⟨_, by rw [← r.len]; simp, rfl⟩, ra.ext e12⟩
  have rg := b.relU (by rw [List.length_cons, la]) lb rx (rb.ext e12)
  refine wpAny_call (make_map I.kIn Mc.makes Mc.init (beq_iff_eq.mp Mc.fn) (codeAny_mono (F.run _ X.stack _ _ { pos := .ref (s.heap.objs.size + 1) :: us, kw := ks.zip ws } (g (.ref (s.heap.objs.size + 1) :: us) ws) (gV (.ref (s.heap.objs.size + 1) :: vs) zs) (fun v H2 => v = .non ∧ Q (.ref (s.heap.objs.size + 1)) H2) (fun c d H' => W c d σ H')
    (hr.make C us _) (Env0.make I2.env0 C us _) (b.to _ _ _ I2.kIn (by rw [List.length_cons, ← l1]; exact congrArg (· + 1) (Vals.length rv).symm) (by rw [← l2]; exact (Vals.length rz).symm)) (b.relV (by rw [List.length_cons, l1]) l2 (.cons rfl rv) rz) ⟨rg.length.trans (b.len (by rw [List.length_cons, la]) lb), _, _, _, r2, rg, ?_⟩) fun r s' hq => ?_))
  · cases e : mf (gU (.ref st.length :: as) bs) (st ++ [.ins C []]) with
    | bad => rw [e] at h; exact h.elim
    | ex c fs st' => rw [e] at h; exact fun d m' H' g1 g2 g3 => h d m' H' g1 (e12.trans g2) g3
    | ok u st' =>
      rw [e] at h
      intro v m' H' g1 g2 g3
      split at h
      · rename_i st'' he
        cases he
        cases g1
        refine ⟨rfl, h (.ref (s.heap.objs.size + 1)) m' H' ⟨_, pre_get g3.pre ?_, rfl⟩ g2 (e12.trans g3)⟩
        rw [← r.len]; simp
      · exact h.elim
      · rename_i he; cases he
      · rename_i he; cases he
  · cases r with
    | error e => exact passAt tk σ pins _ _ e s' I2 hq
    | ok fl =>
      cases fl with
      | next => exact False.elim hq
      | brk => exact False.elim hq
      | cont => exact False.elim hq
      | ret u =>
        obtain ⟨v, H', I3, rv, ev, q3⟩ := Inv.after I2 hq
        subst ev
        exact ⟨rv, .ref (s.heap.objs.size + 1), H', I3, rfl, q3⟩
def fMake (C : Addr) (n m : Nat) (gU : List U → List U → List U) (mf : List U → M U) (f : F (List U × List U)) : F U := bnd f fun p => fun _ st => if p.1.length = n ∧ p.2.length = m then (match mf (gU (.ref st.length :: p.1) p.2) (st ++ [.ins C []]) with
      | .ok (.d .non) st' => .ok (.ref st.length) st'
      | .ok _ _ => .bad
      | .ex c fs st' => .ex c fs st'
      | .bad => .bad) else .bad
theorem d_make {x : Str} {p pos : Pos} {args : List Expr} {kws : List Keyword} {ks : List Str} {k n : Nat} {f C : Addr} {gU : List U → List U → List U} {mf : List U → M U} {fc : F (List U × List U)} (Mc : Mk X.K C f) (Fn : Fd X.prog X.w X.K X.mg X.base f k (n + 1) ks gU mf) (hm : X.mg x = some (.ref C)) (hr : RoomG (k + 1) X.A) (tk : Takes X W) (ha : DCW X W pos args kws ks fc)
    (hg : Gl X x := by rfl) (hdb : (x == ("__debug__" : Str)) = false := by decide) : DE X W (.Call (.Name x p) args kws pos) (fMake C n ks.length gU mf fc) :=
  ⟨⟨fun pins s σ H Q I q => wpAny_Call_Name_kw (ld_glob I hg hm (by
    obtain ⟨m, env, st, r, re, p⟩ := q
    refine ha.run pins s σ H (.ref C) [] _ (fun v H1 => ∃ m1 st1 as bs, Rep X.K m1 st1 H1 ∧ RpUs X.K m1 H1 as v.1 ∧ RpUs X.K m1 H1 bs v.2 ∧ as.length = n ∧ bs.length = ks.length ∧ PU X.K m1 H1 Q (fun c d H' => W c d σ H') (match mf (gU (.ref st1.length :: as) bs) (st1 ++ [.ins C []]) with
      | .ok (.d .non) st' => .ok (.ref st1.length) st'
      | .ok _ _ => .bad
      | .ex c fs st' => .ex c fs st'
      | .bad => .bad)) I Mc.kp (tFs2_step r re p fun a st1 v m1 H1 h1 r1 re1 e1 p1 => ?_) ?_
    · by_cases hl : a.1.length = n ∧ a.2.length = ks.length
      · rw [if_pos hl] at p1
        exact ⟨m1, st1, a.1, a.2, r1, h1.1, h1.2, hl.1, hl.2, p1⟩
      · rw [if_neg hl] at p1; exact p1.elim
    · rintro vs zs us ws H' s' I' rv rz ⟨m1, st1, as, bs, r1, h1, h2, la, lb, p1⟩
      exact run_makeG Mc Fn hr tk I' rv rz r1 h1 h2 la lb p1) hdb)⟩⟩

/-! ### instances -/
/-- an instance's class and fields -/
def insU (st : Store) : U → Option (Addr × List (Str × U))
  | .d (.ins C fs) => some (C, fs.map fun p => (p.1, .d p.2))
  | .ref n => match st[n]? with
    | some (.ins C us) => some (C, us)
    | _ => none
  | _ => none
end
section
variable {K : PySem.W.Frag} {m : List Addr} {H : Hp} {st : Store}
theorem RpUF.ofD : ∀ {ds : List (Str × D)} {vs : List (Str × V)}, RpF K m H ds vs → RpUF K m H (ds.map fun p => (p.1, .d p.2)) vs
  | [], _, h => h
  | (k, d) :: ds, _, ⟨v, r, e, h1, h2⟩ => ⟨v, r, e, h1, RpUF.ofD h2⟩
theorem RpUF.lookup {f : Str} : ∀ {us : List (Str × U)} {vs : List (Str × V)}, RpUF K m H us vs → match us.lookup f with | some u => ∃ v, vs.lookup f = some v ∧ RpU K m H u v | none => vs.lookup f = none
  | [], _, h => by cases h; exact rfl
  | (k, u) :: us, _, ⟨v, r, e, h1, h2⟩ => by
    subst e
    have ih := RpUF.lookup (f := f) h2
    rw [List.lookup_cons, List.lookup_cons]
    by_cases e : (f == k) = true
    · rw [e]; exact ⟨v, rfl, h1⟩
    · rw [Bool.not_eq_true] at e; rw [e]; exact ih
theorem insU_rp (r : Rep K m st H) {u : U} {v : V} {C : Addr} {us : List (Str × U)} (h : RpU K m H u v) (e : insU st u = some (C, us)) : ∃ a dx vs, v = .ref a ∧ H a = some (.ins C dx vs) ∧ RpUF K m H us vs := by
  cases u with
  | ref n =>
    obtain ⟨a, ha, rfl⟩ := h
    simp only [insU] at e
    split at e
    · rename_i C' us' hs
      cases e
      obtain ⟨ho, h1, dx, vs, e2, h2⟩ := r.cell n _ a hs ha
      subst e2
      exact ⟨a, dx, vs, rfl, h1, h2⟩
    · cases e
  | d x =>
    cases x with
    | ins C' fs =>
      obtain ⟨a, dx, vs, rfl, t, q⟩ := h
      cases e
      exact ⟨a, dx, vs, rfl, t.2, RpUF.ofD q⟩
    | _ => cases e
end
section
variable {X : Cx} {W : WX} {o e : Expr} {fo fe : F U} {pos apos cpos : Pos} {f : Str}
def fMeth (C : Addr) (nm : Str) (n m : Nat) (gU : List U → List U → List U) (mf : List U → M U) (fo : F U) (fc : F (List U × List U)) : F U := bnd fo fun u => fun env st => match insU st u with
  | some (C', us) => if C' = C ∧ us.lookup nm = none then bnd fc (fun p => fun _ st => if p.1.length = n ∧ p.2.length = m then mf (gU (u :: p.1) p.2) st else .bad) env st else .bad
  | none => .bad
/-- o.m(..) -/
theorem d_meth {nm : Str} {args : List Expr} {kws : List Keyword} {ks : List Str} {k n : Nat} {g C : Addr} {gU : List U → List U → List U} {mf : List U → M U} {fc : F (List U × List U)} {pl : Sem Bool} (ho : DE X W o fo) (hC : Cls X.K C) (hM : Meth X.K C nm g) (Fn : Fd X.prog X.w X.K X.mg X.base g k (n + 1) ks gU mf) (hr : RoomG k X.A) (tk : Takes X W) (ha : DCW X W cpos args kws ks fc)
    (hev : eval (.Call (.Attribute o nm apos) args kws cpos) X.env = (do
          let ov ← eval o X.env
          standAt (Pos.atName apos)
          let __x ← holding [ov] (getMethod ov nm pl)
          match __x with
            | (f, first) => callWith cpos f first (backTo cpos (starEach args X.env)) (backToKw cpos (keywordEach kws X.env))) := by rfl) :
    DE X W (.Call (.Attribute o nm apos) args kws cpos) (fMeth C nm n ks.length gU mf fo fc) :=
  ⟨⟨fun pins s σ H Q I q => PySem.W.methodCall_KW (by
    obtain ⟨m, env, st, r, re, p⟩ := q
    refine thn (ho.pe.run pins s σ H (fun x H1 => ∃ a dx vs, x = .ref a ∧ H1 a = some (.ins C dx vs) ∧ vs.lookup nm = none ∧ tFs2 X.K W fc σ H1 fun v H2 => ∃ m2 st2 u as bs, Rep X.K m2 st2 H2 ∧ RpU X.K m2 H2 u x ∧ RpUs X.K m2 H2 as v.1 ∧ RpUs X.K m2 H2 bs v.2 ∧ as.length = n ∧ bs.length = ks.length ∧ PU X.K m2 H2 Q (fun c d H' => W c d σ H') (mf (gU (u :: as) bs) st2)) I (tF_step r re p fun u st1 v m1 H1 h1 r1 re1 e1 p1 => ?_)) ?_
    · split at p1
      · rename_i C' us hi
        split at p1
        · rename_i hc
          obtain ⟨a, dx, vs, rfl, ha, rf⟩ := insU_rp r1 h1 hi
          have hlk := rf.lookup (f := nm)
          rw [hc.2] at hlk
          rw [hc.1] at ha
          refine ⟨a, dx, vs, rfl, ha, hlk, tFs2_step r1 re1 p1 fun b st2 w m2 H2 h2 r2 re2 e2 p2 => ?_⟩
          by_cases hl : b.1.length = n ∧ b.2.length = ks.length
          · rw [if_pos hl] at p2
            exact ⟨m2, st2, u, b.1, b.2, r2, h1.ext e2, h2.1, h2.2, hl.1, hl.2, p2⟩
          · rw [if_neg hl] at p2; exact p2.elim
        · exact p1.elim
      · exact p1.elim
    · rintro ov s1 ⟨x, H1, I1, rx, a, dx, vs, rfl, hins, hlk, ht⟩
      cases rx
      refine getmeth_ok I1 hins hC hM hlk ?_
      refine ha.run pins s1 σ H1 (.ref g) [.ref a] _ _ I1 hM.kp ht ?_
      rintro vs' zs us ws H' s' I' rv rz ⟨m2, st2, u, as, bs, r2, ru, h1, h2, la, lb, p2⟩
      exact run_g (vs := .ref a :: vs') (as := u :: as) Fn hr tk I' (.cons rfl rv) rz r2 ⟨_, _, rfl, ru, h1⟩ h2 (by rw [List.length_cons, la]) lb p2) hev⟩⟩
/-! ### fields -/
def Flds (K : PySem.W.Frag) (cs : List Addr) (f : Str) : Prop := ∀ C ∈ cs, Cls K C ∧ NoAttr K C f
def oFld (cs : List Addr) (f : Str) (u : U) (st : Store) : Option U := match insU st u with
  | some (C, us) => if C ∈ cs then us.lookup f else none
  | none => none
def fFld (cs : List Addr) (f : Str) (fo : F U) : F U := f1 (oFld cs f) fo
theorem d_fld {cs : List Addr} (ho : DE X W o fo) (hc : Flds X.K cs f) (hb : attributeBase o f X.env (eval o X.env) = eval o X.env := by rfl) : DE X W (.Attribute o f pos) (fFld cs f fo) :=
  ⟨PE.imp (pe_fld ho.pe hb) fun σ H Q ⟨m, env, st, r, re, p⟩ => tF_step (f := fo) (g := fun a => fun _ st => .of st (oFld cs f a st)) (rel := RpU X.K) (Q := Q) r re p fun u st1 v m1 H1 h1 r1 re1 e1 p1 => by
    cases e : oFld cs f u st1 with
    | none => rw [e] at p1; exact False.elim p1
    | some w =>
      rw [e] at p1
      unfold oFld at e
      split at e
      · rename_i C us hi
        split at e
        · rename_i hC
          obtain ⟨a, dx, vs, rfl, ha, rf⟩ := insU_rp r1 h1 hi
          have hlk := rf.lookup (f := f)
          rw [e] at hlk
          obtain ⟨x, hx, rx⟩ := hlk
          exact ⟨a, C, dx, vs, x, rfl, ha, (hc C hC).1, (hc C hC).2, hx, p1 x m1 H1 rx r1 (Ext.refl _ _)⟩
        · cases e
      · cases e⟩
def putFU (f : Str) (u : U) : List (Str × U) → List (Str × U)
  | [] => [(f, u)]
  | (k, w) :: r => if k = f then (k, u) :: r else (k, w) :: putFU f u r
theorem RpUF.put {K : PySem.W.Frag} {m : List Addr} {H : Hp} {f : Str} {w : U} {x : V} (hw : RpU K m H w x) : ∀ {us : List (Str × U)} {vs : List (Str × V)}, RpUF K m H us vs → RpUF K m H (putFU f w us) (putF f x vs)
  | [], _, h => by rw [show _ = [] from h]; exact ⟨x, [], rfl, hw, rfl⟩
  | (k, u) :: us, _, ⟨v, r, e, h1, h2⟩ => by
    subst e
    unfold putFU putF
    by_cases hk : k = f
    · rw [if_pos hk, if_pos hk]; exact ⟨x, r, rfl, hw, h2⟩
    · rw [if_neg hk, if_neg hk]; exact ⟨v, _, rfl, h1, RpUF.put hw h2⟩
theorem RpUF.length {K : PySem.W.Frag} {m : List Addr} {H : Hp} : ∀ {us : List (Str × U)} {vs : List (Str × V)}, RpUF K m H us vs → vs.length = us.length
  | [], _, h => by rw [show _ = [] from h]; rfl
  | (k, u) :: us, _, ⟨v, r, e, h1, h2⟩ => by rw [e, List.length_cons, List.length_cons, RpUF.length h2]
def setFld (cs : List Addr) (f : Str) (u o : U) (st : Store) : Option Store := match o with
  | .ref n => match st[n]? with
    | some (.ins C us) => if C ∈ cs ∧ us.length < 1000 then some (st.set n (.ins C (putFU f u us))) else none
    | _ => none
  | _ => none
def sFldS (cs : List Addr) (f : Str) (fo fe : F U) : G := bndS fe fun u => bndS fo fun o => fun env st => match setFld cs f u o st with
  | some st' => .ok env .nx st'
  | none => .bad
theorem ds_fld {cs : List Addr} {pos' : Pos} (ho : DE X W o fo) (he : DE X W e fe) (hc : Flds X.K cs f) (hs : swapsWith e (some (.Attribute o f pos')) pos.line X.env = pure false := by rfl) : DS X W (.Assign [.Attribute o f pos'] e pos) (sFldS cs f fo fe) :=
  ⟨PS.imp (ps_fld ho.pe he.pe hs) fun D σ H ⟨m, env, st, r, re, p⟩ => sF_step r re p fun u st1 v m1 H1 h1 r1 re1 e1 p1 => sF_step r1 re1 p1 fun w st2 x m2 H2 h2 r2 re2 e2 p2 => by
    cases q : setFld cs f u w st2 with
    | none => rw [q] at p2; exact False.elim p2
    | some st3 =>
      rw [q] at p2
      unfold setFld at q
      split at q
      · rename_i n
        split at q
        · rename_i C us hs
          split at q
          · rename_i hC
            cases q
            obtain ⟨a, ha, rfl⟩ := h2
            obtain ⟨ho, g1, dx, vs, g2, g3⟩ := r2.cell n _ a hs ha
            subst g2
            have ma : a ∈ m2 := List.mem_of_getElem? ha
            have ew := ext_write (H := H2) ma (.ins C dx (putF f v vs))
            exact ⟨a, C, dx, vs, rfl, g1, (hc C hC.1).1, (hc C hC.1).2, by rw [g3.length]; exact hC.2, p2 σ m2 _ (re2.ext ew) (r2.write ha ⟨dx, _, rfl, (g3.put (h1.ext e2)).ext ew⟩) ew⟩
          · cases q
        · cases q
      · cases q⟩
/-! ### what is handed back, frozen -/
def fWr (w : Wr) (f : F U) : F U := fun env st => match f env st with
  | .ok u st' => w st.length u st'
  | r => r
theorem d_wr {w : Wr} (hw : WOk w) (he : DE X W e fe) : DE X W e (fWr w fe) := ⟨PE.imp he.pe fun σ H Q ⟨m, env, st, r, re, p⟩ => ⟨m, env, st, r, re, by
  unfold fWr at p
  cases e : fe env st with
  | bad => rw [e] at p; exact p
  | ex c fs st' => rw [e] at p; exact p
  | ok u st' =>
    rw [e] at p
    simp only at p
    intro v m' H' h1 h2 h3
    have hk : st.length ≤ m'.length := by rw [← r.len]; exact h3.pre.length_le
    have := hw.ok X.K st.length u st' m' H' v h2 h1 hk
    cases q : w st.length u st' with
    | bad => rw [q] at p; exact p.elim
    | ex c fs s => rw [q] at this; exact this.elim
    | ok u' s =>
      rw [q] at p this
      obtain ⟨m2, g1, g2, g3, g4⟩ := this
      refine p v m2 H' g2 g1 ⟨?_, fun a o n h nt => ⟨(h3.stay a o n h nt).1, fun z => (h3.stay a o n h nt).2 (g4 a z)⟩⟩
      obtain ⟨t, ht⟩ := h3.pre
      have : m'.take st.length = m := by rw [← ht, ← r.len]; simp
      rw [this] at g3
      exact g3⟩⟩
end
end VL

/-! VLm: dicts, f-strings, augmented stores. -/
namespace VL
open PySem PySem.Spec PyProof.Rows L2

/-! ### dict(pairs), {} -/
def putD (kvs : List (Key × D)) (k : Key) (v : D) : List (Key × D) :=
  if (kvs.any fun kv => decide (kv.1 = k)) = true then kvs.map fun kv => if kv.1 = k then (kv.1, v) else kv else kvs ++ [(k, v)]
def mergeD (kvs more : List (Key × D)) : List (Key × D) := more.foldl (fun acc kv => putD acc kv.1 kv.2) kvs
def pairD : U → Option (Key × D)
  | .d (.tup [k, v]) => (keyD (.d k)).map fun k => (k, v)
  | _ => none
def oDict : List U → Store → Option U := fun us st => match us with
  | [u] => match getL st u with
    | some us => (allM pairD us).map fun kvs => .d (.dct (mergeD [] kvs))
    | none => none
  | _ => none
section
variable {K : PySem.W.Frag} {m : List Addr} {H : Hp} {st : Store}
theorem RpK.any {k : Key} : ∀ {us : List (Key × D)} {vs : List (Key × V)}, RpK K m H us vs → (us.any fun kv => decide (kv.1 = k)) = (vs.any fun kv => decide (kv.1 = k))
  | [], _, h => by rw [show _ = [] from h]; rfl
  | (k', u) :: us, _, ⟨v, r, e, h1, h2⟩ => by subst e; rw [List.any_cons, List.any_cons, RpK.any h2]
theorem RpK.mapP {k : Key} {w : D} {x : V} (hw : RpD K m H w x) : ∀ {us : List (Key × D)} {vs : List (Key × V)}, RpK K m H us vs → RpK K m H (us.map fun kv => if kv.1 = k then (kv.1, w) else kv) (vs.map fun kv => if kv.1 = k then (kv.1, x) else kv)
  | [], _, h => by rw [show _ = [] from h]; rfl
  | (k', u) :: us, _, ⟨v, r, e, h1, h2⟩ => by
    subst e
    rw [List.map_cons, List.map_cons]
    by_cases hk : k' = k
    · subst hk; simp only [if_true]; exact ⟨x, _, rfl, hw, RpK.mapP hw h2⟩
    · simp only [hk, if_false]; exact ⟨v, _, rfl, h1, RpK.mapP hw h2⟩
theorem RpK.snoc {k : Key} {w : D} {x : V} (hw : RpD K m H w x) : ∀ {us : List (Key × D)} {vs : List (Key × V)}, RpK K m H us vs → RpK K m H (us ++ [(k, w)]) (vs ++ [(k, x)])
  | [], _, h => by rw [show _ = [] from h]; exact ⟨x, [], rfl, hw, rfl⟩
  | (k', u) :: us, _, ⟨v, r, e, h1, h2⟩ => by subst e; exact ⟨v, _, rfl, h1, RpK.snoc hw h2⟩
theorem RpK.put {us : List (Key × D)} {vs : List (Key × V)} (h : RpK K m H us vs) (k : Key) {w : D} {x : V} (hw : RpD K m H w x) : RpK K m H (putD us k w) (putK vs k x) := by
  unfold putD putK
  rw [h.any]
  split
  · exact h.mapP hw
  · exact h.snoc hw
theorem RpK.merge : ∀ {more : List (Key × D)} {mv : List (Key × V)} {us : List (Key × D)} {vs : List (Key × V)}, RpK K m H us vs → RpK K m H more mv → RpK K m H (mergeD us more) (mergeK vs mv)
  | [], _, _, _, h, q => by rw [show _ = [] from q]; exact h
  | (k, d) :: more, _, us, vs, h, ⟨v, r, e, h1, h2⟩ => by
    subst e
    show RpK K m H (mergeD (putD us k d) more) (mergeK (putK vs k v) r)
    exact RpK.merge (h.put k h1) h2
theorem pairs_rp (r : Rep K m st H) : ∀ {us : List U} {vs : List V} {kvs : List (Key × D)}, RpUs K m H us vs → allM pairD us = some kvs → ∃ ps mv, vs = ps.map V.ref ∧ Paired (fun p (kv : Key × V) => SqT K H p [kV kv.1, kv.2]) ps mv ∧ RpK K m H kvs mv
  | [], vs, kvs, h, e => by cases e; exact ⟨[], [], h, .nil, rfl⟩
  | u :: us, vs, kvs, ⟨v, t, ev, h1, h2⟩, e => by
    subst ev
    unfold allM at e
    split at e
    · rename_i b bs q1 q2
      cases e
      obtain ⟨ps, mv, rfl, g2, g3⟩ := pairs_rp r h2 q2
      unfold pairD at q1
      split at q1
      · rename_i k d
        obtain ⟨a, ws, rfl, t, w1, _, rfl, i1, w2, _, rfl, i2, rfl⟩ := h1
        cases hk : keyD (.d k) with
        | none => rw [hk] at q1; cases q1
        | some kk =>
          rw [hk] at q1; cases q1
          have := keyD_rp (u := .d k) i1 hk
          subst this
          exact ⟨a :: ps, (kk, w2) :: mv, rfl, .cons t.sq g2, w2, mv, rfl, i2, g3⟩
      · cases q1
    · cases e
theorem new_dct (r : Rep K m st H) {p : Addr} (np : H p = none) {ds : List (Key × D)} {vs : List (Key × V)} (h : RpK K m H ds vs) : RpU K m (upd H p (.dK vs)) (.d (.dct ds)) (.ref p) :=
  ⟨p, vs, rfl, ⟨r.fresh np, .inl upd_same⟩, h.ext (ext_new r np _)⟩
end
section
variable {X : Cx} {W : WX}
theorem cr_dict (hc : X.calm = true) : CallR X (.type "dict") (rM X.K (pu oDict)) := by
  refine CallR.imp (call_dictP hc) fun vs H Q ⟨m, st, us, r, ru, p⟩ => ?_
  obtain ⟨u, e, p⟩ := p.pu
  unfold oDict at e
  split at e
  · obtain ⟨v, rfl, hv⟩ := ru.one
    split at e
    · rename_i us hl
      obtain ⟨a, ws, rfl, t, q⟩ := getL_rp r hv hl
      cases q2 : allM pairD us with
      | none => rw [q2] at e; cases e
      | some kvs =>
        rw [q2] at e; cases e
        obtain ⟨ps, mv, rfl, g1, g2⟩ := pairs_rp r q q2
        exact ⟨a, ps, mv, rfl, t, g1, fun l hl => p _ m _ (new_dct r hl (RpK.merge (us := []) (vs := []) rfl g2)) (r.new hl _) (ext_new r hl _)⟩
    · cases e
  · cases e
def fDnew : F U := fun _ st => .ok (.ref st.length) (st ++ [.dct []])
theorem d_dnew {pos : Pos} : DE X W (.Dict [] [] pos) fDnew := ⟨PE.imp pe_dnewK fun σ H Q ⟨m, env, st, r, re, p⟩ q hq => by
  refine p _ (m ++ [q]) _ ⟨q, by rw [← r.len]; simp, rfl⟩ (r.push hq ⟨[], rfl, rfl⟩) (ext_push r hq _)⟩
end

/-! ### get, setdefault -/
def dGet (def_ : Option U) (kvs : List (Key × U)) (k : Key) : U := match lookK kvs k with
  | some u => u
  | none => def_.getD (.d .non)
def fGet1 (fo fk : F U) : F U := bnd fo fun o => fun env st => if (VL.getD st o).isSome = true then bnd fk (fun k => fun _ st => match VL.getD st o, keyD k with
  | some kvs, some k => .ok (dGet none kvs k) st
  | _, _ => .bad) env st else .bad
def fGet2 (fo fk fx : F U) : F U := bnd fo fun o => fun env st => if (VL.getD st o).isSome = true then bnd fk (fun k => bnd fx fun x => fun _ st => match VL.getD st o, keyD k with
  | some kvs, some k => .ok (dGet (some x) kvs k) st
  | _, _ => .bad) env st else .bad
def fSetd (fo fk fx : F U) : F U := bnd fo fun o => fun env st => if (VL.getD st o).isSome = true then bnd fk (fun k => bnd fx fun x => fun _ st => match dctC st o, keyD k with
  | some (n, kvs), some k => if kvs.length < sizeLine then (match lookK kvs k with
    | some u => .ok u st
    | none => .ok x (st.set n (.dct (putU kvs k x)))) else .bad
  | _, _ => .bad) env st else .bad
section
variable {X : Cx} {W : WX} {o e f : Expr} {fo fk fx : F U} {apos cpos : Pos}
theorem getD_isD {K : PySem.W.Frag} {m : List Addr} {H : Hp} {st : Store} (r : Rep K m st H) {u : U} {v : V} (h : RpU K m H u v) (e : (VL.getD st u).isSome = true) : ∃ a, v = .ref a ∧ IsD H a := by
  obtain ⟨us, hus⟩ := Option.isSome_iff_exists.mp e
  obtain ⟨a, vs, rfl, t, q⟩ := getD_rp r h hus
  exact ⟨a, rfl, .inl ⟨vs, t⟩⟩
theorem dget_rp {K : PySem.W.Frag} {m : List Addr} {H : Hp} {st : Store} (r : Rep K m st H) {u ku : U} {a : Addr} {kv : V} {kvs : List (Key × U)} {k : Key} (h : RpU K m H u (.ref a)) (hk : RpU K m H ku kv) (e1 : VL.getD st u = some kvs) (e2 : keyD ku = some k) :
    ∃ ov, DGet H a kv ov ∧ (match lookK kvs k with | some w => ∃ v, ov = some v ∧ RpU K m H w v | none => ov = none) := by
  obtain ⟨b, vs, eb, t, q⟩ := getD_rp r h e1
  cases eb
  have := keyD_rp hk e2
  subst this
  have l := lookK_rp (k := k) q
  refine ⟨valV vs k, .inl ⟨vs, k, t, rfl, rfl⟩, l⟩
theorem d_get1 (hu : X.A.units + 1 < cLine) (ho : DE X W o fo) (hk : DE X W e fk) (hm : M1 X o "get" apos e cpos) : DE X W (.Call (.Attribute o "get" apos) [e] [] cpos) (fGet1 fo fk) :=
  ⟨PE.imp (pe_dget1 hu ho.pe hk.pe hm) fun σ H Q ⟨m, env, st, r, re, p⟩ => tF_step r re p fun u st1 v m1 H1 h1 r1 re1 e1 p1 => by
    by_cases hd : (VL.getD st1 u).isSome = true
    · simp only [hd, if_true] at p1
      obtain ⟨a, rfl, ia⟩ := getD_isD r1 h1 hd
      refine ⟨a, rfl, ia, tF_step r1 re1 p1 fun k st2 kv m2 H2 h2 r2 re2 e2 p2 => ?_⟩
      split at p2
      · rename_i kvs kk q1 q2
        obtain ⟨ov, g1, g2⟩ := dget_rp r2 (h1.ext e2) h2 q1 q2
        refine ⟨ov, g1, ?_⟩
        unfold dGet at p2
        cases q : lookK kvs kk with
        | none => rw [q] at g2 p2; subst g2; exact p2 _ m2 H2 rfl r2 (Ext.refl _ _)
        | some w => rw [q] at g2 p2; obtain ⟨v, rfl, rv⟩ := g2; exact p2 _ m2 H2 rv r2 (Ext.refl _ _)
      · exact p2.elim
    · rw [if_neg hd] at p1; exact p1.elim⟩
theorem d_get2 (hu : X.A.units + 1 < cLine) (ho : DE X W o fo) (hk : DE X W e fk) (hx : DE X W f fx) (hm : M2 X o "get" apos e f cpos) : DE X W (.Call (.Attribute o "get" apos) [e, f] [] cpos) (fGet2 fo fk fx) :=
  ⟨PE.imp (pe_dget2 hu ho.pe hk.pe hx.pe hm) fun σ H Q ⟨m, env, st, r, re, p⟩ => tF_step r re p fun u st1 v m1 H1 h1 r1 re1 e1 p1 => by
    by_cases hd : (VL.getD st1 u).isSome = true
    · simp only [hd, if_true] at p1
      obtain ⟨a, rfl, ia⟩ := getD_isD r1 h1 hd
      refine ⟨a, rfl, ia, tF_step r1 re1 p1 fun k st2 kv m2 H2 h2 r2 re2 e2 p2 => tF_step r2 re2 p2 fun x st3 xv m3 H3 h3 r3 re3 e3 p3 => ?_⟩
      split at p3
      · rename_i kvs kk q1 q2
        obtain ⟨ov, g1, g2⟩ := dget_rp r3 (h1.ext (e2.trans e3)) (h2.ext e3) q1 q2
        refine ⟨ov, g1, ?_⟩
        unfold dGet at p3
        cases q : lookK kvs kk with
        | none => rw [q] at g2 p3; subst g2; exact p3 _ m3 H3 h3 r3 (Ext.refl _ _)
        | some w => rw [q] at g2 p3; obtain ⟨v, rfl, rv⟩ := g2; exact p3 _ m3 H3 rv r3 (Ext.refl _ _)
      · exact p3.elim
    · rw [if_neg hd] at p1; exact p1.elim⟩
theorem d_setd (ho : DE X W o fo) (hk : DE X W e fk) (hx : DE X W f fx) (hm : M2 X o "setdefault" apos e f cpos) : DE X W (.Call (.Attribute o "setdefault" apos) [e, f] [] cpos) (fSetd fo fk fx) :=
  ⟨PE.imp (pe_dsetd ho.pe hk.pe hx.pe hm) fun σ H Q ⟨m, env, st, r, re, p⟩ => tF_step r re p fun u st1 v m1 H1 h1 r1 re1 e1 p1 => by
    by_cases hd : (VL.getD st1 u).isSome = true
    · simp only [hd, if_true] at p1
      obtain ⟨a, rfl, ia⟩ := getD_isD r1 h1 hd
      refine ⟨a, rfl, ia, tF_step r1 re1 p1 fun k st2 kv m2 H2 h2 r2 re2 e2 p2 => tF_step r2 re2 p2 fun x st3 xv m3 H3 h3 r3 re3 e3 p3 => ?_⟩
      split at p3
      · rename_i n kvs kk q1 q2
        split at p3
        · rename_i hz
          obtain ⟨b, vs, eb, g1, g2, g3⟩ := dctC_rp r3 (h1.ext (e2.trans e3)) q1
          cases eb
          have := keyD_rp (h2.ext e3) q2
          subst this
          have l := lookK_rp (k := kk) g2
          refine ⟨vs, kk, g1, rfl, by rw [g2.length]; exact hz, fun w hw => ?_, fun hw => ?_⟩
          · cases q : lookK kvs kk with
            | none => rw [q] at l; rw [l] at hw; cases hw
            | some y =>
              rw [q] at l p3
              obtain ⟨w', hw', rw'⟩ := l
              rw [hw'] at hw; cases hw
              exact p3 _ m3 H3 rw' r3 (Ext.refl _ _)
          · cases q : lookK kvs kk with
            | some y => rw [q] at l; obtain ⟨w', hw', rw'⟩ := l; rw [hw'] at hw; cases hw
            | none =>
              rw [q] at p3
              obtain ⟨i1, i2⟩ := g3 _ _ (g2.put kk h3)
              exact p3 _ m3 _ (h3.ext i2) i1 i2
        · exact p3.elim
      · exact p3.elim
    · rw [if_neg hd] at p1; exact p1.elim⟩
end

/-! ### f-strings -/
def oFmt : P1 := fun u _ => match u with
  | .d (.str y) => if y.length ≤ sizeLine then some (.d (.str y)) else none
  | .d (.int i) => if i.natAbs.log2 < 1920 then some (.d (.str (Str.ofString (toString i)))) else none
  | _ => none
def fJs : List (F U) → Str → F U
  | [], acc => fun _ st => .ok (.d (.str acc)) st
  | f :: fs, acc => bnd f fun u => match u with
    | .d (.str y) => if (acc ++ y).length ≤ sizeLine then fJs fs (acc ++ y) else fun _ _ => .bad
    | _ => fun _ _ => .bad
structure DJ (X : Cx) (W : WX) (es : List Expr) (fs : List (F U)) : Prop where
  pj : PJ X es (fs.map (tF X.K W))
section
variable {X : Cx} {W : WX} {e e2 : Expr} {es : List Expr} {fe : F U} {fs : List (F U)} {pos : Pos}
theorem d_fmt (he : DE X W e fe) : DE X W (.FormattedValue e (-1) none pos) (f1 oFmt fe) := ⟨PE.imp (pe_fmt he.pe) fun σ H Q ⟨m, env, st, r, re, p⟩ =>
  tF_step (f := fe) (g := fun a => fun _ st => .of st (oFmt a st)) (rel := RpU X.K) (Q := Q) r re p fun u st1 v m1 H1 h1 r1 re1 e1 p1 => by
    cases q : oFmt u st1 with
    | none => rw [q] at p1; exact False.elim p1
    | some w =>
      rw [q] at p1
      unfold oFmt at q
      split at q
      · split at q
        · rename_i hz; cases q; cases h1; exact .inl ⟨_, rfl, hz, p1 _ m1 H1 rfl r1 (Ext.refl _ _)⟩
        · cases q
      · split at q
        · rename_i hz; cases q; cases h1; exact .inr ⟨_, rfl, hz, p1 _ m1 H1 rfl r1 (Ext.refl _ _)⟩
        · cases q
      · cases q⟩
theorem dj_nil : DJ X W [] [] := ⟨.nil⟩
theorem dj_cons (he : DE X W e fe) (hs : DJ X W es fs) : DJ X W (e :: es) (fe :: fs) := ⟨.cons he.pe hs.pj⟩
theorem t_js : ∀ (fs : List (F U)) (acc : Str) {σ : L2.St} {H : Hp} {Q : VK}, tF X.K W (fJs fs acc) σ H Q → tJs (fs.map (tF X.K W)) acc σ H fun out H1 => Q (.str out) H1
  | [], acc, σ, H, Q, ⟨m, env, st, r, re, p⟩ => p _ m H rfl r (Ext.refl _ _)
  | f :: fs, acc, σ, H, Q, ⟨m, env, st, r, re, p⟩ => tF_step r re p fun u st1 v m1 H1 h1 r1 re1 e1 p1 => by
    split at p1
    · rename_i y
      cases h1
      split at p1
      · rename_i hz
        exact ⟨y, rfl, hz, t_js fs _ ⟨m1, env, st1, r1, re1, p1⟩⟩
      · exact p1.elim
    · exact p1.elim
theorem d_joined (h : DJ X W (e :: e2 :: es) fs) : DE X W (.JoinedStr (e :: e2 :: es) pos) (fJs fs Str.empty) := ⟨PE.imp (pe_joined h.pj) fun σ H Q q => t_js fs _ q⟩
theorem d_joined1 (h : DE X W e fe) : DE X W (.JoinedStr [e] pos) fe := ⟨pe_joined1 h.pe⟩
end

/-! ### x += e -/
def augK (i : Nat) (g : P2) (x y : U) : G := fun env st => match g x y st with
  | some u => .ok (env.set i (some u)) .nx st
  | none => .bad
def sAug (i : Nat) (g : P2) (f : F U) : G := bndS (vVar i) fun x => bndS f (augK i g x)
def oIadd : P2 := fun a b _ => match a, b with
  | .d (.int i), .d (.int j) => some (.d (.int (i + j)))
  | _, _ => none
theorem ip_add' {X : Cx} : PIp X .Add (rG X.K oIadd) := fun pins s σ H x y v u Q I rx ry h => by
  obtain ⟨m, st, a, b, r, ha, hb, p⟩ := h
  unfold oIadd at p
  split at p
  · rename_i i j
    obtain rfl : x = .int i := ha
    obtain rfl : y = .int j := hb
    exact ip_add pins s σ H _ _ v u Q I rx ry ⟨i, j, rfl, rfl, pv_flat r p rfl⟩
  · exact p.elim
theorem ds_aug {X : Cx} {W : WX} {g : P2} {e : Expr} {fe : F U} {op : Operator} {pos pos' : Pos} {x : Str} (i : Nat) (hN : X.N.Nodup) (ho : PIp X op (rG X.K g)) (he : DE X W e fe) (hi : X.N[i]? = some x := by rfl) (hx : Loc X.env.scope x := by first | exact Or.inl rfl | exact Or.inr rfl)
    (hf : X.fn x = true ∨ X.env.scope.names.lookup x = some .local := by first | exact .inl rfl | exact .inr rfl | assumption) : DS X W (.AugAssign (.Name x pos') op e pos) (sAug i g fe) :=
  ⟨PS.imp (ps_aug hN hi hx he.pe ho hf) fun D σ H ⟨m, env, st, r, re, p⟩ => by
    unfold sAug at p
    rw [bndS] at p
    unfold vVar at p
    split at p
    · rename_i a st1 he
      split at he
      · rename_i u hu
        cases he
        obtain ⟨v, h1, h2⟩ := re.at' i _ hu
        refine ⟨v, h1, sF_step r re p fun b st2 w m2 H2 g1 r2 re2 e2 p2 => ⟨m2, st2, _, b, r2, h2.ext e2, g1, ?_⟩⟩
        unfold augK at p2
        cases q : g _ b st2 with
        | none => rw [q] at p2; exact False.elim p2
        | some z => rw [q] at p2; exact fun zv H3 g3 r3 e3 => p2 _ m2 H3 ((re2.ext e3).set i g3) r3 e3
      · cases he
    · rename_i he; split at he <;> cases he
    · exact p.elim⟩
end VL

/-! VLn: small helpers for printed derivations. -/
namespace VL
open PySem PySem.Spec PyProof.Rows L2

theorem bt_len : bootBuiltins "len" = some (.builtin "len") := by decide +kernel
theorem bt_abs : bootBuiltins "abs" = some (.builtin "abs") := by decide +kernel
theorem bt_min : bootBuiltins "min" = some (.builtin "min") := by decide +kernel
theorem bt_max : bootBuiltins "max" = some (.builtin "max") := by decide +kernel
theorem bt_all : bootBuiltins "all" = some (.builtin "all") := by decide +kernel
theorem bt_any : bootBuiltins "any" = some (.builtin "any") := by decide +kernel
theorem bt_isinstance : bootBuiltins "isinstance" = some (.builtin "isinstance") := by decide +kernel
theorem bt_sorted : bootBuiltins "sorted" = some (.builtin "sorted") := by decide +kernel
theorem bt_repr : bootBuiltins "repr" = some (.builtin "repr") := by decide +kernel
theorem bt_int : bootBuiltins "int" = some (.type "int") := by decide +kernel
theorem bt_str : bootBuiltins "str" = some (.type "str") := by decide +kernel
theorem bt_list : bootBuiltins "list" = some (.type "list") := by decide +kernel
theorem bt_tuple : bootBuiltins "tuple" = some (.type "tuple") := by decide +kernel
theorem bt_dict : bootBuiltins "dict" = some (.type "dict") := by decide +kernel
theorem bt_bool : bootBuiltins "bool" = some (.type "bool") := by decide +kernel

theorem RoomG.u1 {k : Nat} {A : Around} (h : RoomG k A) : A.units + 1 < cLine := by have := h.rm.un; omega
theorem RoomG.u64 {k : Nat} {A : Around} (h : RoomG k A) : A.units + 64 < cLine := by have := h.rm.un; omega
theorem RoomG.u65 {k : Nat} {A : Around} (h : RoomG k A) : A.units + 65 < cLine := by have := h.rm.un; omega

section
variable {X : Cx} {W : WX}
/-- a module's text, number -/
def GStr (mg : Str → Option Value) (x y : Str) : Prop := ∃ u, mg x = some u ∧ RelV (.str y) u
def GInt (mg : Str → Option Value) (x : Str) (i : Int) : Prop := ∃ u, mg x = some u ∧ RelV (.int i) u
theorem d_gstr {x y : Str} {pos : Pos} (h : GStr X.mg x y) (hg : Gl X x := by rfl) (hd : (x == ("__debug__" : Str)) = false := by decide) : DE X W (.Name x pos) (vC (.str y)) := by
  obtain ⟨u, h1, h2⟩ := h
  exact d_glob (v := .str y) h1 h2 (fun _ _ => rfl) hg hd
theorem d_gint {x : Str} {y : Int} {pos : Pos} (h : GInt X.mg x y) (hg : Gl X x := by rfl) (hd : (x == ("__debug__" : Str)) = false := by decide) : DE X W (.Name x pos) (vC (.int y)) := by
  obtain ⟨u, h1, h2⟩ := h
  exact d_glob (v := .int y) h1 h2 (fun _ _ => rfl) hg hd
theorem d_gobj {x : Str} {a : Addr} {pos : Pos} (h : X.mg x = some (.ref a)) (hg : Gl X x := by rfl) (hd : (x == ("__debug__" : Str)) = false := by decide) : DE X W (.Name x pos) (vC (.obj a)) :=
  d_glob (v := .ref a) h rfl (fun _ _ => rfl) hg hd

def TgsNx (gs : List U → G) : Prop := ∀ us env st, match gs us env st with
  | .ok _ .nx _ => True
  | .bad => True
  | _ => False
theorem nxs_nil : TgsNx tgNil := fun us env st => by cases us <;> trivial
theorem nxs_cons {g : U → G} {gs : List U → G} (h : TgNx g) (h2 : TgsNx gs) : TgsNx (tgCons g gs) := fun us env st => by
  cases us with
  | nil => trivial
  | cons u us =>
    show match sSeq (g u) (gs us) env st with
      | .ok _ .nx _ => True
      | .bad => True
      | _ => False
    unfold sSeq
    have := h u env st
    cases e : g u env st with
    | bad => trivial
    | ex c fs env1 st1 => rw [e] at this; exact this.elim
    | ok env1 f st1 =>
      rw [e] at this
      cases f with
      | nx => exact h2 us env1 st1
      | rt u => exact this.elim
      | bk => exact this.elim
      | ct => exact this.elim
theorem nx_tup {n : Nat} {gs : List U → G} (h : TgsNx gs) : TgNx (tgT n gs) := fun u env st => by
  unfold tgT
  cases unp st u with
  | none => trivial
  | some us =>
    simp only
    by_cases hz : us.length = n
    · rw [if_pos hz]; exact h us env st
    · rw [if_neg hz]; trivial

/-- a, b, c = x, y, z -/
def sPar3 (i j l : Nat) (fs : F (List U)) : G := bndS fs fun us => fun env st => match us with
  | [u, w, z] => .ok (((env.set i (some u)).set j (some w)).set l (some z)) .nx st
  | _ => .bad
theorem ds_par3 (i j l : Nat) {x y z : Str} {a b c : Expr} {fs : F (List U)} {px py pz pt pos : Pos} {kt k2 : Nat} {pt2 : Pos} (hc : X.calm = true) (hN : X.N.Nodup) (ha : DA X W [a, b, c] fs) (hij : i ≠ j) (hil : i ≠ l) (hjl : j ≠ l)
    (hw : swappedStores [.Tuple [.Name x px, .Name y py, .Name z pz] kt pt] (.Tuple [a, b, c] k2 pt2) X.env = pure (some [x, y, z])) (hi : X.N[i]? = some x := by rfl) (hj : X.N[j]? = some y := by rfl) (hl : X.N[l]? = some z := by rfl)
    (hx : X.env.scope.names.lookup x = some .local := by rfl) (hy : X.env.scope.names.lookup y = some .local := by rfl) (hz : X.env.scope.names.lookup z = some .local := by rfl)
    (hs : swapsWithSole [.Tuple [.Name x px, .Name y py, .Name z pz] kt pt] (.Tuple [a, b, c] k2 pt2) pos.line X.env = pure false := by rfl) :
    DS X W (.Assign [.Tuple [.Name x px, .Name y py, .Name z pz] kt pt] (.Tuple [a, b, c] k2 pt2) pos) (sPar3 i j l fs) := ⟨PS.imp (ps_par3 hc hN hi hj hl hij hil hjl hx hy hz ha.pa hw hs) fun D σ H ⟨m, env, st, r, re, p⟩ => sFs_step r re p fun us st1 vs m1 H1 h1 r1 re1 e1 p1 => by
  match us, h1, p1 with
  | [], _, p1 => exact p1.elim
  | [_], _, p1 => exact p1.elim
  | [_, _], _, p1 => exact p1.elim
  | _ :: _ :: _ :: _ :: _, _, p1 => exact p1.elim
  | [u, w, z], h1, p1 =>
    obtain ⟨v, _, rfl, g1, w', _, rfl, g2, z', _, rfl, g3, rfl⟩ := h1
    exact ⟨v, w', z', rfl, p1 _ m1 H1 (((re1.set i g1).set j g2).set l g3) r1 (Ext.refl _ _)⟩⟩
end
section
variable {X : Cx} {W : WX} {elt tg iter : Expr} {ifs : List Expr} {scope : Scope} {own : List (Str × Nat)} {pos : Pos} {is : List Nat} {g : U → G} {gt : F Bool} {fe : F U} {fi : F Itb}
theorem d_lcV {vs : List Nat} (hc : X.calm = true) (hN : X.N.Nodup) (hi : DI X W tg iter fi) (ok : BlkOk X.N X.env.scope scope own)
    (hg : ∀ (s : Shared) (H : Hp) (C : Addr) (cl : List (Str × Addr)) (fp : List Addr), DG (X.blk s H scope (compEnvC scope cl C X.env) fp) tg is g)
    (ht : ∀ (s : Shared) (H : Hp) (C : Addr) (cl : List (Str × Addr)) (fp : List Addr), DTs (X.blk s H scope (compEnvC scope cl C X.env) fp) W0 ifs gt)
    (he : ∀ (s : Shared) (H : Hp) (C : Addr) (cl : List (Str × Addr)) (fp : List Addr), DE (X.blk s H scope (compEnvC scope cl C X.env) fp) W0 elt fe)
    (hvv : own.map (·.2) = vs := by rfl) (hvs : ∀ i ∈ is, i ∈ own.map (·.2) := by decide) (hs : ∀ x, foldedSetIterable iter X.env x = pure x := by intro _; rfl) :
    DE X W (.ListComp elt [⟨tg, iter, ifs, 0⟩] scope pos) (fLc fi g gt fe vs) := by
  subst hvv; exact d_lc hc hN hi ok hg ht he hvs hs
/-- name = [..] -/
theorem ds_setLcV {vs : List Nat} (i : Nat) {y : Str} {py spos : Pos} (hc : X.calm = true) (hN : X.N.Nodup) (hsw : swapsWith (.ListComp elt [⟨tg, iter, ifs, 0⟩] scope pos) (some (.Name y py)) spos.line X.env = pure true) (hi : DI X W tg iter fi) (ok : BlkOk X.N X.env.scope scope own)
    (hg : ∀ (s : Shared) (H : Hp) (C : Addr) (cl : List (Str × Addr)) (fp : List Addr), DG (X.blk s H scope (compEnvC scope cl C X.env) fp) tg is g)
    (ht : ∀ (s : Shared) (H : Hp) (C : Addr) (cl : List (Str × Addr)) (fp : List Addr), DTs (X.blk s H scope (compEnvC scope cl C X.env) fp) W0 ifs gt)
    (he : ∀ (s : Shared) (H : Hp) (C : Addr) (cl : List (Str × Addr)) (fp : List Addr), DE (X.blk s H scope (compEnvC scope cl C X.env) fp) W0 elt fe)
    (hvv : own.map (·.2) = vs := by rfl) (hvs : ∀ i ∈ is, i ∈ own.map (·.2) := by decide) (hy : X.N[i]? = some y := by rfl) (hyl : X.env.scope.names.lookup y = some .local := by rfl) (hs : ∀ x, foldedSetIterable iter X.env x = pure x := by intro _; rfl) :
    DS X W (.Assign [.Name y py] (.ListComp elt [⟨tg, iter, ifs, 0⟩] scope pos) spos) (sAsg (fLc fi g gt fe vs) (tgN i)) := by
  subst hvv; exact ds_setLc i hc hN hsw hi ok hg ht he hvs hy hyl hs
end
/-- by place and by name, in order -/
def gApp {α : Type} (us ws : List α) : List α := us ++ ws
theorem bd_app {K : PySem.W.Frag} {x qual : Str} {st : Stmt} {f : Addr} {fd : FuncData} {ps ks : List Str} {n : Nat} (F : Fun K x qual st f fd) (hl : n + ks.length = ps.length)
    (h : ∀ (kV doc pm : Value) (an : Option Addr) (cdv ct : Value) (us ws : List Value), us.length = n → ws.length = ks.length → bindArgs (PySem.W.fnOf x qual (defArgs st) (defBody st) (defScope st) .none kV doc pm an cdv ct) { pos := us, kw := ks.zip ws } = pure (ps.zip (us ++ ws))) :
    Bd K fd ps n ks gApp gApp gApp := by
  obtain ⟨oc, od, kV, doc, pm, an, cdv, ct, osl, rfl, lk, hcd⟩ := F.ex
  refine ⟨fun s us ws KX h1 h2 => .of_eq (h kV doc pm an cdv ct us ws h1 h2), fun _ _ r z => Vals.append r z, fun _ _ r z => r.append z, fun {us ws} h1 h2 => by
    show (us ++ ws).length = ps.length
    rw [List.length_append, h1, h2, hl]⟩
theorem FnG.imp {P : Program} {w : World} {K : PySem.W.Frag} {mg : Str → Option Value} {base : Heap} {k : Nat} {f : Addr} {fd : FuncData} {ps : List Str} {sp sp' : Sp} (F : FnG P w K mg base k f fd ps sp) (h : ∀ vs H Q E, sp' vs H Q E → sp vs H Q E) : FnG P w K mg base k f fd ps sp' :=
  ⟨fun vs H Q E q => F.len vs H Q E (h vs H Q E q), fun A outer s H args us vs Q E r e0 b rv q => F.run A outer s H args us vs Q E r e0 b rv (h vs H Q E q)⟩
/-- the law at a script -/
theorem law_sp {K : PySem.W.Frag} {mf : List U → M U} {ns : List Int} {H : Hp} {a : Addr} (h : ∃ st, mf [.d (.scr ns)] [] = .ok (.d (.bl true)) st) (hO : Only H) (hS : SqL K H a (ns.map V.int)) : spM K 1 mf [.ref a] H (fun v _ => v = .bl true) fun _ _ _ => False := by
  have hv : ScV K [] H a (ns.map V.int) := by
    rcases hS with (q | ⟨o, q⟩) | q
    · rcases hO a with z | ⟨o, xs, z⟩
      · rw [q] at z; cases z
      · rw [q] at z; cases z
    · exact .inl ⟨List.not_mem_nil, o, q⟩
    · exact .inr (.inr q)
  refine ⟨rfl, [], [], [.d (.scr ns)], ⟨rfl, List.nodup_nil, fun n o b h => by simp at h⟩, ⟨_, _, rfl, ⟨a, rfl, hv⟩, rfl⟩, ?_⟩
  obtain ⟨st, e⟩ := h
  rw [e]
  exact fun v m' H' h1 _ _ => h1
end VL

/-! VLp: evaluating mirrors. -/
namespace VL
open PySem PySem.Spec PyProof.Rows L2

/-! ### well-formed stores -/
theorem okU_mono {j k : Nat} (h : j ≤ k) {u : U} (q : okU j u = true) : okU k u = true := by
  cases u with
  | d x => rfl
  | ref n => exact decide_eq_true (Nat.lt_of_lt_of_le (of_decide_eq_true q) h)
theorem okO_mono {j k : Nat} (h : j ≤ k) {o : O} (q : okO j o = true) : okO k o = true := by
  cases o with
  | lst us => exact List.all_eq_true.mpr fun u hu => okU_mono h (List.all_eq_true.mp q u hu)
  | tup us => exact List.all_eq_true.mpr fun u hu => okU_mono h (List.all_eq_true.mp q u hu)
  | dct us => exact List.all_eq_true.mpr fun u hu => okU_mono h (List.all_eq_true.mp q u hu)
  | ins C us => exact List.all_eq_true.mpr fun u hu => okU_mono h (List.all_eq_true.mp q u hu)
  | tbl P q => rfl
def WF (st : Store) : Prop := wfB st = true
theorem WF.cut {st : Store} (h : WF st) : cutS st.length st = some st := by
  unfold cutS
  rw [List.take_length]
  exact if_pos h
theorem WF.push {st : Store} (h : WF st) {o : O} (q : okO (st.length + 1) o = true) : WF (st ++ [o]) := by
  unfold WF wfB at *
  rw [List.all_append, Bool.and_eq_true, List.length_append]
  exact ⟨List.all_eq_true.mpr fun x hx => okO_mono (Nat.le_add_right _ _) (List.all_eq_true.mp h x hx), by simpa using q⟩
theorem WF.set {st : Store} (h : WF st) {n : Nat} {o : O} (q : okO st.length o = true) : WF (st.set n o) := by
  unfold WF wfB at *
  rw [List.length_set]
  refine List.all_eq_true.mpr fun x hx => ?_
  rcases List.mem_or_eq_of_mem_set hx with hx | hx
  · exact List.all_eq_true.mp h x hx
  · subst hx; exact q
theorem WF.nil : WF [] := rfl
theorem okO_pure (k : Nat) (ds : List D) : okO k (.lst (ds.map .d)) = true := by
  show ((ds.map U.d).all (okU k)) = true
  rw [List.all_map]
  exact List.all_eq_true.mpr fun _ _ => rfl
theorem WF.pushL {st : Store} (h : WF st) (ds : List D) : WF (st ++ [.lst (ds.map .d)]) := h.push (okO_pure _ _)
theorem WF.setL {st : Store} (h : WF st) (n : Nat) (ds : List D) : WF (st.set n (.lst (ds.map .d))) := h.set (okO_pure _ _)
/-- what is above is cut off -/
theorem WF.cutA {st : Store} (h : WF st) (st' : Store) : cutS st.length (st ++ st') = some st := by
  unfold cutS
  rw [List.take_left']
  · exact if_pos h
  · rfl
theorem wFrz_d {st : Store} (h : WF st) (x : D) : wFrz st.length (.d x) st = .ok (.d x) st := by
  unfold wFrz frz
  rw [h.cut]
theorem wCut_d {st : Store} (h : WF st) (x : D) : wCut st.length (.d x) st = .ok (.d x) st := by
  unfold wCut
  simp only [h.cut]

/-! ### comprehensions whose parts leave the cells -/
section
variable {fi : F Itb} {tg : U → G} {tt : F Bool} {fe : F U} {vs : List Nat} {env : VEnv} {st st0 : Store} {us : List U}
theorem lcL_pure {k : Nat} {env0 : VEnv} (P : U → Bool) (q : U → D) (hk : k = st.length) (hw : WF st) : ∀ (us : List U) (acc : List D), acc.length + us.length ≤ sizeLine →
    (∀ u ∈ us, ∀ st' : Store, WF st' → ∃ env1, tg u env0 st' = .ok env1 .nx st' ∧ tt env1 st' = .ok (P u) st' ∧ (P u = true → fe env1 st' = .ok (.d (q u)) st')) →
    lcL k tg tt fe env0 us (st ++ [.lst (acc.map .d)]) = .ok () (st ++ [.lst ((acc ++ (us.filter P).map q).map .d)])
  | [], acc, _, _ => by simp [lcL]
  | u :: us, acc, hl, h => by
    obtain ⟨env1, h1, h2, h3⟩ := h u (List.mem_cons_self ..) _ (hw.pushL acc)
    unfold lcL lcStep
    rw [h1]
    simp only
    rw [h2]
    rw [List.length_cons] at hl
    cases e : P u with
    | false =>
      simp only
      have := lcL_pure (env0 := env0) P q hk hw us acc (by omega) (fun w hw => h w (List.mem_cons_of_mem _ hw))
      rw [this, List.filter_cons_of_neg (by rw [e]; exact Bool.false_ne_true)]
    | true =>
      simp only
      rw [h3 e]
      subst hk
      simp only [List.getElem?_append_right (Nat.le_refl _), Nat.sub_self, List.getElem?_cons_zero]
      rw [if_pos (by rw [List.length_map]; omega)]
      simp only
      have hs : (st ++ [O.lst (acc.map .d)]).set st.length (.lst (acc.map .d ++ [.d (q u)])) = st ++ [.lst ((acc ++ [q u]).map .d)] := by
        rw [List.set_append_right _ _ (Nat.le_refl _), Nat.sub_self, List.set_cons_zero, List.map_append, List.map_singleton]
      rw [hs, lcL_pure (env0 := env0) P q rfl hw us (acc ++ [q u]) (by rw [List.length_append, List.length_singleton]; omega) (fun w hw => h w (List.mem_cons_of_mem _ hw)),
        List.filter_cons_of_pos e, List.map_cons, List.append_assoc]
      rfl
theorem fLc_pure (P : U → Bool) (q : U → D) (hw : WF st) (hi : fi env st = .ok (.lst us) st) (hl : us.length ≤ sizeLine)
    (h : ∀ u ∈ us, ∀ st' : Store, WF st' → ∃ env1, tg u (wipeE env vs) st' = .ok env1 .nx st' ∧ tt env1 st' = .ok (P u) st' ∧ (P u = true → fe env1 st' = .ok (.d (q u)) st')) :
    fLc fi tg tt fe vs env st = .ok (.d (.lst ((us.filter P).map q))) st := by
  unfold fLc bnd
  rw [hi]
  simp only
  have := lcL_pure (env0 := wipeE env vs) P q rfl hw us [] (by simpa using hl) h
  rw [show ([] : List D).map U.d = [] from rfl] at this
  rw [this]
  unfold lcEnd
  simp only [List.getElem?_append_right (Nat.le_refl _), Nat.sub_self, List.getElem?_cons_zero, List.nil_append, pureL_map, hw.cutA]
end

/-! the same over a cell -/
section
variable {fi : F Itb} {tg : U → G} {tt : F Bool} {fe : F U} {vs : List Nat} {env : VEnv} {st st0 : Store} {us : List U}
theorem lcC_pure {n k : Nat} {env0 : VEnv} (P : U → Bool) (q : U → D) (hk : k = st.length) (hw : WF st) (hn : st[n]? = some (.lst us)) : ∀ (fuel i : Nat) (acc : List D), i ≤ us.length → us.length - i < fuel → acc.length + us.length ≤ sizeLine + i →
    (∀ u ∈ us, ∀ st' : Store, WF st' → ∃ env1, tg u env0 st' = .ok env1 .nx st' ∧ tt env1 st' = .ok (P u) st' ∧ (P u = true → fe env1 st' = .ok (.d (q u)) st')) →
    lcC k tg tt fe env0 n (fun _ u => some u) fuel i (st ++ [.lst (acc.map .d)]) = .ok () (st ++ [.lst ((acc ++ ((us.drop i).filter P).map q).map .d)])
  | 0, i, acc, _, h1, _, _ => absurd h1 (Nat.not_lt_zero _)
  | fuel + 1, i, acc, hi, hf, hl, h => by
    have ln := (List.getElem?_eq_some_iff.mp hn).1
    have e0 : (st ++ [O.lst (acc.map .d)])[n]? = some (.lst us) := by rw [List.getElem?_append_left ln]; exact hn
    unfold lcC
    simp only [e0]
    by_cases hlt : i < us.length
    · have hu : us[i]? = some us[i] := List.getElem?_eq_getElem hlt
      obtain ⟨env1, h1, h2, h3⟩ := h _ (List.getElem_mem hlt) _ (hw.pushL acc)
      rw [hu, List.drop_eq_getElem_cons hlt]
      simp only
      unfold lcStep
      rw [h1]
      simp only
      rw [h2]
      cases e : P us[i] with
      | false =>
        simp only
        rw [lcC_pure (env0 := env0) P q hk hw hn fuel (i + 1) acc hlt (by omega) (by omega) h, List.filter_cons_of_neg (by rw [e]; exact Bool.false_ne_true)]
      | true =>
        simp only
        rw [h3 e]
        subst hk
        simp only [List.getElem?_append_right (Nat.le_refl _), Nat.sub_self, List.getElem?_cons_zero]
        rw [if_pos (by rw [List.length_map]; omega)]
        simp only
        have hs : (st ++ [O.lst (acc.map .d)]).set st.length (.lst (acc.map .d ++ [.d (q us[i])])) = st ++ [.lst ((acc ++ [q us[i]]).map .d)] := by
          rw [List.set_append_right _ _ (Nat.le_refl _), Nat.sub_self, List.set_cons_zero, List.map_append, List.map_singleton]
        rw [hs, lcC_pure (env0 := env0) P q rfl hw hn fuel (i + 1) (acc ++ [q us[i]]) hlt (by omega) (by rw [List.length_append, List.length_singleton]; omega) h,
          List.filter_cons_of_pos e, List.map_cons, List.append_assoc]
        rfl
    · have : i = us.length := by omega
      subst this
      rw [List.getElem?_eq_none (Nat.le_refl _), List.drop_length]
      simp
theorem fLc_pureC {n : Nat} (P : U → Bool) (q : U → D) (hw : WF st) (hi : fi env st = .ok (.cell n fun _ u => some u) st) (hn : st[n]? = some (.lst us)) (hl : us.length ≤ sizeLine)
    (h : ∀ u ∈ us, ∀ st' : Store, WF st' → ∃ env1, tg u (wipeE env vs) st' = .ok env1 .nx st' ∧ tt env1 st' = .ok (P u) st' ∧ (P u = true → fe env1 st' = .ok (.d (q u)) st')) :
    fLc fi tg tt fe vs env st = .ok (.d (.lst ((us.filter P).map q))) st := by
  unfold fLc bnd
  rw [hi]
  simp only [hn]
  have := lcC_pure (env0 := wipeE env vs) P q rfl hw hn (us.length + 1) 0 [] (Nat.zero_le _) (by omega) (by simpa using hl) h
  rw [show ([] : List D).map U.d = [] from rfl] at this
  rw [this]
  unfold lcEnd
  simp only [List.getElem?_append_right (Nat.le_refl _), Nat.sub_self, List.getElem?_cons_zero, List.nil_append, List.drop_zero, pureL_map, hw.cutA]
end

/-! ### loops by an invariant -/
/-- one turn of a loop -/
def turn (tg : U → G) (body : G) (u : U) : G := fun env st => match tg u env st with
  | .ok env1 .nx st1 => match body env1 st1 with
    | .ok env2 .ct st2 => .ok env2 .nx st2
    | r => r
  | _ => .bad
theorem loopL_inv {tg : U → G} {body : G} (I : List U → VEnv → Store → Prop) : ∀ (us : List U) (env : VEnv) (st : Store),
    (∀ u rest env st, I (u :: rest) env st → (∃ s, u :: rest = us.drop s) → ∃ env' st', turn tg body u env st = .ok env' .nx st' ∧ I rest env' st') → I us env st → ∃ env' st', loopL tg body us env st = .ok env' .nx st' ∧ I [] env' st'
  | [], env, st, _, h0 => ⟨env, st, rfl, h0⟩
  | u :: us, env, st, h, h0 => by
    obtain ⟨env1, st1, e1, h1⟩ := h u us env st h0 ⟨0, rfl⟩
    obtain ⟨env2, st2, e2, h2⟩ := loopL_inv I us env1 st1 (fun w r env st hI ⟨s, hs⟩ => h w r env st hI ⟨s + 1, hs⟩) h1
    refine ⟨env2, st2, ?_, h2⟩
    unfold turn at e1
    unfold loopL
    cases q : tg u env st with
    | bad => rw [q] at e1; cases e1
    | ex c fs env3 st3 => rw [q] at e1; cases e1
    | ok env3 f st3 =>
      rw [q] at e1
      cases f with
      | nx =>
        simp only at e1 ⊢
        cases q2 : body env3 st3 with
        | bad => rw [q2] at e1; cases e1
        | ex c fs env4 st4 => rw [q2] at e1; cases e1
        | ok env4 f st4 =>
          rw [q2] at e1
          cases f with
          | nx => cases e1; exact e2
          | ct => cases e1; exact e2
          | bk => cases e1
          | rt u => cases e1
      | bk => cases e1
      | ct => cases e1
      | rt u => cases e1
theorem fItN_ok {g : List U → Option Itb} {f : F (List U)} {env : VEnv} {st st1 : Store} {us : List U} {t : Itb} (h : f env st = .ok us st1) (hg : g us = some t) : fItN g f env st = .ok t st1 := by
  unfold fItN bnd
  rw [h]
  show R.of st1 (g us) = _
  rw [hg]
  rfl
theorem sFor_lst {fi : F Itb} {tg : U → G} {body : G} {env : VEnv} {st st1 : Store} {us : List U} (h : fi env st = .ok (.lst us) st1) : sFor fi tg body env st = loopL tg body us env st1 := by
  unfold sFor bndS
  rw [h]
theorem sz0 : (0 ≤ sizeLine) = True := eq_true (by decide)
theorem szl0 : (0 < sizeLine) = True := eq_true (by decide)
theorem sz1 : (1 ≤ sizeLine) = True := eq_true (by decide)
theorem szl1 : (1 < sizeLine) = True := eq_true (by decide)
theorem sz2 : (2 ≤ sizeLine) = True := eq_true (by decide)
theorem szl2 : (2 < sizeLine) = True := eq_true (by decide)
theorem sz3 : (3 ≤ sizeLine) = True := eq_true (by decide)
theorem szl3 : (3 < sizeLine) = True := eq_true (by decide)
theorem sz4 : (4 ≤ sizeLine) = True := eq_true (by decide)
theorem szl4 : (4 < sizeLine) = True := eq_true (by decide)
theorem sz5 : (5 ≤ sizeLine) = True := eq_true (by decide)
theorem szl5 : (5 < sizeLine) = True := eq_true (by decide)
theorem sz6 : (6 ≤ sizeLine) = True := eq_true (by decide)
theorem szl6 : (6 < sizeLine) = True := eq_true (by decide)
theorem sz7 : (7 ≤ sizeLine) = True := eq_true (by decide)
theorem szl7 : (7 < sizeLine) = True := eq_true (by decide)
theorem sz8 : (8 ≤ sizeLine) = True := eq_true (by decide)
theorem szl8 : (8 < sizeLine) = True := eq_true (by decide)
theorem sz9 : (9 ≤ sizeLine) = True := eq_true (by decide)
theorem szl9 : (9 < sizeLine) = True := eq_true (by decide)
theorem sz10 : (10 ≤ sizeLine) = True := eq_true (by decide)
theorem szl10 : (10 < sizeLine) = True := eq_true (by decide)
theorem sz11 : (11 ≤ sizeLine) = True := eq_true (by decide)
theorem szl11 : (11 < sizeLine) = True := eq_true (by decide)
theorem sz12 : (12 ≤ sizeLine) = True := eq_true (by decide)
theorem szl12 : (12 < sizeLine) = True := eq_true (by decide)
theorem sz13 : (13 ≤ sizeLine) = True := eq_true (by decide)
theorem szl13 : (13 < sizeLine) = True := eq_true (by decide)
theorem sz14 : (14 ≤ sizeLine) = True := eq_true (by decide)
theorem szl14 : (14 < sizeLine) = True := eq_true (by decide)
theorem sz15 : (15 ≤ sizeLine) = True := eq_true (by decide)
theorem szl15 : (15 < sizeLine) = True := eq_true (by decide)
end VL

/-! VLq: repr. -/
namespace VL
open PySem PySem.Spec PyProof.Rows L2
def oRepr : List U → Store → Option U := fun us st => match us with
  | [.d .non] => some (.d (.str "None"))
  | [.d (.bl b)] => some (.d (.str (if b = true then "True" else "False")))
  | [.d (.int i)] => if i.natAbs.log2 < 1920 then some (.d (.str (Str.ofString (toString i)))) else none
  | [.d (.str x)] => if (reprText x).length ≤ sizeLine then some (.d (.str (reprText x))) else none
  | [u] => match asP st u with
    | some p => if PyData.showable p = true ∧ PyData.hasDict p = false ∧ PyData.depth p ≤ 64 ∧ (PyData.shown p).length ≤ sizeLine then some (.d (.str (PyData.shown p))) else none
    | none => none
  | _ => none
theorem asP_ref' {K : PySem.W.Frag} {m : List Addr} {H : Hp} {st : Store} {u : U} {v : V} {p : PyData} (h : RpU K m H u v) (e : asP st u = some p) : (∃ x, u = .d .non ∧ x = v) ∨ (∃ b, u = .d (.bl b)) ∨ (∃ i, u = .d (.int i)) ∨ (∃ x, u = .d (.str x)) ∨ ∃ a, v = .ref a := by
  cases u with
  | ref n => obtain ⟨a, _, e⟩ := h; exact .inr (.inr (.inr (.inr ⟨a, e⟩)))
  | d x =>
    cases x with
    | non => exact .inl ⟨_, rfl, rfl⟩
    | bl b => exact .inr (.inl ⟨b, rfl⟩)
    | int i => exact .inr (.inr (.inl ⟨i, rfl⟩))
    | str x => exact .inr (.inr (.inr (.inl ⟨x, rfl⟩)))
    | tup ds => obtain ⟨a, _, e, _⟩ := h; exact .inr (.inr (.inr (.inr ⟨a, e⟩)))
    | lst ds => obtain ⟨a, _, e, _⟩ := h; exact .inr (.inr (.inr (.inr ⟨a, e⟩)))
    | scr ds => obtain ⟨a, e, _⟩ := h; exact .inr (.inr (.inr (.inr ⟨a, e⟩)))
    | _ => cases e
theorem cr_repr {X : Cx} (hg : X.A.guards = some []) (hu : X.A.units + 65 < cLine) : CallR X (.builtin "repr") (rM X.K (pu oRepr)) := by
  intro pins s σ H vs us Q I rv h
  obtain ⟨m, st, xs, r, ru, p⟩ := h
  obtain ⟨u, e, p⟩ := p.pu
  unfold oRepr at e
  split at e
  · obtain ⟨v, rfl, hv⟩ := ru.one
    cases hv; cases e
    obtain ⟨w, rfl, rw'⟩ := L2.vals1 rv
    cases rw'
    exact PySem.P.repr_of_none ⟨.str "None", H, I.tok _, ⟨_, rfl⟩, p.here r rfl⟩
  · obtain ⟨v, rfl, hv⟩ := ru.one
    cases hv; cases e
    obtain ⟨w, rfl, rw'⟩ := L2.vals1 rv
    cases rw'
    exact PySem.P.repr_of_bool ⟨.str (if _ = true then "True" else "False"), H, I.tok _, ⟨_, rfl⟩, p.here r rfl⟩
  · obtain ⟨v, rfl, hv⟩ := ru.one
    cases hv
    split at e
    · rename_i hz; cases e
      obtain ⟨w, rfl, t, rfl⟩ := L2.vals1 rv
      exact PySem.P.repr_of_int hz ⟨.str (Str.ofString (toString _)), H, I.tok _, ⟨_, rfl⟩, p.here r rfl⟩
    · cases e
  · obtain ⟨v, rfl, hv⟩ := ru.one
    cases hv
    split at e
    · rename_i hz; cases e
      obtain ⟨w, rfl, t, rfl⟩ := L2.vals1 rv
      exact PySem.P.repr_of_str ⟨.str (reprText _), H, I.tok _, ⟨_, rfl⟩, p.here r rfl⟩ hz
    · cases e
  · rename_i x n1 n2 n3 n4
    obtain ⟨v, rfl, hv⟩ := ru.one
    split at e
    · rename_i d hd
      split at e
      · rename_i hz
        cases e
        have hp := asP_dp r hv hd
        rcases asP_ref' hv hd with ⟨_, e, _⟩ | ⟨b, e⟩ | ⟨i, e⟩ | ⟨y, e⟩ | ⟨a, rfl⟩
        · exact (n1 e).elim
        · exact (n2 b e).elim
        · exact (n3 i e).elim
        · exact (n4 y e).elim
        · obtain ⟨w, rfl, rw'⟩ := L2.vals1 rv
          obtain ⟨as, hr⟩ := Dp.reads I d _ _ hp rw'
          cases rw'
          exact repr_of_reads' hr hz.1 (fun q => by rw [hz.2.1] at q; cases q) hg (by have := hz.2.2.1; omega) (fun _ _ e => e) (fun h' u tk hk => ⟨.str (PyData.shown d), H, I.kept hk, ⟨_, rfl⟩, p.here r rfl⟩) hz.2.2.2
      · cases e
    · cases e
  · cases e
/-- a text, several times -/
def oMulS : P2 := fun a b _ => match a, b with
  | .d (.str x), .d (.int n) => if 1 < n ∧ n < 1000 ∧ 0 < x.length ∧ x.length < 1000 ∧ ({ cps := List.foldl (fun x1 x2 => x1 ++ x2) #[] (List.replicate n.toNat x.cps) } : Str).length ≤ sizeLine then some (.d (.str { cps := List.foldl (fun x1 x2 => x1 ++ x2) #[] (List.replicate n.toNat x.cps) })) else none
  | _, _ => none
theorem op_mulS {X : Cx} : OpR X (binaryOp .Mult) (rG X.K oMulS) := by
  intro pins s σ H x y v u Q I rx ry h
  obtain ⟨m, st, a, b, r, ha, hb, p⟩ := h
  unfold oMulS at p
  split at p
  · rename_i z n
    split at p
    · rename_i hz
      obtain rfl : x = .str z := ha
      obtain rfl : y = .int n := hb
      obtain ⟨t, rfl⟩ := rx
      obtain ⟨t', rfl⟩ := ry
      have h1 : ¬ n < 1 := by omega
      have h2 : (n == 1 || z.length == 0) = false := by
        rw [Bool.or_eq_false_iff]
        exact ⟨by simp; omega, by simp; omega⟩
      refine PySem.P.mul_str (by simp; omega) (fun _ _ => ?_) (fun _ _ => ?_) ?_
      · have : (1000 : Int) ≤ (2 ^ 63 - 1) / n := by
          refine Int.le_ediv_of_mul_le (by omega) ?_
          omega
        omega
      · have hb : z.length * n.toNat ≤ 1000 * 1000 := Nat.mul_le_mul (by omega) (by omega)
        unfold Builtin.Str.tooLong
        simp
        refine Nat.le_trans hb (by decide)
      · rw [if_neg h1, h2]
        simp only [Bool.false_eq_true, if_false]
        exact ⟨hz.2.2.2.2, .str { cps := List.foldl (fun x1 x2 => x1 ++ x2) #[] (List.replicate n.toNat z.cps) }, H, I.tok _, ⟨_, rfl⟩, pv_flat r p rfl⟩
    · exact p.elim
  · exact p.elim
end VL

/-! VLr: general lemmas for evaluating mirrors. -/
namespace VL
open PySem PySem.Spec PyProof.Rows L2
variable {K : PySem.W.Frag} {st : Store}
theorem isi_str : PySem.W.kitOne K (.type "str") (.type "str") = some true := rfl
theorem blsU_map {α : Type} (l : List α) (f : α → Bool) : blsU (l.map fun x => U.d (.bl (f x))) = some (l.map f) := by
  induction l with
  | nil => rfl
  | cons x l ih => unfold blsU at ih ⊢; rw [List.map_cons, allM]; rw [ih]; rfl
theorem itV_str (st : Store) (s : Str) : itV st (.d (.str s)) = some (.lst (s.cps.toList.map fun c => .d (.str ⟨#[c]⟩))) := rfl
theorem eqv_int (a b : Int) : PyData.eqv (.int a) (.int b) = (a == b) := rfl
theorem eqv_str (a b : Str) : PyData.eqv (.str a) (.str b) = (a == b) := rfl
theorem w640 {n : Nat} (h : n ≤ 640) : n ≤ sizeLine := Nat.le_trans h (by decide)
theorem at_1 {α : Type} (x y : α) (r : List α) : atI (x :: y :: r) 1 = some y := by
  unfold atI ixN; simp only [List.length_cons]; rw [if_pos (by decide), if_pos (by omega)]; rfl
theorem at_0 {α : Type} (x : α) (r : List α) : atI (x :: r) 0 = some x := by unfold atI ixN; simp
theorem at_2 {α : Type} (x y z : α) (r : List α) : atI (x :: y :: z :: r) 2 = some z := by
  unfold atI ixN; simp only [List.length_cons]; rw [if_pos (by decide), if_pos (by omega)]; rfl
theorem at_3 {α : Type} (x y z w : α) (r : List α) : atI (x :: y :: z :: w :: r) 3 = some w := by
  unfold atI ixN; simp only [List.length_cons]; rw [if_pos (by decide), if_pos (by omega)]; rfl
theorem at_4 {α : Type} (x y z w v : α) (r : List α) : atI (x :: y :: z :: w :: v :: r) 4 = some v := by
  unfold atI ixN; simp only [List.length_cons]; rw [if_pos (by decide), if_pos (by omega)]; rfl
theorem allM_dd {st : Store} (k : Nat) (ds : List D) : allM (deep k st) (ds.map U.d) = some ds := allM_d ds
theorem asP_d (st : Store) (x : D) : asP st (.d x) = toP x := rfl
theorem asP_ref {st : Store} {i : Nat} {ds : List D} (h : st[i]? = some (.lst (ds.map U.d))) : asP st (.ref i) = (toPs ds).map .list := by
  unfold asP deep
  simp only [h, allM_dd]
  rfl
theorem wCut_len {n : Nat} {st : Store} (h : WF st) (hl : st.length = n) (x : D) : wCut n (.d x) st = .ok (.d x) st := by
  subst hl; exact wCut_d h x
theorem map_snoc (xs : List D) (x : D) : xs.map U.d ++ [.d x] = (xs ++ [x]).map U.d := by rw [List.map_append]; rfl
theorem set_at {st : Store} {r : Nat} {o o' : O} (h : st[r]? = some o) : (st.set r o')[r]? = some o' := List.getElem?_set_self (List.getElem?_eq_some_iff.mp h).1
theorem app_at {st : Store} {r : Nat} {o o' : O} (h : st[r]? = some o) : (st ++ [o'])[r]? = some o := by
  rw [List.getElem?_append_left (List.getElem?_eq_some_iff.mp h).1]; exact h
theorem new_at {st : Store} {o : O} : (st ++ [o])[st.length]? = some o := by
  rw [List.getElem?_append_right (Nat.le_refl _), Nat.sub_self]; rfl
theorem take_same {st st' : Store} {k : Nat} (hk : k = st.length) (h : ∀ n, n < k → st'[n]? = st[n]?) : st'.take k = st := by
  apply List.ext_getElem?
  intro n
  by_cases hn : n < k
  · rw [List.getElem?_take_of_lt hn]; exact h n hn
  · rw [List.getElem?_eq_none (by rw [List.length_take]; omega), List.getElem?_eq_none (by omega)]
theorem cut_same {st st' : Store} (w : WF st) (h : ∀ n, n < st.length → st'[n]? = st[n]?) : cutS st.length st' = some st := by
  unfold cutS
  rw [take_same rfl h]
  exact if_pos w
theorem allM_frz {st : Store} (k f : Nat) (ds : List D) : allM (frz st k f) (ds.map U.d) = some ds := by
  induction ds with
  | nil => rfl
  | cons d ds ih =>
    rw [List.map_cons, allM, ih]
    cases f <;> rfl
theorem wKeep_of {st st' : Store} (w : WF st) {n : Nat} {ds : List D} (h : st'[n]? = some (.lst (ds.map U.d))) (hn : st.length ≤ n) (hf : ∀ m, m < st.length → st'[m]? = st[m]?) : wKeep st.length (.ref n) st' = .ok (.ref st.length) (st ++ [.lst (ds.map U.d)]) := by
  unfold wKeep
  simp only [h, okO_pure, cut_same w hf, if_true]
  rw [if_neg (by omega)]
def Bag (st : Store) (b : Nat) : Prop := ∃ n x : Int, st[b]? = some (.lst [.d (.int n), .d (.int x)])
structure Fb (st st' : Store) (b : Nat) : Prop where
  wf : WF st'
  len : st'.length = st.length
  bag : Bag st' b
  fr : ∀ n, n ≠ b → st'[n]? = st[n]?
theorem Fb.trans {s0 s1 s2 : Store} {b : Nat} (x : Fb s0 s1 b) (y : Fb s1 s2 b) : Fb s0 s2 b := ⟨y.wf, y.len.trans x.len, y.bag, fun n h => (y.fr n h).trans (x.fr n h)⟩
theorem Fb.refl {b : Nat} (h : WF st) (hb : Bag st b) : Fb st st b := ⟨h, rfl, hb, fun _ _ => rfl⟩
theorem ixn_0 {α : Type} (x y : α) : ixN (x :: y :: []).length 0 = some 0 := rfl
theorem ixn0 : ixN 2 0 = some 0 := rfl
theorem ixn1 : ixN 2 1 = some 1 := rfl
theorem fb_set {b : Nat} (h : WF st) {o : O} (hb : st[b]? = some o) (n x : Int) : Fb st (st.set b (.lst [.d (.int n), .d (.int x)])) b :=
  ⟨h.setL b [.int n, .int x], List.length_set, ⟨n, x, set_at hb⟩, fun m hm => List.getElem?_set_ne (Ne.symm hm)⟩
theorem at_lt {α : Type} {xs : List α} {d : Nat} (h : d < xs.length) : atI xs (d : Int) = some xs[d] := by
  unfold atI ixN
  rw [if_pos (by omega), if_pos (by omega)]
  simp [List.getElem?_eq_getElem h]
theorem pure_ints (ns : List Int) : pureL (ns.map fun i => U.d (.int i)) = some (ns.map .int) := by
  have := pureL_map (ns.map D.int)
  rw [List.map_map] at this
  exact this
def sD (ss : List Str) : List D := ss.map D.str
def sU (ss : List Str) : List U := (sD ss).map U.d
theorem toPs_strs (ss : List Str) : toPs (sD ss) = some (ss.map .str) := by
  induction ss with
  | nil => rfl
  | cons s ss ih =>
    show (match toP (.str s), toPs (sD ss) with
      | some p, some ps => some (p :: ps)
      | _, _ => none) = _
    rw [ih]
    rfl
theorem lay_strs (ss : List Str) (h : ∀ s ∈ ss, PyData.strOk s = true) : PyData.canLayAll0 (ss.map .str) = true := by
  induction ss with
  | nil => rfl
  | cons s ss ih => simp [PyData.canLayAll0, PyData.canLay0, h s (List.mem_cons_self ..), ih fun x hx => h x (List.mem_cons_of_mem _ hx)]
theorem depth_strs (ss : List Str) : PyData.depthAll (ss.map .str) ≤ 1 := by
  induction ss with
  | nil => simp [PyData.depthAll]
  | cons s ss ih => simp [PyData.depthAll, PyData.depth]; omega
theorem shaped_strs (ss : List Str) (h : ∀ s ∈ ss, PyData.strOk s = true) : SeqAt.shaped (.list (ss.map .str)) = true := by
  unfold SeqAt.shaped
  have := depth_strs ss
  simp [PyData.canLay0, PyData.depth, lay_strs ss h]
  omega
theorem shaped_nil : SeqAt.shaped (.list []) = true := shaped_strs [] (fun _ h => by cases h)
theorem eqv_nil (qs : List PyData) : PyData.eqv (.list qs) (.list []) = qs.isEmpty := by
  cases qs <;> simp [PyData.eqv, PyData.eqvAll]
theorem eqB_empty {i : Nat} {ss : List Str} (hi : st[i]? = some (.lst (sU ss))) (h : ∀ s ∈ ss, PyData.strOk s = true) : eqB st (.ref i) (.d (.lst [])) = some ss.isEmpty := by
  unfold eqB
  simp only [asP_ref (ds := sD ss) hi, toPs_strs, Option.map_some, asP_d]
  rw [show toP (.lst []) = some (.list []) from rfl]
  simp only [shaped_strs ss h, shaped_nil, and_self, if_true, eqv_nil]
  cases ss <;> rfl
theorem sU_len (ss : List Str) : (sU ss).length = ss.length := by unfold sU sD; rw [List.length_map, List.length_map]
theorem sU_get {ss : List Str} {d : Nat} (h : d < ss.length) : (sU ss)[d]? = some (.d (.str ss[d])) := by
  unfold sU sD; rw [List.getElem?_map, List.getElem?_map, List.getElem?_eq_getElem h]; rfl
theorem er_map {α β : Type} (f : α → β) : ∀ (l : List α) (d : Nat), (l.map f).eraseIdx d = (l.eraseIdx d).map f
  | [], _ => rfl
  | x :: l, 0 => rfl
  | x :: l, d + 1 => by rw [List.map_cons, List.eraseIdx_cons_succ, er_map f l d]; rfl
theorem er_perm {α : Type} : ∀ (l : List α) (d : Nat) (h : d < l.length), (l[d] :: l.eraseIdx d).Perm l
  | x :: l, 0, _ => List.Perm.refl _
  | x :: l, d + 1, h => by
    rw [List.eraseIdx_cons_succ, List.getElem_cons_succ]
    exact (List.Perm.swap _ _ _).trans ((er_perm l d (Nat.lt_of_succ_lt_succ h)).cons x)
theorem sU_erase (ss : List Str) (d : Nat) : (sU ss).eraseIdx d = sU (ss.eraseIdx d) := by unfold sU sD; rw [er_map, er_map]
theorem sU_snoc (ss : List Str) (s : Str) : sU ss ++ [.d (.str s)] = sU (ss ++ [s]) := by unfold sU sD; rw [List.map_append, List.map_append]; rfl
theorem seq_nat {d n : Nat} (h : d < n) : seqIndex? (d : Int) n = some d := by
  have h1 : ¬ ((d : Int) < 0) := by omega
  simp only [seqIndex?, if_neg h1]
  rw [if_pos (by simp; omega)]
  simp
theorem cut_fb {st st' : Store} {b : Nat} (h : WF st) (hB : Bag st' b) (hb : b < st.length) (hl : st.length ≤ st'.length) (hf : ∀ n, n < st.length → n ≠ b → st'[n]? = st[n]?) : cutS st.length st' = some (st'.take st.length) ∧ Fb st (st'.take st.length) b := by
  have hall : (st'.take st.length).all (okO st.length) = true := by
    refine List.all_eq_true.mpr fun o ho => ?_
    obtain ⟨n, hn, e⟩ := List.mem_iff_getElem.mp ho
    rw [List.length_take] at hn
    have hn' : n < st.length := by omega
    rw [List.getElem_take] at e
    by_cases hnb : n = b
    · subst hnb
      obtain ⟨p, x, q⟩ := hB
      rw [List.getElem?_eq_getElem (by omega)] at q
      have := Option.some.inj q
      rw [← e, this]
      rfl
    · have q := hf n hn' hnb
      rw [List.getElem?_eq_getElem (by omega), List.getElem?_eq_getElem hn'] at q
      have := Option.some.inj q
      rw [← e, this]
      exact List.all_eq_true.mp h _ (List.getElem_mem hn')
  have hlen : (st'.take st.length).length = st.length := by rw [List.length_take]; omega
  refine ⟨if_pos hall, ⟨?_, hlen, ?_, fun n hn => ?_⟩⟩
  · show wfB _ = true
    unfold wfB
    rw [hlen]; exact hall
  · obtain ⟨p, x, q⟩ := hB
    exact ⟨p, x, by rw [List.getElem?_take_of_lt hb]; exact q⟩
  · by_cases hn' : n < st.length
    · rw [List.getElem?_take_of_lt hn']; exact hf n hn' hn
    · rw [List.getElem?_eq_none (by omega), List.getElem?_eq_none (by omega)]
theorem Bag.lt {b : Nat} (h : Bag st b) : b < st.length := by
  obtain ⟨n, x, q⟩ := h
  exact (List.getElem?_eq_some_iff.mp q).1
theorem frz_lst {st : Store} {k n f : Nat} {ds : List D} (hn : ¬ n < k) (h : st[n]? = some (.lst (ds.map U.d))) : frz st k (f + 1) (.ref n) = some (.lst ds) := by
  unfold frz
  rw [if_neg hn]
  simp only [h, allM_frz, Option.map_some]
theorem Bag.set {b i : Nat} (h : Bag st b) (hb : b ≠ i) (o : O) : Bag (st.set i o) b := by
  obtain ⟨n, x, q⟩ := h
  exact ⟨n, x, by rw [List.getElem?_set_ne hb.symm]; exact q⟩
theorem ixn_1 : ixN 1 0 = some 0 := rfl
theorem rng_ok {w : Nat} (h : w < 1000) : -(2 ^ 62) ≤ ((w : Nat) : Int) ∧ ((w : Nat) : Int) < 2 ^ 62 := by
  have e : (2 : Int) ^ 62 = 4611686018427387904 := by decide
  rw [e]; omega
theorem itR_nat {w : Nat} (h : w < 1000) : ∃ us, itR [.d (.int ((w : Nat) : Int))] = some (.lst us) ∧ us.length = w := by
  have hr := rng_ok h
  refine ⟨(List.range ((w : Nat) : Int).toNat).map fun i => .d (.int (0 + (i : Nat))), ?_, by rw [List.length_map, List.length_range, Int.toNat_natCast]⟩
  unfold itR
  simp only [hr, and_self, if_true]
theorem sD_len (ss : List Str) : (sD ss).length = ss.length := List.length_map ..
theorem sD_app (xs ys : List Str) : sD (xs ++ ys) = sD xs ++ sD ys := List.map_append
theorem eqv_tup (a b : List PyData) : PyData.eqv (.tuple a) (.tuple b) = PyData.eqvAll a b := by simp [PyData.eqv]
theorem eqv_cons (a b : List PyData) (x y : PyData) : PyData.eqvAll (x :: a) (y :: b) = (PyData.eqv x y && PyData.eqvAll a b) := by simp [PyData.eqvAll]
theorem toP_strs (ss : List Str) : toP (.lst (sD ss)) = some (.list (ss.map .str)) := by
  show (toPs (sD ss)).map PyData.list = _
  rw [toPs_strs]; rfl
def llD (sss : List (List Str)) : List D := sss.map fun ss => .lst (sD ss)
theorem toPs_ll : ∀ sss : List (List Str), toPs (llD sss) = some (sss.map fun ss => .list (ss.map .str))
  | [] => rfl
  | ss :: sss => by
    show (match toP (.lst (sD ss)), toPs (llD sss) with
      | some p, some ps => some (p :: ps)
      | _, _ => none) = _
    rw [toP_strs, toPs_ll sss]
    rfl
theorem lay_ll : ∀ sss : List (List Str), (∀ ss ∈ sss, ∀ s ∈ ss, PyData.strOk s = true) → PyData.canLayAll0 (sss.map fun ss => .list (ss.map .str)) = true
  | [], _ => rfl
  | ss :: sss, h => by
    rw [List.map_cons]
    simp [PyData.canLayAll0, PyData.canLay0, lay_strs ss (h ss (List.mem_cons_self ..)), lay_ll sss fun x hx => h x (List.mem_cons_of_mem _ hx)]
theorem depth_ll : ∀ sss : List (List Str), PyData.depthAll (sss.map fun ss => .list (ss.map .str)) ≤ 2
  | [] => by simp [PyData.depthAll]
  | ss :: sss => by
    have := depth_strs ss
    have := depth_ll sss
    rw [List.map_cons]
    simp [PyData.depthAll, PyData.depth]
    omega
theorem shaped_ll {sss : List (List Str)} (h : ∀ ss ∈ sss, ∀ s ∈ ss, PyData.strOk s = true) : SeqAt.shaped (.list (sss.map fun ss => .list (ss.map .str))) = true := by
  unfold SeqAt.shaped
  have := depth_ll sss
  simp [PyData.canLay0, PyData.depth, lay_ll sss h]
  omega
theorem eqB_ll {sss : List (List Str)} (h : ∀ ss ∈ sss, ∀ s ∈ ss, PyData.strOk s = true) : eqB st (.d (.lst (llD sss))) (.d (.lst (llD sss))) = some true := by
  have e : toP (.lst (llD sss)) = some (.list (sss.map fun ss => .list (ss.map .str))) := by
    show (toPs (llD sss)).map PyData.list = _
    rw [toPs_ll]; rfl
  have hs := shaped_ll h
  unfold eqB
  simp only [asP_d, e, hs, and_self, if_true]
  rw [SeqAt.eqv_refl _ (by unfold SeqAt.shaped at hs; rw [Bool.and_eq_true] at hs; exact hs.1)]
theorem eqB_row {k : Nat} {ss : List Str} (hk : st[k]? = some (.lst ((sD ss).map U.d))) (h : ∀ s ∈ ss, PyData.strOk s = true) : eqB st (.ref k) (.d (.lst (sD ss))) = some true := by
  have hs := shaped_strs ss h
  have e := toP_strs ss
  unfold eqB
  simp only [asP_ref hk, toPs_strs, asP_d, e, Option.map_some, hs, and_self, if_true]
  rw [SeqAt.eqv_refl _ (by unfold SeqAt.shaped at hs; rw [Bool.and_eq_true] at hs; exact hs.1)]
theorem frz_new {st : Store} (h : WF st) (ds : List D) : wFrz st.length (.ref st.length) (st ++ [.lst (ds.map U.d)]) = .ok (.d (.lst ds)) st := by
  unfold wFrz
  rw [frz_lst (k := st.length) (f := 3) (Nat.lt_irrefl _) new_at]
  simp only [h.cutA]
theorem itR_eq {w : Nat} (h : w < 1000) : itR [.d (.int ((w : Nat) : Int))] = some (.lst ((List.range w).map fun i => .d (.int (0 + (i : Nat))))) := by
  have hr := rng_ok h
  unfold itR
  simp only [hr, and_self, if_true, Int.toNat_natCast]
theorem minmax (L : Nat) : (if (if ((L : Nat) : Int) < 4 then ((L : Nat) : Int) else 4) > 1 then (if ((L : Nat) : Int) < 4 then ((L : Nat) : Int) else 4) else 1) = ((max 1 (min 4 L) : Nat) : Int) := by
  split <;> split <;> omega
theorem cut0 (st : Store) : cutS 0 st = some [] := rfl
theorem three {f g h : F U} {env : VEnv} {st : Store} {x y z : D} (hf : f env st = .ok (.d x) st) (hg : g env st = .ok (.d y) st) (hh : h env st = .ok (.d z) st) : fN vLst (fCons f (fCons g (fCons h fNil))) env st = .ok (.d (.lst [x, y, z])) st := by
  simp only [fN, bnd, fCons, hf, hg, hh, fNil, fPure, vLst, pureL, Option.map_some, List.length_cons, List.length_nil, Nat.zero_add, Nat.reduceAdd, sz3, if_true, R.of]
theorem isi_list : PySem.W.kitOne K (.type "list") (.type "list") = some true := rfl
theorem eqv_one (xs : List Str) : PyData.eqv (.list (xs.map .str)) (.list [.str ""]) = decide (xs = [("" : Str)]) := by
  cases xs with
  | nil => simp [PyData.eqv, PyData.eqvAll]
  | cons x xs =>
    cases xs with
    | nil =>
      simp only [PyData.eqv, List.map_cons, List.map_nil, eqv_cons, eqv_str]
      simp [PyData.eqvAll]
      rfl
    | cons y ys => simp [PyData.eqv, PyData.eqvAll]
theorem strOk_e : ∀ s ∈ [("" : Str)], PyData.strOk s = true := by decide +kernel
theorem eqB_one {xs : List Str} (h : ∀ s ∈ xs, PyData.strOk s = true) : eqB st (.d (.lst (sD xs))) (.d (.lst [.str ""])) = some (decide (xs = [("" : Str)])) := by
  have e := toP_strs xs
  have e2 := toP_strs [("" : Str)]
  have hs := shaped_strs xs h
  have hs2 := shaped_strs [("" : Str)] strOk_e
  have e2' : toP (.lst [.str ""]) = some (.list [.str ""]) := e2
  have hs2' : SeqAt.shaped (.list [.str ""]) = true := hs2
  unfold eqB
  simp only [asP_d, e, e2', hs, hs2', and_self, if_true, eqv_one]
theorem Bag.push {b : Nat} (h : Bag st b) (o : O) : Bag (st ++ [o]) b := by
  obtain ⟨n, x, q⟩ := h
  exact ⟨n, x, app_at q⟩
theorem szlb {n : Nat} (h : n ≤ 300) : n < sizeLine := Nat.lt_of_le_of_lt h (by decide)
theorem szb {n : Nat} (h : n ≤ 300) : n ≤ sizeLine := Nat.le_trans h (by decide)
theorem fIter_ok {f : F U} {env : VEnv} {st st1 : Store} {ds : List D} (h : f env st = .ok (.d (.lst ds)) st1) : fIter f env st = .ok (.lst (ds.map U.d)) st1 := by
  unfold fIter bnd
  rw [h]
  rfl
theorem cutTake {ss : List Str} {d : Nat} : cutG (sD ss) none (some (d : Int)) = sD (ss.take d) := by
  unfold cutG HT.sIx sD
  simp
  rw [if_neg (by omega)]
  omega
theorem join_nil : Txt.join ("\n" : Str) [] = ("" : Str) := by decide +kernel
theorem join_len : ∀ (parts : List Str) (k : Nat), (∀ p ∈ parts, p.length ≤ 60) → parts.length ≤ k → (parts.map fun x => x.length).sum + parts.length * ("\n" : Str).length ≤ 61 * k := fun parts => by
  have h1 : ("\n" : Str).length = 1 := by decide +kernel
  rw [h1]
  induction parts with
  | nil => intro k _ _; simp
  | cons p ps ih =>
    intro k h hk
    rw [List.length_cons] at hk
    have := ih (k - 1) (fun q hq => h q (List.mem_cons_of_mem _ hq)) (by omega)
    have := h p (List.mem_cons_self ..)
    rw [List.map_cons, List.sum_cons, List.length_cons]
    omega
theorem cut_len (s : Str) (lo hi : Option Int) : (L2.cutS s lo hi).length ≤ s.length := by
  unfold L2.cutS Str.length
  simp [List.length_take, List.length_drop]
  omega
/-! ### comprehensions that draw from the bag -/
def AllR {α β : Type} (P : α → β → Prop) : List α → List β → Prop
  | [], [] => True
  | a :: as, b :: bs => P a b ∧ AllR P as bs
  | _, _ => False
theorem AllR.length {α β : Type} {P : α → β → Prop} : ∀ {as : List α} {bs : List β}, AllR P as bs → bs.length = as.length
  | [], [], _ => rfl
  | a :: as, b :: bs, h => by rw [List.length_cons, List.length_cons, AllR.length h.2]
  | [], _ :: _, h => h.elim
  | _ :: _, [], h => h.elim
theorem AllR.right {α β : Type} {P : α → β → Prop} {Q : β → Prop} (hq : ∀ a b, P a b → Q b) : ∀ {as : List α} {bs : List β}, AllR P as bs → ∀ b ∈ bs, Q b
  | [], [], _, b, hb => by cases hb
  | a :: as, b :: bs, h, c, hc => by
    rcases List.mem_cons.mp hc with rfl | hc
    · exact hq _ _ h.1
    · exact AllR.right hq h.2 c hc
  | [], _ :: _, h, _, _ => h.elim
  | _ :: _, [], h, _, _ => h.elim
section
variable {fi : F Itb} {tg : U → G} {tt : F Bool} {fe : F U} {vs : List Nat} {env env0 : VEnv} {us : List U}
theorem lcL_fb {b : Nat} (Pd : U → D → Prop) : ∀ (us : List U) (acc : List D) (st : Store), WF st → Bag st b → acc.length + us.length ≤ sizeLine →
    (∀ u ∈ us, ∀ st' : Store, WF st' → Bag st' b → ∃ env1 x st'', tg u env0 st' = .ok env1 .nx st' ∧ tt env1 st' = .ok true st' ∧ fe env1 st' = .ok (.d x) st'' ∧ Pd u x ∧ Fb st' st'' b) →
    ∃ ds st2, lcL st.length tg tt fe env0 us (st ++ [.lst (acc.map .d)]) = .ok () (st2 ++ [.lst ((acc ++ ds).map .d)]) ∧ Fb st st2 b ∧ AllR Pd us ds
  | [], acc, st, hw, hb, _, _ => ⟨[], st, by simp [lcL], Fb.refl hw hb, trivial⟩
  | u :: us, acc, st, hw, hb, hl, h => by
    rw [List.length_cons] at hl
    have hb1 : Bag (st ++ [.lst (acc.map .d)]) b := by
      obtain ⟨n, x, q⟩ := hb
      exact ⟨n, x, app_at q⟩
    obtain ⟨env1, x, st'', h1, h2, h3, hp, f⟩ := h u (List.mem_cons_self ..) _ (hw.pushL acc) hb1
    have hlen : st''.length = st.length + 1 := by rw [f.len, List.length_append, List.length_singleton]
    obtain ⟨c1, c2⟩ := cut_fb hw f.bag hb.lt (by omega) fun n hn hnb => by rw [f.fr n hnb, List.getElem?_append_left hn]
    have hk : st''[st.length]? = some (.lst (acc.map U.d)) := by
      rw [f.fr _ (by have := hb.lt; omega)]; exact new_at
    have hst : st''.set st.length (.lst (acc.map U.d ++ [.d x])) = st''.take st.length ++ [.lst ((acc ++ [x]).map .d)] := by
      have e : st'' = st''.take st.length ++ [.lst (acc.map U.d)] := by
        apply List.ext_getElem?
        intro n
        by_cases hn : n < st.length
        · rw [List.getElem?_append_left (by rw [List.length_take]; omega), List.getElem?_take_of_lt hn]
        · by_cases hn2 : n = st.length
          · subst hn2
            rw [hk, List.getElem?_append_right (by rw [List.length_take]; omega), List.length_take, Nat.min_eq_left (by omega), Nat.sub_self]; rfl
          · rw [List.getElem?_eq_none (by omega), List.getElem?_eq_none (by rw [List.length_append, List.length_take, List.length_singleton]; omega)]
      have hl2 : (st''.take st.length).length = st.length := by rw [List.length_take]; omega
      rw [e, List.set_append_right _ _ (by omega), hl2, Nat.sub_self, List.set_cons_zero, List.map_append, List.map_singleton, List.take_left' hl2]
    obtain ⟨ds, st2, e2, f2, r2⟩ := lcL_fb Pd us (acc ++ [x]) (st''.take st.length) c2.wf c2.bag (by rw [List.length_append, List.length_singleton]; omega) (fun w hw => h w (List.mem_cons_of_mem _ hw))
    have hl2 : (st''.take st.length).length = st.length := by rw [List.length_take]; omega
    rw [hl2] at e2
    refine ⟨x :: ds, st2, ?_, c2.trans f2, hp, r2⟩
    unfold lcL lcStep
    rw [h1]
    simp only
    rw [h2]
    simp only
    rw [h3]
    simp only [hk]
    rw [if_pos (by rw [List.length_map]; omega)]
    simp only
    rw [hst, e2, List.append_assoc]
    rfl
/-- [.. for .. in ..], each part of which draws -/
theorem fLc_fb {b : Nat} {st0 : Store} (Pd : U → D → Prop) (hw : WF st) (hb : Bag st b) (hi : fi env st0 = .ok (.lst us) st) (hl : us.length ≤ sizeLine)
    (h : ∀ u ∈ us, ∀ st' : Store, WF st' → Bag st' b → ∃ env1 x st'', tg u (wipeE env vs) st' = .ok env1 .nx st' ∧ tt env1 st' = .ok true st' ∧ fe env1 st' = .ok (.d x) st'' ∧ Pd u x ∧ Fb st' st'' b) :
    ∃ ds st2, fLc fi tg tt fe vs env st0 = .ok (.d (.lst ds)) st2 ∧ Fb st st2 b ∧ AllR Pd us ds := by
  obtain ⟨ds, st2, e, f, r⟩ := lcL_fb (env0 := wipeE env vs) Pd us [] st hw hb (by simpa using hl) h
  refine ⟨ds, st2, ?_, f, r⟩
  unfold fLc bnd
  rw [hi]
  simp only
  rw [show ([] : List D).map U.d = [] from rfl] at e
  rw [e]
  unfold lcEnd
  have hl2 := f.len
  rw [← hl2]
  simp only [List.getElem?_append_right (Nat.le_refl _), Nat.sub_self, List.getElem?_cons_zero, List.nil_append, pureL_map, f.wf.cutA]
end
/-- one of some data -/
theorem at_mem {ds : List D} {i : Nat} (h : i < ds.length) : ∃ x, atI (ds.map U.d) (i : Int) = some (.d x) ∧ x ∈ ds := by
  refine ⟨ds[i], ?_, List.getElem_mem h⟩
  rw [at_lt (by rw [List.length_map]; exact h), List.getElem_map]
theorem at_memN {α : Type} {ds : List α} {i : Nat} (h : i < ds.length) : ∃ x, atI ds (i : Int) = some x ∧ x ∈ ds := ⟨ds[i], at_lt h, List.getElem_mem h⟩
theorem f2_ok {g : P2} {fa fb : F U} {env : VEnv} {st st1 st2 : Store} {x y : U} (ha : fa env st = .ok x st1) (hb : fb env st1 = .ok y st2) : f2 g fa fb env st = R.of st2 (g x y st2) := by
  unfold f2 bnd
  rw [ha]
  simp only [hb]
end VL

/-! VLs: own exceptions with fields over any built-in error class. -/
namespace VL
open PySem PySem.Spec PyProof.Rows

section
open PySem.W PySem.Calls PySem.HandSPX Builtin Builtin.ObjectAttr
/-- a class right below a built-in error class, as the frag has it -/
structure Below (K : Frag) (C : Addr) (cd : ClassData) (B : String) (bm : List Value) : Prop where
  sf : StoreFacts B bm "object.__setattr__" "object"
  mro : cd.mro = .ref C :: bm
  cin : clsIn K C = some cd
  hd : cd.hasDict = true
variable {prog : Program} {w : World} {A : Around} {E : Value → Shared → Prop} {R : Result → Shared → Prop} {hp : Heap} {g : Array GenState} {d : Drawn} {t : Nat} {os : OsState}
theorem Below.obj {K : Frag} {C : Addr} {cd : ClassData} {B : String} {bm : List Value} (b : Below K C cd B bm) : mroIn K C (.type "object") = some true := by
  have q : cd.mro.contains (.type "object") = true := by
    rw [b.mro, List.contains_cons, b.sf.hasOwner, Bool.or_true]
  have e : cd.mro.isEmpty = false := by rw [b.mro]; rfl
  unfold mroIn
  rw [b.cin, Option.bind_some, if_neg (by rw [e]; exact Bool.false_ne_true), q]
/-- object.__setattr__ on such an error, up to the writing itself -/
theorem osaG {K : Frag} {name : Str} {tk : Tok} {v : Value} {x C : Addr} {ox : Obj} {od : Option Obj} {cd : ClassData} {B : String} {bm : List Value} (X : K.In hp) (b : Below K C cd B bm) (I : InstAt hp x ox C od) (ha : findIn K (.ref C) name = some none)
    (hq : ∀ A', wpAny (model prog w) A' (storeInOwnDict (.ref x) (.ref C) (.str name tk) name v false) (fun f s => ∃ r, f = .done r ∧ R (.ok r) s) (fun _ _ => False) ⟨hp, g, d, t, os⟩) :
    codeAny (model prog w) A (.call (.builtin "object.__setattr__") ⟨[.ref x, .str name tk, v], []⟩) R ⟨hp, g, d, t, os⟩ := by
  have SF := F.store_object
  have sub : Looks (model prog w) hp (isInstance (.ref x) (.type "object")) true := I.type.andThen (looks_mroIn X b.obj)
  have hm : Looks (model prog w) hp (mroOf (.ref C)) cd.mro := (looks_clsIn X b.cin).andThen .now
  have L3 : Looks (model prog w) hp (storeTaker? none) none := .now
  refine codeAny_call_builtin SF.slot.plain SF.entry (@check_slot (model prog w) _ _ ⟨hp, g, d, t, os⟩ "object.__setattr__" "object" "__setattr__" (.ref x) [.str name tk, v] [] _ SF.kind SF.split sub (SF.args (.ref x) (.str name tk) v) ?_)
  rw [osa_eq, refuse_eq]
  refine wpAny_bind (wpAny_bind (I.type.at (wpAny_bind (hm.at ?_))))
  rw [b.mro, refuseLoop_ref, b.sf.passes]
  refine wpAny_pure (wpAny_bind (I.type.at (wpAny_bind ((looks_findIn X ha).at (wpAny_bind (L3.at ?_))))))
  exact wpAny_mono (hq _) (fun f s h => by obtain ⟨r, rfl, k⟩ := h; exact k) (fun _ _ z => z.elim)
/-- the first field: the dict is made -/
theorem osaN {K : Frag} {name : Str} {tk : Tok} {v : Value} {x C : Addr} {fv : Array Value} {cd : ClassData} {B : String} {bm : List Value} (X : K.In hp) (b : Below K C cd B bm) (hx : hp.get? x = some { cls := .ref C, data := .fields fv })
    (ha : findIn K (.ref C) name = some none)
    (hq : ∀ h' tk' dx, (∀ b o, b ≠ x → hp.get? b = some o → h'.get? b = some o) → hp.objs.size ≤ dx → dx ≠ x → h'.get? x = some { cls := .ref C, dict := some dx, data := .fields fv } → h'.Ns1 dx (fun y => if y = name then some v else none) →
      R (.ok (.ret .none)) ⟨h', g, d, tk', os⟩) : codeAny (model prog w) A (.call (.builtin "object.__setattr__") ⟨[.ref x, .str name tk, v], []⟩) R ⟨hp, g, d, t, os⟩ := by
  have lt : x ≠ hp.objs.size := Nat.ne_of_lt (Heap.lt_size hx)
  have lc : Looks (model prog w) hp (classData C) cd := looks_clsIn X b.cin
  refine osaG X b (ox := { cls := .ref C, data := .fields fv }) (od := none) ⟨hx, rfl, rfl, trivial⟩ ha fun A' => ?_
  have hd := b.hd
  obtain ⟨c1, c2, c3, c4, c5, c6, c7, c8, c9, c10, c11⟩ := cd
  dsimp only at hd
  subst hd
  unfold storeInOwnDict ownDictForStores
  repeat (first | with_reducible refine store_in_new ?_ ?_ | with_reducible refine wpAny_loadPart_at hx ?_ | with_reducible refine lc.at ?_ | wp_step)
  · refine ⟨_, #[], _, (Heap.get?_update_ne _ _ _ _ lt.symm).trans (Heap.get?_push_at rfl rfl), rfl, fun e z => ?_, fun _ => rfl⟩
    exact absurd z (by simp)
  · intro h' t' n' sb
    have hx1 : (hp.push { cls := .type "dict", data := .dict #[] }).get? x = some { cls := .ref C, data := .fields fv } := Heap.get?_push_of_some _ hx
    refine ⟨_, rfl, hq h' t' hp.objs.size (fun c o hc ho => ?_) (Nat.le_refl _) lt.symm ?_ n'⟩
    · rw [sb.2 c (Nat.ne_of_lt (Heap.lt_size ho)), Heap.get?_update_ne _ _ _ _ hc]
      exact Heap.get?_push_of_some _ ho
    · rw [sb.2 x lt]
      exact Heap.get?_update_self _ hx1 rfl
/-- a further field -/
theorem osaO {K : Frag} {name : Str} {tk : Tok} {v : Value} {x C dx : Addr} {fv : Array Value} {cd : ClassData} {B : String} {bm : List Value} {m0 : Str → Option Value} {nl : List Str} (X : K.In hp) (b : Below K C cd B bm)
    (hx : hp.get? x = some { cls := .ref C, dict := some dx, data := .fields fv }) (hn : hp.Ns1 dx m0) (hw : Within m0 nl) (hz : nl.length ≤ 1000) (ha : findIn K (.ref C) name = some none)
    (hq : ∀ h' tk', (∀ b o, b ≠ dx → hp.get? b = some o → h'.get? b = some o) → h'.Ns1 dx (fun y => if y = name then some v else m0 y) → R (.ok (.ret .none)) ⟨h', g, d, tk', os⟩) :
    codeAny (model prog w) A (.call (.builtin "object.__setattr__") ⟨[.ref x, .str name tk, v], []⟩) R ⟨hp, g, d, t, os⟩ := by
  obtain ⟨oD, _, _, hoD, _, _⟩ := hn.count hw
  have lc : Looks (model prog w) hp (classData C) cd := looks_clsIn X b.cin
  refine osaG X b (ox := { cls := .ref C, dict := some dx, data := .fields fv }) (od := some oD) ⟨hx, rfl, rfl, hoD⟩ ha fun A' => ?_
  have hd := b.hd
  obtain ⟨c1, c2, c3, c4, c5, c6, c7, c8, c9, c10, c11⟩ := cd
  dsimp only at hd
  subst hd
  unfold storeInOwnDict ownDictForStores
  repeat (first | with_reducible refine PySem.OEX.store_in_old hn hw hz ?_ | with_reducible refine wpAny_loadPart_at hx ?_ | with_reducible refine lc.at ?_ | wp_step)
  intro h' t' n' sb
  exact ⟨_, rfl, hq h' t' (fun c o hc ho => (sb.2 c hc).trans ho) n'⟩
end
open L2
/-- what the written part says of an own error class -/
structure OexB (K : PySem.W.Frag) (C : Addr) : Prop where
  cls : ∃ B nw ini bm nm q N bs sn sub ab col dd k0 k1 k2 k3 k5, PySem.ExcBaseFacts B nw ini bm ∧ PySem.StoreFacts B bm "object.__setattr__" "object" ∧ K.lookup C = some (excClassObj nm q C N bs bm true sn sub ab col dd k0 k1 k2 k3 k5 nw)
  sa : PySem.W.findIn K (.ref C) "__setattr__" = some (some (.builtin "object.__setattr__"))
  exC : PySem.W.subIn K (.ref C) (.type "BaseException") = some true
  tyC : PySem.W.typeIn K (.ref C) = some (.type "type")
  kC : PySem.W.keepIn K (.ref C) = true
theorem OexB.below {K : PySem.W.Frag} {C : Addr} (T : OexB K C) : ∃ cd B bm, Below K C cd B bm := by
  obtain ⟨B, nw, ini, bm, nm, q, N, bs, sn, sub, ab, col, dd, k0, k1, k2, k3, k5, eb, sf, hC⟩ := T.cls
  exact ⟨_, B, bm, sf, rfl, by unfold PySem.W.clsIn; rw [hC] <;> rfl, rfl⟩
section
variable {X : Cx} {pins : List (Addr × Obj)} {σ : L2.St} {H : Hp} {s : Shared} {a C dx : Addr} {f : Str} {y : V} {u : Value} {fs : List (Str × V)} {Q : Unit → Shared → Prop} {E : Value → Shared → Prop} {A : Around}
theorem obj_new (T : OexB X.K C) (I : L2.Inv X pins σ H s) (e : H a = some (exo a C none)) (hno : PySem.W.findIn X.K (.ref C) f = some none) (ry : L2.RelV y u)
    (h : ∀ dx s', H dx = none → dx ≠ a → L2.Inv X pins σ (upd (upd H dx (exd dx [(f, y)])) a (exo a C (some dx))) s' → Q () s') : wpAny (model X.prog X.w) A (setAttr (.ref a) f u) Q E s := by
  obtain ⟨cd, B, bm, bl⟩ := T.below
  obtain ⟨t1, ho⟩ := exo_at I.hok e
  obtain ⟨hp, g, d, t, os⟩ := s
  refine PySem.W.set_plain I.kIn (od := none) ⟨ho, rfl, rfl, trivial⟩ T.sa (osaN I.kIn bl ho hno fun h' tk' dx k dn dne hx hn => ?_)
  have hnd : H dx = none := I.hok.fresh dn
  have old : ∀ {b : Addr} {o : Obj}, hp.get? b = some o → b ≠ dx := fun {b o} z => Nat.ne_of_lt (Nat.lt_of_lt_of_le (Heap.lt_size z) dn)
  have noa : ∀ {b : Addr}, H b = none → b ≠ a := fun {b} n z => by
    rw [z, e] at n; cases n
  have back : ∀ b : Addr, b ≠ a → b ≠ dx → (upd (upd H dx (exd dx [(f, y)])) a (exo a C (some dx))) b = H b := fun b h1 h2 => (upd_ne h1).trans (upd_ne h2)
  have live : ∀ {b : Addr} {o : HO}, H b = some o → b ≠ dx := fun {b o} z => ne_of_none z hnd
  have U : L2.Un X.fs [] H (upd (upd H dx (exd dx [(f, y)])) a (exo a C (some dx))) hp h' :=
    { keep := fun b o z n _ _ => k b o (noa n) z
      slot := fun b o z n _ _ => ⟨o.slots, k b o (noa n) z⟩
      free := fun b o z n _ => (back b (noa n) (old z)).trans n
      there := fun b o z _ => if hb : b = a then ⟨_, hb ▸ hx⟩ else ⟨o, k b o hb z⟩
      tups := fun b xs z => (back b (at_ne e z exo_tup) (live z)).trans z
      frzs := fun b o v z => (back b (at_ne e z exo_frz) (live z)).trans z
      tbls := fun b ps z => ⟨#[], by rw [back b (at_ne e z exo_tbl) (live z), z]; simp⟩ }
  refine h dx _ hnd dne (I.un (t' := tk') U fun b o z => ?_)
  by_cases hb : b = a
  · subst hb
    cases (upd_same.symm.trans z)
    exact exo_ok hx
  · by_cases hd : b = dx
    · subst hd
      cases ((upd_same.symm.trans (upd_ne hb).symm).trans z)
      exact exd_ok hn (relO_put (fs := []) ry fun _ => True.intro)
    · rw [back b hb hd] at z
      refine (I.hok b o z).stay (fun c v hc w' => k c v ?_ w') (fun c hc => (back c (at_ne e hc exo_own) (live hc)).trans hc) (fun c xs hc => (back c (at_ne e hc exo_tup) (live hc)).trans hc)
      rcases hc with hc | hc
      · exact fun zz => hb (hc.symm.trans zz)
      · exact at_ne e hc exo_own
theorem obj_old (T : OexB X.K C) (I : L2.Inv X pins σ H s) (e : H a = some (exo a C (some dx))) (ed : H dx = some (exd dx fs)) (hl : fs.length ≤ 900) (hno : PySem.W.findIn X.K (.ref C) f = some none) (ry : L2.RelV y u)
    (h : ∀ s', L2.Inv X pins σ (upd H dx (exd dx ((f, y) :: fs))) s' → Q () s') : wpAny (model X.prog X.w) A (setAttr (.ref a) f u) Q E s := by
  obtain ⟨cd, B, bm, bl⟩ := T.below
  obtain ⟨t1, ho⟩ := exo_at I.hok e
  obtain ⟨mA, hns, rel⟩ := exd_at I.hok ed
  obtain ⟨hp, g, d, t, os⟩ := s
  obtain ⟨oD, _, _, hoD, _, _⟩ := hns.count (within_of rel)
  refine PySem.W.set_plain I.kIn (od := some oD) ⟨ho, rfl, rfl, hoD⟩ T.sa (osaO I.kIn bl ho hns (within_of rel) (by rw [List.length_map]; omega) hno fun h' tk' k hn => ?_)
  refine h _ (I.write (t' := tk') (x := dx) (e := dx) (o := exd dx ((f, y) :: fs)) (by rw [ed]; exact True.intro) (.inl rfl) k ?_ (exd_ok hn (relO_put ry rel)))
  obtain ⟨o, _, _, e', _⟩ := hn
  exact ⟨o, e'⟩
end
/-- self.f = e of an error that is being made -/
def tOb (K : PySem.W.Frag) (f : Str) (to te : TE) : TS := fun D σ H => te σ H fun y H1 => to σ H1 fun x H2 => ∃ a C : Addr, x = .ref a ∧ OexB K C ∧ PySem.W.findIn K (.ref C) f = some none ∧
  ((H2 a = some (exo a C none) ∧ ∀ dx, H2 dx = none → dx ≠ a → D.nx σ (upd (upd H2 dx (exd dx [(f, y)])) a (exo a C (some dx)))) ∨
    ∃ (dx : Addr) (fs : List (Str × V)), H2 a = some (exo a C (some dx)) ∧ H2 dx = some (exd dx fs) ∧ fs.length ≤ 900 ∧ D.nx σ (upd H2 dx (exd dx ((f, y) :: fs))))
section
variable {X : Cx} {o e : Expr} {es : List Expr} {to te : TE} {ta : TA} {f : Str} {p p' pos : Pos}
theorem ps_ob (ho : PE X o to) (he : PE X e te) (hs : swapsWith e (some (.Attribute o f p')) pos.line X.env = pure false := by rfl) : PS X (.Assign [.Attribute o f p'] e pos) (tOb X.K f to te) :=
  ⟨fun pins s σ H D I h => plainObj_wpAny_Assign_Attribute (thn (he.run pins s σ H _ I h) fun v s1 ⟨y, H1, I1, r1, q1⟩ => thn (ho.run pins s1 σ H1 _ I1 q1) fun u s2 ⟨x, H2, I2, r2, a, C, ex, T, hno, q⟩ => by
    cases ex
    cases (show u = Value.ref a from r2)
    rcases q with ⟨ea, q⟩ | ⟨dx, fs, ea, ed, hl, q⟩
    · exact obj_new T I2 ea hno r1 fun dx s' n ne J => ⟨σ, _, J, q dx n ne⟩
    · exact obj_old T I2 ea ed hl hno r1 fun s' J => ⟨σ, _, J, q⟩) hs⟩
/-- C(e, ..) of such a class -/
theorem pmk_ob {CX : CXT} {x : Str} {C fI : Addr} {k : Nat} {fd : FuncData} {ps : List Str} {sp : Sp} {ds : List Value} {dvs : List V} (T : OexB X.K C) (iC : PySem.W.findIn X.K (.ref C) "__init__" = some (some (.ref fI))) (tI : PySem.W.typeIn X.K (.ref fI) = some (.type "function"))
    (F1 : FnOk X.prog X.w X.K X.mg X.base CX k fI fd ps sp) (hr : Room (k + 1) X.A) (hb : Binds X.K fd ps ds) (hd : Vals dvs ds) (hx : Passes CX X (fun _ _ _ => False)) (hg : Gl X x) (hm : X.mg x = some (.ref C)) (ha : PA X (e :: es) ta)
    (hdb : (x == ("__debug__" : Str)) = false := by decide) (he : starEach (e :: es) X.env = (false, eval e X.env) :: starEach es X.env := by rfl) (hpl : (backTo pos (starEach es X.env)).any (·.1) = false := by rfl) :
    PMk X (.Call (.Name x p) (e :: es) [] pos) (tMkO C sp dvs ta) := by
  intro pins s σ H Q I h
  obtain ⟨B, nw, ini, bm, nm, q, N, bs, sn, sub, ab, col, dd, k0, k1, k2, k3, k5, eb, sf, hC⟩ := T.cls
  refine wpAny_Call_Name_kw (ld_glob I hg hm (PySem.W.callWith_K (h₀ := X.base) I.ok.mod.kin T.kC (thn (ha.run pos pins s σ H _ I h) fun us s1 ⟨vs, H1, I1, r1, hz, q1⟩ => ⟨I1.kIn, ?_⟩) he hpl) hdb)
  show wpAny _ _ (call (.ref C) us) _ _ _
  obtain ⟨hp, g, dr, tk, os⟩ := s1
  let z := hp.objs.size + 1
  have zz : hp.objs.size ≤ z := Nat.le_succ _
  have hq := q1 z (I1.hok.fresh zz)
  have up : ∀ b o, hp.get? b = some o → ((hp.push (PySem.W.kdv_tup us)).push (PySem.HandSPX.excO C hp.objs.size)).get? b = some o := fun b o w' => Heap.get?_push_of_some _ (Heap.get?_push_of_some _ w')
  have at_ : ((hp.push (PySem.W.kdv_tup us)).push (PySem.HandSPX.excO C hp.objs.size)).get? (hp.objs.size + 1) = some (PySem.HandSPX.excO C hp.objs.size) := by heap_get
  have I2 : L2.Inv X pins σ (upd H1 z (exo z C none)) ⟨(hp.push (PySem.W.kdv_tup us)).push (PySem.HandSPX.excO C hp.objs.size), g, dr, tk, os⟩ := I1.laid (t' := tk) (a := z) (o := exo z C none) (h' := (hp.push (PySem.W.kdv_tup us)).push (PySem.HandSPX.excO C hp.objs.size)) up zz (exo_ok at_)
  have r2 : Vals (V.ref z :: (vs ++ dvs)) (Value.ref z :: (us ++ ds)) := .cons rfl (r1.append hd)
  have hl : (Value.ref z :: us ++ ds).length = ps.length := r2.length.symm.trans (F1.len _ _ _ _ hq)
  have hus : us.length ≤ sizeLine := by
    have := r1.length
    have := sizeLine_eq
    omega
  refine wpAny_call (PySem.HandSPX.call_own eb (fun _ => rfl) (I1.kIn _ _ hC) (PySem.W.looks_findIn I1.kIn iC) (fun self => PySem.W.bind_fn I1.kIn self tI) hus ?_)
  refine codeAny_mono (F1.run _ X.stack _ _ ⟨Value.ref z :: us, []⟩ (Value.ref z :: (us ++ ds)) _ _ (fun _ _ _ => False) (hr.make C us []) (I2.env0.make C us []) (hb _ (Value.ref z :: us) I2.kIn hl) r2 hq) fun r s' hq' => ?_
  match r, hq' with
  | .error er, hq' => exact hx pins σ _ _ er s' I2 hq'
  | .ok (.ret u), hq' =>
    obtain ⟨v, H2, os2, bare2, un2, hok2, rv, ev, d, fs, ea, ed, hd1, q2⟩ := hq'
    cases ev
    obtain ⟨h2, g2, d2, t2, os'⟩ := s'
    exact ⟨rv, mk_end (raises_own T.exC T.tyC) I1 zz up un2 hok2 os2 bare2 ea ed hd1 q2⟩
  | .ok .next, hq' => exact False.elim hq'
  | .ok .brk, hq' => exact False.elim hq'
  | .ok .cont, hq' => exact False.elim hq'
end
end VL

/-! VLt: own exceptions with fields: raise, try .. except .. as. -/
namespace VL
open PySem PySem.Spec PyProof.Rows L2

/-- what an own __init__(self, n, ..) promises that keeps its arguments -/
def spI (C : Addr) (ns : List Str) : Sp := fun vs H Q _ => ∃ a ws, vs = .ref a :: ws ∧ ws.length = ns.length ∧ H a = some (exo a C none) ∧
  ∀ d H2, H d = none → d ≠ a → H2 a = some (exo a C (some d)) → H2 d = some (exd d (ns.zip ws).reverse) → (∀ b, b ≠ a → b ≠ d → H2 b = H b) → Q .non H2
section
variable {P : Program} {w : World} {K : PySem.W.Frag} {mg : Str → Option Value} {base : Heap}
theorem init1_ok {qual n1 : Str} {st : Stmt} {f C : Addr} {fd : FuncData} (F : Fun K "__init__" qual st f fd) (S : FnScope ["self", n1] ["self", n1] (defScope st)) (T : OexB K C) (h1 : PySem.W.findIn K (.ref C) n1 = some none)
    (hb : ∀ (cdv : Value) (A : Around) (outer : List Env) (s : Shared) (H : Hp) (E : XK), PSs (cxOf CX0 P w K mg base ["self", n1] qual (defScope st) f cdv A outer s H E).nox (defBody st) (tOb K n1 (tVar 0) (tVar 1))) :
    FnOk P w K mg base CX0 1 f fd ["self", n1] (spI C [n1]) :=
  F.ok (k := 0) S (fun vs H Q E h => by obtain ⟨a, ws, rfl, hl, _⟩ := h; simpa using hl) fun cdv A outer s H vs Q E hr h => ⟨_, hb cdv A outer s H E, by
    obtain ⟨a, ws, rfl, hl, ha, q⟩ := h
    match ws, hl with
    | [y1], _ =>
      refine ⟨y1, rfl, .ref a, rfl, a, C, rfl, T, h1, .inl ⟨ha, fun d hd hne => ?_⟩⟩
      exact q d _ hd hne upd_same ((upd_ne hne).trans upd_same) fun b hba hbd => (upd_ne hba).trans (upd_ne hbd)⟩
theorem init2_ok {qual n1 n2 : Str} {st : Stmt} {f C : Addr} {fd : FuncData} (F : Fun K "__init__" qual st f fd) (S : FnScope ["self", n1, n2] ["self", n1, n2] (defScope st)) (T : OexB K C) (h1 : PySem.W.findIn K (.ref C) n1 = some none) (h2 : PySem.W.findIn K (.ref C) n2 = some none)
    (hb : ∀ (cdv : Value) (A : Around) (outer : List Env) (s : Shared) (H : Hp) (E : XK), PSs (cxOf CX0 P w K mg base ["self", n1, n2] qual (defScope st) f cdv A outer s H E).nox (defBody st) (tSeq (tOb K n1 (tVar 0) (tVar 1)) (tOb K n2 (tVar 0) (tVar 2)))) :
    FnOk P w K mg base CX0 1 f fd ["self", n1, n2] (spI C [n1, n2]) :=
  F.ok (k := 0) S (fun vs H Q E h => by obtain ⟨a, ws, rfl, hl, _⟩ := h; simpa using hl) fun cdv A outer s H vs Q E hr h => ⟨_, hb cdv A outer s H E, by
    obtain ⟨a, ws, rfl, hl, ha, q⟩ := h
    match ws, hl with
    | [y1, y2], _ =>
      refine ⟨y1, rfl, .ref a, rfl, a, C, rfl, T, h1, .inl ⟨ha, fun d hd hne => ?_⟩⟩
      have ea : (upd (upd H d (exd d [(n1, y1)])) a (exo a C (some d))) d = some (exd d [(n1, y1)]) := (upd_ne hne).trans upd_same
      refine ⟨y2, rfl, .ref a, rfl, a, C, rfl, T, h2, .inr ⟨d, [(n1, y1)], upd_same, ea, (by show 1 ≤ 900; decide), ?_⟩⟩
      exact q d _ hd hne ((upd_ne (Ne.symm hne)).trans upd_same) upd_same fun b hba hbd => (upd_ne hbd).trans ((upd_ne hba).trans (upd_ne hbd))⟩
end
/-- an own exception class with fields -/
structure Exs (P : Program) (w : World) (K : PySem.W.Frag) (mg : Str → Option Value) (base : Heap) (C : Addr) (ns : List Str) : Prop where
  oex : OexB K C
  xf : XfC K C
  ini : ∃ (fI : Addr) (fd : FuncData), PySem.W.findIn K (.ref C) "__init__" = some (some (.ref fI)) ∧ PySem.W.typeIn K (.ref fI) = some (.type "function") ∧ FnOk P w K mg base CX0 1 fI fd ("self" :: ns) (spI C ns) ∧ Binds K fd ("self" :: ns) []
/-! ### raise -/
def sRaise (C : Addr) (ns : List Str) (fa : F (List U)) : G := bndS fa fun us => fun env st => match pureL us with
  | some ds => if ds.length = ns.length ∧ ds.length ≤ 1000 then .ex (.ref C) (some (ns.zip ds).reverse) env st else .bad
  | none => .bad
theorem RpF.app {K : PySem.W.Frag} {m : List Addr} {H : Hp} : ∀ {xs ys : List (Str × D)} {vs ws : List (Str × V)}, RpF K m H xs vs → RpF K m H ys ws → RpF K m H (xs ++ ys) (vs ++ ws)
  | [], _, _, _, h, k => by rw [show _ = [] from h]; exact k
  | (n, d) :: xs, _, _, _, ⟨v, r, e, h1, h2⟩, k => by subst e; exact ⟨v, _, rfl, h1, RpF.app h2 k⟩
theorem RpF.rev {K : PySem.W.Frag} {m : List Addr} {H : Hp} : ∀ {xs : List (Str × D)} {vs : List (Str × V)}, RpF K m H xs vs → RpF K m H xs.reverse vs.reverse
  | [], _, h => by rw [show _ = [] from h]; rfl
  | (n, d) :: xs, _, ⟨v, r, e, h1, h2⟩ => by
    subst e
    rw [List.reverse_cons, List.reverse_cons]
    exact RpF.app (RpF.rev h2) ⟨v, [], rfl, h1, rfl⟩
theorem RpF.zip {K : PySem.W.Frag} {m : List Addr} {H : Hp} : ∀ {ns : List Str} {ds : List D} {vs : List V}, RpDs K m H ds vs → RpF K m H (ns.zip ds) (ns.zip vs)
  | [], _, _, _ => rfl
  | n :: ns, [], _, h => by rw [show _ = [] from h]; rfl
  | n :: ns, d :: ds, _, ⟨v, r, e, h1, h2⟩ => by subst e; exact ⟨v, _, rfl, h1, RpF.zip h2⟩
section
variable {X : Cx} {W : WX} {e : Expr} {es : List Expr} {fa : F (List U)} {C : Addr} {ns : List Str} {x : Str} {p pos pos' : Pos}
theorem ds_raise (hc : X.calm = true) (tk : Takes X W) (E : Exs X.prog X.w X.K X.mg X.base C ns) {k : Nat} (hr : RoomG (k + 2) X.A) (hm : X.mg x = some (.ref C)) (ha : DA X W (e :: es) fa) (hg : Gl X x := by rfl) (hdb : (x == ("__debug__" : Str)) = false := by decide)
    (he : starEach (e :: es) X.env = (false, eval e X.env) :: starEach es X.env := by rfl) (hpl : (backTo pos (starEach es X.env)).any (·.1) = false := by rfl) :
    DS X W (.Raise (some (.Call (.Name x p) (e :: es) [] pos)) none pos') (sRaise C ns fa) := by
  obtain ⟨fI, fd, i1, i2, i3, i4⟩ := E.ini
  refine ⟨PS.imp (ps_raise hc tk (pmk_ob E.oex i1 i2 i3 ((hr.mono (show 2 ≤ k + 2 by omega)).rm) i4 .nil pass0 hg hm ha.pa hdb he hpl)) fun D σ H ⟨m, env, st, r, re, q⟩ => ?_⟩
  refine sFs_step r re q fun us st1 vs m1 H1 h1 r1 re1 e1 p1 => ?_
  split at p1
  · rename_i ds hd
    split at p1
    · rename_i hz
      have hds := pureL_rp h1 hd
      have hl := hds.length
      refine ⟨by omega, fun a hna => ⟨a, vs ++ [], rfl, by rw [List.append_nil]; omega, upd_same, fun d H2 hnd hne h2a h2d hk => ⟨rfl, d, _, h2a, h2d, (upd_ne hne).symm.trans hnd, ?_⟩⟩⟩
      have hd1 : H1 d = none := (upd_ne hne).symm.trans hnd
      have eH : upd (del H2 a) d (.xd (ns.zip (vs ++ [])).reverse) = upd H1 d (.xd (ns.zip vs).reverse) := by
        rw [List.append_nil]
        funext b
        by_cases hb : b = d
        · rw [hb, upd_same, upd_same]
        · rw [upd_ne hb, upd_ne hb]
          by_cases hba : b = a
          · rw [hba, del_same, hna]
          · rw [del_ne hba, hk b hba hb, upd_ne hba]
      rw [eH]
      exact p1 (some d) σ m1 _ (re1.ext (ext_new r1 hd1 _)) (r1.new hd1 _) (ext_new r1 hd1 _) ⟨_, upd_same, r1.fresh hd1, (RpF.rev (RpF.zip hds)).ext (ext_new r1 hd1 _)⟩
    · exact p1.elim
  · exact p1.elim
end
/-! ### isinstance of a caught exception -/
structure ExI (K : PySem.W.Frag) (C : Addr) : Prop where
  xf : XfC K C
  ca : PySem.W.findIn K (.ref C) "__class__" = some (some (.builtin "object.__class__"))
  cn : PySem.W.specialIn K (.builtin "object.__class__") "__get__" = some (some (.builtin "getset_descriptor.__get__"))
  ct : PySem.W.takesIn K (.builtin "object.__class__") = some true
  cm : PySem.W.mroIn K C (.type "object") = some true
def rIsX (K : PySem.W.Frag) (C a : Addr) (d : Option Addr) : List V → Hp → VK → Prop := fun xs H Q => ∃ (c : V) (b : Bool) (dd : Addr) (fs : List (Str × V)), xs = [.ref a, c] ∧ d = some dd ∧ H dd = some (.xd fs) ∧
  ((∃ u, ClsV c u ∧ PySem.W.kitOne K (.ref C) u = some b) ∨ ∃ tp cs us, c = .ref tp ∧ H tp = some (.tup cs) ∧ Paired ClsV cs us ∧ PySem.W.kitAny K (.ref C) us = some b) ∧ Q (.bl b) H
theorem call_isX {X : Cx} {a C : Addr} {oe : Obj} {d : Option Addr} {pn : List (Addr × Obj)} (T : ExI X.K C) (hz : Zc (.ref C) d oe) (hf : ∃ vs, oe.data = .fields vs) : CallR (X.suite a ((a, oe) :: pn)) (.builtin "isinstance") (rIsX X.K C a d) := by
  intro pins s σ H xs us Q I r h
  obtain ⟨c, b, dd, fs, rfl, rfl, hdd, hc, q⟩ := h
  obtain ⟨u1, u2, rfl, r1, r2⟩ := vals2 r
  cases (show u1 = Value.ref a from r1)
  obtain ⟨ha, _⟩ := I.pin (a, oe) (List.mem_append_left _ List.mem_cons_self)
  obtain ⟨vs, hd⟩ := hf
  obtain ⟨mA, hns, _⟩ := (show ObjOk X.prog X.w H s.heap dd (.xd fs) from I.hok dd _ hdd)
  obtain ⟨od, ho, _⟩ := lookIn_ns hns
  have J : PySem.W.InstAt s.heap a oe C (some od) := ⟨ha, hz.1, by unfold PySem.W.notCls; rw [hd] <;> rfl, by rw [hz.2]; exact ho⟩
  have hcl : (PySem.W.clsIn X.K C).isSome = true := by
    obtain ⟨cd, e, _⟩ := PySem.W.any_some T.xf.hdC
    rw [e]; rfl
  have Z := PySem.W.kitx_exc (x := a) (ox := oe) (od := some od) hcl T.xf.ga T.xf.gg T.xf.exC T.ca T.cn T.ct T.cm
  rcases hc with ⟨u, k, e⟩ | ⟨tp, cs, ws, rfl, hT, k, e⟩
  · have e2 := k.eq r2
    subst e2
    exact PySem.W.kia_one Z I.kIn J e (fun z => nomatch z) fun tk => ⟨.bl b, H, I.tok tk, rfl, q⟩
  · cases (show u2 = Value.ref tp from r2)
    obtain ⟨_, its, rv, o, g1, g2, n, g3⟩ := (show ObjOk X.prog X.w H s.heap tp (.tup cs) from I.hok tp _ hT)
    have e3 := ClsV.all k rv
    subst e3
    obtain ⟨oc, od2, dt, sl⟩ := o
    simp only at g2 g3
    subst g2 g3
    exact PySem.W.kia_tup Z I.kIn J g1 e (fun z => nomatch z) fun tk => ⟨.bl b, H, I.tok tk, rfl, q⟩
/-! ### try -/
def sTry (K : PySem.W.Frag) (c : Value) (gb gs : G) : G := fun env st => match gb env st with
  | .ex cls fs env1 st1 => match PySem.W.exmOne K cls c with
    | some true => match gs env1 st1 with
      | .ex _ _ _ _ => .bad
      | r => r
    | some false => .ex cls fs env1 st1
    | none => .bad
  | r => r
section
variable {X : Cx} {W : WX} {x n : Str} {c : Value} {body suite : List Stmt} {b₀ : Stmt} {np pos pos' : Pos} {gb gs : G}
/-- try: body / except x: suite -/
theorem ds_try (hs : X.stack = X.env :: X.outer) (hf : X.env.frame = some X.env.locals) (hc : Names X x c) (tk : Takes X W)
    (hb : ∀ (W' : WX) (pn : List (Addr × Obj)) (xe : Value → Shared → Prop), Takes (X.tr pn xe) W' → PassesOwn (model X.prog X.w) X.A X.env xe → DB (X.tr pn xe) W' body gb)
    (hsu : ∀ (a : Addr) (oe : Obj) (pn : List (Addr × Obj)), DB (X.suite a ((a, oe) :: pn)) W0 (b₀ :: suite) gs) :
    DS X W (.Try body [.ExceptHandler (some (.Name x np)) none (b₀ :: suite) pos'] [] [] pos) (sTry X.K c gb gs) :=
  ⟨PS.imp (ps_try_only (tb := fun W' => tG X.K W' gb) (ts := fun _ _ _ => tG X.K W0 gs) (Wout := W) hs hf hc tk (fun W' pn xe t q => (hb W' pn xe t q).pss) fun a oe cls d pn _ _ => (hsu a oe pn).pss) fun D σ H ⟨m, env, st, r, re, p⟩ => by
    refine ⟨m, env, st, r, re, ?_⟩
    unfold sTry at p
    cases e : gb env st with
    | bad => rw [e] at p; exact p.elim
    | ok env1 f st1 => rw [e] at p; cases f <;> exact p
    | ex cls fs env1 st1 =>
      rw [e] at p
      simp only at p
      intro d σ' m' H' h1 h2 h3 h4
      cases q : PySem.W.exmOne X.K cls c with
      | none => simp only [q] at p; exact p.elim
      | some b =>
        simp only [q] at p
        cases b with
        | true =>
          refine ⟨true, q, fun _ a _ => ⟨m', env1, st1, h2, h1, ?_⟩, fun z => nomatch z⟩
          have p2 := p.from h3
          simp only at p2
          cases e2 : gs env1 st1 with
          | bad => rw [e2] at p2; exact p2.elim
          | ok env2 f st2 => rw [e2] at p2; cases f <;> exact p2
          | ex c2 fs2 env2 st2 => rw [e2] at p2; exact p2.elim
        | false => exact ⟨false, q, (fun z => nomatch z), fun _ => p d σ' m' H' h1 h2 h3 h4⟩⟩
end
/-! ### try: body / except x as n: if isinstance(n, (A, B, C)) or not isinstance(n, T): return z / return (n.f1, n.f2) -/
def sTryGet2 (i : Nat) (C : Addr) (n1 n2 : Str) (gb : G) : G := fun env st => match gb env st with
  | .ex cls fs env1 st1 => match fs with
    | some [(m2, d2), (m1, d1)] => if cls = .ref C ∧ m1 = n1 ∧ m2 = n2 ∧ i < env1.length then .ok env1 (.rt (.d (.tup [d1, d2]))) st1 else .bad
    | _ => .bad
  | r => r
/-- no other class fits -/
structure Alone (K : PySem.W.Frag) (C : Addr) (t : Value) (us : List Addr) : Prop where
  no : PySem.W.kitAny K (.ref C) (us.map Value.ref) = some false
  yes : PySem.W.kitOne K (.ref C) t = some true
  self : PySem.W.exmOne K (.ref C) (.ref C) = some true
theorem cls_all : ∀ us : List Addr, Paired ClsV (us.map V.ref) (us.map Value.ref)
  | [] => .nil
  | u :: us => .cons (.own u) (cls_all us)
section
variable {X : Cx} {W : WX} {x n A1 A2 A3 n1 n2 : Str} {C a1 a2 a3 : Addr} {tn : String} {i : Nat} {body : List Stmt} {gb : G} {z : Str} {k1 k2 k3 : Nat} {np p1 p2 p3 p4 p5 p6 p7 p8 p9 p10 p11 p12 p13 p14 p15 p16 p17 p18 p19 p20 p21 p22 pos pos' : Pos}
/-- the suite's reading -/
def tGet2 (C : Addr) (n1 n2 : Str) (i : Nat) : Addr → Value → Option Addr → TS := fun a cls d D σ H => cls = .ref C ∧ σ[i]? = some (some (.ref a)) ∧ ∃ dd v1 v2, d = some dd ∧ H dd = some (.xd [(n2, v2), (n1, v1)]) ∧
  ∀ cs q p, H q = none → (upd H q (.tup cs)) p = none → D.rt (.ref p) (upd (upd H q (.tup cs)) p (.tup [v1, v2]))
theorem suite_get2 (hN : X.N[i]? = some n) (hv : Vis X.env.scope n) (hdb : (n == ("__debug__" : Str)) = false) (hcd : (n == ("__classdict__" : Str)) = false) (I : ExI X.K C) (al : Alone X.K C (.type tn) [a1, a2, a3])
    (no1 : PySem.W.findIn X.K (.ref C) n1 = some none) (no2 : PySem.W.findIn X.K (.ref C) n2 = some none) (hne : (n1 == n2) = false) (hi : X.mg "isinstance" = none) (hb : bootBuiltins "isinstance" = some (.builtin "isinstance"))
    (m1 : X.mg A1 = some (.ref a1)) (m2 : X.mg A2 = some (.ref a2)) (m3 : X.mg A3 = some (.ref a3)) {T : Str} (mT : X.mg T = none) (bT : bootBuiltins T = some (.type tn)) (nT : T ≠ "__name__") (dT : (T == ("__debug__" : Str)) = false)
    (gi : Gl X "isinstance") (g1 : Gl X A1) (g2 : Gl X A2) (g3 : Gl X A3) (gT : Gl X T) (d1 : (A1 == ("__debug__" : Str)) = false) (d2 : (A2 == ("__debug__" : Str)) = false) (d3 : (A3 == ("__debug__" : Str)) = false)
    (b1 : attributeBase (.Name n p17) n1 X.env (eval (.Name n p17) X.env) = eval (.Name n p17) X.env) (b2 : attributeBase (.Name n p19) n2 X.env (eval (.Name n p19) X.env) = eval (.Name n p19) X.env)
    (a : Addr) (oe : Obj) (cls : Value) (d : Option Addr) (pn : List (Addr × Obj)) (hz : Zc cls d oe) (hf : ∃ vs, oe.data = .fields vs) :
    PSs (X.suite a ((a, oe) :: pn)) [.If (.BoolOp .Or [.Call (.Name "isinstance" p1) [.Name n p2, .Tuple [.Name A1 p3, .Name A2 p4, .Name A3 p5] k1 p6] [] p7, .UnaryOp .Not (.Call (.Name "isinstance" p8) [.Name n p9, .Name T p10] [] p11) p12] p13) [.Return (some (.Constant (.str z) k2 p14)) p15] [] p16,
      .Return (some (.Tuple [.Attribute (.Name n p17) n1 p18, .Attribute (.Name n p19) n2 p20] k3 p21)) p22] (tGet2 C n1 n2 i a cls d) := by
  by_cases hcls : cls = .ref C
  · subst hcls
    have hn : ∀ pos : Pos, PE (X.suite a ((a, oe) :: pn)) (.Name n pos) (tVar i) := fun pos => pv (X := X.suite a ((a, oe) :: pn)) (pos := pos) i hN hv hdb hcd
    have e1 : PE (X.suite a ((a, oe) :: pn)) (.Call (.Name "isinstance" p1) [.Name n p2, .Tuple [.Name A1 p3, .Name A2 p4, .Name A3 p5] k1 p6] [] p7) _ :=
      pe_callB (call_isX I hz hf) gi hi hb (pa_cons (hn _) (pa_cons (pe_tup (pa_cons (pe_glob (v := .ref a1) g1 m1 rfl d1) (pa_cons (pe_glob (v := .ref a2) g2 m2 rfl d2) (pa_cons (pe_glob (v := .ref a3) g3 m3 rfl d3) pa_nil)))) pa_nil))
    have e2 : PE (X.suite a ((a, oe) :: pn)) (.Call (.Name "isinstance" p8) [.Name n p9, .Name T p10] [] p11) _ :=
      pe_callB (call_isX I hz hf) gi hi hb (pa_cons (hn _) (pa_cons (pe_bltn (v := .ty tn) gT mT bT rfl nT dT) pa_nil))
    refine PSs.imp (pss_cons (ps_if (pw_or (pt_val e1) (pw_or1 (pt_not (pt_val e2)))).pt (pss_one (ps_ret pe_str)) pss_nil) (pss_one (ps_ret (pe_tup (pa_cons (pe_xf I.xf no1 hz hf (hn _) b1) (pa_cons (pe_xf I.xf no2 hz hf (hn _) b2) pa_nil)))))) ?_
    rintro D σ H ⟨_, hs, dd, v1, v2, rfl, hdd, q⟩
    refine ⟨.ref a, hs, (by show 3 ≤ sizeLine; decide), fun p hp => ?_⟩
    have hdd' : (upd H p (.tup [.ref a1, .ref a2, .ref a3])) dd = some (.xd [(n2, v2), (n1, v1)]) := (upd_ne (ne_of_none hdd hp)).trans hdd
    have l1 : List.lookup n1 [(n2, v2), (n1, v1)] = some v1 := by simp [List.lookup, hne]
    have l2 : List.lookup n2 [(n2, v2), (n1, v1)] = some v2 := by simp [List.lookup]
    refine ⟨.ref p, false, dd, _, rfl, rfl, hdd', .inr ⟨p, _, _, rfl, upd_same, cls_all [a1, a2, a3], al.no⟩, false, rfl, ?_⟩
    refine iteF ⟨.ref a, hs, .ty tn, true, dd, _, rfl, rfl, hdd', .inl ⟨.type tn, .ty tn, al.yes⟩, true, rfl, iteF ?_⟩
    exact ⟨.ref a, hs, rfl, rfl, dd, _, v1, rfl, hdd', l1, .ref a, hs, rfl, rfl, dd, _, v2, rfl, hdd', l2, (by show 2 ≤ sizeLine; decide), fun p2 hp2 => q _ p p2 hp hp2⟩
  · exact PSs.imp (t := tNever) pss_never fun D σ H h => (hcls h.1).elim
theorem ds_try_get2 (i : Nat) (hs : X.stack = X.env :: X.outer) (hf : X.env.frame = some X.env.locals) (hNd : X.N.Nodup) (tk : Takes X W) (I : ExI X.K C) (al : Alone X.K C (.type tn) [a1, a2, a3])
    (hx : X.mg x = some (.ref C)) (no1 : PySem.W.findIn X.K (.ref C) n1 = some none) (no2 : PySem.W.findIn X.K (.ref C) n2 = some none) (hi : X.mg "isinstance" = none) (hb : bootBuiltins "isinstance" = some (.builtin "isinstance"))
    (m1 : X.mg A1 = some (.ref a1)) (m2 : X.mg A2 = some (.ref a2)) (m3 : X.mg A3 = some (.ref a3)) {T : Str} (mT : X.mg T = none) (bT : bootBuiltins T = some (.type tn))
    (hbody : ∀ (W' : WX) (pn : List (Addr × Obj)) (xe : Value → Shared → Prop), Takes (X.tr pn xe) W' → PassesOwn (model X.prog X.w) X.A X.env xe → DB (X.tr pn xe) W' body gb)
    (hN : X.N[i]? = some n := by rfl) (hln : X.env.kindOf n = some .local := by rfl) (hv : Vis X.env.scope n := by first | exact Or.inl rfl | exact Or.inr (Or.inl rfl) | exact Or.inr (Or.inr rfl)) (hdb : (n == ("__debug__" : Str)) = false := by decide) (hcd : (n == ("__classdict__" : Str)) = false := by decide)
    (hne : (n1 == n2) = false := by decide) (nT : T ≠ "__name__" := by decide) (dT : (T == ("__debug__" : Str)) = false := by decide) (gx : Gl X x := by rfl) (gi : Gl X "isinstance" := by rfl) (g1 : Gl X A1 := by rfl) (g2 : Gl X A2 := by rfl) (g3 : Gl X A3 := by rfl) (gT : Gl X T := by rfl)
    (dx : (x == ("__debug__" : Str)) = false := by decide) (d1 : (A1 == ("__debug__" : Str)) = false := by decide) (d2 : (A2 == ("__debug__" : Str)) = false := by decide) (d3 : (A3 == ("__debug__" : Str)) = false := by decide)
    (b1 : attributeBase (.Name n p17) n1 X.env (eval (.Name n p17) X.env) = eval (.Name n p17) X.env := by rfl) (b2 : attributeBase (.Name n p19) n2 X.env (eval (.Name n p19) X.env) = eval (.Name n p19) X.env := by rfl) :
    DS X W (.Try body [.ExceptHandler (some (.Name x np)) (some n) [.If (.BoolOp .Or [.Call (.Name "isinstance" p1) [.Name n p2, .Tuple [.Name A1 p3, .Name A2 p4, .Name A3 p5] k1 p6] [] p7, .UnaryOp .Not (.Call (.Name "isinstance" p8) [.Name n p9, .Name T p10] [] p11) p12] p13) [.Return (some (.Constant (.str z) k2 p14)) p15] [] p16,
      .Return (some (.Tuple [.Attribute (.Name n p17) n1 p18, .Attribute (.Name n p19) n2 p20] k3 p21)) p22] pos'] [] [] pos) (sTryGet2 i C n1 n2 gb) :=
  ⟨PS.imp (ps_try_as (tb := fun W' => tG X.K W' gb) (ts := tGet2 C n1 n2 i) (Wout := W) hs hf hNd hN hln ⟨gx, dx, .inl hx⟩ tk (fun W' pn xe t q => (hbody W' pn xe t q).pss)
    fun a oe cls d pn hz hfl => suite_get2 hN hv hdb hcd I al no1 no2 hne hi hb m1 m2 m3 mT bT nT dT gi g1 g2 g3 gT d1 d2 d3 b1 b2 a oe cls d pn hz hfl) fun D σ H ⟨m, env, st, r, re, p⟩ => by
    refine ⟨m, env, st, r, re, ?_⟩
    unfold sTryGet2 at p
    cases e : gb env st with
    | bad => rw [e] at p; exact p.elim
    | ok env1 f st1 => rw [e] at p; cases f <;> exact p
    | ex cls fs env1 st1 =>
      rw [e] at p
      simp only at p
      intro d σ' m' H' h1 h2 h3 h4
      split at p
      · rename_i m2' d2' m1' d1'
        split at p
        · rename_i hc
          obtain ⟨rfl, rfl, rfl, hlt⟩ := hc
          cases d with
          | none => exact h4.elim
          | some dd =>
            obtain ⟨vs, g1', g2', v2, r2, rfl, q2, v1, r1, rfl, q1, rfl⟩ := h4
            refine ⟨true, al.self, fun _ a _ => ⟨rfl, ?_, dd, v1, v2, rfl, g1', fun cs q p' hq hp => ?_⟩, fun zz => nomatch zz⟩
            · exact List.getElem?_set_self (by rw [← h1.len]; exact hlt)
            · have e1 := ext_new h2 hq (.tup cs)
              have r1' := h2.new hq (.tup cs)
              have e2 := ext_new r1' hp (.tup [v1, v2])
              exact p _ m' _ ⟨p', [v1, v2], rfl, .inl ⟨r1'.fresh hp, upd_same⟩, ⟨v1, _, rfl, (q1.ext e1).ext e2, v2, _, rfl, (q2.ext e1).ext e2, rfl⟩⟩ (r1'.new hp _) ((h3.trans e1).trans e2)
        · exact p.elim
      · exact p.elim⟩
end
theorem bt_ValueError : bootBuiltins "ValueError" = some (.type "ValueError") := by decide +kernel
theorem bt_LookupError : bootBuiltins "LookupError" = some (.type "LookupError") := by decide +kernel
theorem bt_IndexError : bootBuiltins "IndexError" = some (.type "IndexError") := by decide +kernel
theorem bt_RuntimeError : bootBuiltins "RuntimeError" = some (.type "RuntimeError") := by decide +kernel
theorem bt_ArithmeticError : bootBuiltins "ArithmeticError" = some (.type "ArithmeticError") := by decide +kernel
theorem bt_OverflowError : bootBuiltins "OverflowError" = some (.type "OverflowError") := by decide +kernel
theorem bt_TypeError : bootBuiltins "TypeError" = some (.type "TypeError") := by decide +kernel
end VL

/-! VLu: lists joined, cut, drawn as new cells. -/
namespace VL
open PySem PySem.Spec PyProof.Rows L2

/-- a list's items, data or cell -/
def lstG (st : Store) : U → Option (List U)
  | .d (.lst ds) => some (ds.map .d)
  | .ref n => match st[n]? with
    | some (.lst us) => some us
    | _ => none
  | _ => none
theorem lstG_rp {K : PySem.W.Frag} {m : List Addr} {H : Hp} {st : Store} (r : Rep K m st H) {u : U} {v : V} {us : List U} (h : RpU K m H u v) (e : lstG st u = some us) : ∃ a vs, v = .ref a ∧ H a = some (.lst vs) ∧ RpUs K m H us vs := by
  cases u with
  | ref n =>
    obtain ⟨a, ha, rfl⟩ := h
    simp only [lstG] at e
    split at e
    · rename_i zs hs
      cases e
      obtain ⟨ho, h1, vs, rfl, h2⟩ := r.cell n _ a hs ha
      exact ⟨a, vs, rfl, h1, h2⟩
    · cases e
  | d x =>
    cases x with
    | lst ds =>
      obtain ⟨a, vs, rfl, t, q⟩ := h
      cases e
      exact ⟨a, vs, rfl, t.2, RpUs.ofD q⟩
    | _ => cases e
def oAddL : P2 := fun a b st => match lstG st a, lstG st b with
  | some us, some ws => if us.length + ws.length ≤ sizeLine then (pureL (us ++ ws)).map fun ds => .d (.lst ds) else none
  | _, _ => oAdd a b st
theorem op_addL {X : Cx} : OpR X (binaryOp .Add) (rG X.K oAddL) := by
  intro pins s σ H x y v u Q I rx ry h
  obtain ⟨m, st, a, b, r, ha, hb, p⟩ := h
  unfold oAddL at p
  split at p
  · rename_i us ws e1 e2
    split at p
    · rename_i hz
      obtain ⟨p1, vs, rfl, t1, q1⟩ := lstG_rp r ha e1
      obtain ⟨p2, zs, rfl, t2, q2⟩ := lstG_rp r hb e2
      have l1 := q1.length
      have l2 := q2.length
      cases e3 : pureL (us ++ ws) with
      | none => rw [e3] at p; exact p.elim
      | some ds =>
        rw [e3] at p
        exact op_cat pins s σ H _ _ v u Q I rx ry ⟨p1, p2, vs, zs, rfl, rfl, t1, t2, by omega, fun q hq => p _ _ (new_lst r hq (pureL_rp (q1.append q2) e3)) (r.new hq _) (ext_new r hq _)⟩
    · exact p.elim
  · exact op_add' pins s σ H x y v u Q I rx ry ⟨m, st, a, b, r, ha, hb, p⟩
/-! ### operations that make a cell -/
abbrev P2S := U → U → Store → R U
def f2s (g : P2S) (fa fb : F U) : F U := bnd fa fun a => bnd fb fun b => fun _ st => g a b st
def vAddC : P2S := fun a b st => match lstG st a, lstG st b with
  | some us, some ws => if us.length + ws.length ≤ sizeLine then .ok (.ref st.length) (st ++ [.lst (us ++ ws)]) else .bad
  | _, _ => .bad
def rGS (K : PySem.W.Frag) (g : P2S) : R2 := fun x y H Q => ∃ m st a b, Rep K m st H ∧ RpU K m H a x ∧ RpU K m H b y ∧ PU K m H Q (fun _ _ _ => False) (g a b st)
theorem PO'.noex {α β : Type} {K : PySem.W.Frag} {m : List Addr} {H : Hp} {rel : List Addr → Hp → α → β → Prop} {Q : β → Hp → Prop} {E : XK} {r : R α} (h : PO' K m H rel Q E r) (hn : ∀ c fs st, r ≠ .ex c fs st) : PO' K m H rel Q (fun _ _ _ => False) r := by
  cases r with
  | ok a st => exact h
  | ex c fs st => exact (hn c fs st rfl).elim
  | bad => exact h
section
variable {X : Cx} {W : WX} {a b : Expr} {fa fb : F U} {pos : Pos} {g : P2S}
theorem d_opS {op : Operator} (ho : OpR X (binaryOp op) (rGS X.K g)) (hn : ∀ a b st c fs st', g a b st ≠ .ex c fs st') (ha : DE X W a fa) (hb : DE X W b fb) : DE X W (.BinOp a op b pos) (f2s g fa fb) :=
  ⟨PE.imp (pe_op ho ha.pe hb.pe) fun σ H Q ⟨m, env, st, r, re, p⟩ => tF_step r re p fun a st1 v m1 H1 h1 r1 re1 e1 p1 => tF_step r1 re1 p1 fun b st2 w m2 H2 h2 r2 re2 e2 p2 =>
    ⟨m2, st2, a, b, r2, h1.ext e2, h2, p2.noex fun c fs st' => hn a b st2 c fs st'⟩⟩
theorem vAddC_no : ∀ a b st c fs st', vAddC a b st ≠ .ex c fs st' := fun a b st c fs st' => by
  unfold vAddC
  split
  · split <;> intro z <;> cases z
  · intro z; cases z
theorem op_addC {X : Cx} : OpR X (binaryOp .Add) (rGS X.K vAddC) := by
  intro pins s σ H x y v u Q I rx ry h
  obtain ⟨m, st, a, b, r, ha, hb, p⟩ := h
  unfold vAddC at p
  split at p
  · rename_i us ws e1 e2
    split at p
    · rename_i hz
      obtain ⟨p1, vs, rfl, t1, q1⟩ := lstG_rp r ha e1
      obtain ⟨p2, zs, rfl, t2, q2⟩ := lstG_rp r hb e2
      have l1 := q1.length
      have l2 := q2.length
      refine op_cat pins s σ H _ _ v u Q I rx ry ⟨p1, p2, vs, zs, rfl, rfl, t1, t2, by omega, fun q hq => ?_⟩
      obtain ⟨g1, g2⟩ := push_lst r hq (q1.append q2)
      exact p _ _ _ g1 g2 (ext_push r hq _)
    · exact p.elim
  · exact p.elim
/-- a slice of a list, as a cell -/
def oSlC (a : U) (lo hi : Option Int) (st : Store) : R U := match getL st a with
  | some us => .ok (.ref st.length) (st ++ [.lst (cutG us lo hi)])
  | none => .bad
def fSlC (f : F U) (l h : F (Option Int)) : F U := bnd f fun a => bnd l fun lo => bnd h fun hi => fun _ st => oSlC a lo hi st
theorem sl_okC : SlR X (fun x lo hi H Q => ∃ m st a, Rep X.K m st H ∧ RpU X.K m H a x ∧ PU X.K m H Q (fun _ _ _ => False) (oSlC a lo hi st)) := by
  intro pins s σ H x v vl vu lo hi sl Q I rx hs pl pu h
  obtain ⟨m, st, a, r, ha, p⟩ := h
  unfold oSlC at p
  split at p
  · rename_i us hl
    obtain ⟨q, vs, rfl, h1, h2⟩ := getL_rp r ha hl
    refine sl_list pins s σ H _ v vl vu lo hi sl Q I rx hs pl pu ⟨q, vs, rfl, h1, fun z hz => ?_⟩
    obtain ⟨g1, g2⟩ := push_lst r hz (cut_rp h2 lo hi)
    exact p _ _ _ g1 g2 (ext_push r hz _)
  · exact p.elim
theorem d_slC {lo hi : Option Expr} {fl fh : F (Option Int)} {p2 : Pos} (ha : DE X W a fa) (hl : DO X W lo fl) (hh : DO X W hi fh) : DE X W (.Subscript a (.Slice lo hi none p2) pos) (fSlC fa fl fh) := ⟨PE.imp (pe_slice sl_okC ha.pe hl.po hh.po) fun σ H Q ⟨m, env, st, r, re, p⟩ =>
  tF_step r re p fun u st1 v m1 H1 h1 r1 re1 e1 p1 => tFO_step r1 re1 p1 fun lo st2 m2 H2 r2 re2 e2 p2 => tFO_step r2 re2 p2 fun hi st3 m3 H3 r3 re3 e3 p3 =>
    ⟨m3, st3, u, r3, (h1.ext e2).ext e3, by
      have p4 : PU X.K m3 H3 Q _ (oSlC u lo hi st3) := p3
      refine p4.noex fun c fs st' => ?_
      unfold oSlC
      split <;> intro z <;> cases z⟩⟩
end
end VL

/-! VLv: a generator def's body: if, for. -/
namespace VL
open PySem PySem.Spec PyProof.Rows L2 GenW
section
variable {X : Cx} {pos : Pos}
/-! ### if -/
def tGIf (tc : TT) (t u : TGn) : TGn := fun D ys σ H => tc σ H fun b H1 => if b = true then t D ys σ H1 else u D ys σ H1
theorem gs_if {c : Expr} {p q : List Stmt} {tc : TT} {t u : TGn} (hc : PT X c tc) (ha : GSs X p t) (hb : GSs X q u) : GS X (.If c p q pos) (tGIf tc t u) := by
  refine ⟨fun A S ip R n ys s₀ cd fs K J gd lv s σ H D g hn k hI ht => ?_⟩
  obtain ⟨acc, cc, r, I⟩ := hI
  refine seg_at (seg_bind_wrap (wpAny_pure (seg_bind_wrap ?_)))
  rw [g.over]
  refine wpAny_mono (hc.run _ s σ H _ I ht) (fun b s1 hb1 => ?_) fun x s1 hx => k.exc n s₀ x s1 hx
  obtain ⟨H2, I2, q2⟩ := hb1
  cases b with
  | true => exact ha.run A S ip R n ys s₀ cd fs K J gd lv s1 σ H2 D g hn k ⟨acc, cc, r, I2⟩ q2
  | false => exact hb.run A S ip R n ys s₀ cd fs K J gd lv s1 σ H2 D g hn k ⟨acc, cc, r, I2⟩ q2
/-! ### for -/
def tGFor (wi : TI) (g : TG) (tb : TGn) : TGn := fun D ys σ H => wi σ H fun J H1 => ∃ Z : Nat → Nat → List V → L2.St → Hp → Prop, (∃ m, Z 0 m ys σ H1) ∧
  ∀ i m zs σ H, Z i m zs σ H → (J.stop i H ∧ D.nx zs σ H) ∨
    (J.go i H ∧ ∃ N : List V → L2.St → Hp → Prop, (∀ zs' σ' H', N zs' σ' H' → ∃ m', m' < m ∧ Z (i + 1) m' zs' σ' H') ∧
      ∀ x H', J.yld i H x H' → g x σ H' fun σ2 H2 => tb { D with nx := N, ct := N, bk := D.nx } zs σ2 H2)
/-- what is done with an exception that leaves the loop's code -/
abbrev leaves (env : Env) (x : Value) : Sem PySem.Fin := (do noteFrame x env; theTreesLotGoes x : Sem Unit).wrap (fun _ => .raise x) .raise id id
theorem gs_for {tg iter : Expr} {body : List Stmt} {wi : TI} {g : TG} {tb : TGn} (hp : PassesOwn (model X.prog X.w) X.A X.env X.xe) (hc : X.calm = true) (hi : PI X tg iter wi) (hg : PG X tg g) (hb : GSs X body tb)
    (hf : ∀ x, foldedSetIterable iter X.env x = pure x := by intro _; rfl) : GS X (.For tg iter body [] pos) (tGFor wi g tb) := by
  refine ⟨fun A S ip R n ys s₀ cd fs K J gd lv s σ H D q hn k hI ht => ?_⟩
  obtain ⟨acc, cc, rv, I⟩ := hI
  refine seg_at (seg_bind_wrap (wpAny_pure (seg_bind_wrap ?_)))
  rw [q.over]
  refine wpAny_mono (hi.run _ s σ H _ I ht) (fun v s1 e1 => ?_) fun x s1 hx => k.exc n s₀ x s1 hx
  refine seg_bind_wrap (wpAny_of_eq (hf v) (seg_bind_wrap (wpAny_standAt (seg_bind_wrap (wpAny_holding ?_)))))
  rw [q.over]
  refine wpAny_mono e1 (fun itv s2 e2 => ?_) fun x s1 hx => k.exc n s₀ x s1 hx
  obtain ⟨it, fp, tn, It0, H2, ei, I2, T, st2, f2, Z, ⟨m0, z0⟩, turn⟩ := e2
  subst ei
  refine seg_call fun p => ?_
  have fS : ∀ b ∈ fp, S ≠ b := fun b hb => (f2 b hb).2.2.2.2.2 (S, lstObj acc cc) (List.mem_append_right _ List.mem_cons_self)
  have stat : ∀ {H' : Hp} {ac : Array Value} {c' : Nat}, (∀ b ∈ fp, H' b = none) → ∀ b ∈ fp, FpOk X ((S, lstObj ac c') :: ip) H' b := fun {H' ac c'} hz b hb => by
    obtain ⟨_, a1, a2, a3, a4, a5⟩ := f2 b hb
    refine ⟨hz b hb, a1, a2, a3, a4, fun y hy => ?_⟩
    rcases List.mem_append.mp hy with z | z
    · exact a5 y (List.mem_append_left _ z)
    · rcases List.mem_cons.mp z with z | z
      · rw [z]; exact fS b hb
      · exact a5 y (List.mem_append_right _ (List.mem_cons_of_mem _ z))
  have unpin : ∀ {pl : List (Addr × Obj)} {zs : List V} {σ' : L2.St} {H' : Hp} {s' : Shared}, GI X S (ip ++ pl) zs σ' H' s' → GI X S ip zs σ' H' s' := fun {pl zs σ' H' s'} h => by
    obtain ⟨ac, c', r', I'⟩ := h
    exact ⟨ac, c', r', Inv.unpinned (pins := (S, lstObj ac c') :: ip) I'⟩
  generalize hk' : (fun r : Result => ((match r with | .ok f => (.pure f : Sem Flow) | .error e => .raise e).onRaise (cameBack X.env)).wrap K J gd lv) = kk
  have gl := gc_loop (k := kk) (c' := .forLoop tg (.ref it) body [] X.env) (l := lv []) (kp := []) (p := p) q rfl rfl
  have ee : ∀ (n : Nat) (s₀ : Shared) (x : Value) (s' : Shared), X.xe x s' → Seg (model X.prog X.w) A R (GY X S) n s₀ (.forLoop tg (.ref it) body [] X.env)
      ((do noteFrame x X.env; theTreesLotGoes x : Sem Unit).bind fun _ => .raise x) (.ret kk none (gd false) (lv []) cd p [] :: fs) s' := fun n s₀ x s' hx => by
    rw [Sem.bind_eq_wrap]
    refine seg_wrap ?_
    rw [gl.over]
    refine wpAny_bind (wpAny_mono (hp x s' hx) (fun _ s'' hcb => wpAny_theTreesLotGoes ?_) fun y s'' hcb => ?_)
    · exact seg_leaf (.error x) (by rw [← hk']; exact seg_cameBack q k hcb)
    · exact seg_leaf (.error y) (by rw [← hk']; exact seg_cameBack q k hcb)
  have out : ∀ (f : Flow) (n : Nat) (s₀ s' : Shared) (cl : Code), Seg (model X.prog X.w) A R (GY X S) n s₀ cd (K f) fs s' → Seg (model X.prog X.w) A R (GY X S) n s₀ cl (leafOf (.ok f)) (.ret kk none (gd false) (lv []) cd p [] :: fs) s' := fun f n s₀ s' cl h =>
    seg_leaf (.ok f) (by rw [← hk']; exact h)
  have loop : ∀ (m n i : Nat) (zs : List V) (s₀ s : Shared) (σ : L2.St) (H : Hp), n + zs.length = sizeLine → Z i m zs σ H → GI X S ip zs σ H s → tn i s.heap → (∀ b ∈ fp, H b = none) →
      Seg (model X.prog X.w) A R (GY X S) n s₀ (.forLoop tg (.ref it) body [] X.env) ((model X.prog X.w).den (.forLoop tg (.ref it) body [] X.env)) (.ret kk none (gd false) (lv []) cd p [] :: fs) s := by
    intro m
    induction m using Nat.strongRecOn with
    | ind m ih =>
      intro n i zs s₀ s σ H hn z hI st hfr
      obtain ⟨ac, c1, r1, I1⟩ := hI
      show Seg _ _ _ _ _ _ _ ((forTurn tg (.ref it) body [] X.env).onRaise fun x => do noteFrame x X.env; theTreesLotGoes x) _ s
      rw [Sem.onRaise_eq_wrap]
      unfold forTurn
      refine seg_bind_wrap (wpAny_standAt (seg_bind_wrap ?_))
      rw [gl.over]
      rcases turn i m zs σ H z with ⟨stop, qn⟩ | ⟨go, N, hN, step⟩
      · refine wpAny_onRaise (wpAny_mono (T.done X rfl rfl rfl hc i _ s σ H X.xe I1 (stat hfr) st stop) (fun r' s4 h4 => ?_) fun x s4 hx => wpAny_standAt (ee n s₀ x s4 hx))
        obtain ⟨er, I4⟩ := h4
        subst er
        exact seg_again rfl (out .next n s₀ s4 _ (k.ok n zs s₀ s4 .next hn ⟨σ, H, ⟨ac, c1, r1, I4⟩, qn⟩))
      · refine wpAny_onRaise (wpAny_mono (T.item X rfl rfl rfl hc i _ s σ H X.xe I1 (stat hfr) st go) (fun r' s4 h4 => ?_) fun x s4 hx => wpAny_standAt (ee n s₀ x s4 hx))
        obtain ⟨u, er, h5⟩ := h4
        subst er
        refine seg_bind_wrap ?_
        rw [gl.over]
        refine wpAny_mono h5 (fun _ s5 h6 => ?_) fun x s4 hx => ee n s₀ x s4 hx
        obtain ⟨x, H5, I5, r5, y5, st5, fr5⟩ := h6
        have J5 := I5.pinned (stat fr5) (T.obj _ _ st5)
        refine seg_bind_wrap ?_
        rw [gl.over]
        refine wpAny_mono (hg.run _ s5 σ H5 x u _ J5 r5 (step x H5 y5)) (fun _ s6 h7 => ?_) fun x s4 hx => ee n s₀ x s4 hx
        obtain ⟨σ6, H6, I6, q6⟩ := h7
        rw [Sem.bind_eq_wrap', Sem.wrap_wrap]
        have back : ∀ {zs' : List V} {σ' : L2.St} {H' : Hp} {s' : Shared}, GI X S (ip ++ pinsAt fp s5.heap) zs' σ' H' s' → tn (i + 1) s'.heap ∧ ∀ b ∈ fp, H' b = none := fun {zs' σ' H' s'} h => by
          obtain ⟨ac', c', r', I'⟩ := h
          refine ⟨T.keep _ _ _ st5 fun b hb o e => (I'.pin (b, o) (List.mem_append_right _ (List.mem_cons_of_mem _ (List.mem_append_right _ (mem_pinsAt hb e))))).1, fun b hb => ?_⟩
          obtain ⟨o, e, d⟩ := T.obj _ _ st5 b hb
          exact (I'.pin (b, o) (List.mem_append_right _ (List.mem_cons_of_mem _ (List.mem_append_right _ (mem_pinsAt hb e))))).2.1
        refine hb.run A S (ip ++ pinsAt fp s5.heap) R n zs s₀ _ _ _ _ _ _ s6 σ6 H6 { D with nx := N, ct := N, bk := D.nx } ⟨gl.pn, fun y hy => ?_, gl.apart, gl.over, gl.split, gl.guard, rfl⟩ hn ⟨fun n' zs' s₀' s7 f hn' hs => ?_, fun n' s₀' x s7 hx => ee n' s₀' x s7 hx⟩ ⟨ac, c1, r1, I6⟩ q6
        · rcases List.mem_append.mp hy with z1 | z1
          · exact gl.ip y z1
          · exact fun e => fS y.1 (of_pinsAt z1).1 e.symm
        · cases f with
          | next =>
            obtain ⟨σ7, H7, I7, n7⟩ := hs
            obtain ⟨m', hm, z7⟩ := hN zs' σ7 H7 n7
            exact seg_again rfl (ih m' hm n' (i + 1) zs' s₀' s7 σ7 H7 hn' z7 (unpin I7) (back I7).1 (back I7).2)
          | cont =>
            obtain ⟨σ7, H7, I7, n7⟩ := hs
            obtain ⟨m', hm, z7⟩ := hN zs' σ7 H7 n7
            exact seg_again rfl (ih m' hm n' (i + 1) zs' s₀' s7 σ7 H7 hn' z7 (unpin I7) (back I7).1 (back I7).2)
          | brk =>
            obtain ⟨σ7, H7, I7, n7⟩ := hs
            exact out .next n' s₀' s7 _ (k.ok n' zs' s₀' s7 .next hn' ⟨σ7, H7, unpin I7, n7⟩)
          | ret v =>
            obtain ⟨x7, σ7, H7, I7, r7, n7⟩ := hs
            exact out (.ret v) n' s₀' s7 _ (k.ok n' zs' s₀' s7 (.ret v) hn' ⟨x7, σ7, H7, unpin I7, r7, n7⟩)
  exact hk' ▸ loop m0 n 0 ys s₀ s2 σ H2 hn z0 ⟨acc, cc, rv, I2⟩ st2 fun b hb => (f2 b hb).1
end
end VL

/-! VLw: generator defs: mirrors of their bodies, list(o.m()). -/
namespace VL
open PySem PySem.Spec PyProof.Rows L2 GenW

inductive RY where
  | ok (env : VEnv) (f : Fl) (st : Store) (ys : List U)
  | bad
abbrev Y := VEnv → Store → List U → RY
def PY (K : PySem.W.Frag) (m : List Addr) (H : Hp) (D : GEnds) : RY → Prop
  | .ok env .nx st' ys => ∀ σ' m' H' zs, RpEnv K m' H' env σ' → Rep K m' st' H' → Ext m H m' H' → RpUs K m' H' ys zs → D.nx zs σ' H'
  | .ok env (.rt u) st' ys => ∀ v m' H' zs, RpU K m' H' u v → Rep K m' st' H' → Ext m H m' H' → RpUs K m' H' ys zs → D.rt zs v H'
  | .ok env .bk st' ys => ∀ σ' m' H' zs, RpEnv K m' H' env σ' → Rep K m' st' H' → Ext m H m' H' → RpUs K m' H' ys zs → D.bk zs σ' H'
  | .ok env .ct st' ys => ∀ σ' m' H' zs, RpEnv K m' H' env σ' → Rep K m' st' H' → Ext m H m' H' → RpUs K m' H' ys zs → D.ct zs σ' H'
  | .bad => False
theorem PY.from {K : PySem.W.Frag} {m m1 : List Addr} {H H1 : Hp} {D : GEnds} (e : Ext m H m1 H1) : ∀ {r : RY}, PY K m H D r → PY K m1 H1 D r
  | .ok _ .nx _ _, h => fun v m' H' zs a b c => h v m' H' zs a b (e.trans c)
  | .ok _ (.rt _) _ _, h => fun v m' H' zs a b c => h v m' H' zs a b (e.trans c)
  | .ok _ .bk _ _, h => fun v m' H' zs a b c => h v m' H' zs a b (e.trans c)
  | .ok _ .ct _ _, h => fun v m' H' zs a b c => h v m' H' zs a b (e.trans c)
  | .bad, h => h
def tY (K : PySem.W.Frag) (g : Y) : TGn := fun D ys σ H => ∃ m env st us, Rep K m st H ∧ RpEnv K m H env σ ∧ RpUs K m H us ys ∧ PY K m H D (g env st us)
theorem GS.imp {X : Cx} {s : Stmt} {t t' : TGn} (h : GS X s t) (i : ∀ D ys σ H, t' D ys σ H → t D ys σ H) : GS X s t' :=
  ⟨fun A S ip R n ys s₀ c fs K J gd lv s σ H D a b k d e => h.run A S ip R n ys s₀ c fs K J gd lv s σ H D a b k d (i _ _ _ _ e)⟩
theorem GSs.imp {X : Cx} {s : List Stmt} {t t' : TGn} (h : GSs X s t) (i : ∀ D ys σ H, t' D ys σ H → t D ys σ H) : GSs X s t' :=
  ⟨fun A S ip R n ys s₀ c fs K J gd lv s σ H D a b k d e => h.run A S ip R n ys s₀ c fs K J gd lv s σ H D a b k d (i _ _ _ _ e)⟩
structure DY (X : Cx) (s : Stmt) (g : Y) : Prop where
  gs : GS X s (tY X.K g)
structure DYs (X : Cx) (s : List Stmt) (g : Y) : Prop where
  gss : GSs X s (tY X.K g)
def yNil : Y := fun env st ys => .ok env .nx st ys
def ySeq (g h : Y) : Y := fun env st ys => match g env st ys with
  | .ok env1 .nx st1 ys1 => h env1 st1 ys1
  | r => r
def yBnd {α : Type} (f : F α) (g : α → Y) : Y := fun env st ys => match f env st with
  | .ok a st1 => g a env st1 ys
  | _ => .bad
def yYield (f : F U) : Y := yBnd f fun u => fun env st ys => if ys.length < sizeLine then .ok env .nx st (ys ++ [u]) else .bad
def yIf (c : F Bool) (g h : Y) : Y := yBnd c fun k => if k = true then g else h
theorem rpUs_snoc {K : PySem.W.Frag} {m : List Addr} {H : Hp} : ∀ {us : List U} {vs : List V} {u : U} {v : V}, RpUs K m H us vs → RpU K m H u v → RpUs K m H (us ++ [u]) (vs ++ [v])
  | [], _, _, _, rfl, r => ⟨_, _, rfl, r, rfl⟩
  | _ :: _, _, _, _, ⟨x, xs, rfl, h1, h2⟩, r => ⟨x, _, rfl, h1, rpUs_snoc h2 r⟩
section
variable {X : Cx} {W : WX} {s : Stmt} {ss a b : List Stmt} {g h ga gb : Y} {e c : Expr} {fe : F U} {bc : F Bool} {pos : Pos}
theorem yF_step {α : Type} {K : PySem.W.Frag} {m : List Addr} {H : Hp} {env : VEnv} {st : Store} {us : List U} {zs : List V} {σ : L2.St} {D : GEnds} {f : F α} {gy : α → Y} {E : XK} {β : Type} {rl : List Addr → Hp → α → β → Prop} {Z : β → Hp → Prop}
    (re : RpEnv K m H env σ) (ru : RpUs K m H us zs) (p : PY K m H D (yBnd f gy env st us))
    (hz : ∀ x st1 v m1 H1, rl m1 H1 x v → Rep K m1 st1 H1 → RpEnv K m1 H1 env σ → Ext m H m1 H1 → RpUs K m1 H1 us zs → PY K m1 H1 D (gy x env st1 us) → Z v H1) : PO' K m H rl Z E (f env st) := by
  unfold yBnd at p
  cases q : f env st with
  | bad => rw [q] at p; exact p.elim
  | ex c fs st1 => rw [q] at p; exact p.elim
  | ok x st1 =>
    rw [q] at p
    exact fun v m1 H1 h1 r1 e1 => hz x st1 v m1 H1 h1 r1 (re.ext e1) e1 (ru.ext e1) (p.from e1)
theorem dy_nil : DYs X [] yNil := ⟨GSs.imp gss_nil fun D ys σ H ⟨m, env, st, us, r, re, ru, p⟩ => p σ m H ys re r (Ext.refl _ _) ru⟩
theorem dy_cons (h1 : DY X s g) (h2 : DYs X ss h) : DYs X (s :: ss) (ySeq g h) := ⟨GSs.imp (gss_cons h1.gs h2.gss) fun D ys σ H ⟨m, env, st, us, r, re, ru, p⟩ => by
  refine ⟨m, env, st, us, r, re, ru, ?_⟩
  unfold ySeq at p
  cases q : g env st us with
  | bad => rw [q] at p; exact p
  | ok env1 f st1 ys1 =>
    rw [q] at p
    cases f with
    | nx => exact fun σ' m' H' zs k1 k2 k3 k4 => ⟨m', env1, st1, ys1, k2, k1, k4, p.from k3⟩
    | rt u => exact p
    | bk => exact p
    | ct => exact p⟩
theorem dy_yield {yp : Pos} (he : DE X W e fe) (hco : X.env.scope.isCoroutine = false := by rfl) (hi : interactive X.env = false := by rfl) : DY X (.Expr (.Yield (some e) yp) pos) (yYield fe) :=
  ⟨GS.imp (gs_yield he.pe hco hi) fun D ys σ H ⟨m, env, st, us, r, re, ru, p⟩ => by
    have hlt : ys.length < sizeLine := by
      unfold yYield yBnd at p
      cases q : fe env st with
      | bad => rw [q] at p; exact p.elim
      | ex c fs st1 => rw [q] at p; exact p.elim
      | ok u st1 =>
        rw [q] at p
        simp only at p
        split at p
        · rename_i hl
          rw [ru.length]; exact hl
        · exact p.elim
    refine ⟨hlt, m, env, st, r, re, yF_step re ru p fun u st1 v m1 H1 h1 r1 re1 e1 ru1 p1 => ?_⟩
    split at p1
    · exact p1 σ m1 H1 _ re1 r1 (Ext.refl _ _) (rpUs_snoc ru1 h1)
    · exact p1.elim⟩
theorem dy_if (hc : DT X W c bc) (ha : DYs X a ga) (hb : DYs X b gb) : DY X (.If c a b pos) (yIf bc ga gb) := ⟨GS.imp (gs_if hc.pt ha.gss hb.gss) fun D ys σ H ⟨m, env, st, us, r, re, ru, p⟩ =>
  ⟨m, env, st, r, re, yF_step re ru p fun k st1 v m1 H1 h1 r1 re1 e1 ru1 p1 => by
    subst h1
    cases v with
    | true => rw [if_pos rfl] at p1 ⊢; exact ⟨m1, env, st1, us, r1, re1, ru1, p1⟩
    | false => rw [if_neg Bool.false_ne_true] at p1 ⊢; exact ⟨m1, env, st1, us, r1, re1, ru1, p1⟩⟩⟩
end
/-! ### for -/
def loopLY (tg : U → G) (body : Y) : List U → Y
  | [] => yNil
  | u :: us => fun env st ys => match tg u env st with
    | .ok env1 .nx st1 => match body env1 st1 ys with
      | .ok env2 .nx st2 ys2 => loopLY tg body us env2 st2 ys2
      | .ok env2 .ct st2 ys2 => loopLY tg body us env2 st2 ys2
      | .ok env2 .bk st2 ys2 => .ok env2 .nx st2 ys2
      | r => r
    | _ => .bad
def loopCY (tg : U → G) (body : Y) (n : Nat) (f : Nat → U → Option U) : Nat → Nat → Y
  | 0, _ => fun _ _ _ => .bad
  | k + 1, i => fun env st ys => match st[n]? with
    | some (.lst us) => match us[i]? with
      | none => .ok env .nx st ys
      | some u => match f i u with
        | none => .bad
        | some w => match tg w env st with
          | .ok env1 .nx st1 => match body env1 st1 ys with
            | .ok env2 .nx st2 ys2 => loopCY tg body n f k (i + 1) env2 st2 ys2
            | .ok env2 .ct st2 ys2 => loopCY tg body n f k (i + 1) env2 st2 ys2
            | .ok env2 .bk st2 ys2 => .ok env2 .nx st2 ys2
            | r => r
          | _ => .bad
    | _ => .bad
def yFor (fi : F Itb) (tg : U → G) (body : Y) : Y := yBnd fi fun t => match t with
  | .lst us => loopLY tg body us
  | .cell n f => fun env st ys => match st[n]? with
    | some (.lst us) => loopCY tg body n f (us.length + 1) 0 env st ys
    | _ => .bad
section
variable {X : Cx} {W : WX} {tg iter : Expr} {body : List Stmt} {is : List Nat} {g : U → G} {gb : Y} {fi : F Itb} {pos : Pos}
theorem turnY {K : PySem.W.Frag} {is : List Nat} {D : GEnds} {N : List V → L2.St → Hp → Prop} {g : U → G} {gb : Y} {rest : Y} {u : U} {m m1 : List Addr} {env : VEnv} {st : Store} {us : List U} {zs : List V} {H H1 : Hp} {σ : L2.St} {x : V} (r : Rep K m st H) (re : RpEnv K m H env σ) (ry : RpUs K m H us zs) (ru : RpU K m H u x)
    (e0 : Ext m1 H1 m H)
    (p : PY K m H D (match g u env st with
      | .ok env1 .nx st1 => match gb env1 st1 us with
        | .ok env2 .nx st2 ys2 => rest env2 st2 ys2
        | .ok env2 .ct st2 ys2 => rest env2 st2 ys2
        | .ok env2 .bk st2 ys2 => .ok env2 .nx st2 ys2
        | r => r
      | _ => .bad))
    (hN : ∀ env2 st2 us2 zs' σ' m' H', RpEnv K m' H' env2 σ' → Rep K m' st2 H' → Ext m1 H1 m' H' → RpUs K m' H' us2 zs' → PY K m' H' D (rest env2 st2 us2) → N zs' σ' H') :
    tTg K is g x σ H fun σ2 H2 => tY K gb { D with nx := N, ct := N, bk := D.nx } zs σ2 H2 := by
  refine ⟨m, env, st, u, r, re, ru, ?_⟩
  cases e : g u env st with
  | bad => rw [e] at p; exact p.elim
  | ex c fs env1 st1 => rw [e] at p; exact p.elim
  | ok env1 f st1 =>
    rw [e] at p
    cases f with
    | rt w => exact p.elim
    | bk => exact p.elim
    | ct => exact p.elim
    | nx =>
      refine fun σ2 m2 H2 k1 k2 k3 _ => ⟨m2, env1, st1, us, k2, k1, ry.ext k3, ?_⟩
      have p2 := PY.from k3 p
      cases e2 : gb env1 st1 us with
      | bad => simp only [e2] at p2; exact p2
      | ok env2 f2 st2 ys2 =>
        simp only [e2] at p2
        cases f2 with
        | nx => exact fun σ' m' H' zs' j1 j2 j3 j4 => hN env2 st2 ys2 zs' σ' m' H' j1 j2 (e0.trans (k3.trans j3)) j4 (p2.from j3)
        | ct => exact fun σ' m' H' zs' j1 j2 j3 j4 => hN env2 st2 ys2 zs' σ' m' H' j1 j2 (e0.trans (k3.trans j3)) j4 (p2.from j3)
        | bk => exact p2
        | rt w => exact p2
theorem t_forY {D : GEnds} {zs : List V} {σ : L2.St} {H : Hp} (q : tY X.K (yFor fi g gb) D zs σ H) : tGFor (tI X.K W fi) (tTg X.K is g) (tY X.K gb) D zs σ H := by
  obtain ⟨m, env, st, us, r, re, ry, p⟩ := q
  refine ⟨m, env, st, r, re, ?_⟩
  unfold yFor yBnd at p
  cases e : fi env st with
  | bad => rw [e] at p; exact p.elim
  | ex c fs st1 => rw [e] at p; exact p.elim
  | ok t st1 =>
    rw [e] at p
    intro t' m0 H0 ht r0 e0 m1 st1' he r1 e1 J hJ
    subst ht
    cases he
    have re1 := re.ext e1
    have ry1 := ry.ext e1
    have p1 := PY.from e1 p
    cases t' with
    | lst xs =>
      obtain ⟨go, stop, yld⟩ := hJ
      refine ⟨fun i k zs σ H => ∃ m' env' st' us', Rep X.K m' st' H ∧ RpEnv X.K m' H env' σ ∧ RpUs X.K m' H us' zs ∧ Ext m1 H0 m' H ∧ k = xs.length - i ∧ i ≤ xs.length ∧ PY X.K m' H D (loopLY g gb (xs.drop i) env' st' us'),
        ⟨xs.length, m1, env, st1, us, r1, re1, ry1, Ext.refl _ _, by simp, Nat.zero_le _, p1⟩, ?_⟩
      rintro i k zs' σ' H' ⟨m', env', st', us', r', re', ry', e', rfl, hi, p'⟩
      by_cases hlt : i < xs.length
      · have hu : xs[i]? = some xs[i] := List.getElem?_eq_getElem hlt
        rw [List.drop_eq_getElem_cons hlt] at p'
        refine .inr ⟨go i m' st' H' hlt r' e', fun z2 σ2 H2 => ∃ m2 env2 st2 us2, Rep X.K m2 st2 H2 ∧ RpEnv X.K m2 H2 env2 σ2 ∧ RpUs X.K m2 H2 us2 z2 ∧ Ext m1 H0 m2 H2 ∧ PY X.K m2 H2 D (loopLY g gb (xs.drop (i + 1)) env2 st2 us2), ?_, ?_⟩
        · rintro z2 σ2 H2 ⟨m2, env2, st2, us2, r2, re2, ry2, e2, p2⟩
          exact ⟨xs.length - (i + 1), by omega, m2, env2, st2, us2, r2, re2, ry2, e2, rfl, hlt, p2⟩
        · intro x H'' hy
          obtain ⟨r2, e2, ru⟩ := yld i _ m' st' H' x H'' hu r' e' hy
          exact turnY r2 (re'.ext e2) (ry'.ext e2) ru (e'.trans e2) (PY.from e2 p') fun env2 st2 us2 z2 σ2 m2 H2 k1 k2 k3 k4 k5 => ⟨m2, env2, st2, us2, k2, k1, k4, k3, k5⟩
      · have : i = xs.length := by omega
        subst this
        rw [List.drop_length] at p'
        exact .inl ⟨stop m' st' H' r' e', p' σ' m' H' zs' re' r' (Ext.refl _ _) ry'⟩
    | cell n f =>
      simp only at p1
      split at p1
      · rename_i us0 hs0
        refine ⟨fun i k zs σ H => ∃ m' env' st' us', Rep X.K m' st' H ∧ RpEnv X.K m' H env' σ ∧ RpUs X.K m' H us' zs ∧ Ext m1 H0 m' H ∧ PY X.K m' H D (loopCY g gb n f k i env' st' us'),
          ⟨us0.length + 1, m1, env, st1, us, r1, re1, ry1, Ext.refl _ _, p1⟩, ?_⟩
        rintro i k zs' σ' H' ⟨m', env', st', us', r', re', ry', e', p'⟩
        cases k with
        | zero => exact p'.elim
        | succ k =>
          unfold loopCY at p'
          split at p'
          · rename_i xs hs
            obtain ⟨go, stop, yld⟩ := hJ xs m' st' H' r' e' hs
            cases hu : xs[i]? with
            | none =>
              simp only [hu] at p'
              exact .inl ⟨stop i (List.getElem?_eq_none_iff.mp hu), p' σ' m' H' zs' re' r' (Ext.refl _ _) ry'⟩
            | some u =>
              simp only [hu] at p'
              cases hf : f i u with
              | none => simp only [hf] at p'; exact p'.elim
              | some w =>
                simp only [hf] at p'
                refine .inr ⟨go i (List.getElem?_eq_some_iff.mp hu).1, fun z2 σ2 H2 => ∃ m2 env2 st2 us2, Rep X.K m2 st2 H2 ∧ RpEnv X.K m2 H2 env2 σ2 ∧ RpUs X.K m2 H2 us2 z2 ∧ Ext m1 H0 m2 H2 ∧ PY X.K m2 H2 D (loopCY g gb n f k (i + 1) env2 st2 us2), ?_, ?_⟩
                · rintro z2 σ2 H2 ⟨m2, env2, st2, us2, r2, re2, ry2, e2, p2⟩
                  exact ⟨k, Nat.lt_succ_self k, m2, env2, st2, us2, r2, re2, ry2, e2, p2⟩
                · intro x H'' hy
                  obtain ⟨r2, e2, ru⟩ := yld i u w x H'' hu hf hy
                  exact turnY r2 (re'.ext e2) (ry'.ext e2) ru (e'.trans e2) (PY.from e2 p') fun env2 st2 us2 z2 σ2 m2 H2 k1 k2 k3 k4 k5 => ⟨m2, env2, st2, us2, k2, k1, k4, k3, k5⟩
          · exact p'.elim
      · exact p1.elim
theorem dy_for (hp : PassesOwn (model X.prog X.w) X.A X.env X.xe) (hc : X.calm = true) (hi : DI X W tg iter fi) (hg : DG X tg is g) (hb : DYs X body gb) (hs : ∀ x, foldedSetIterable iter X.env x = pure x := by intro _; rfl) :
    DY X (.For tg iter body [] pos) (yFor fi g gb) := ⟨GS.imp (gs_for hp hc hi.pi hg.pg hb.gss hs) fun _ _ _ _ q => t_forY q⟩
end
/-! ### the def, and list(o.m()) -/
def runY (n : Nat) (g : Y) (us : List U) (st : Store) : Option (Store × List U) := match g (us.map some ++ List.replicate (n - us.length) none) st [] with
  | .ok _ .nx st' ys => some (st', ys)
  | _ => none
def spY (K : PySem.W.Frag) (n : Nat) (mY : List U → Store → Option (Store × List U)) : SpG := fun vs H cont _ => vs.length = n ∧ ∃ m st us, Rep K m st H ∧ RpUs K m H us vs ∧ match mY us st with
  | some (st', ys) => ∀ zs m' H', Rep K m' st' H' → Ext m H m' H' → RpUs K m' H' ys zs → cont zs H'
  | none => False
theorem gen_ok {P : Program} {w : World} {K : PySem.W.Frag} {mg : Str → Option Value} {base : Heap} {x qual : Str} {st : Stmt} {f : Addr} {fd : FuncData} {N ps : List Str} {k : Nat} {g : Y} (Fn : Fun K x qual st f fd) (S : GScope N ps (defScope st))
    (hbody : ∀ (cdv : Value) (A : Around) (outer : List Env) (s : Shared) (H : Hp) (E : XK) (pn : List (Addr × Obj)), Room k (A.deeper (envOfC qual (defScope st) s.heap.objs.size f cdv)) →
      DYs (gcxOf P w K mg base N qual (defScope st) f cdv A outer s H E pn) (defBody st) g) : GFn P w K mg base (k + 1) f fd ps (spY K ps.length (runY N.length g)) := by
  obtain ⟨oc, od, kV, doc, pm, an, cdv, ct, osl, rfl, lk, hcd⟩ := Fn.ex
  refine gfn_of lk hcd S (fun vs H Q E h => h.1) fun A outer s H vs Q E pn hr h => ⟨tY K g, (hbody cdv A outer s H E pn hr).gss, ?_⟩
  obtain ⟨hl, m, st0, us, r, ru, p⟩ := h
  refine ⟨m, _, st0, [], r, start_env ru, rfl, ?_⟩
  unfold runY at p
  cases q : g (us.map some ++ List.replicate (N.length - us.length) none) st0 [] with
  | bad => rw [q] at p; exact p.elim
  | ok env fl st1 ys =>
    rw [q] at p
    cases fl with
    | nx => exact fun σ' m' H' zs h0 h1 h2 h3 => p zs m' H' h1 h2 h3
    | rt u => exact p.elim
    | bk => exact p.elim
    | ct => exact p.elim
/-- a generator method of one parameter -/
structure GnOk (P : Program) (w : World) (K : PySem.W.Frag) (mg : Str → Option Value) (base : Heap) (f : Addr) (k : Nat) (mY : List U → Store → Option (Store × List U)) : Prop where
  ex : ∃ (fd : FuncData) (ps : List Str), GFn P w K mg base k f fd ps (spY K 1 mY) ∧ Binds K fd ps []
def fListYC (C : Addr) (nm : Str) (mY : List U → Store → Option (Store × List U)) (fo : F U) : F U := bnd fo fun u => fun _ st => match insU st u with
  | some (C', us) => if C' = C ∧ us.lookup nm = none then match mY [u] st with
    | some (st', ys) => .ok (.ref st'.length) (st' ++ [.lst ys])
    | none => .bad
    else .bad
  | none => .bad
def fListY (C : Addr) (nm : Str) (mY : List U → Store → Option (Store × List U)) (fo : F U) : F U := bnd fo fun u => fun _ st => match insU st u with
  | some (C', us) => if C' = C ∧ us.lookup nm = none then match mY [u] st with
    | some (st', ys) => match pureL ys with
      | some ds => .ok (.d (.lst ds)) st'
      | none => .bad
    | none => .bad
    else .bad
  | none => .bad
section
variable {X : Cx} {W : WX} {o : Expr} {fo : F U} {C f : Addr} {nm x : Str} {k : Nat} {mY : List U → Store → Option (Store × List U)} {p pos pos' apos : Pos} {pl : Sem Bool}
theorem d_listY (ho : DE X W o fo) (hC : Cls X.K C) (hM : Meth X.K C nm f) (Fn : GnOk X.prog X.w X.K X.mg X.base f k mY) (hr : Room (k + 3) X.A) (hmg : X.mg x = none) (hv : bootBuiltins x = some (.type "list")) (hg : Gl X x := by rfl) (hnm : x ≠ "__name__" := by decide) (hdb : (x == ("__debug__" : Str)) = false := by decide)
    (ht : eval (.Call (.Attribute o nm apos) [] [] pos') X.env = (do
      let ov ← eval o X.env
      standAt apos.atName
      let (f, first) ← holding [ov] (getMethod ov nm pl)
      callWith pos' f first (backTo pos' (starEach [] X.env)) (backToKw pos' (keywordEach [] X.env))) := by rfl)
    (he : starEach [(.Call (.Attribute o nm apos) [] [] pos' : Expr)] X.env = (false, eval (.Call (.Attribute o nm apos) [] [] pos') X.env) :: starEach [] X.env := by rfl) :
    DE X W (.Call (.Name x p) [.Call (.Attribute o nm apos) [] [] pos'] [] pos) (fListY C nm mY fo) := by
  obtain ⟨fd, ps, Fn, hb⟩ := Fn.ex
  have hroom : Room k X.A := hr.mono (by omega)
  refine ⟨PE.imp (pe_listG (E := fun _ _ _ => False) (pgen_meth0 (pl := pl) (dvs := []) ho.pe hC hM Fn hroom hb .nil ht) (fun pins σ H s e s' I c => ?_) (fun _ _ _ h => h.elim) hr hg hmg hv hnm hdb he) fun σ H Q q => ?_⟩
  · obtain ⟨a, B, H', cls, d, _, _, _, _, _, _, _, hW⟩ := c
    exact hW.elim
  · obtain ⟨m, env, st, r, re, p⟩ := q
    refine tF_step r re p fun u st1 v m1 H1 h1 r1 re1 e1 p1 => ?_
    split at p1
    · rename_i C' us hi
      split at p1
      · rename_i hc
        obtain ⟨a, dx, vs, rfl, ha, rf⟩ := insU_rp r1 h1 hi
        have hlk := rf.lookup (f := nm)
        rw [hc.2] at hlk
        rw [hc.1] at ha
        split at p1
        · rename_i st' ys hm
          split at p1
          · rename_i ds hd
            refine ⟨a, dx, vs, rfl, ha, hlk, rfl, m1, st1, [u], r1, ⟨_, _, rfl, h1, rfl⟩, ?_⟩
            rw [hm]
            intro zs m2 H2 r2 e2 r3 q hq
            have hD := pureL_rp r3 hd
            exact p1 _ m2 _ (new_lst r2 hq hD) (r2.new hq _) (e2.trans (ext_new r2 hq _))
          · exact p1.elim
        · exact p1.elim
      · exact p1.elim
    · exact p1.elim
theorem d_listYC (ho : DE X W o fo) (hC : Cls X.K C) (hM : Meth X.K C nm f) (Fn : GnOk X.prog X.w X.K X.mg X.base f k mY) (hr : Room (k + 3) X.A) (hmg : X.mg x = none) (hv : bootBuiltins x = some (.type "list")) (hg : Gl X x := by rfl) (hnm : x ≠ "__name__" := by decide) (hdb : (x == ("__debug__" : Str)) = false := by decide)
    (ht : eval (.Call (.Attribute o nm apos) [] [] pos') X.env = (do
      let ov ← eval o X.env
      standAt apos.atName
      let (f, first) ← holding [ov] (getMethod ov nm pl)
      callWith pos' f first (backTo pos' (starEach [] X.env)) (backToKw pos' (keywordEach [] X.env))) := by rfl)
    (he : starEach [(.Call (.Attribute o nm apos) [] [] pos' : Expr)] X.env = (false, eval (.Call (.Attribute o nm apos) [] [] pos') X.env) :: starEach [] X.env := by rfl) :
    DE X W (.Call (.Name x p) [.Call (.Attribute o nm apos) [] [] pos'] [] pos) (fListYC C nm mY fo) := by
  obtain ⟨fd, ps, Fn, hb⟩ := Fn.ex
  have hroom : Room k X.A := hr.mono (by omega)
  refine ⟨PE.imp (pe_listG (E := fun _ _ _ => False) (pgen_meth0 (pl := pl) (dvs := []) ho.pe hC hM Fn hroom hb .nil ht) (fun pins σ H s e s' I c => ?_) (fun _ _ _ h => h.elim) hr hg hmg hv hnm hdb he) fun σ H Q q => ?_⟩
  · obtain ⟨a, B, H', cls, d, _, _, _, _, _, _, _, hW⟩ := c
    exact hW.elim
  · obtain ⟨m, env, st, r, re, p⟩ := q
    refine tF_step r re p fun u st1 v m1 H1 h1 r1 re1 e1 p1 => ?_
    split at p1
    · rename_i C' us hi
      split at p1
      · rename_i hc
        obtain ⟨a, dx, vs, rfl, ha, rf⟩ := insU_rp r1 h1 hi
        have hlk := rf.lookup (f := nm)
        rw [hc.2] at hlk
        rw [hc.1] at ha
        split at p1
        · rename_i st' ys hm
          refine ⟨a, dx, vs, rfl, ha, hlk, rfl, m1, st1, [u], r1, ⟨_, _, rfl, h1, rfl⟩, ?_⟩
          rw [hm]
          intro zs m2 H2 r2 e2 r3 q hq
          obtain ⟨g1, g2⟩ := push_lst r2 hq r3
          exact p1 _ _ _ g1 g2 (e2.trans (ext_push r2 hq _))
        · exact p1.elim
      · exact p1.elim
    · exact p1.elim
end
end VL

/-! VLx: len(o), x in o by own methods. -/
namespace VL
open PySem PySem.Spec PyProof.Rows L2
section
variable {X : Cx} {pins : List (Addr × Obj)} {σ : L2.St} {H : Hp} {s : Shared}
theorem fr_of (I : L2.Inv X pins σ H s) : ∃ m, Fr X.base X.env.locals s.heap m := by
  obtain ⟨m, n, _⟩ := I.loc
  exact ⟨m, n, fun b o e => (I.bs b o e).1, Nat.le_trans I.ok.bsz I.ok.above⟩
theorem inst_of (I : L2.Inv X pins σ H s) {a dx C : Addr} {fs : List (Str × V)} (e : H a = some (.ins C dx fs)) : ∃ od, PySem.W.InstAt s.heap a (PySem.W.instObj C dx) C (some od) := by
  obtain ⟨mA, O, _⟩ := ins_get I.hok e
  obtain ⟨od, h1, _⟩ := lookIn_ns O.ns
  exact ⟨od, O.obj, rfl, rfl, h1⟩
end
/-- a method of an own class that raises nothing, run where it is asked for by a builtin -/
theorem run_own {X : Cx} {pins : List (Addr × Obj)} {σ : L2.St} {H : Hp} {s : Shared} {Q : VK} {k n : Nat} {f : Addr} {gU : List U → List U → List U} {mf : List U → M U} {us : List Value} {vs : List V} {m : List Addr} {st : Store} {as : List U} {A' : Around} {E' : Value → Shared → Prop}
    (F : Fd X.prog X.w X.K X.mg X.base f k n [] gU mf) (hr : RoomG k A') (hf : A'.frames = X.A.frames) (I : L2.Inv X pins σ H s)
    (rv : Vals vs us) (r : Rep X.K m st H) (ra : RpUs X.K m H as vs) (la : as.length = n) (h : PU X.K m H Q (fun _ _ _ => False) (mf (gU as []) st)) :
    wpAny (model X.prog X.w) A' (call (.ref f) us) (EP X pins σ Q) E' s := by
  obtain ⟨fd, ps, g, gV, F, b⟩ := F.ex
  have l1 : vs.length = n := ra.length.trans la
  have rz0 : RpUs X.K m H ([] : List U) ([] : List V) := rfl
  have rg := b.relU (us := as) (ws := []) la rfl ra rz0
  have e0 := I.env0
  refine wpAny_call (codeAny_mono (F.run A' X.stack s H ⟨us, []⟩ (g us []) (gV vs []) Q (fun _ _ _ => False) hr ⟨hf.trans e0.frames, e0.mod, e0.bs, e0.bsz, e0.funs, e0.frf, e0.hok, e0.bare⟩ (b.to s us [] I.kIn (by rw [← l1]; exact (Vals.length rv).symm) rfl) (b.relV l1 rfl rv .nil)
    ⟨rg.length.trans (b.len la rfl), m, st, gU as [], r, rg, h⟩) fun r' s' hq => ?_)
  cases r' with
  | error e =>
    obtain ⟨_, _, _, _, _, _, _, _, _, _, _, _, hW⟩ := hq
    exact hW.elim
  | ok fl =>
    cases fl with
    | next => exact False.elim hq
    | brk => exact False.elim hq
    | cont => exact False.elim hq
    | ret u => exact L2.Inv.after I hq
/-! ### len(o) -/
def oLenO (C : Addr) (mf : List U → M U) : P3 := fun us st => match us with
  | [u] => match insU st u with
    | some (C', _) => if C' = C then match mf [u] st with
      | .ok (.d (.int n)) st' => if 0 ≤ n ∧ n < 2 ^ 63 then some (.d (.int n), st') else none
      | _ => none
      else none
    | none => none
  | _ => none
section
variable {X : Cx} {C f : Addr} {k : Nat} {gU : List U → List U → List U} {mf : List U → M U}
theorem cr_lenO (hM : Meth X.K C "__len__" f) (F : Fd X.prog X.w X.K X.mg X.base f k 1 [] gPos mf) (hr : RoomG (k + 1) X.A) : CallR X (.builtin "len") (rM X.K (oLenO C mf)) := by
  intro pins s σ H xs us Q I rv h
  obtain ⟨m, st, as, r, ra, p⟩ := h
  unfold oLenO at p
  split at p
  · rename_i u
    split at p
    · rename_i C' ws hi
      split at p
      · rename_i hc
        subst hc
        split at p
        · rename_i n st' hm
          split at p
          · rename_i hn
            obtain ⟨x, rfl, rx⟩ := ra.one
            obtain ⟨a, dx, vs, rfl, ha, _⟩ := insU_rp r rx hi
            obtain ⟨w, rfl, rw'⟩ := L2.vals1 rv
            cases rw'
            obtain ⟨mA, Fm⟩ := fr_of I
            obtain ⟨od, Ia⟩ := inst_of I ha
            have hr1 : RoomG k X.A.in1 := ⟨⟨hr.rm.hd, by have := hr.rm.dp; show X.A.depth + 3 * k + 5 < _; omega, by have := hr.rm.un; show X.A.units + 1 + 16 * k + 200 < _; omega⟩, hr.gd⟩
            refine PySem.W.len_K Fm I.ok.mod.kin Ia hM.at_ hM.fn ?_
            refine wpAny_mono (run_own (Q := fun v H' => v = .int n ∧ Q (.int n) H') F hr1 rfl I (vs := [.ref a]) (us := [.ref a]) (.cons rfl .nil) r ra rfl ?_) (fun v s' hv => ?_) fun _ _ e => e
            · show PU X.K m H _ _ (mf [u] st)
              rw [hm]
              intro v m' H' h1 h2 h3
              cases (show v = .int n from h1)
              exact ⟨rfl, p (.int n) m' H' rfl h2 h3⟩
            · obtain ⟨y, H', I', ry, ey, q⟩ := hv
              subst ey
              obtain ⟨t, rfl⟩ := (show ∃ t, v = Value.int n t from ry)
              exact ⟨hn, .int n, H', I'.tok _, ⟨_, rfl⟩, q⟩
          · exact p.elim
        · exact p.elim
      · exact p.elim
    · exact p.elim
  · exact p.elim
end
/-! ### x in o -/
def inO (z : Bool → Bool) (C : Addr) (mf : List U → M U) : P2S := fun a b st => match insU st b with
  | some (C', _) => if C' = C then match mf [b, a] st with
    | .ok (.d (.bl k)) st' => .ok (.d (.bl (z k))) st'
    | _ => .bad
    else .bad
  | none => .bad
theorem inO_no (z : Bool → Bool) (C : Addr) (mf : List U → M U) : ∀ a b st c fs st', inO z C mf a b st ≠ .ex c fs st' := fun a b st c fs st' => by
  unfold inO
  split
  · split
    · split <;> intro z <;> cases z
    · intro z; cases z
  · intro z; cases z
section
variable {X : Cx} {C f : Addr} {k : Nat} {gU : List U → List U → List U} {mf : List U → M U}
theorem op_inO' {op : CmpOp} {z : Bool → Bool} (F : Fd X.prog X.w X.K X.mg X.base f k 2 [] gPos mf) (hr : RoomG k X.A)
    (hop : PySem.W.Frag.In X.K X.base → ∀ {s : Shared} {x : Addr} {v : Value} {ox : Obj} {od : Option Obj} {m : Str → Option Value} {Q : Value → Shared → Prop} {E : Value → Shared → Prop}, Fr X.base X.env.locals s.heap m → PySem.W.InstAt s.heap x ox C od →
      wpAny (model X.prog X.w) X.A (call (.ref f) [.ref x, v]) (fun r s' => wpAny (model X.prog X.w) X.A (truthy r) (fun b => Q (.bool (z b))) E s') E s → wpAny (model X.prog X.w) X.A (compareOp op v (.ref x)) Q E s) :
    OpR X (compareOp op) (rGS X.K (inO z C mf)) := by
  intro pins s σ H x y v u Q I rx ry h
  obtain ⟨m, st, a, b, r, ha, hb, p⟩ := h
  unfold inO at p
  split at p
  · rename_i C' ws hi
    split at p
    · rename_i hc
      subst hc
      split at p
      · rename_i kk st' hm
        obtain ⟨q, dx, vs, rfl, hq, _⟩ := insU_rp r hb hi
        cases ry
        obtain ⟨mA, Fm⟩ := fr_of I
        obtain ⟨od, Ia⟩ := inst_of I hq
        refine hop I.ok.mod.kin Fm Ia ?_
        refine wpAny_mono (run_own (Q := fun v H' => v = .bl kk ∧ Q (.bl (z kk)) H') F hr rfl I (vs := [.ref q, x]) (us := [.ref q, v]) (as := [b, a]) (.cons rfl (.cons rx .nil)) r ⟨_, _, rfl, hb, _, _, rfl, ha, rfl⟩ rfl ?_) (fun w s' hv => ?_) fun _ _ e => e
        · show PU X.K m H _ _ (mf [b, a] st)
          rw [hm]
          intro v' m' H' h1 h2 h3
          cases (show v' = .bl kk from h1)
          exact ⟨rfl, p _ m' H' rfl h2 h3⟩
        · obtain ⟨w', H', I', rw', ey, qq⟩ := hv
          subst ey
          cases (show w = Value.bool kk from rw')
          exact wpAny_pure ⟨.bl (z kk), H', I', rfl, qq⟩
      · exact p.elim
    · exact p.elim
  · exact p.elim
theorem op_inO (hM : Meth X.K C "__contains__" f) (F : Fd X.prog X.w X.K X.mg X.base f k 2 [] gPos mf) (hr : RoomG k X.A) : OpR X (compareOp .In) (rGS X.K (inO (fun k => k) C mf)) :=
  op_inO' F hr fun I0 _ _ _ _ _ _ _ _ Fm Ia h => PySem.W.in_K Fm I0 Ia hM.at_ hM.fn h
theorem op_notInO (hM : Meth X.K C "__contains__" f) (F : Fd X.prog X.w X.K X.mg X.base f k 2 [] gPos mf) (hr : RoomG k X.A) : OpR X (compareOp .NotIn) (rGS X.K (inO (fun k => !k) C mf)) :=
  op_inO' F hr fun I0 _ _ _ _ _ _ _ _ Fm Ia h => PySem.W.notIn_K Fm I0 Ia hM.at_ hM.fn h
end
section
variable {X : Cx} {W : WX} {a b : Expr} {fa fb : F U} {pos : Pos} {g : P2S}
theorem d_cmpS {op : CmpOp} (ho : OpR X (compareOp op) (rGS X.K g)) (hn : ∀ a b st c fs st', g a b st ≠ .ex c fs st') (ha : DE X W a fa) (hb : DE X W b fb) (hm : behindInMarks op b = false := by first | exact nomark _ | rfl) : DE X W (.Compare a [op] [b] pos) (f2s g fa fb) :=
  ⟨PE.imp (pe_cmpR ho ha.pe hb.pe hm) fun σ H Q ⟨m, env, st, r, re, p⟩ => tF_step r re p fun a st1 v m1 H1 h1 r1 re1 e1 p1 => tF_step r1 re1 p1 fun b st2 w m2 H2 h2 r2 re2 e2 p2 =>
    ⟨m2, st2, a, b, r2, h1.ext e2, h2, p2.noex fun c fs st' => hn a b st2 c fs st'⟩⟩
theorem dt_cmpS {op : CmpOp} (ho : OpR X (compareOp op) (rGS X.K g)) (hn : ∀ a b st c fs st', g a b st ≠ .ex c fs st') (ha : DE X W a fa) (hb : DE X W b fb) (hm : behindInMarks op b = false := by first | exact nomark _ | rfl) : DT X W (.Compare a [op] [b] pos) (asB (f2s g fa fb)) :=
  ⟨PT.imp (pt_cmpR ho ha.pe hb.pe hm) fun σ H Q h => by
    have h2 := t_asB h
    obtain ⟨m, env, st, r, re, p⟩ := h2
    exact tF_step r re p fun a st1 v m1 H1 h1 r1 re1 e1 p1 => tF_step r1 re1 p1 fun b st2 w m2 H2 h2 r2 re2 e2 p2 => ⟨m2, st2, a, b, r2, h1.ext e2, h2, p2.noex fun c fs st' => hn a b st2 c fs st'⟩⟩
end
/-! ### x in a dict -/
def inDct (st : Store) (a b : U) : Option Bool := match VL.getD st b with
  | some kvs => match keyD a with
    | some k => some (lookK kvs k).isSome
    | none => none
  | none => none
def oInD : P2 := fun a b st => (inDct st a b).map fun k => .d (.bl k)
def oNotInD : P2 := fun a b st => (inDct st a b).map fun k => .d (.bl (!k))
section
variable {X : Cx}
theorem inDct_rp {m : List Addr} {H : Hp} {st : Store} {a b : U} {x y : V} {k : Bool} (r : Rep X.K m st H) (ha : RpU X.K m H a x) (hb : RpU X.K m H b y) (e : inDct st a b = some k) : ∃ q o, y = .ref q ∧ DGet H q x o ∧ o.isSome = k := by
  unfold inDct at e
  split at e
  · rename_i kvs hk
    split at e
    · rename_i kk hkk
      obtain ⟨q, vs, rfl, h1, h2⟩ := getD_rp r hb hk
      have l := lookK_rp (k := kk) h2
      have hy := keyD_rp ha hkk
      subst hy
      cases e
      refine ⟨q, _, rfl, .inl ⟨vs, kk, h1, rfl, rfl⟩, ?_⟩
      cases z : lookK kvs kk with
      | none => rw [z] at l; simp only at l; rw [l]; rfl
      | some u =>
        rw [z] at l
        obtain ⟨v, hv, _⟩ := l
        rw [hv]; rfl
    · cases e
  · cases e
theorem op_inDct (hu : X.A.units + 1 < cLine) : OpR X (compareOp .In) (rG X.K oInD) := by
  intro pins s σ H x y v u Q I rx ry h
  obtain ⟨m, st, a, b, r, ha, hb, p⟩ := h
  unfold oInD at p
  cases e : inDct st a b with
  | none => rw [e] at p; exact p.elim
  | some k =>
    rw [e] at p
    obtain ⟨q, o, rfl, g, rfl⟩ := inDct_rp r ha hb e
    cases ry
    exact L2.d_in hu I g rx fun s3 I3 => ⟨.bl o.isSome, H, I3, rfl, p _ H rfl r (Ext.refl _ _)⟩
theorem op_notInDct (hu : X.A.units + 1 < cLine) : OpR X (compareOp .NotIn) (rG X.K oNotInD) := by
  intro pins s σ H x y v u Q I rx ry h
  obtain ⟨m, st, a, b, r, ha, hb, p⟩ := h
  unfold oNotInD at p
  cases e : inDct st a b with
  | none => rw [e] at p; exact p.elim
  | some k =>
    rw [e] at p
    obtain ⟨q, o, rfl, g, rfl⟩ := inDct_rp r ha hb e
    cases ry
    exact L2.d_notIn hu I g rx fun s3 I3 => ⟨.bl (!o.isSome), H, I3, rfl, p _ H rfl r (Ext.refl _ _)⟩
end
end VL

/-! VLy: str(o), properties, the truth of o by len. -/
namespace VL
open PySem PySem.Spec PyProof.Rows L2
theorem run_ownC {X : Cx} {pins : List (Addr × Obj)} {σ : L2.St} {H : Hp} {s : Shared} {Q : VK} {k n : Nat} {f : Addr} {gU : List U → List U → List U} {mf : List U → M U} {us : List Value} {vs : List V} {m : List Addr} {st : Store} {as : List U} {A' : Around}
    (F : Fd X.prog X.w X.K X.mg X.base f k n [] gU mf) (hr : RoomG k A') (hf : A'.frames = X.A.frames) (I : L2.Inv X pins σ H s)
    (rv : Vals vs us) (r : Rep X.K m st H) (ra : RpUs X.K m H as vs) (la : as.length = n) (h : PU X.K m H Q (fun _ _ _ => False) (mf (gU as []) st)) :
    codeAny (model X.prog X.w) A' (.call (.ref f) ⟨us, []⟩) (fun r s' => match r with | .ok (.ret u) => EP X pins σ Q u s' | _ => False) s := by
  obtain ⟨fd, ps, g, gV, F, b⟩ := F.ex
  have l1 : vs.length = n := ra.length.trans la
  have rz0 : RpUs X.K m H ([] : List U) ([] : List V) := rfl
  have rg := b.relU (us := as) (ws := []) la rfl ra rz0
  have e0 := I.env0
  refine codeAny_mono (F.run A' X.stack s H ⟨us, []⟩ (g us []) (gV vs []) Q (fun _ _ _ => False) hr ⟨hf.trans e0.frames, e0.mod, e0.bs, e0.bsz, e0.funs, e0.frf, e0.hok, e0.bare⟩ (b.to s us [] I.kIn (by rw [← l1]; exact (Vals.length rv).symm) rfl) (b.relV l1 rfl rv .nil)
    ⟨rg.length.trans (b.len la rfl), m, st, gU as [], r, rg, h⟩) fun r' s' hq => ?_
  cases r' with
  | error e =>
    obtain ⟨_, _, _, _, _, _, _, _, _, _, _, _, hW⟩ := hq
    exact hW.elim
  | ok fl =>
    cases fl with
    | next => exact False.elim hq
    | brk => exact False.elim hq
    | cont => exact False.elim hq
    | ret u => exact L2.Inv.after I hq
/-! ### str(o) -/
def oStrO (C : Addr) (mf : List U → M U) : P3 := fun us st => match us with
  | [u] => match insU st u with
    | some (C', _) => if C' = C then match mf [u] st with
      | .ok (.d (.str x)) st' => some (.d (.str x), st')
      | _ => none
      else none
    | none => none
  | _ => none
theorem cr_strO {X : Cx} {C f : Addr} {k : Nat} {mf : List U → M U} (hM : Meth X.K C "__str__" f) (F : Fd X.prog X.w X.K X.mg X.base f k 1 [] gPos mf) (hr : RoomG (k + 1) X.A) : CallR X (.type "str") (rM X.K (oStrO C mf)) := by
  intro pins s σ H xs us Q I rv h
  obtain ⟨m, st, as, r, ra, p⟩ := h
  unfold oStrO at p
  split at p
  · rename_i u
    split at p
    · rename_i C' ws hi
      split at p
      · rename_i hc
        subst hc
        split at p
        · rename_i n st' hm
          obtain ⟨x, rfl, rx⟩ := ra.one
          obtain ⟨a, dx, vs, rfl, ha, _⟩ := insU_rp r rx hi
          obtain ⟨w, rfl, rw'⟩ := L2.vals1 rv
          cases rw'
          obtain ⟨od, Ia⟩ := inst_of I ha
          have hu := hr.rm.un
          have hr1 : RoomG k X.A.in1.in1 := ⟨⟨hr.rm.hd, by have := hr.rm.dp; show X.A.depth + 3 * k + 5 < _; omega, by show X.A.units + 1 + 1 + 16 * k + 200 < _; omega⟩, hr.gd⟩
          refine PySem.W.kso_call (by show X.A.units + 1 + 1 < _; omega) I.kIn Ia hM.at_ hM.fn ?_
          refine wpAny_mono (run_own (Q := fun v H' => v = .str n ∧ Q (.str n) H') F hr1 rfl I (vs := [.ref a]) (us := [.ref a]) (.cons rfl .nil) r ra rfl ?_) (fun v s' hv => ?_) fun _ _ e => e
          · show PU X.K m H _ _ (mf [u] st)
            rw [hm]
            intro v m' H' h1 h2 h3
            cases (show v = .str n from h1)
            exact ⟨rfl, p (.str n) m' H' rfl h2 h3⟩
          · obtain ⟨y, H', I', ry, ey, q⟩ := hv
            subst ey
            obtain ⟨t, rfl⟩ := (show ∃ t, v = Value.str n t from ry)
            exact ⟨.str n, H', I', ⟨t, rfl⟩, q⟩
        · exact p.elim
      · exact p.elim
    · exact p.elim
  · exact p.elim
/-! ### o.f, a property -/
def fProp (C : Addr) (mf : List U → M U) (fo : F U) : F U := bnd fo fun u => fun _ st => match insU st u with
  | some (C', _) => if C' = C then match mf [u] st with
    | .ok v st' => .ok v st'
    | _ => .bad
    else .bad
  | none => .bad
section
variable {X : Cx} {W : WX} {e : Expr} {fo : F U} {C p g : Addr} {f : Str} {k : Nat} {mf : List U → M U} {pos : Pos}
theorem d_prop (ho : DE X W e fo) (c : Cls X.K C) (hp : PropOf X.K C f p g) (F : Fd X.prog X.w X.K X.mg X.base g k 1 [] gPos mf) (hr : RoomG (k + 1) X.A) (hab : attributeBase e f X.env (eval e X.env) = eval e X.env := by rfl) : DE X W (.Attribute e f pos) (fProp C mf fo) := by
  refine ⟨⟨fun pins s σ H Q I q => ?_⟩⟩
  obtain ⟨m, env, st, r, re, pq⟩ := q
  refine attr_of hab (thn (ho.pe.run pins s σ H (fun x H1 => ∃ a dx fs, x = .ref a ∧ H1 a = some (.ins C dx fs) ∧ ∃ m1 st1 u, Rep X.K m1 st1 H1 ∧ RpU X.K m1 H1 u x ∧ PU X.K m1 H1 Q (fun _ _ _ => False) (mf [u] st1)) I (tF_step r re pq fun u st1 v m1 H1 h1 r1 re1 e1 p1 => ?_)) fun u s1 hh => ?_)
  · split at p1
    · rename_i C' ws hi
      split at p1
      · rename_i hc
        subst hc
        obtain ⟨a, dx, vs, rfl, ha, _⟩ := insU_rp r1 h1 hi
        refine ⟨a, dx, vs, rfl, ha, m1, st1, u, r1, h1, ?_⟩
        cases hm : mf [u] st1 with
        | bad => rw [hm] at p1; exact p1.elim
        | ex cc fs st2 => rw [hm] at p1; exact p1.elim
        | ok v st2 => rw [hm] at p1; exact p1
      · exact p1.elim
    · exact p1.elim
  · obtain ⟨x, H1, I1, rx, a, dx, fs, rfl, ha, m1, st1, uu, r1, h1, pu⟩ := hh
    cases rx
    obtain ⟨mA, O, _⟩ := ins_get I1.hok ha
    obtain ⟨od, J, _⟩ := O.look
    obtain ⟨rest, hrec⟩ := hp.rec_
    have I2 := I1.tok (s1.toks + 1)
    have hc : (PySem.W.clsIn X.K C).isSome = true := by
      obtain ⟨cd, hcd, _⟩ := PySem.W.any_some c.hd
      rw [hcd]; rfl
    have pg := PySem.W.plainGet_of (c.get f)
    have hr1 : RoomG k X.A.in1 := ⟨⟨hr.rm.hd, by have := hr.rm.dp; show X.A.depth + 3 * k + 5 < _; omega, by have := hr.rm.un; show X.A.units + 1 + 16 * k + 200 < _; omega⟩, hr.gd⟩
    have run := run_ownC F hr1 rfl I2 (vs := [.ref a]) (us := [.ref a]) (as := [uu]) (.cons rfl .nil) r1 ⟨_, _, rfl, h1, rfl⟩ rfl pu
    refine PySem.W.get_bind I1.kIn J pg.1 (PySem.W.findObj_data hc hp.at_ hp.get hp.tak) pg.2 ?_
    refine wpAny_call (PySem.W.prop_get (s := { s1 with toks := s1.toks + 1 }) I1.kIn hrec (codeAny_mono run fun r' s2 hq => ?_))
    cases r' with
    | error er => exact False.elim hq
    | ok fl =>
      cases fl with
      | ret w =>
        obtain ⟨v, H2, I3, rv, q3⟩ := hq
        show wpAny _ _ (handedOut w) _ _ _
        rw [PySem.W.handedOut_of (handed_of rv)]
        exact wpAny_pure ⟨v, H2, I3, rv, q3⟩
      | next => exact False.elim hq
      | brk => exact False.elim hq
      | cont => exact False.elim hq
end
/-! ### the truth of o, told by its len -/
section
variable {X : Cx} {pins : List (Addr × Obj)} {σ : L2.St} {H : Hp} {s : Shared} {a dx C f : Addr} {fs : List (Str × V)} {A' : Around} {E' : Value → Shared → Prop}
open Builtin in
theorem truthy_own {N : Bool → Hp → Prop} (I : L2.Inv X pins σ H s) (ha : H a = some (.ins C dx fs)) (hb : PySem.W.findIn X.K (.ref C) "__bool__" = some none) (hM : Meth X.K C "__len__" f)
    (run : wpAny (model X.prog X.w) A'.in1 (call (.ref f) [.ref a]) (EP X pins σ fun v H' => ∃ n : Int, v = .int n ∧ 0 ≤ n ∧ n < 2 ^ 63 ∧ N (n != 0) H') E' s) :
    wpAny (model X.prog X.w) A' (truthy (.ref a)) (TP X pins σ N) E' s := by
  obtain ⟨od, Ia⟩ := inst_of I ha
  have KX := I.kIn
  unfold truthy
  refine wpAny_bind (m := callSpecial? (.ref a) (Str.ofString "__bool__")) (wpAny_bind (wpAny_bind (Ia.type.here ((PySem.W.looks_findIn KX hb).here (wpAny_pure ?_)))))
  refine wpAny_bind (wpAny_bind (Ia.type.here ((PySem.W.looks_findIn KX hM.at_).here ?_)))
  rw [if_neg (by simp)]
  refine wpAny_bind (wpAny_runValue (codeAny_builtin PySem.entry_len ?_))
  rw [Around.under_plainId (by decide +kernel) _]
  unfold Builtin.«len»
  refine wpAny_bind (m := oneArg "len" ⟨[.ref a], []⟩) (wpAny_pure ?_)
  refine wpAny_bind (m := callSpecial? (.ref a) (PySem.Str.ofString "__len__")) (PySem.W.special_fn KX Ia hM.at_ (beq_iff_eq.mp hM.fn) (wpAny_mono run (fun r s1 hr => ?_) fun _ _ y => y))
  obtain ⟨v, H', I', rv, n, ev, h0, h1, hq⟩ := hr
  subst ev
  obtain ⟨t, rfl⟩ := (show ∃ t, r = Value.int n t from rv)
  refine wpAny_bind (wpAny_holding (wpAny_pure ?_))
  refine wpAny_bind (wpAny_letGo ?_)
  have g1 : ¬ n < 0 := by omega
  have g2 : ¬ n ≥ 2 ^ 63 := by omega
  show wpAny _ _ (if n < 0 then _ else if n ≥ 2 ^ 63 then _ else _) _ _ s1
  rw [if_neg g1, if_neg g2]
  refine wpAny_bind (wpAny_mkInt (wpAny_pure ?_))
  exact wpAny_pure ⟨H', I'.tok _, hq⟩
open Builtin in
theorem bool_own {Q : VK} (I : L2.Inv X pins σ H s) (ha : H a = some (.ins C dx fs)) (hb : PySem.W.findIn X.K (.ref C) "__bool__" = some none) (hM : Meth X.K C "__len__" f)
    (run : wpAny (model X.prog X.w) A'.in1.in1.in1 (call (.ref f) [.ref a]) (EP X pins σ fun v H' => ∃ n : Int, v = .int n ∧ 0 ≤ n ∧ n < 2 ^ 63 ∧ Q (.bl (n != 0)) H') E' s) :
    wpAny (model X.prog X.w) A' (call (.type "bool") [.ref a]) (EP X pins σ Q) E' s := by
  refine callType_codes (T := "bool") (Bi := Builtin.«object.__init__») (Q₁ := fun r s1 => ∃ b, r = .bool b ∧ EP X pins σ Q r s1) PySem.F.called_bool (PySem.F.typeCall_bool_1 _) PySem.F.entry_object_init ?_ ?_
  · refine codeAny_of_tree ?_
    show wpAny _ A'.in1.in1 (do checkBuiltinCall "bool.__new__" ⟨[.type "bool", .ref a], []⟩; again (.builtin "bool.__new__" ⟨[.type "bool", .ref a], []⟩)) _ _ s
    refine wpAny_bind (wpAny_of_eq (PySem.F.newCall_bool_1 _) (wpAny_pure ⟨plainId_quiet (by decide +kernel) _, codeAny_builtin PySem.F.entry_bool_new ?_⟩))
    rw [Around.under_plainId (by decide +kernel) _]
    unfold Builtin.«bool.__new__»
    refine wpAny_bind (m := isType (.type "bool")) (wpAny_pure ?_)
    show wpAny _ _ (isSubtype (.type "bool") (.type "bool") >>= _) _ _ s
    refine wpAny_bind (wpAny_of_eq PySem.F.conv_sub_bool ?_)
    refine wpAny_bind (m := someArgs "bool" 0 1 ⟨[.ref a], []⟩) (wpAny_pure ?_)
    refine wpAny_bind (wpAny_mono (truthy_own (A' := A'.in1.in1) (N := fun k H' => Q (.bl k) H') I ha hb hM run) (fun k s1 h1 => ?_) fun _ _ y => y)
    obtain ⟨H', I', q⟩ := h1
    exact wpAny_pure ⟨k, rfl, .bl k, H', I', rfl, q⟩
  · rintro obj s1 ⟨k, rfl, hq⟩
    have ty : s1.TypeIs (.bool k) "bool" := rfl
    exact ⟨ty, PySem.F.args_object_init_2 _ _, object_init_meets PySem.F.called_bool.init.lookup PySem.F.called_bool.made (by decide) X.prog X.w A'.in1 _ s1 ⟨ty, rfl, hq⟩⟩
end
def lenOf (C : Addr) (mf : List U → M U) (u : U) (st : Store) : Option (Int × Store) := match insU st u with
  | some (C', _) => if C' = C then match mf [u] st with
    | .ok (.d (.int n)) st' => if 0 ≤ n ∧ n < 2 ^ 63 then some (n, st') else none
    | _ => none
    else none
  | none => none
def oBoolO (C : Addr) (mf : List U → M U) : P3 := fun us st => match us with
  | [u] => (lenOf C mf u st).map fun p => (.d (.bl (p.1 != 0)), p.2)
  | _ => none
def fNotO (C : Addr) (mf : List U → M U) (fo : F U) : F U := bnd fo fun u => fun _ st => .of2 ((lenOf C mf u st).map fun p => (.d (.bl (!(p.1 != 0))), p.2))
theorem lenOf_some {C : Addr} {mf : List U → M U} {u : U} {st st' : Store} {n : Int} (h : lenOf C mf u st = some (n, st')) : (∃ ws, insU st u = some (C, ws)) ∧ mf [u] st = .ok (.d (.int n)) st' ∧ 0 ≤ n ∧ n < 2 ^ 63 := by
  unfold lenOf at h
  split at h
  · rename_i C' ws hi
    split at h
    · rename_i hc
      subst hc
      split at h
      · rename_i n' s' hm
        split at h
        · rename_i hn
          cases h
          exact ⟨⟨ws, hi⟩, hm, hn.1, hn.2⟩
        · cases h
      · cases h
    · cases h
  · cases h
section
variable {X : Cx} {W : WX} {C f : Addr} {k : Nat} {mf : List U → M U}
theorem room_in {A A' : Around} {d : Nat} (hr : RoomG (k + 1) A) (h1 : A'.handled = A.handled) (h2 : A'.depth = A.depth) (h3 : A'.units = A.units + d) (h4 : A'.guards = A.guards) (hd : d ≤ 16) : RoomG k A' :=
  ⟨⟨h1.trans hr.rm.hd, by have := hr.rm.dp; omega, by have := hr.rm.un; omega⟩, h4.trans hr.gd⟩
theorem cr_boolO (hM : Meth X.K C "__len__" f) (hb : PySem.W.findIn X.K (.ref C) "__bool__" = some none) (F : Fd X.prog X.w X.K X.mg X.base f k 1 [] gPos mf) (hr : RoomG (k + 1) X.A) : CallR X (.type "bool") (rM X.K (oBoolO C mf)) := by
  intro pins s σ H xs us Q I rv h
  obtain ⟨m, st, as, r, ra, p⟩ := h
  unfold oBoolO at p
  split at p
  · rename_i u
    cases hl : lenOf C mf u st with
    | none => rw [hl] at p; exact p.elim
    | some q =>
      obtain ⟨n, st'⟩ := q
      rw [hl] at p
      obtain ⟨⟨ws, hi⟩, hm, h0, h1⟩ := lenOf_some hl
      obtain ⟨x, rfl, rx⟩ := ra.one
      obtain ⟨a, dx, vs, rfl, ha, _⟩ := insU_rp r rx hi
      obtain ⟨w, rfl, rw'⟩ := L2.vals1 rv
      cases rw'
      refine bool_own I ha hb hM (run_own F (room_in (d := 3) hr rfl rfl rfl rfl (by decide)) rfl I (vs := [.ref a]) (us := [.ref a]) (.cons rfl .nil) r ra rfl ?_)
      show PU X.K m H _ _ (mf [u] st)
      rw [hm]
      intro v m' H' e1 e2 e3
      cases (show v = .int n from e1)
      exact ⟨n, rfl, h0, h1, p (.bl (n != 0)) m' H' rfl e2 e3⟩
  · exact p.elim
theorem d_notO {e : Expr} {fo : F U} {pos : Pos} (ho : DE X W e fo) (hM : Meth X.K C "__len__" f) (hb : PySem.W.findIn X.K (.ref C) "__bool__" = some none) (F : Fd X.prog X.w X.K X.mg X.base f k 1 [] gPos mf) (hr : RoomG (k + 1) X.A) : DE X W (.UnaryOp .Not e pos) (fNotO C mf fo) := by
  refine ⟨⟨fun pins s σ H Q I q => ?_⟩⟩
  obtain ⟨m, env, st, r, re, pq⟩ := q
  refine UnaryOp_ (thn (ho.pe.run pins s σ H (fun x H1 => ∃ a dx fs, x = .ref a ∧ H1 a = some (.ins C dx fs) ∧ ∃ m1 st1 u n st2, Rep X.K m1 st1 H1 ∧ RpU X.K m1 H1 u x ∧ mf [u] st1 = .ok (.d (.int n)) st2 ∧ 0 ≤ n ∧ n < 2 ^ 63 ∧ ∀ m' H', Rep X.K m' st2 H' → Ext m1 H1 m' H' → Q (.bl (!(n != 0))) H') I (tF_step r re pq fun u st1 v m1 H1 h1 r1 re1 e1 p1 => ?_)) fun u s1 hh => ?_)
  · cases hl : lenOf C mf u st1 with
    | none => rw [hl] at p1; exact p1.elim
    | some q =>
      obtain ⟨n, st'⟩ := q
      rw [hl] at p1
      obtain ⟨⟨ws, hi⟩, hm, h0, h2⟩ := lenOf_some hl
      obtain ⟨a, dx, vs, rfl, ha, _⟩ := insU_rp r1 h1 hi
      exact ⟨a, dx, vs, rfl, ha, m1, st1, u, n, st', r1, h1, hm, h0, h2, fun m' H' k1 k2 => p1 _ m' H' rfl k1 k2⟩
  · obtain ⟨x, H1, I1, rx, a, dx, fs, rfl, ha, m1, st1, uu, n, st2, r1, h1, hm, h0, h2, hq⟩ := hh
    cases rx
    refine not_of (thn (truthy_own (A' := X.A) (N := fun b H' => Q (.bl (!b)) H') I1 ha hb hM (run_own F (room_in (d := 1) hr rfl rfl rfl rfl (by decide)) rfl I1 (vs := [.ref a]) (us := [.ref a]) (as := [uu]) (.cons rfl .nil) r1 ⟨_, _, rfl, h1, rfl⟩ rfl ?_)) fun c s2 h3 => ?_)
    · show PU X.K m1 H1 _ _ (mf [uu] st1)
      rw [hm]
      intro v m' H' e1 e2 e3
      cases (show v = .int n from e1)
      exact ⟨n, rfl, h0, h2, hq m' H' e2 e3⟩
    · obtain ⟨H2, I2, q2⟩ := h3
      exact ⟨.bl (!c), H2, I2, rfl, q2⟩
end
end VL

/-! VLz: comprehensions, splits that are cells. -/
namespace VL
open PySem PySem.Spec PyProof.Rows L2
def lcEndC (k : Nat) : R Unit → R U
  | .ok _ st => match st[k]? with
    | some (.lst _) => match cutS (k + 1) st with
      | some s => .ok (.ref k) s
      | none => .bad
    | _ => .bad
  | _ => .bad
def fLcC (fi : F Itb) (tg : U → G) (tt : F Bool) (fe : F U) (vs : List Nat) : F U := bnd fi fun t => fun env st => match t with
  | .lst us => lcEndC st.length (lcL st.length tg tt fe (wipeE env vs) us (st ++ [.lst []]))
  | .cell n f => match st[n]? with
    | some (.lst us) => lcEndC st.length (lcC st.length tg tt fe (wipeE env vs) n f (us.length + 1) 0 (st ++ [.lst []]))
    | _ => .bad
section
variable {X : Cx} {W : WX} {elt tg iter : Expr} {ifs : List Expr} {scope : Scope} {own : List (Str × Nat)} {pos : Pos} {is : List Nat} {g : U → G} {gt : F Bool} {fe : F U} {fi : F Itb}
/-- one turn -/
theorem lc_turnC {K : PySem.W.Frag} {σ : L2.St} {env : VEnv} {m1 m' : List Addr} {H1 H'' : Hp} {st' : Store} {u : U} {x : V} {k : Nat} {D0 : Addr} {Nx : Hp → Prop} {vs is : List Nat} {rest : Store → R Unit} {Q : VK} {E : XK}
    (hvs : ∀ i ∈ is, i ∈ vs) (I : LcI K m1 H1 k D0 m' st' H'') (hk : k = m1.length) (h0 : H1 D0 = none) (re : RpEnv K m' H'' (wipeE env vs) (L2.wipe σ vs)) (ru : RpU K m' H'' u x)
    (p : PU K m1 H1 Q E (lcEndC k (match lcStep k g gt fe (wipeE env vs) u st' with
      | .ok _ st1 => rest st1
      | _ => .bad)))
    (hN : ∀ m2 st2 H2, LcI K m1 H1 k D0 m2 st2 H2 → RpEnv K m2 H2 (wipeE env vs) (L2.wipe σ vs) → PU K m1 H1 Q E (lcEndC k (rest st2)) → Nx H2) :
    tTg K is g x (L2.wipe σ vs) H'' fun σ2 H2 => L2.wipe σ2 vs = L2.wipe σ vs ∧ tFB K W0 gt σ2 H2 fun b H3 =>
      if b = true then tF K W0 fe σ2 H3 fun y H4 => ∃ acc, H4 D0 = some (.lst acc) ∧ acc.length < sizeLine ∧ Nx (upd H4 D0 (.lst (acc ++ [y]))) else Nx H3 := by
  refine ⟨m', _, st', u, I.rep, re, ru, ?_⟩
  unfold lcStep at p
  split
  · rename_i env1 st1 e1
    simp only [e1] at p
    intro σ2 m2 H2 re2 r2 x2 o2
    refine ⟨wipe_out hvs o2, m2, env1, st1, r2, re2, ?_⟩
    cases e2 : gt env1 st1 with
    | bad => simp only [e2] at p; exact p.elim
    | ex c fs st2 => simp only [e2] at p; exact p.elim
    | ok b st2 =>
      simp only [e2] at p
      intro b' m3 H3 hb r3 x3
      subst hb
      cases b' with
      | false =>
        refine iteF (hN m3 st2 H3 ⟨r3, I.ext.trans (x2.trans x3), pre_get (x2.trans x3).pre I.at'⟩ (re.ext (x2.trans x3)) p)
      | true =>
        refine iteT ⟨m3, env1, st2, r3, re2.ext x3, ?_⟩
        cases e3 : fe env1 st2 with
        | bad => simp only [e3] at p; exact p.elim
        | ex c fs st3 => simp only [e3] at p; exact p.elim
        | ok z st3 =>
          simp only [e3] at p
          intro y m4 H4 ry r4 x4
          have x24 := x2.trans (x3.trans x4)
          have hat := pre_get x24.pre I.at'
          cases hacc : st3[k]? with
          | none => simp only [hacc] at p; exact p.elim
          | some cell =>
          cases cell with
          | dct _ => simp only [hacc] at p; exact p.elim
          | tup _ => simp only [hacc] at p; exact p.elim
          | ins _ _ => simp only [hacc] at p; exact p.elim
          | tbl _ _ => simp only [hacc] at p; exact p.elim
          | lst acc =>
            simp only [hacc] at p
            by_cases hlen : acc.length < sizeLine
            · rw [if_pos hlen] at p
              obtain ⟨ho, g1, ws, g2, g3⟩ := r4.cell k _ D0 hacc hat
              subst g2
              refine ⟨ws, g1, by rw [g3.length]; exact hlen, ?_⟩
              have hm : D0 ∈ m4 := List.mem_of_getElem? hat
              have rW : Rep K m4 (st3.set k (.lst (acc ++ [z]))) (upd H4 D0 (.lst (ws ++ [y]))) :=
                r4.write hat ⟨_, rfl, (g3.append (show RpUs K m4 H4 [z] [y] from ⟨y, _, rfl, ry, rfl⟩)).ext (ext_write hm _)⟩
              have eW : Ext m1 H1 m4 (upd H4 D0 (.lst (ws ++ [y]))) := (I.ext.trans x24).trans (ext_write hm _)
              exact hN m4 _ _ ⟨rW, eW, hat⟩ ((re.ext x24).ext (ext_write hm _)) p
            · rw [if_neg hlen] at p; exact p.elim
  · rename_i hn
    split at p
    · rename_i q
      split at q
      · rename_i env1 st1 e1
        exact (hn env1 st1 e1).elim
      · cases q
    · exact p.elim
theorem lc_finC {K : PySem.W.Frag} {m1 m' : List Addr} {H1 H' : Hp} {st' : Store} {k : Nat} {D0 : Addr} {Q : VK} {E : XK} (I : LcI K m1 H1 k D0 m' st' H') (hk : k = m1.length) (p : PU K m1 H1 Q E (lcEndC k (.ok () st'))) : Q (.ref D0) H' := by
  unfold lcEndC at p
  simp only at p
  split at p
  · split at p
    · rename_i s hs
      have hlt := (List.getElem?_eq_some_iff.mp I.at').1
      refine p _ (m'.take (k + 1)) H' ⟨D0, ?_, rfl⟩ (I.rep.cut hs) (ext_cut I.ext (by omega))
      rw [List.getElem?_take, if_pos (Nat.lt_succ_self k)]
      exact I.at'
    · exact p.elim
  · exact p.elim
theorem t_lcC {vs : List Nat} (hvs : ∀ i ∈ is, i ∈ vs) {σ : L2.St} {H : Hp} {Q : VK} (q : tF X.K W (fLcC fi g gt fe vs) σ H Q) :
    tLc (tI X.K W fi) (tTg X.K is g) (tFB X.K W0 gt) (tF X.K W0 fe) vs σ H Q := by
  obtain ⟨m, env, st, r, re, p⟩ := q
  refine ⟨m, env, st, r, re, ?_⟩
  unfold fLcC bnd at p
  cases e : fi env st with
  | bad => rw [e] at p; exact p.elim
  | ex c fs st1 => rw [e] at p; exact p
  | ok t st1 =>
    rw [e] at p
    intro t' m0 H0 ht r0 e0 m1 st1' he r1 e1 J hJ D0 hD0
    subst ht
    cases he
    have re1 := re.ext e1
    have p1 := PO'.from e1 p
    have hpush := push_lst r1 hD0 (us := []) (vs := []) rfl
    have start : LcI X.K m1 H0 m1.length D0 (m1 ++ [D0]) (st1 ++ [.lst []]) (upd H0 D0 (.lst [])) := ⟨hpush.2, ext_push r1 hD0 _, by simp⟩
    have reS : RpEnv X.K (m1 ++ [D0]) (upd H0 D0 (.lst [])) (wipeE env vs) (L2.wipe σ vs) := (re1.ext (ext_push r1 hD0 _)).wipe vs
    have hlen := r1.len
    cases t' with
    | lst us =>
      simp only [← hlen] at p1
      obtain ⟨go, stop, yld⟩ := hJ
      refine ⟨fun i n H => ∃ m' st', LcI X.K m1 H0 m1.length D0 m' st' H ∧ RpEnv X.K m' H (wipeE env vs) (L2.wipe σ vs) ∧ n = us.length - i ∧ i ≤ us.length ∧ PU X.K m1 H0 Q (fun c d H' => W c d σ H') (lcEndC m1.length (lcL m1.length g gt fe (wipeE env vs) (us.drop i) st')),
        ⟨us.length, _, _, start, reS, by simp, Nat.zero_le _, p1⟩, ?_⟩
      rintro i n H' ⟨m', st', I, re', rfl, hi, p'⟩
      by_cases hlt : i < us.length
      · have hu : us[i]? = some us[i] := List.getElem?_eq_getElem hlt
        rw [List.drop_eq_getElem_cons hlt] at p'
        refine .inr ⟨go i m' st' H' hlt I.rep I.ext, fun H2 => ∃ m2 st2, LcI X.K m1 H0 m1.length D0 m2 st2 H2 ∧ RpEnv X.K m2 H2 (wipeE env vs) (L2.wipe σ vs) ∧ PU X.K m1 H0 Q (fun c d H' => W c d σ H') (lcEndC m1.length (lcL m1.length g gt fe (wipeE env vs) (us.drop (i + 1)) st2)), ?_, ?_⟩
        · rintro H2 ⟨m2, st2, I2, re2, p2⟩
          exact ⟨us.length - (i + 1), by omega, m2, st2, I2, re2, rfl, hlt, p2⟩
        · intro x H'' hy
          obtain ⟨r2, e2, ru⟩ := yld i _ m' st' H' x H'' hu I.rep I.ext hy
          exact lc_turnC hvs ⟨r2, I.ext.trans e2, I.at'⟩ rfl hD0 (re'.ext e2) ru p' fun m2 st2 H2 I2 re2 p2 => ⟨m2, st2, I2, re2, p2⟩
      · have : i = us.length := by omega
        subst this
        rw [List.drop_length] at p'
        exact .inl ⟨stop m' st' H' I.rep I.ext, lc_finC I rfl p'⟩
    | cell n f =>
      simp only at p1
      split at p1
      · rename_i us0 hs0
        simp only [← hlen] at p1
        refine ⟨fun i j H => ∃ m' st', LcI X.K m1 H0 m1.length D0 m' st' H ∧ RpEnv X.K m' H (wipeE env vs) (L2.wipe σ vs) ∧ PU X.K m1 H0 Q (fun c d H' => W c d σ H') (lcEndC m1.length (lcC m1.length g gt fe (wipeE env vs) n f j i st')),
          ⟨us0.length + 1, _, _, start, reS, p1⟩, ?_⟩
        rintro i j H' ⟨m', st', I, re', p'⟩
        cases j with
        | zero => exact p'.elim
        | succ j =>
          unfold lcC at p'
          split at p'
          · rename_i us hs
            obtain ⟨go, stop, yld⟩ := hJ us m' st' H' I.rep I.ext hs
            cases hu : us[i]? with
            | none =>
              simp only [hu] at p'
              exact .inl ⟨stop i (List.getElem?_eq_none_iff.mp hu), lc_finC I rfl p'⟩
            | some u =>
              simp only [hu] at p'
              cases hf : f i u with
              | none => simp only [hf] at p'; exact p'.elim
              | some w =>
                simp only [hf] at p'
                refine .inr ⟨go i (List.getElem?_eq_some_iff.mp hu).1, fun H2 => ∃ m2 st2, LcI X.K m1 H0 m1.length D0 m2 st2 H2 ∧ RpEnv X.K m2 H2 (wipeE env vs) (L2.wipe σ vs) ∧ PU X.K m1 H0 Q (fun c d H' => W c d σ H') (lcEndC m1.length (lcC m1.length g gt fe (wipeE env vs) n f j (i + 1) st2)), ?_, ?_⟩
                · rintro H2 ⟨m2, st2, I2, re2, p2⟩
                  exact ⟨j, Nat.lt_succ_self j, m2, st2, I2, re2, p2⟩
                · intro x H'' hy
                  obtain ⟨r2, e2, ru⟩ := yld i u w x H'' hu hf hy
                  exact lc_turnC hvs ⟨r2, I.ext.trans e2, I.at'⟩ rfl hD0 (re'.ext e2) ru p' fun m2 st2 H2 I2 re2 p2 => ⟨m2, st2, I2, re2, p2⟩
          · exact p'.elim
      · exact p1.elim
theorem d_lcC (hc : X.calm = true) (hN : X.N.Nodup) (hi : DI X W tg iter fi) (ok : BlkOk X.N X.env.scope scope own)
    (hg : ∀ (s : Shared) (H : Hp) (C : Addr) (cl : List (Str × Addr)) (fp : List Addr), DG (X.blk s H scope (compEnvC scope cl C X.env) fp) tg is g)
    (ht : ∀ (s : Shared) (H : Hp) (C : Addr) (cl : List (Str × Addr)) (fp : List Addr), DTs (X.blk s H scope (compEnvC scope cl C X.env) fp) W0 ifs gt)
    (he : ∀ (s : Shared) (H : Hp) (C : Addr) (cl : List (Str × Addr)) (fp : List Addr), DE (X.blk s H scope (compEnvC scope cl C X.env) fp) W0 elt fe)
    (hvs : ∀ i ∈ is, i ∈ own.map (·.2) := by decide) (hs : ∀ x, foldedSetIterable iter X.env x = pure x := by intro _; rfl) :
    DE X W (.ListComp elt [⟨tg, iter, ifs, 0⟩] scope pos) (fLcC fi g gt fe (own.map (·.2))) :=
  ⟨PE.imp (pe_lc hc hN hi.pi ok (fun s H C cl fp => (hg s H C cl fp).pg) (fun s H C cl fp => (ht s H C cl fp).pts) (fun s H C cl fp => (he s H C cl fp).pe) hs) fun _ _ _ q => t_lcC hvs q⟩
/-- name = [..] -/
theorem ds_setLcC (i : Nat) {y : Str} {py spos : Pos} (hc : X.calm = true) (hN : X.N.Nodup) (hsw : swapsWith (.ListComp elt [⟨tg, iter, ifs, 0⟩] scope pos) (some (.Name y py)) spos.line X.env = pure true) (hi : DI X W tg iter fi) (ok : BlkOk X.N X.env.scope scope own)
    (hg : ∀ (s : Shared) (H : Hp) (C : Addr) (cl : List (Str × Addr)) (fp : List Addr), DG (X.blk s H scope (compEnvC scope cl C X.env) fp) tg is g)
    (ht : ∀ (s : Shared) (H : Hp) (C : Addr) (cl : List (Str × Addr)) (fp : List Addr), DTs (X.blk s H scope (compEnvC scope cl C X.env) fp) W0 ifs gt)
    (he : ∀ (s : Shared) (H : Hp) (C : Addr) (cl : List (Str × Addr)) (fp : List Addr), DE (X.blk s H scope (compEnvC scope cl C X.env) fp) W0 elt fe)
    (hvs : ∀ i ∈ is, i ∈ own.map (·.2) := by decide) (hy : X.N[i]? = some y := by rfl) (hyl : X.env.scope.names.lookup y = some .local := by rfl) (hs : ∀ x, foldedSetIterable iter X.env x = pure x := by intro _; rfl) :
    DS X W (.Assign [.Name y py] (.ListComp elt [⟨tg, iter, ifs, 0⟩] scope pos) spos) (sAsg (fLcC fi g gt fe (own.map (·.2))) (tgN i)) :=
  ⟨PS.imp (ps_setLc (i := i) hc hN hy hyl hsw hi.pi ok (fun s H C cl fp => (hg s H C cl fp).pg) (fun s H C cl fp => (ht s H C cl fp).pts) (fun s H C cl fp => (he s H C cl fp).pe) hs) fun D σ H ⟨m, env, st, r, re, p⟩ => by
    have h2 : tF X.K W (fLcC fi g gt fe (own.map (·.2))) σ H (fun x H1 => gName i x σ H1 D.nx) := sF_step r re p fun u st1 v m1 H1 h1 r1 re1 e1 p1 => p1 _ m1 H1 (re1.set i h1) r1 (Ext.refl _ _)
    exact t_lcC hvs h2⟩
theorem d_lcCV {vs : List Nat} (hc : X.calm = true) (hN : X.N.Nodup) (hi : DI X W tg iter fi) (ok : BlkOk X.N X.env.scope scope own)
    (hg : ∀ (s : Shared) (H : Hp) (C : Addr) (cl : List (Str × Addr)) (fp : List Addr), DG (X.blk s H scope (compEnvC scope cl C X.env) fp) tg is g)
    (ht : ∀ (s : Shared) (H : Hp) (C : Addr) (cl : List (Str × Addr)) (fp : List Addr), DTs (X.blk s H scope (compEnvC scope cl C X.env) fp) W0 ifs gt)
    (he : ∀ (s : Shared) (H : Hp) (C : Addr) (cl : List (Str × Addr)) (fp : List Addr), DE (X.blk s H scope (compEnvC scope cl C X.env) fp) W0 elt fe)
    (hvv : own.map (·.2) = vs := by rfl) (hvs : ∀ i ∈ is, i ∈ own.map (·.2) := by decide) (hs : ∀ x, foldedSetIterable iter X.env x = pure x := by intro _; rfl) :
    DE X W (.ListComp elt [⟨tg, iter, ifs, 0⟩] scope pos) (fLcC fi g gt fe vs) := by
  subst hvv; exact d_lcC hc hN hi ok hg ht he hvs hs
end
/-! ### a split that is a cell -/
def mSplitC : P4 := fun u us st => match u, us with
  | .d (.str a), [.d (.str b)] => if (b.length == 0) = false ∧ a.length + 2 ≤ sizeLine then some (.ref st.length, st ++ [.lst (((Txt.split a b).map D.str).map U.d)]) else none
  | _, _ => none
theorem mt_splitC {X : Cx} : MtR X "str.split" (mM X.K mSplitC) := by
  refine MtR.imp mt_split fun x vs H Q ⟨m, st, u, us, r, ru, rus, p⟩ => ?_
  unfold mSplitC at p
  split at p
  · rename_i a b
    obtain ⟨v, rfl, hv⟩ := rus.one
    cases ru; cases hv
    split at p
    · rename_i hz
      refine ⟨a, b, rfl, rfl, hz.1, hz.2, fun l hl => ?_⟩
      obtain ⟨g1, g2⟩ := push_lst r hl (RpUs.ofD (RpDs.strs (Txt.split a b)))
      exact p _ _ _ g1 g2 (ext_push r hl _)
    · exact p.elim
  · exact p.elim
/-! ### str of a text -/
def oStrS : List U → Store → Option U := fun us _ => match us with
  | [.d (.str x)] => some (.d (.str x))
  | _ => none
theorem cr_strS {X : Cx} : CallR X (.type "str") (rM X.K (pu oStrS)) := by
  refine CallR.imp SkE.call_str_str fun vs H Q ⟨m, st, us, r, ru, p⟩ => ?_
  obtain ⟨u, e, p⟩ := p.pu
  unfold oStrS at e
  split at e
  · obtain ⟨v, rfl, hv⟩ := ru.one
    cases hv
    cases e
    exact ⟨_, rfl, p.here r rfl⟩
  · cases e
theorem _root_.L2.Room.u1 {k : Nat} {A : Around} (h : L2.Room k A) : A.units + 1 < cLine := by have := h.un; omega
theorem _root_.L2.Room.u64 {k : Nat} {A : Around} (h : L2.Room k A) : A.units + 64 < cLine := by have := h.un; omega
theorem _root_.L2.Room.u65 {k : Nat} {A : Around} (h : L2.Room k A) : A.units + 65 < cLine := by have := h.un; omega
end VL

/-! VLo: == by an own method, between two of the class. -/
namespace VL
open PySem PySem.Spec PyProof.Rows L2
def eqO (C : Addr) (mf : List U → M U) : P2S := fun a b st => match insU st a, insU st b with
  | some (C', _), some (C2, _) => if C' = C ∧ C2 = C then match mf [a, b] st with
    | .ok (.d (.bl k)) st' => .ok (.d (.bl k)) st'
    | _ => .bad
    else .bad
  | _, _ => .bad
theorem eqO_no (C : Addr) (mf : List U → M U) : ∀ a b st c fs st', eqO C mf a b st ≠ .ex c fs st' := fun a b st c fs st' => by
  unfold eqO
  split
  · split
    · split <;> intro z <;> cases z
    · intro z; cases z
  · intro z; cases z
section
variable {X : Cx} {C f : Addr} {k : Nat} {mf : List U → M U}
theorem op_eqO (hM : Meth X.K C "__eq__" f) (F : Fd X.prog X.w X.K X.mg X.base f k 2 [] gPos mf) (hr : RoomG k X.A) : OpR X (compareOp .Eq) (rGS X.K (eqO C mf)) := by
  intro pins s σ H x y v u Q I rx ry h
  obtain ⟨m, st, a, b, r, ha, hb, p⟩ := h
  unfold eqO at p
  split at p
  · rename_i C' ws C2 ws2 hi hi2
    split at p
    · rename_i hc
      obtain ⟨c1, c2⟩ := hc
      subst c1
      subst c2
      split at p
      · rename_i kk st' hm
        obtain ⟨q, dx, vs, rfl, hq, _⟩ := insU_rp r ha hi
        obtain ⟨q2, dx2, vs2, rfl, hq2, _⟩ := insU_rp r hb hi2
        cases rx
        cases ry
        obtain ⟨mA, Fm⟩ := fr_of I
        obtain ⟨od, Ia⟩ := inst_of I hq
        obtain ⟨od2, Ib⟩ := inst_of I hq2
        show wpAny _ _ (richCompare .Eq (.ref q) (.ref q2)) _ _ _
        refine PySem.W.cmp_K (op := .Eq) (tb := .ref C2) (by have := hr.rm.un; omega) Fm I.ok.mod.kin Ia Ib.type (by simp [PySem.W.notFirst]) hM.at_ hM.fn ?_
        refine wpAny_mono (run_own (Q := fun v H' => v = .bl kk ∧ Q (.bl kk) H') F hr rfl I (vs := [.ref q, .ref q2]) (us := [.ref q, .ref q2]) (as := [a, b]) (.cons rfl (.cons rfl .nil)) r ⟨_, _, rfl, ha, _, _, rfl, hb, rfl⟩ rfl ?_) (fun w s' hv => ?_) fun _ _ e => e
        · show PU X.K m H _ _ (mf [a, b] st)
          rw [hm]
          intro v' m' H' h1 h2 h3
          cases (show v' = .bl kk from h1)
          exact ⟨rfl, p _ m' H' rfl h2 h3⟩
        · obtain ⟨w', H', I', rw', ey, qq⟩ := hv
          subst ey
          cases (show w = Value.bool kk from rw')
          exact ⟨.bl kk, H', I', rfl, qq⟩
      · exact p.elim
    · exact p.elim
  · exact p.elim
end
/-! ### == with an own object at the left, anything at the right -/
def okTy (C : Addr) (ns : List String) (st : Store) (b : U) : Bool := (match insU st b with
  | some (C2, _) => decide (C2 = C)
  | none => false) || (match tyN [] st b with
  | some (.type n) => ns.contains n
  | _ => false)
def eqOA (C : Addr) (ns : List String) (mf : List U → M U) : P2S := fun a b st => match insU st a with
  | some (C', _) => if C' = C ∧ okTy C ns st b = true then match mf [a, b] st with
    | .ok (.d (.bl k)) st' => .ok (.d (.bl k)) st'
    | _ => .bad
    else .bad
  | none => .bad
theorem eqOA_no (C : Addr) (ns : List String) (mf : List U → M U) : ∀ a b st c fs st', eqOA C ns mf a b st ≠ .ex c fs st' := fun a b st c fs st' => by
  unfold eqOA
  split
  · split
    · split <;> intro z <;> cases z
    · intro z; cases z
  · intro z; cases z
section
variable {X : Cx} {C f : Addr} {k : Nat} {mf : List U → M U} {ns : List String}
theorem okTy_looks {pins : List (Addr × Obj)} {σ : L2.St} {H : Hp} {s : Shared} {m : List Addr} {st : Store} {b : U} {y : V} {u : Value} (hT : ∀ n ∈ ns, PySem.W.subIn X.K (.type n) (.ref C) = some false) (I : L2.Inv X pins σ H s) (r : Rep X.K m st H) (hb : RpU X.K m H b y) (ry : RelV y u) (h : okTy C ns st b = true) :
    ∃ tb, PySem.W.Looks (model X.prog X.w) s.heap (typeOf u) tb ∧ PySem.W.notFirst X.K C tb = true := by
  unfold okTy at h
  rcases Bool.or_eq_true_iff.mp h with h | h
  · split at h
    · rename_i C2 ws hi
      obtain ⟨q2, dx2, vs2, rfl, hq2, _⟩ := insU_rp r hb hi
      cases ry
      obtain ⟨od2, Ib⟩ := inst_of I hq2
      have : C2 = C := of_decide_eq_true h
      subst this
      exact ⟨.ref C2, Ib.type, by simp [PySem.W.notFirst]⟩
    · cases h
  · split at h
    · rename_i n ht
      obtain ⟨P, kx, hP, _⟩ := L2.kit_of I ry (tyN_rp (cs := []) r (fun _ h => nomatch h) hb ht)
      refine ⟨.type n, kx.ty _ _ I.kIn hP, ?_⟩
      have := hT n (List.contains_iff_mem.mp h)
      simp [PySem.W.notFirst, this]
    · cases h
theorem op_eqOA (hT : ∀ n ∈ ns, PySem.W.subIn X.K (.type n) (.ref C) = some false) (hM : Meth X.K C "__eq__" f) (F : Fd X.prog X.w X.K X.mg X.base f k 2 [] gPos mf) (hr : RoomG k X.A) : OpR X (compareOp .Eq) (rGS X.K (eqOA C ns mf)) := by
  intro pins s σ H x y v u Q I rx ry h
  obtain ⟨m, st, a, b, r, ha, hb, p⟩ := h
  unfold eqOA at p
  split at p
  · rename_i C' ws hi
    split at p
    · rename_i hc
      obtain ⟨c1, c2⟩ := hc
      subst c1
      split at p
      · rename_i kk st' hm
        obtain ⟨tb, lk, nf⟩ := okTy_looks hT I r hb ry c2
        obtain ⟨q, dx, vs, rfl, hq, _⟩ := insU_rp r ha hi
        cases rx
        obtain ⟨mA, Fm⟩ := fr_of I
        obtain ⟨od, Ia⟩ := inst_of I hq
        show wpAny _ _ (richCompare .Eq (.ref q) u) _ _ _
        refine PySem.W.cmp_K (op := .Eq) (tb := tb) (by have := hr.rm.un; omega) Fm I.ok.mod.kin Ia lk nf hM.at_ hM.fn ?_
        refine wpAny_mono (run_own (Q := fun v H' => v = .bl kk ∧ Q (.bl kk) H') F hr rfl I (vs := [.ref q, y]) (us := [.ref q, u]) (as := [a, b]) (.cons rfl (.cons ry .nil)) r ⟨_, _, rfl, ha, _, _, rfl, hb, rfl⟩ rfl ?_) (fun w s' hv => ?_) fun _ _ e => e
        · show PU X.K m H _ _ (mf [a, b] st)
          rw [hm]
          intro v' m' H' h1 h2 h3
          cases (show v' = .bl kk from h1)
          exact ⟨rfl, p _ m' H' rfl h2 h3⟩
        · obtain ⟨w', H', I', rw', ey, qq⟩ := hv
          subst ey
          cases (show w = Value.bool kk from rw')
          exact ⟨.bl kk, H', I', rfl, qq⟩
      · exact p.elim
    · exact p.elim
  · exact p.elim
end
/-! ### != where the class has == alone -/
section
variable {prog : Program} {w : World} {A : Around} {E : Value → Shared → Prop} {s : Shared} {K : PySem.W.Frag} {x C f : Addr} {ox : Obj} {od : Option Obj} {b tb : Value}
theorem ne_body {Q : Fin → Shared → Prop} (hu : A.units < cLine) (ki : K.In s.heap) (io : PySem.W.InstAt s.heap x ox C od) (fe : PySem.W.findIn K (.ref C) "__eq__" = some (some (.ref f))) (ff : PySem.W.isFn K (.ref f) = true)
    (h : wpAny (model prog w) A (call (.ref f) [.ref x, b]) (fun v s' => ∃ k, v = .bool k ∧ Q (.done (.ret (.bool (!k)))) s') E s) :
    wpAny (model prog w) A (Builtin.«object.__ne__» ⟨[.ref x, b], []⟩) Q E s := by
  unfold Builtin.«object.__ne__»
  repeat (first
    | with_reducible refine wpAny_cRoomFor hu ?_
    | (refine wpAny_bind (m := callSpecialIfBound? (.ref x) (Str.ofString "__eq__") [b]) (PySem.W.ifBound_K ki io fe ff (wpAny_mono h (fun v s' z => by
        obtain ⟨k, rfl, z⟩ := z
        repeat (first | exact z | exact wpAny_pure z | exact wpAny_truthy_bool z | (refine wpAny_bind (m := truthy (.bool _)) (wpAny_truthy_bool ?_)) | wp_step)) fun _ _ z => z)))
    | wp_step)
theorem ne_call {Q : Value → Shared → Prop} (hu : A.units + 1 < cLine) (ki : K.In s.heap) (io : PySem.W.InstAt s.heap x ox C od) (fe : PySem.W.findIn K (.ref C) "__eq__" = some (some (.ref f))) (ff : PySem.W.isFn K (.ref f) = true) (mo : PySem.W.mroIn K C (.type "object") = some true)
    (h : wpAny (model prog w) A.in1 (call (.ref f) [.ref x, b]) (fun v s' => ∃ k, v = .bool k ∧ Q (.bool (!k)) s') E s) :
    wpAny (model prog w) A (call (.builtin "object.__ne__") [.ref x, b]) Q E s := by
  refine wpAny_call (codeAny_call_builtin F.cmp_object.ne.plain F.cmpEntry_ne ?_)
  refine PySem.W.check_slot F.cmpKind_ne F.cmpSplit_ne (io.type.andThen (PySem.W.looks_mroIn ki mo)) (F.cmpArgs_ne _ _) ?_
  refine ne_body (A := A.in1) hu ki io fe ff (wpAny_mono h (fun v s' z => ?_) fun _ _ z => z)
  obtain ⟨k, rfl, z⟩ := z
  exact ⟨k, rfl, z⟩
theorem ne_bound {M : Model} {args : List Value} {Q : Option Value → Shared → Prop} (ki : K.In s.heap) (io : PySem.W.InstAt s.heap x ox C od) (nn : PySem.W.findIn K (.ref C) "__ne__" = some (some (.builtin "object.__ne__")))
    (h : wpAny M A (call (.builtin "object.__ne__") (.ref x :: args)) (fun v => Q (some v)) E s) : wpAny M A (callSpecialIfBound? (.ref x) "__ne__" args) Q E s := by
  have last : wpAny M A (call (.builtin "object.__ne__") ([.ref x] ++ args) >>= fun v => pure (some v)) Q E s :=
    wpAny_bind (wpAny_mono h (fun _ _ z => wpAny_pure z) fun _ _ z => z)
  have bn := F.cmp_object.ne.bind (.ref x)
  simp only [callSpecialIfBound?, bindSpecialIfBound?]
  refine wpAny_holding (wpAny_bind (wpAny_bind (wpAny_bind ?_)))
  refine io.type.here ((PySem.W.looks_findIn ki nn).here (wpAny_bind (wpAny_askSetting (wpAny_ite ?_))))
  split
  · exact wpAny_bind (wpAny_of_eq bn (wpAny_pure (by exact last)))
  · exact wpAny_tryCatch (wpAny_bind (wpAny_of_eq bn (wpAny_pure (by exact last))))
theorem rich_ne {h₀ : Heap} {L : Addr} {mL : Str → Option Value} {Q : Value → Shared → Prop} (hu : A.units + 1 < cLine) (fr : Fr h₀ L s.heap mL) (k0 : K.In h₀) (io : PySem.W.InstAt s.heap x ox C od) (lk : PySem.W.Looks (model prog w) s.heap (typeOf b) tb) (nf : PySem.W.notFirst K C tb = true)
    (fe : PySem.W.findIn K (.ref C) "__eq__" = some (some (.ref f))) (ff : PySem.W.isFn K (.ref f) = true) (nn : PySem.W.findIn K (.ref C) "__ne__" = some (some (.builtin "object.__ne__"))) (mo : PySem.W.mroIn K C (.type "object") = some true)
    (h : wpAny (model prog w) A.in1 (call (.ref f) [.ref x, b]) (fun v s' => ∃ k, v = .bool k ∧ Q (.bool (!k)) s') E s) : wpAny (model prog w) A (richCompare .NotEq (.ref x) b) Q E s := by
  have ki := k0.keeps fr.keep
  have try1 : wpAny (model prog w) A (tryCompare (.ref x) "__ne__" b) (fun r s' => ∃ v, r = some v ∧ Q v s') E s := by
    unfold tryCompare
    refine wpAny_bind (ne_bound ki io nn (ne_call hu ki io fe ff mo (wpAny_mono h (fun v s' z => ?_) fun _ _ z => z)))
    obtain ⟨k, rfl, z⟩ := z
    exact ⟨k, rfl, wpAny_pure ⟨_, rfl, z⟩⟩
  unfold richCompare
  simp only [oneThing_ref]
  refine wpAny_holding (wpAny_bind (wpAny_cRoomFor (Nat.lt_of_succ_lt hu) ?_))
  rw [cmpInfo_NotEq]
  dsimp only
  refine wpAny_bind (io.type.here (wpAny_bind (lk.here ?_)))
  have tail : wpAny (model prog w) A (tryCompare (.ref x) "__ne__" b) (fun r s' => ∃ v, r = some v ∧ Q v s') E s := try1
  by_cases q : (Value.ref C != tb) = true
  · have sb : PySem.W.subIn K tb (.ref C) = some false := by
      unfold PySem.W.notFirst at nf
      rcases Bool.or_eq_true_iff.mp nf with z | z
      · rw [beq_iff_eq.mp z] at q; simp at q
      · exact beq_iff_eq.mp z
    rw [if_pos q]
    refine wpAny_bind ((PySem.W.looks_subIn ki sb).here ?_)
    simp only [Bool.false_eq_true, if_false]
    refine wpAny_bind (wpAny_mono tail (fun r s' z => ?_) fun _ _ z => z)
    obtain ⟨v, rfl, z⟩ := z
    exact wpAny_pure z
  · rw [if_neg q]
    refine wpAny_bind (wpAny_pure ?_)
    simp only [Bool.false_eq_true, if_false]
    refine wpAny_bind (wpAny_mono tail (fun r s' z => ?_) fun _ _ z => z)
    obtain ⟨v, rfl, z⟩ := z
    exact wpAny_pure z
end
def neOA (C : Addr) (ns : List String) (mf : List U → M U) : P2S := fun a b st => match insU st a with
  | some (C', _) => if C' = C ∧ okTy C ns st b = true then match mf [a, b] st with
    | .ok (.d (.bl k)) st' => .ok (.d (.bl (!k))) st'
    | _ => .bad
    else .bad
  | none => .bad
theorem neOA_no (C : Addr) (ns : List String) (mf : List U → M U) : ∀ a b st c fs st', neOA C ns mf a b st ≠ .ex c fs st' := fun a b st c fs st' => by
  unfold neOA
  split
  · split
    · split <;> intro z <;> cases z
    · intro z; cases z
  · intro z; cases z
section
variable {X : Cx} {C f : Addr} {k : Nat} {mf : List U → M U} {ns : List String}
theorem op_neOA (hT : ∀ n ∈ ns, PySem.W.subIn X.K (.type n) (.ref C) = some false) (hM : Meth X.K C "__eq__" f) (hN : PySem.W.findIn X.K (.ref C) "__ne__" = some (some (.builtin "object.__ne__"))) (hO : PySem.W.mroIn X.K C (.type "object") = some true) (F : Fd X.prog X.w X.K X.mg X.base f k 2 [] gPos mf) (hr : RoomG (k + 1) X.A) : OpR X (compareOp .NotEq) (rGS X.K (neOA C ns mf)) := by
  intro pins s σ H x y v u Q I rx ry h
  obtain ⟨m, st, a, b, r, ha, hb, p⟩ := h
  unfold neOA at p
  split at p
  · rename_i C' ws hi
    split at p
    · rename_i hc
      obtain ⟨c1, c2⟩ := hc
      subst c1
      split at p
      · rename_i kk st' hm
        obtain ⟨tb, lk, nf⟩ := okTy_looks hT I r hb ry c2
        obtain ⟨q, dx, vs, rfl, hq, _⟩ := insU_rp r ha hi
        cases rx
        obtain ⟨mA, Fm⟩ := fr_of I
        obtain ⟨od, Ia⟩ := inst_of I hq
        have hr1 : RoomG k X.A.in1 := ⟨⟨hr.rm.hd, by have := hr.rm.dp; show X.A.depth + 3 * k + 5 < _; omega, by have := hr.rm.un; show X.A.units + 1 + 16 * k + 200 < _; omega⟩, hr.gd⟩
        show wpAny _ _ (richCompare .NotEq (.ref q) u) _ _ _
        refine rich_ne (tb := tb) (by have := hr.rm.un; omega) Fm I.ok.mod.kin Ia lk nf hM.at_ hM.fn hN hO ?_
        refine wpAny_mono (run_own (Q := fun v H' => v = .bl kk ∧ Q (.bl (!kk)) H') F hr1 rfl I (vs := [.ref q, y]) (us := [.ref q, u]) (as := [a, b]) (.cons rfl (.cons ry .nil)) r ⟨_, _, rfl, ha, _, _, rfl, hb, rfl⟩ rfl ?_) (fun w s' hv => ?_) fun _ _ e => e
        · show PU X.K m H _ _ (mf [a, b] st)
          rw [hm]
          intro v' m' H' h1 h2 h3
          cases (show v' = .bl kk from h1)
          exact ⟨rfl, p _ m' H' rfl h2 h3⟩
        · obtain ⟨w', H', I', rw', ey, qq⟩ := hv
          subst ey
          cases (show w = Value.bool kk from rw')
          exact ⟨kk, rfl, .bl (!kk), H', I', rfl, qq⟩
      · exact p.elim
    · exact p.elim
  · exact p.elim
end
/-! ### a builtin at the left: it declines, the own method is asked -/
section
variable {prog : Program} {w : World} {A : Around} {E : Value → Shared → Prop} {s : Shared} {K : PySem.W.Frag} {x C f : Addr} {ox : Obj} {od : Option Obj} {v tv : Value}
theorem rich_back {h₀ : Heap} {L : Addr} {mL : Str → Option Value} {Q : Value → Shared → Prop} (hu : A.units < cLine) (fr : Fr h₀ L s.heap mL) (k0 : K.In h₀) (io : PySem.W.InstAt s.heap x ox C od) (lk : PySem.W.Looks (model prog w) s.heap (typeOf v) tv) (sb : PySem.W.subIn K (.ref C) tv = some false)
    (one : oneThing? .Eq v (.ref x) = none) (dec : wpAny (model prog w) A (tryCompare v "__eq__" (.ref x)) (fun r s' => r = none ∧ s' = s) E s)
    (fe : PySem.W.findIn K (.ref C) "__eq__" = some (some (.ref f))) (ff : PySem.W.isFn K (.ref f) = true)
    (h : wpAny (model prog w) A (call (.ref f) [.ref x, v]) (PySem.W.CmpBack Q) E s) : wpAny (model prog w) A (richCompare .Eq v (.ref x)) Q E s := by
  have ki := k0.keeps fr.keep
  have back : wpAny (model prog w) A (tryCompare (.ref x) "__eq__" v) (fun r s' => ∃ v, r = some v ∧ Q v s') E s := by
    unfold tryCompare
    refine wpAny_bind (PySem.W.ifBound_K ki io fe ff (wpAny_mono h (fun v s' z => ?_) fun _ _ z => z))
    cases v <;> first | exact z.elim | exact wpAny_pure ⟨_, rfl, z⟩
  unfold richCompare
  simp only [one]
  refine wpAny_holding (wpAny_bind (wpAny_cRoomFor hu ?_))
  rw [cmpInfo_Eq]
  dsimp only
  refine wpAny_bind (lk.here (wpAny_bind (io.type.here ?_)))
  have both : wpAny (model prog w) A (tryCompare v "__eq__" (.ref x)) (fun r s' => r = none ∧ s' = s) E s := dec
  split
  · refine wpAny_bind ((PySem.W.looks_subIn ki sb).here ?_)
    simp only [Bool.false_eq_true, if_false, Bool.not_false, if_true]
    refine wpAny_bind (wpAny_mono both (fun r s1 z => ?_) fun _ _ z => z)
    obtain ⟨z1, z2⟩ := z
    subst z1
    subst z2
    refine wpAny_bind (wpAny_mono back (fun r s1 z => ?_) fun _ _ z => z)
    obtain ⟨v, rfl, z⟩ := z
    exact wpAny_pure z
  · refine wpAny_bind (wpAny_pure ?_)
    simp only [Bool.false_eq_true, if_false, Bool.not_false, if_true]
    refine wpAny_bind (wpAny_mono both (fun r s1 z => ?_) fun _ _ z => z)
    obtain ⟨z1, z2⟩ := z
    subst z1
    subst z2
    refine wpAny_bind (wpAny_mono back (fun r s1 z => ?_) fun _ _ z => z)
    obtain ⟨v, rfl, z⟩ := z
    exact wpAny_pure z
end
section
variable {prog : Program} {w : World} {A : Around} {E : Value → Shared → Prop} {s : Shared} {x C dx : Addr}
theorem str_declines {z : Str} {t : Tok} (h : s.heap.get? x = some (PySem.W.instObj C dx)) : wpAny (model prog w) A (tryCompare (.str z t) "__eq__" (.ref x)) (fun r s' => r = none ∧ s' = s) E s := by
  refine wpAny_tryCompare_declines (T := "str") rfl F.slot_str_eq (GQ.call_here F.slot_str_eq rfl F.entry_str_eq (F.args_str_eq_2 _ _) ?_)
  obtain ⟨hp, g, d, tk, os⟩ := s
  wp_walk using wpAny_loadPart' h
  all_goals exact ⟨rfl, rfl, rfl⟩
theorem int_declines {z : Int} {t : Tok} (h : s.heap.get? x = some (PySem.W.instObj C dx)) : wpAny (model prog w) A (tryCompare (.int z t) "__eq__" (.ref x)) (fun r s' => r = none ∧ s' = s) E s := by
  refine wpAny_tryCompare_declines (T := "int") rfl F.slot_int_eq (GQ.call_here F.slot_int_eq rfl F.entry_int_eq (F.args_int_eq_2 _ _) ?_)
  obtain ⟨hp, g, d, tk, os⟩ := s
  wp_walk using wpAny_loadPart' h
  all_goals exact ⟨rfl, rfl, rfl⟩
theorem bool_declines {z : Bool} (h : s.heap.get? x = some (PySem.W.instObj C dx)) : wpAny (model prog w) A (tryCompare (.bool z) "__eq__" (.ref x)) (fun r s' => r = none ∧ s' = s) E s := by
  refine wpAny_tryCompare_declines (T := "bool") rfl F.slot_bool_eq (GQ.call_here F.slot_bool_eq rfl F.entry_int_eq (F.args_int_eq_2 _ _) ?_)
  obtain ⟨hp, g, d, tk, os⟩ := s
  wp_walk using wpAny_loadPart' h
  all_goals exact ⟨rfl, rfl, rfl⟩
theorem none_declines (h : s.heap.get? x = some (PySem.W.instObj C dx)) : wpAny (model prog w) A (tryCompare .none "__eq__" (.ref x)) (fun r s' => r = none ∧ s' = s) E s := by
  refine wpAny_tryCompare_declines (T := "NoneType") rfl F.slot_NoneType_eq (GQ.call_here F.slot_NoneType_eq rfl F.entry_NoneType_eq (F.args_NoneType_eq_2 _ _) ?_)
  obtain ⟨hp, g, d, tk, os⟩ := s
  wp_walk using wpAny_loadPart' h
  all_goals exact ⟨rfl, rfl, rfl⟩
end
def sclU : U → Bool
  | .d .non => true
  | .d (.bl _) => true
  | .d (.int _) => true
  | .d (.str _) => true
  | _ => false
/-- a text, number, truth value or None at the left, an own object at the right -/
def eqOR (C : Addr) (mf : List U → M U) : P2S := fun a b st => match insU st b with
  | some (C', _) => if C' = C ∧ sclU a = true then match mf [b, a] st with
    | .ok (.d (.bl k)) st' => .ok (.d (.bl k)) st'
    | _ => .bad
    else .bad
  | none => .bad
theorem eqOR_no (C : Addr) (mf : List U → M U) : ∀ a b st c fs st', eqOR C mf a b st ≠ .ex c fs st' := fun a b st c fs st' => by
  unfold eqOR
  split
  · split
    · split <;> intro z <;> cases z
    · intro z; cases z
  · intro z; cases z
section
variable {X : Cx} {C f : Addr} {k : Nat} {mf : List U → M U}
theorem op_eqOR (hT : ∀ n ∈ ["NoneType", "bool", "int", "str"], PySem.W.subIn X.K (.ref C) (.type n) = some false) (hM : Meth X.K C "__eq__" f) (F : Fd X.prog X.w X.K X.mg X.base f k 2 [] gPos mf) (hr : RoomG k X.A) : OpR X (compareOp .Eq) (rGS X.K (eqOR C mf)) := by
  intro pins s σ H x y v u Q I rx ry h
  obtain ⟨m, st, a, b, r, ha, hb, p⟩ := h
  unfold eqOR at p
  split at p
  · rename_i C' ws hi
    split at p
    · rename_i hc
      obtain ⟨c1, c2⟩ := hc
      subst c1
      split at p
      · rename_i kk st' hm
        obtain ⟨q, dx, vs, rfl, hq, _⟩ := insU_rp r hb hi
        cases ry
        obtain ⟨mA, Fm⟩ := fr_of I
        obtain ⟨od, Ia⟩ := inst_of I hq
        have low : ∀ T : String, PySem.W.subIn X.K (.ref C') (.type T) = some false → PySem.W.Looks (model X.prog X.w) s.heap (typeOf v) (.type T) → oneThing? .Eq v (.ref q) = none → (∀ E : Value → Shared → Prop, wpAny (model X.prog X.w) X.A (tryCompare v "__eq__" (.ref q)) (fun r s' => r = none ∧ s' = s) E s) → wpAny (model X.prog X.w) X.A (compareOp .Eq v (.ref q)) (EP X pins σ Q) X.xe s := fun T h1 h2 h3 h4 => by
          show wpAny _ _ (richCompare .Eq v (.ref q)) _ _ _
          refine rich_back (by have := hr.rm.un; omega) Fm I.ok.mod.kin Ia h2 h1 h3 (h4 _) hM.at_ hM.fn ?_
          refine wpAny_mono (run_own (Q := fun v H' => v = .bl kk ∧ Q (.bl kk) H') F hr rfl I (vs := [.ref q, x]) (us := [.ref q, v]) (as := [b, a]) (.cons rfl (.cons rx .nil)) r ⟨_, _, rfl, hb, _, _, rfl, ha, rfl⟩ rfl ?_) (fun w s' hv => ?_) fun _ _ e => e
          · show PU X.K m H _ _ (mf [b, a] st)
            rw [hm]
            intro v' m' H' h1 h2 h3
            cases (show v' = .bl kk from h1)
            exact ⟨rfl, p _ m' H' rfl h2 h3⟩
          · obtain ⟨w', H', I', rw', ey, qq⟩ := hv
            subst ey
            cases (show w = Value.bool kk from rw')
            exact ⟨.bl kk, H', I', rfl, qq⟩
        unfold sclU at c2
        split at c2
        · cases (show x = .non from ha)
          cases (show v = Value.none from rx)
          exact low "NoneType" (hT _ (by simp)) (PySem.W.Looks.of_pure rfl) rfl fun E => none_declines Ia.at_
        · rename_i kb
          cases (show x = .bl kb from ha)
          cases (show v = Value.bool kb from rx)
          exact low "bool" (hT _ (by simp)) (PySem.W.Looks.of_pure rfl) rfl fun E => bool_declines Ia.at_
        · rename_i i
          cases (show x = .int i from ha)
          obtain ⟨t, e⟩ := (show ∃ t, v = Value.int i t from rx)
          cases e
          exact low "int" (hT _ (by simp)) (PySem.W.Looks.of_pure rfl) rfl fun E => int_declines Ia.at_
        · rename_i z
          cases (show x = .str z from ha)
          obtain ⟨t, e⟩ := (show ∃ t, v = Value.str z t from rx)
          cases e
          exact low "str" (hT _ (by simp)) (PySem.W.Looks.of_pure rfl) rfl fun E => str_declines Ia.at_
        · cases c2
      · exact p.elim
    · exact p.elim
  · exact p.elim
end
end VL

/-! VLA: == and != where either side may be an own object. -/
namespace VL
open PySem PySem.Spec PyProof.Rows L2
section
variable {prog : Program} {w : World} {A : Around} {E : Value → Shared → Prop} {s : Shared} {K : PySem.W.Frag} {x l C : Addr} {ox : Obj} {od : Option Obj}
theorem list_declines (hl : s.TypeIs (.ref l) "list") (ki : K.In s.heap) (io : PySem.W.InstAt s.heap x ox C od) (sb : PySem.W.subIn K (.ref C) (.type "list") = some false) : wpAny (model prog w) A (tryCompare (.ref l) "__eq__" (.ref x)) (fun r s' => r = none ∧ s' = s) E s := by
  refine wpAny_tryCompare_declines (T := "list") hl F.slot_list_eq (GQ.call_here F.slot_list_eq hl F.entry_list_eq (F.args_list_eq_2 _ _) ?_)
  have lk : PySem.W.Looks (model prog w) s.heap (isInstance (.ref x) (.type "list")) false := io.type.andThen (PySem.W.looks_subIn ki sb)
  obtain ⟨hp, g, d, tk, os⟩ := s
  unfold Builtin.«list.__eq__»
  repeat (first | with_reducible refine lk.at ?_ | (refine wpAny_bind (lk.here ?_)) | wp_step)
  all_goals exact ⟨rfl, rfl, rfl⟩
theorem tuple_declines (hl : s.TypeIs (.ref l) "tuple") (ki : K.In s.heap) (io : PySem.W.InstAt s.heap x ox C od) (sb : PySem.W.subIn K (.ref C) (.type "tuple") = some false) : wpAny (model prog w) A (tryCompare (.ref l) "__eq__" (.ref x)) (fun r s' => r = none ∧ s' = s) E s := by
  refine wpAny_tryCompare_declines (T := "tuple") hl F.slot_tuple_eq (GQ.call_here F.slot_tuple_eq hl F.entry_tuple_eq (F.args_tuple_eq_2 _ _) ?_)
  have lk : PySem.W.Looks (model prog w) s.heap (isInstance (.ref x) (.type "tuple")) false := io.type.andThen (PySem.W.looks_subIn ki sb)
  obtain ⟨hp, g, d, tk, os⟩ := s
  unfold Builtin.«tuple.__eq__»
  repeat (first | with_reducible refine lk.at ?_ | (refine wpAny_bind (lk.here ?_)) | wp_step)
  all_goals exact ⟨rfl, rfl, rfl⟩
end
def seqU (st : Store) : U → Option String
  | .d (.lst _) => some "list"
  | .d (.tup _) => some "tuple"
  | .ref n => match st[n]? with
    | some (.lst _) => some "list"
    | _ => none
  | _ => none
theorem seqU_ty {X : Cx} {pins : List (Addr × Obj)} {σ : L2.St} {H : Hp} {s : Shared} {m : List Addr} {st : Store} {a : U} {x : V} {v : Value} {T : String} (I : L2.Inv X pins σ H s) (r : Rep X.K m st H) (ha : RpU X.K m H a x) (rx : RelV x v) (h : seqU st a = some T) :
    ∃ l, v = .ref l ∧ s.TypeIs (.ref l) T ∧ (T = "list" ∨ T = "tuple") := by
  have lists : ∀ (l : Addr) (vs : List V), H l = some (.lst vs) → s.TypeIs (.ref l) "list" := fun l vs e => by
    obtain ⟨_, _, n, _, h1⟩ := (show ObjOk X.prog X.w H s.heap l (.lst vs) from I.hok l _ e)
    exact ⟨_, h1, rfl⟩
  cases a with
  | ref n =>
    simp only [seqU] at h
    split at h
    · rename_i us hs
      cases h
      obtain ⟨l, hl, rfl⟩ := ha
      obtain ⟨ho, h1, vs, rfl, _⟩ := r.cell n _ l hs hl
      cases rx
      exact ⟨l, rfl, lists l vs h1, .inl rfl⟩
    · cases h
  | d x' =>
    cases x' with
    | lst ds =>
      cases h
      obtain ⟨l, vs, rfl, t, _⟩ := ha
      cases rx
      exact ⟨l, rfl, lists l vs t.2, .inl rfl⟩
    | tup ds =>
      cases h
      obtain ⟨l, vs, rfl, t, _⟩ := ha
      cases rx
      refine ⟨l, rfl, ?_, .inr rfl⟩
      rcases t.sq with (e | ⟨o, e⟩) | ⟨o, its, n, hk, h1, _⟩
      · obtain ⟨_, _, _, ob, g1, g2, _⟩ := (show ObjOk X.prog X.w H s.heap l (.tup vs) from I.hok l _ e)
        exact ⟨ob, g1, g2⟩
      · obtain ⟨_, hx⟩ := (show ObjOk X.prog X.w H s.heap l (.frz o (.tup vs)) from I.hok l _ e)
        obtain ⟨_, _, _, ob, g1, g2, _⟩ := hx
        exact ⟨ob, g1, g2⟩
      · exact ⟨o, I.kIn _ _ hk, h1⟩
    | _ => cases h
/-- anything but an own object at the left, an own object at the right -/
def eqOR2 (C : Addr) (mf : List U → M U) : P2S := fun a b st => match insU st b with
  | some (C', _) => if C' = C ∧ (sclU a || (seqU st a).isSome) = true then match mf [b, a] st with
    | .ok (.d (.bl k)) st' => .ok (.d (.bl k)) st'
    | _ => .bad
    else .bad
  | none => .bad
theorem eqOR2_no (C : Addr) (mf : List U → M U) : ∀ a b st c fs st', eqOR2 C mf a b st ≠ .ex c fs st' := fun a b st c fs st' => by
  unfold eqOR2
  split
  · split
    · split <;> intro z <;> cases z
    · intro z; cases z
  · intro z; cases z
section
variable {X : Cx} {C f : Addr} {k : Nat} {mf : List U → M U}
theorem op_eqOR2 (hT : ∀ n ∈ ["NoneType", "bool", "int", "str", "list", "tuple"], PySem.W.subIn X.K (.ref C) (.type n) = some false) (hM : Meth X.K C "__eq__" f) (F : Fd X.prog X.w X.K X.mg X.base f k 2 [] gPos mf) (hr : RoomG k X.A) : OpR X (compareOp .Eq) (rGS X.K (eqOR2 C mf)) := by
  intro pins s σ H x y v u Q I rx ry h
  obtain ⟨m, st, a, b, r, ha, hb, p⟩ := h
  by_cases hs : sclU a = true
  · refine op_eqOR (fun n hn => hT n (by simp only [List.mem_cons, List.not_mem_nil, or_false] at hn ⊢; rcases hn with e | e | e | e <;> simp [e])) hM F hr pins s σ H x y v u Q I rx ry ⟨m, st, a, b, r, ha, hb, ?_⟩
    unfold eqOR2 at p
    unfold eqOR
    rw [hs, Bool.true_or] at p
    rw [hs]
    exact p
  · unfold eqOR2 at p
    split at p
    · rename_i C' ws hi
      split at p
      · rename_i hc
        obtain ⟨c1, c2⟩ := hc
        subst c1
        split at p
        · rename_i kk st' hm
          obtain ⟨q, dx, vs, rfl, hq, _⟩ := insU_rp r hb hi
          cases ry
          obtain ⟨mA, Fm⟩ := fr_of I
          obtain ⟨od, Ia⟩ := inst_of I hq
          have low : ∀ T : String, PySem.W.subIn X.K (.ref C') (.type T) = some false → PySem.W.Looks (model X.prog X.w) s.heap (typeOf v) (.type T) → oneThing? .Eq v (.ref q) = none → (∀ E : Value → Shared → Prop, wpAny (model X.prog X.w) X.A (tryCompare v "__eq__" (.ref q)) (fun r s' => r = none ∧ s' = s) E s) → wpAny (model X.prog X.w) X.A (compareOp .Eq v (.ref q)) (EP X pins σ Q) X.xe s := fun T h1 h2 h3 h4 => by
            show wpAny _ _ (richCompare .Eq v (.ref q)) _ _ _
            refine rich_back (by have := hr.rm.un; omega) Fm I.ok.mod.kin Ia h2 h1 h3 (h4 _) hM.at_ hM.fn ?_
            refine wpAny_mono (run_own (Q := fun v H' => v = .bl kk ∧ Q (.bl kk) H') F hr rfl I (vs := [.ref q, x]) (us := [.ref q, v]) (as := [b, a]) (.cons rfl (.cons rx .nil)) r ⟨_, _, rfl, hb, _, _, rfl, ha, rfl⟩ rfl ?_) (fun w s' hv => ?_) fun _ _ e => e
            · show PU X.K m H _ _ (mf [b, a] st)
              rw [hm]
              intro v' m' H' h1 h2 h3
              cases (show v' = .bl kk from h1)
              exact ⟨rfl, p _ m' H' rfl h2 h3⟩
            · obtain ⟨w', H', I', rw', ey, qq⟩ := hv
              subst ey
              cases (show w = Value.bool kk from rw')
              exact ⟨.bl kk, H', I', rfl, qq⟩
          cases hq2 : seqU st a with
          | none => rw [hq2] at c2; simp [hs] at c2
          | some T =>
            obtain ⟨l, rfl, tl, hT2⟩ := seqU_ty I r ha rx hq2
            have lk : PySem.W.Looks (model X.prog X.w) s.heap (typeOf (.ref l)) (.type T) := by
              obtain ⟨o, h1, h2⟩ := tl
              exact fun A Q E s k q => wpAny_typeOf_ref (k _ _ h1) (by rw [h2]; exact q)
            rcases hT2 with rfl | rfl
            · exact low "list" (hT _ (by simp)) lk rfl fun E => list_declines tl I.kIn Ia (hT _ (by simp))
            · exact low "tuple" (hT _ (by simp)) lk rfl fun E => tuple_declines tl I.kIn Ia (hT _ (by simp))
        · exact p.elim
      · exact p.elim
    · exact p.elim
/-- == of any two -/
def eqM (C : Addr) (ns : List String) (mf : List U → M U) : P2S := fun a b st => match insU st a with
  | some _ => eqOA C ns mf a b st
  | none => match insU st b with
    | some _ => eqOR2 C mf a b st
    | none => .of st (oEq a b st)
theorem R_of_no {α : Type} {st : Store} {o : Option α} {c : Value} {fs : Option (List (Str × D))} {st' : Store} : R.of st o ≠ .ex c fs st' := by
  cases o <;> intro z <;> cases z
theorem eqM_no (C : Addr) (ns : List String) (mf : List U → M U) : ∀ a b st c fs st', eqM C ns mf a b st ≠ .ex c fs st' := fun a b st c fs st' => by
  unfold eqM
  split
  · exact eqOA_no C ns mf a b st c fs st'
  · split
    · exact eqOR2_no C mf a b st c fs st'
    · exact R_of_no
/-- != of any two, an own one at the left -/
def neM (C : Addr) (ns : List String) (mf : List U → M U) : P2S := fun a b st => match insU st a with
  | some _ => neOA C ns mf a b st
  | none => .of st (oNe a b st)
theorem neM_no (C : Addr) (ns : List String) (mf : List U → M U) : ∀ a b st c fs st', neM C ns mf a b st ≠ .ex c fs st' := fun a b st c fs st' => by
  unfold neM
  split
  · exact neOA_no C ns mf a b st c fs st'
  · exact R_of_no
/-- what the written part says of a class with == alone -/
structure EqC (K : PySem.W.Frag) (C f : Addr) (ns : List String) : Prop where
  me : Meth K C "__eq__" f
  up : ∀ n ∈ ns, PySem.W.subIn K (.type n) (.ref C) = some false
  dn : ∀ n ∈ ["NoneType", "bool", "int", "str", "list", "tuple"], PySem.W.subIn K (.ref C) (.type n) = some false
  ne : PySem.W.findIn K (.ref C) "__ne__" = some (some (.builtin "object.__ne__"))
  mo : PySem.W.mroIn K C (.type "object") = some true
variable {ns : List String}
theorem op_eqM (T : EqC X.K C f ns) (F : Fd X.prog X.w X.K X.mg X.base f k 2 [] gPos mf) (hr : RoomG k X.A) (hu : X.A.units + 64 < cLine) : OpR X (compareOp .Eq) (rGS X.K (eqM C ns mf)) := by
  intro pins s σ H x y v u Q I rx ry h
  obtain ⟨m, st, a, b, r, ha, hb, p⟩ := h
  unfold eqM at p
  split at p
  · exact op_eqOA T.up T.me F hr pins s σ H x y v u Q I rx ry ⟨m, st, a, b, r, ha, hb, p⟩
  · split at p
    · exact op_eqOR2 T.dn T.me F hr pins s σ H x y v u Q I rx ry ⟨m, st, a, b, r, ha, hb, p⟩
    · exact op_eq' hu pins s σ H x y v u Q I rx ry ⟨m, st, a, b, r, ha, hb, PV.of p⟩
theorem op_neM (T : EqC X.K C f ns) (F : Fd X.prog X.w X.K X.mg X.base f k 2 [] gPos mf) (hr : RoomG (k + 1) X.A) (hu : X.A.units + 64 < cLine) : OpR X (compareOp .NotEq) (rGS X.K (neM C ns mf)) := by
  intro pins s σ H x y v u Q I rx ry h
  obtain ⟨m, st, a, b, r, ha, hb, p⟩ := h
  unfold neM at p
  split at p
  · exact op_neOA T.up T.me T.ne T.mo F hr pins s σ H x y v u Q I rx ry ⟨m, st, a, b, r, ha, hb, p⟩
  · exact op_ne' hu pins s σ H x y v u Q I rx ry ⟨m, st, a, b, r, ha, hb, PV.of p⟩
end
end VL

/-! VLB: try: .. except C as e: .. e.f, isinstance(e, ..). -/
namespace VL
open PySem PySem.Spec PyProof.Rows L2

open Classical in
/-- the answer, where it does not hang on the addresses -/
noncomputable def common {α : Type} (bad : α) (f : Addr → Option Addr → α) : α := if ∀ a d, f a d = f 0 none then f 0 none else bad
theorem common_c {α : Type} (bad r : α) : common bad (fun _ _ => r) = r := by
  unfold common
  rw [if_pos fun _ _ => rfl]
theorem common_ok {α : Type} {bad r : α} {f : Addr → Option Addr → α} (h : common bad f = r) (hb : r ≠ bad) (a : Addr) (d : Option Addr) : f a d = r := by
  unfold common at h
  split at h
  · rename_i q
    rw [q a d]; exact h
  · exact (hb h.symm).elim
/-- behind the suite the name is gone -/
def dropE (i : Nat) : RS → RS
  | .ok _ (.rt u) st => .ok [] (.rt u) st
  | .ok env .nx st => .ok (env.set i none) .nx st
  | .ok env .bk st => .ok (env.set i none) .bk st
  | .ok env .ct st => .ok (env.set i none) .ct st
  | _ => .bad
noncomputable def sTryAs (K : PySem.W.Frag) (c : Value) (i : Nat) (gb : G) (gs : Addr → Option Addr → Value → G) : G := fun env st => match gb env st with
  | .ex cls fs env1 st1 => match PySem.W.exmOne K cls c with
    | some true => if i < env1.length then common .bad (fun a d => dropE i (gs a d cls (env1.set i (some (.d (.exc a d cls (fs.getD []))))) st1)) else .bad
    | some false => .ex cls fs env1 st1
    | none => .bad
  | r => r
theorem rpX_exc {K : PySem.W.Frag} {m : List Addr} {H : Hp} {fs : Option (List (Str × D))} {d : Option Addr} {a : Addr} {cls : Value} (h : RpX K m H fs d) : RpU K m H (.d (.exc a d cls (fs.getD []))) (.ref a) := by
  cases fs with
  | none => exact ⟨rfl, .inl rfl⟩
  | some l => cases d with
    | none => exact h.elim
    | some dd =>
      obtain ⟨vs, h1, h2, h3⟩ := h
      exact ⟨rfl, .inr ⟨dd, vs, rfl, ⟨h2, h1⟩, h3⟩⟩
theorem ds_try_as {X : Cx} {W : WX} {x n : Str} {c : Value} {i : Nat} {body suite : List Stmt} {b₀ : Stmt} {np pos pos' : Pos} {gb : G} {gs : Addr → Option Addr → Value → G} (i : Nat) (hs : X.stack = X.env :: X.outer) (hf : X.env.frame = some X.env.locals) (hNd : X.N.Nodup) (hc : Names X x c) (tk : Takes X W)
    (hb : ∀ (W' : WX) (pn : List (Addr × Obj)) (xe : Value → Shared → Prop), Takes (X.tr pn xe) W' → PassesOwn (model X.prog X.w) X.A X.env xe → DB (X.tr pn xe) W' body gb)
    (hsu : ∀ (a : Addr) (oe : Obj) (cls : Value) (d : Option Addr) (pn : List (Addr × Obj)), Zc cls d oe → (∃ vs, oe.data = .fields vs) → DB (X.suite a ((a, oe) :: pn)) W0 (b₀ :: suite) (gs a d cls))
    (hN : X.N[i]? = some n := by rfl) (hln : X.env.kindOf n = some .local := by rfl) :
    DS X W (.Try body [.ExceptHandler (some (.Name x np)) (some n) (b₀ :: suite) pos'] [] [] pos) (sTryAs X.K c i gb gs) :=
  ⟨PS.imp (ps_try_as (tb := fun W' => tG X.K W' gb) (ts := fun a cls d => tG X.K W0 (gs a d cls)) (Wout := W) hs hf hNd hN hln hc tk (fun W' pn xe t q => (hb W' pn xe t q).pss)
    fun a oe cls d pn hz hfl => (hsu a oe cls d pn hz hfl).pss) fun D σ H ⟨m, env, st, r, re, p⟩ => by
    refine ⟨m, env, st, r, re, ?_⟩
    unfold sTryAs at p
    cases e : gb env st with
    | bad => rw [e] at p; exact p.elim
    | ok env1 f st1 => rw [e] at p; cases f <;> exact p
    | ex cls fs env1 st1 =>
      rw [e] at p
      simp only at p
      intro d σ' m' H' h1 h2 h3 h4
      cases q : PySem.W.exmOne X.K cls c with
      | none => simp only [q] at p; exact p.elim
      | some b =>
        simp only [q] at p
        cases b with
        | false => exact ⟨false, q, (fun z => nomatch z), fun _ => p d σ' m' H' h1 h2 h3 h4⟩
        | true =>
          simp only at p
          split at p
          · rename_i hlt
            refine ⟨true, q, fun _ a _ => ⟨m', _, st1, h2, h1.set i (rpX_exc (a := a) (cls := cls) h4), ?_⟩, fun z => nomatch z⟩
            have p2 := p.from h3
            generalize hr : common RS.bad _ = rr at p2
            have hbad : rr ≠ .bad := fun z => by rw [z] at p2; exact p2
            have hk := common_ok hr hbad a d
            generalize gs a d cls (env1.set i (some (.d (.exc a d cls (fs.getD []))))) st1 = z at hk
            subst hk
            cases z with
            | bad => exact p2.elim
            | ex c2 fs2 env2 st2 => exact p2.elim
            | ok env2 fl st2 =>
              have drop : ∀ {σ2 : L2.St} {m2 : List Addr} {H2 : Hp}, RpEnv X.K m2 H2 env2 σ2 → RpEnv X.K m2 H2 (env2.set i none) (σ2.set i none) := fun {σ2 m2 H2} k => by
                refine ⟨by rw [List.length_set, List.length_set]; exact k.len, fun j u hj => ?_⟩
                by_cases e : i = j
                · subst e
                  by_cases hi : i < env2.length
                  · rw [List.getElem?_set_self hi] at hj; cases hj
                  · rw [List.getElem?_eq_none (by rw [List.length_set]; omega)] at hj; cases hj
                · rw [List.getElem?_set_ne e] at hj
                  obtain ⟨x, g1, g2⟩ := k.at' j u hj
                  exact ⟨x, by rw [List.getElem?_set_ne e]; exact g1, g2⟩
              cases fl with
              | nx => exact fun σ2 m2 H2 k1 k2 k3 => p2 _ m2 H2 (drop k1) k2 k3
              | rt u => exact fun v m2 H2 k1 k2 k3 => p2 v m2 H2 k1 k2 k3
              | bk => exact fun σ2 m2 H2 k1 k2 k3 => p2 _ m2 H2 (drop k1) k2 k3
              | ct => exact fun σ2 m2 H2 k1 k2 k3 => p2 _ m2 H2 (drop k1) k2 k3
          · exact p.elim⟩
/-! ### e.f -/
def xFld (a : Addr) (d : Option Addr) (cls : Value) (C : Addr) (f : Str) (i : Nat) : F U := fun env st => match env[i]? with
  | some (some (.d (.exc a' d' cls' fs))) => if a' = a ∧ d' = d ∧ cls' = cls ∧ cls = .ref C then match fs.lookup f with
    | some x => .ok (.d x) st
    | none => .bad
    else .bad
  | _ => .bad
theorem RpF.look {K : PySem.W.Frag} {m : List Addr} {H : Hp} {f : Str} : ∀ {fs : List (Str × D)} {vs : List (Str × V)} {x : D}, RpF K m H fs vs → fs.lookup f = some x → ∃ v, vs.lookup f = some v ∧ RpD K m H x v
  | [], _, _, _, e => by cases e
  | (n, d) :: fs, _, x, ⟨v, r, e, h1, h2⟩, q => by
    subst e
    unfold List.lookup at q ⊢
    split at q
    · cases q
      exact ⟨v, rfl, h1⟩
    · exact RpF.look h2 q
section
variable {X : Cx} {W : WX} {a C : Addr} {oe : Obj} {cls : Value} {d : Option Addr} {pn : List (Addr × Obj)} {x : Str} {p1 pos : Pos} {n : Str}
theorem d_xf {K : PySem.W.Frag} (i : Nat) (T : XfC K C) (hno : PySem.W.findIn K (.ref C) n = some none) (hz : Zc cls d oe) (hf : ∃ vs, oe.data = .fields vs) (hN : X.N[i]? = some x := by rfl) (hv : Vis X.env.scope x := by first | exact Or.inl rfl | exact Or.inr (Or.inl rfl) | exact Or.inr (Or.inr rfl)) (hd : (x == ("__debug__" : Str)) = false := by decide)
    (hcd : (x == ("__classdict__" : Str)) = false := by decide) (hb : attributeBase (.Name x p1) n X.env (eval (.Name x p1) X.env) = eval (.Name x p1) X.env := by rfl) (hK : X.K = K := by rfl) :
    DE (X.suite a ((a, oe) :: pn)) W (.Attribute (.Name x p1) n pos) (xFld a d cls C n i) := by
  subst hK
  refine ⟨PE.imp (pe_xf T hno hz hf (pv (X := X.suite a ((a, oe) :: pn)) i hN hv hd hcd) hb) fun σ H Q ⟨m, env, st, r, re, p⟩ => ?_⟩
  unfold xFld at p
  split at p
  · rename_i a' d' cls' fs hi
    split at p
    · rename_i hc
      obtain ⟨rfl, rfl, rfl, hC⟩ := hc
      split at p
      · rename_i y hl
        obtain ⟨v, h1, rfl, h⟩ := re.at' i _ hi
        rcases h with rfl | ⟨dd, vs, rfl, ⟨h2, h3⟩, h4⟩
        · cases hl
        · obtain ⟨w, g1, g2⟩ := h4.look hl
          exact ⟨_, h1, rfl, hC, dd, vs, w, rfl, h3, g1, p w m H g2 r (Ext.refl _ _)⟩
      · exact p.elim
    · exact p.elim
  · exact p.elim
end
/-! ### isinstance(e, ..) -/
/-- a class as isinstance's second -/
def clsD : D → Option Value
  | .ty n => some (.type n)
  | .obj b => some (.ref b)
  | _ => none
def clsU : U → Option (Sum Value (List Value))
  | .d (.tup ds) => (ds.mapM clsD).map .inr
  | .d x => (clsD x).map .inl
  | _ => none
def oIsX (K : PySem.W.Frag) (a : Addr) (d : Option Addr) (cls : Value) (C : Addr) : List U → Store → Option U := fun us _ => match us with
  | [.d (.exc a' d' cls' (_ :: _)), c] => if a' = a ∧ d' = d ∧ cls' = cls ∧ cls = .ref C then match clsU c with
    | some (.inl w) => (PySem.W.kitOne K (.ref C) w).map fun b => .d (.bl b)
    | some (.inr ws) => (PySem.W.kitAny K (.ref C) ws).map fun b => .d (.bl b)
    | none => none
    else none
  | _ => none
theorem clsD_rp {K : PySem.W.Frag} {m : List Addr} {H : Hp} {x : D} {v : V} {u : Value} (h : RpD K m H x v) (e : clsD x = some u) : ClsV v u := by
  cases x with
  | ty n => cases e; cases h; exact .ty n
  | obj b => cases e; cases h; exact .own b
  | _ => cases e
theorem clsDs_rp {K : PySem.W.Frag} {m : List Addr} {H : Hp} : ∀ {xs : List D} {vs : List V} {us : List Value}, RpDs K m H xs vs → xs.mapM clsD = some us → Paired ClsV vs us
  | [], _, _, h, e => by
    rw [show _ = [] from h]
    cases e
    exact .nil
  | x :: xs, _, us, ⟨v, r, e0, h1, h2⟩, e => by
    subst e0
    rw [List.mapM_cons] at e
    cases hx : clsD x with
    | none => rw [hx] at e; cases e
    | some w =>
      rw [hx] at e
      cases hs : xs.mapM clsD with
      | none => rw [hs] at e; cases e
      | some ws =>
        rw [hs] at e
        cases e
        exact .cons (clsD_rp h1 hx) (clsDs_rp h2 hs)
theorem clsU_one {K : PySem.W.Frag} {m : List Addr} {H : Hp} {c : U} {y : V} {w : Value} (h : RpU K m H c y) (e : clsU c = some (.inl w)) : ClsV y w := by
  cases c with
  | ref n => cases e
  | d z =>
    cases z with
    | ty n => cases e; exact clsD_rp (K := K) (m := m) (H := H) (x := .ty n) h rfl
    | obj b => cases e; exact clsD_rp (K := K) (m := m) (H := H) (x := .obj b) h rfl
    | tup ds =>
      simp only [clsU] at e
      cases hm : ds.mapM clsD with
      | none => rw [hm] at e; cases e
      | some us => rw [hm] at e; cases e
    | _ => cases e
theorem clsU_tup {c : U} {ws : List Value} (e : clsU c = some (.inr ws)) : ∃ ds, c = .d (.tup ds) ∧ ds.mapM clsD = some ws := by
  cases c with
  | ref n => cases e
  | d z =>
    cases z with
    | tup ds =>
      simp only [clsU] at e
      cases hm : ds.mapM clsD with
      | none => rw [hm] at e; cases e
      | some us' => rw [hm] at e; cases e; exact ⟨ds, rfl, hm⟩
    | ty n => cases e
    | obj b => cases e
    | _ => cases e
theorem cr_isX {X : Cx} {a C : Addr} {oe : Obj} {cls : Value} {d : Option Addr} {pn : List (Addr × Obj)} {K : PySem.W.Frag} (T : ExI K C) (hz : Zc cls d oe) (hf : ∃ vs, oe.data = .fields vs) (hK : X.K = K := by rfl) :
    CallR (X.suite a ((a, oe) :: pn)) (.builtin "isinstance") (rM X.K (pu (oIsX X.K a d cls C))) := by
  subst hK
  intro pins s σ H xs us Q I r h
  obtain ⟨m, st, as, rp, ru, p⟩ := h
  obtain ⟨z, e, p⟩ := p.pu
  unfold oIsX at e
  split at e
  · rename_i a' d' cls' q qs c
    split at e
    · rename_i hcc
      obtain ⟨rfl, rfl, rfl, hcls⟩ := hcc
      subst hcls
      obtain ⟨x1, y, rfl, hv, hy⟩ := ru.two
      obtain ⟨rfl, hv⟩ := hv
      obtain ⟨u1, u2, rfl, r1, r2⟩ := vals2 r
      cases (show u1 = Value.ref a' from r1)
      rcases hv with hv | ⟨dd, vs, rfl, ⟨h2, h3⟩, h4⟩
      · cases hv
      obtain ⟨ha, _⟩ := I.pin (a', oe) (List.mem_append_left _ List.mem_cons_self)
      obtain ⟨fvs, hd⟩ := hf
      obtain ⟨mA, hns, _⟩ := (show ObjOk X.prog X.w H s.heap dd (.xd vs) from I.hok dd _ h3)
      obtain ⟨od, ho, _⟩ := lookIn_ns hns
      have J : PySem.W.InstAt s.heap a' oe C (some od) := ⟨ha, hz.1, by unfold PySem.W.notCls; rw [hd] <;> rfl, by rw [hz.2]; exact ho⟩
      have hcl : (PySem.W.clsIn X.K C).isSome = true := by
        obtain ⟨cd, e, _⟩ := PySem.W.any_some T.xf.hdC
        rw [e]; rfl
      have Z := PySem.W.kitx_exc (x := a') (ox := oe) (od := some od) hcl T.xf.ga T.xf.gg T.xf.exC T.ca T.cn T.ct T.cm
      have fin : ∀ (b : Bool) (t : Nat), z = .d (.bl b) → EP (X.suite a' ((a', oe) :: pn)) pins σ Q (.bool b) { s with toks := t } := fun b t ez => by
        subst ez
        exact ⟨.bl b, H, I.tok t, rfl, p.here rp rfl⟩
      split at e
      · rename_i w hu
        cases hk : PySem.W.kitOne X.K (.ref C) w with
        | none => rw [hk] at e; cases e
        | some b =>
          rw [hk] at e
          have e2 := (clsU_one hy hu).eq r2
          subst e2
          exact PySem.W.kia_one Z I.kIn J hk (fun z => nomatch z) fun tk => fin b _ (Option.some.inj e).symm
      · rename_i ws hu
        cases hk : PySem.W.kitAny X.K (.ref C) ws with
        | none => rw [hk] at e; cases e
        | some b =>
          rw [hk] at e
          obtain ⟨ds, rfl, hm⟩ := clsU_tup hu
          obtain ⟨tp, cs, rfl, t1, t2⟩ := hy
          cases (show u2 = Value.ref tp from r2)
          have cc := clsDs_rp t2 hm
          have obj : ∃ (dd : Option Addr) (its : List Value) (n : Nat) (sl : Array (Option Value)), s.heap.get? tp = some ⟨.type "tuple", dd, .seq its.toArray n, sl⟩ ∧ Vals cs its := by
            rcases t1.sq with (t | ⟨o, t⟩) | ⟨o, its, n, k1, k2, k3, _, k5⟩
            · obtain ⟨_, its, rv, o, g1, g2, n, g3⟩ := (show ObjOk X.prog X.w H s.heap tp (.tup cs) from I.hok tp _ t)
              obtain ⟨oc, od2, dt, sl⟩ := o
              simp only at g2 g3
              subst g2 g3
              exact ⟨_, _, _, _, g1, rv⟩
            · obtain ⟨_, hx⟩ := (show ObjOk X.prog X.w H s.heap tp (.frz o (.tup cs)) from I.hok tp _ t)
              obtain ⟨_, its, rv, o, g1, g2, n, g3⟩ := hx
              obtain ⟨oc, od2, dt, sl⟩ := o
              simp only at g2 g3
              subst g2 g3
              exact ⟨_, _, _, _, g1, rv⟩
            · obtain ⟨oc, od2, dt, sl⟩ := o
              simp only at k2 k3
              subst k2 k3
              exact ⟨_, its.toList, n, _, by rw [I.kIn _ _ k1], k5⟩
          obtain ⟨dd2, its, n, sl, g1, rv⟩ := obj
          have e3 := ClsV.all cc rv
          subst e3
          exact PySem.W.kia_tup Z I.kIn J g1 hk (fun z => nomatch z) fun tk => fin b _ (Option.some.inj e).symm
      · cases e
    · cases e
  · cases e
end VL

/-! VLC: f(lambda: body) where def f(a): try: a() / except C as e: suite / return None. -/
namespace VL
open PySem PySem.Spec PyProof.Rows L2 LamX

section
variable {X : Cx}
/-- how the made lambda answers in the def that got it, entered at s -/
def Acts (X : Cx) (Ng : List Str) (x : Str) (sg : Scope) (g : Addr) (cdg : Value) (a : Str) (q : Str) (f c' : Addr) (s : Shared) (H : Hp) (tl : XK → Hp → VK → Prop) : Prop :=
  ∀ (W : WX) (pn : List (Addr × Obj)) (xe : Value → Shared → Prop) (p1 p2 : Pos), Takes ((cxOf C8.CX0 X.prog X.w X.K X.mg X.base Ng x sg g cdg X.A X.stack s H C8.E0).tr pn xe) W →
    PE ((cxOf C8.CX0 X.prog X.w X.K X.mg X.base Ng x sg g cdg X.A X.stack s H C8.E0).tr pn xe) (.Call (.Name a p1) [] [] p2) (fun σZ HZ Q => σZ[0]? = some (some (.ref f)) ∧ HZ c' = some (CodeO c' q) ∧ tl (fun cls d H' => W cls d σZ H') HZ Q)
theorem acts_of {pins : List (Addr × Obj)} {σ : L2.St} {H : Hp} {s : Shared} {Ng : List Str} {x a : Str} {sg scope : Scope} {g f c' : Addr} {cdg pm ctv : Value} {params : Arguments} {body : Expr} {k : Nat} {t : XK → TE} (I : L2.Inv X pins σ H s) (L : LamS X.env.scope scope)
    (hf : s.heap.get? f = some (PySem.W.kla_obj "<lambda>" (X.env.qual ++ "<lambda>") params body scope (cloFrom X.env.cells scope.names []) pm c' ctv)) (hn : H f = none) (hs : f ∉ frs X.stack)
    (bind : bindArgs (PySem.W.kla_fn "<lambda>" (X.env.qual ++ "<lambda>") params body scope (cloFrom X.env.cells scope.names []) pm (.ref c') ctv) ⟨[], []⟩ = pure []) (hr : Room (k + 1) (X.A.deeper (envOfC x sg s.heap.objs.size g cdg)))
    (hb : ∀ (A : Around) (outer : List Env) (s : Shared) (H : Hp) (E : XK), A.guards = X.A.guards → Room k (A.deeper (lamEnv X scope s.heap.objs.size f c')) → PE (lamCx X A outer s H E scope f c') body (t E))
    (hN : Ng[0]? = some a) (hv : Vis sg a) (hd : (a == ("__debug__" : Str)) = false) (hcd : (a == ("__classdict__" : Str)) = false) : Acts X Ng x sg g cdg a (X.env.qual ++ "<lambda>") f c' s H (fun E H' Q' => t E σ H' Q') := by
  intro W pn xe p1 p2 tk
  refine ⟨fun pz sz σz Hz Q Iz h => ?_⟩
  obtain ⟨h1, h2, h3⟩ := h
  refine wpAny_Call_Name_kw (thn ((pe_var (pos := p1) (i := 0) hN hv hd hcd).run pz sz σz Hz (fun v H1 => v = .ref f ∧ H1 = Hz) Iz ⟨.ref f, h1, rfl, rfl⟩) fun u s1 ⟨v, H1, I1, r1, e1, e2⟩ => ?_)
  subst e1
  subst e2
  cases (show u = Value.ref f from r1)
  have at1 := I1.base.keep f _ hf hn hs List.not_mem_nil
  obtain ⟨⟨oc, vs, tq, g1, g2, g3⟩, _, _⟩ := I1.hok c' _ h2
  refine PySem.W.callWith_F0 ⟨_, _, _, _, at1⟩ (wpAny_call (codeAny_mono (R := CR (L2.CX X.prog X.w) (envOfC x sg s.heap.objs.size g cdg :: X.stack) X.prog X.w H1 s1 Q fun cls d H' => W cls d σz H') ?_ fun r s2 hq => ?_))
  · refine PySem.W.kla_callFunE hr.depth at1 rfl L.co L.gen rfl ⟨c', oc, vs, tq, rfl, g1, g2, g3⟩ ?_
    refine wpAny_of_eq bind (wpAny_newFunctionEnv (fun y hy => (L.own y hy).2) (fun y hy => absurd hy List.not_mem_nil) (fun h₁ ns sb => ⟨I1.nolimit.fresh _ sb, ?_⟩) L.kind)
    show codeAny _ _ (.expr body (lamEnv X scope s1.heap.objs.size f c')) _ _
    have kp : ∀ b o, s1.heap.get? b = some o → h₁.get? b = some o := fun b o e => sb.extBut b o (Nat.ne_of_lt (Heap.lt_size e)) (Heap.get?_push_of_some _ e)
    have J := lam_start2 (X := X) (A := X.A.deeper (envOfC x sg s.heap.objs.size g cdg)) (outer := envOfC x sg s.heap.objs.size g cdg :: X.stack) (E := fun cls d H' => W cls d σz H') (scope := scope) (f := f) (c' := c') (tk := s1.toks + ([] : List (Str × Value)).length) I L I1.env0 hr.hd I1.base ns kp
    refine PySem.W.kla_codeExpr (wpAny_mono ((hb (X.A.deeper (envOfC x sg s.heap.objs.size g cdg)) (envOfC x sg s.heap.objs.size g cdg :: X.stack) s1 H1 (fun cls d H' => W cls d σz H') rfl (hr.deeper _)).run [] _ σ H1 Q J h3) (fun v s' hq => ?_) fun e s' z => z)
    obtain ⟨w', H', J', rv, q⟩ := hq
    exact ⟨w', H', J'.os, J'.bare, J'.base, J'.hok, rv, q⟩
  · match r, hq with
    | .error e, hq => exact passAt tk σz pz H1 s1 e s2 I1 hq
    | .ok (.ret u), hq => exact I1.after hq
    | .ok .next, hq => exact False.elim hq
    | .ok .brk, hq => exact False.elim hq
    | .ok .cont, hq => exact False.elim hq
def tLamU (T : List (Addr × Str)) (P : Addr) (q : Str) (TT : (XK → Hp → VK → Prop) → Hp → VK → Prop) (t : XK → TE) : TE := fun σ H Q => (∀ p ∈ T, p.1 = P → p.2 = q) ∧ tLam T TT t σ H Q
/-- x(lambda: body), the lambda's body told where the guards are known -/
theorem pe_lamG {T : List (Addr × Str)} {TT : (XK → Hp → VK → Prop) → Hp → VK → Prop} {x a : Str} {g c P : Addr} {k : Nat} {st : Stmt} {fd : FuncData} {Ng : List Str} {params : Arguments} {body : Expr} {scope : Scope} {t : XK → TE} {p lpos pos : Pos}
    (hg : Gl X x) (hm : X.mg x = some (.ref g)) (hk : PySem.W.keepIn X.K (.ref g) = true) (Fn : Fun X.K x x st g fd) (hb : L2.Binds X.K fd [a] []) (Sg : FnScope Ng [a] (defScope st)) (hNg : Ng[0]? = some a) (hva : Vis (defScope st) a)
    (hG : ∀ (cdg : Value) (f c' : Addr) (s : Shared) (H : Hp) (Q : VK) (tl : XK → Hp → VK → Prop), Acts X Ng x (defScope st) g cdg a (X.env.qual ++ "<lambda>") f c' s H tl → H c' = some (CodeO c' (X.env.qual ++ "<lambda>")) → TT tl H Q →
      ∃ t, PSs (cxOf C8.CX0 X.prog X.w X.K X.mg X.base Ng x (defScope st) g cdg X.A X.stack s H C8.E0).nox (defBody st) t ∧ t { nx := fun _ H' => Q .non H', rt := Q } (L2.start Ng [.ref f]) H)
    (TB : TabB X.base X.mg c P) (hcode : X.env.code = .ref c) (hmT : (P, X.env.qual ++ "<lambda>") ∈ T) (hr : Room (k + 2) X.A) (L : LamS X.env.scope scope) (hdef : defaultsOf params X.env = ([], []))
    (hbind : ∀ (q : Str) (cl : List (Str × Addr)) (pm cv ctv : Value), bindArgs (PySem.W.kla_fn "<lambda>" q params body scope cl pm cv ctv) ⟨[], []⟩ = pure [])
    (hbody : ∀ (A : Around) (outer : List Env) (s : Shared) (H : Hp) (E : XK) (f c' : Addr), A.guards = X.A.guards → Room k (A.deeper (lamEnv X scope s.heap.objs.size f c')) → PE (lamCx X A outer s H E scope f c') body (t E))
    (hdb : (x == ("__debug__" : Str)) = false := by decide) (hd : (a == ("__debug__" : Str)) = false := by decide) (hcd : (a == ("__classdict__" : Str)) = false := by decide) :
    PE X (.Call (.Name x p) [.Lambda params body scope lpos] [] pos) (tLamU T P (X.env.qual ++ "<lambda>") TT t) := by
  obtain ⟨oc, od, kV, doc, pm, an, cdv, ct, osl, rfl, lk, hcg⟩ := Fn.ex
  refine ⟨fun pins s σ H Q I h => ?_⟩
  obtain ⟨hu, hT, h⟩ := h
  refine wpAny_Call_Name_kw (ld_glob I hg hm (PySem.W.callWith_K (h₀ := X.base) I.ok.mod.kin hk ?_ (by rfl) (by rfl)) hdb)
  show wpAny _ _ (spliced ((false, eval (.Lambda params body scope lpos) X.env) :: backTo pos (starEach [] X.env))) _ _ s
  refine Calls.spliced_cons (lam_make2 I TB hcode hmT hu hT hdef (L.has I.ok) fun f c' pm' ctv H1 s' I1 eN T1 hf hfn hfr hco => Calls.spliced_nil ⟨I1.kIn, wpAny_call (codeAny_mono (R := CR C8.CX0 X.stack X.prog X.w H1 s' Q C8.E0) ?_ fun r s2 hq => ?_)⟩)
  · refine run_ofS (N := Ng) (ps := [a]) (us := [.ref f]) (vs := [.ref f]) lk hcg Sg hr I1.env0 (hb s' [.ref f] I1.kIn rfl) (.cons rfl .nil) rfl fun hr' => ?_
    obtain ⟨t', q1, q2⟩ := hG cdv f c' s' H1 Q (fun E H' Q' => t E σ H' Q') (acts_of I1 L hf hfn hfr (hbind _ _ _ _ _) hr' (fun A outer s H E h1 h2 => hbody A outer s H E f c' h1 h2) hNg hva hd hcd) hco (h H1 eN T1)
    exact ⟨t', q1.nox, q2⟩
  · match r, hq with
    | .error e, hq => exact (show False from hq).elim
    | .ok (.ret u), hq => exact I1.after hq
    | .ok .next, hq => exact False.elim hq
    | .ok .brk, hq => exact False.elim hq
    | .ok .cont, hq => exact False.elim hq
end
/-! ### def x(a): try: a() / except C as e: suite / return None -/
noncomputable def mTold (K : PySem.W.Frag) (c : Value) (i n : Nat) (gs : Addr → Option Addr → Value → G) (deed : M U) : M U := fun st => match deed st with
  | .ok _ st1 => .ok (.d .non) st1
  | .ex cls fs st1 => match PySem.W.exmOne K cls c with
    | some true => match common RS.bad (fun a d => dropE i (gs a d cls ((List.replicate n none).set i (some (.d (.exc a d cls (fs.getD []))))) st1)) with
      | .ok _ (.rt u) st2 => .ok u st2
      | .ok _ .nx st2 => .ok (.d .non) st2
      | _ => .bad
    | _ => .bad
  | .bad => .bad
/-- what such a def makes of a lambda's reading -/
def TTm (K : PySem.W.Frag) (mT : M U → M U) : (XK → Hp → VK → Prop) → Hp → VK → Prop := fun tl H Q => ∃ (m : List Addr) (st : Store) (deed : M U), Rep K m st H ∧ (∀ (E : XK) (Q' : VK), PU K m H Q' E (deed st) → tl E H Q') ∧ PU K m H Q (fun _ _ _ => False) (mT deed st)
theorem rpEnv_none {K : PySem.W.Frag} {m : List Addr} {H : Hp} {n : Nat} {σ : L2.St} (h : σ.length = n) : RpEnv K m H (List.replicate n none) σ :=
  ⟨by rw [List.length_replicate, h], fun i u hi => by
    rw [List.getElem?_replicate] at hi
    split at hi <;> cases hi⟩
theorem told_G {X : Cx} {Ng : List Str} {x a e n q : Str} {sg : Scope} {g : Addr} {c : Value} {i j : Nat} {gs : Addr → Option Addr → Value → G} {b₀ : Stmt} {suite : List Stmt} {p1 p2 p3 p4 p5 p6 p7 p8 : Pos} (hNd : Ng.Nodup) (hpos : 0 < Ng.length) (hi : Ng[i]? = some n) (hi0 : i ≠ 0)
    (hc : ∀ (cdg : Value) (s : Shared) (H : Hp), Names (cxOf C8.CX0 X.prog X.w X.K X.mg X.base Ng x sg g cdg X.A X.stack s H C8.E0) e c)
    (hsw : ∀ (cdg : Value) (s : Shared) (H : Hp), swapsWith (.Call (.Name a p1) [] [] p2) none p3.line (cxOf C8.CX0 X.prog X.w X.K X.mg X.base Ng x sg g cdg X.A X.stack s H C8.E0).env = pure false)
    (hln : ∀ (cdg : Value) (s : Shared) (H : Hp), (cxOf C8.CX0 X.prog X.w X.K X.mg X.base Ng x sg g cdg X.A X.stack s H C8.E0).env.kindOf n = some .local)
    (hsu : ∀ (cdg : Value) (s : Shared) (H : Hp) (a' : Addr) (oe : Obj) (cls : Value) (d : Option Addr) (pn : List (Addr × Obj)), Zc cls d oe → (∃ vs, oe.data = .fields vs) →
      DB ((cxOf C8.CX0 X.prog X.w X.K X.mg X.base Ng x sg g cdg X.A X.stack s H C8.E0).suite a' ((a', oe) :: pn)) W0 (b₀ :: suite) (gs a' d cls)) :
    ∀ (cdg : Value) (f c' : Addr) (s : Shared) (H : Hp) (Q : VK) (tl : XK → Hp → VK → Prop), Acts X Ng x sg g cdg a q f c' s H tl → H c' = some (CodeO c' q) → TTm X.K (mTold X.K c i Ng.length gs) tl H Q →
      ∃ t, PSs (cxOf C8.CX0 X.prog X.w X.K X.mg X.base Ng x sg g cdg X.A X.stack s H C8.E0).nox [.Try [.Expr (.Call (.Name a p1) [] [] p2) p3] [.ExceptHandler (some (.Name e p4)) (some n) (b₀ :: suite) p5] [] [] p6, .Return (some (.Constant .none j p7)) p8] t ∧
        t { nx := fun _ H' => Q .non H', rt := Q } (L2.start Ng [.ref f]) H := by
  intro cdg f c' s H Q tl act hco h
  refine ⟨_, pss_cons (ps_try_as (X := (cxOf C8.CX0 X.prog X.w X.K X.mg X.base Ng x sg g cdg X.A X.stack s H C8.E0).nox) (c := c) (i := i)
    (tb := fun W D σ H1 => σ[0]? = some (some (.ref f)) ∧ H1 c' = some (CodeO c' q) ∧ tl (fun cls d H' => W cls d σ H') H1 fun _ H2 => D.nx σ H2)
    (ts := fun a' cls d => tG X.K W0 (gs a' d cls)) (Wout := fun _ _ _ _ => False) rfl rfl hNd hi (hln cdg s H) (hc cdg s H) LamX.takes0 (fun W pn xe tk _ => ?_) (fun a' oe cls d pn hz hfl => (hsu cdg s H a' oe cls d pn hz hfl).pss)) (pss_one (ps_ret pe_non)), ?_⟩
  · refine ⟨fun pins s' σ H' D I h' => ?_⟩
    obtain ⟨h1, h2, h3⟩ := h'
    have hq := pss_one (ps_expr (act W pn xe p1 p2 tk) (hsw cdg s H))
    exact hq.run pins s' σ H' D I ⟨h1, h2, h3⟩
  · obtain ⟨m, st, deed, r, hd, p⟩ := h
    have hl : (L2.start Ng [V.ref f]).length = Ng.length := by
      unfold L2.start
      rw [List.length_append, List.length_map, List.length_replicate]
      simp only [List.length_cons, List.length_nil]
      omega
    have h0 : (L2.start Ng [V.ref f])[0]? = some (some (V.ref f)) := rfl
    unfold mTold at p
    refine ⟨h0, hco, hd _ _ ?_⟩
    cases e1 : deed st with
    | bad => rw [e1] at p; exact p.elim
    | ok u st1 =>
      rw [e1] at p
      exact fun v m1 H1 k1 k2 k3 => p .non m1 H1 rfl k2 k3
    | ex cls fs st1 =>
      rw [e1] at p
      simp only at p
      intro d m1 H1 k1 k2 k3
      cases hx : PySem.W.exmOne X.K cls c with
      | none => simp only [hx] at p; exact p.elim
      | some b =>
        simp only [hx] at p
        cases b with
        | false => exact p.elim
        | true =>
          simp only at p
          refine ⟨true, hx, fun _ a' _ => ⟨m1, _, st1, k1, (rpEnv_none (K := X.K) (m := m1) (H := H1) hl).set i (rpX_exc (a := a') (cls := cls) k3), ?_⟩, fun z => nomatch z⟩
          generalize hr : common RS.bad _ = rr at p
          have hbad : rr ≠ .bad := fun z => by rw [z] at p; exact p
          have hk := common_ok hr hbad a' d
          generalize gs a' d cls ((List.replicate Ng.length none).set i (some (.d (.exc a' d cls (fs.getD []))))) st1 = z at hk ⊢
          subst hk
          cases z with
          | bad => exact p.elim
          | ex c2 fs2 env2 st2 => exact p.elim
          | ok env2 fl st2 =>
            cases fl with
            | nx => exact fun σ2 m2 H2 g1 g2 g3 => p .non m2 H2 rfl g2 (k2.trans g3)
            | rt u => exact fun v m2 H2 g1 g2 g3 => p v m2 H2 g1 g2 (k2.trans g3)
            | bk => exact p.elim
            | ct => exact p.elim
/-! ### the expression -/
/-- the first cells are the tables, no others are -/
def TabIn (T : List (Addr × Str)) (st : Store) : Prop := (∀ (j : Nat) (p : Addr × Str), T[j]? = some p → st[j]? = some (.tbl p.1 p.2)) ∧ ∀ (n : Nat) (P : Addr) (q : Str), st[n]? = some (.tbl P q) → n < T.length
open Classical in
noncomputable def fLam (T : List (Addr × Str)) (mT : M U → M U) (fb : F U) : F U := fun env st => if TabIn T st then mT (fun st' => fb env st') st else .bad
theorem rep_tabs {K : PySem.W.Frag} {m : List Addr} {st : Store} {H H1 : Hp} {T : List (Addr × Str)} (r : Rep K m st H) (h : TabIn T st) (e : ExtN H H1) (t : Tabs T H1) : Rep K m st H1 ∧ Ext m H m H1 := by
  have x : Ext m H m H1 := ⟨List.prefix_refl m, fun a o n k nt => ⟨e a o k nt, n⟩⟩
  refine ⟨⟨r.len, r.nd, fun n o a h1 h2 => ?_⟩, x⟩
  obtain ⟨ho, g1, g2⟩ := r.cell n o a h1 h2
  cases o with
  | lst us => obtain ⟨vs, rfl, _⟩ := id g2; exact ⟨_, e _ _ g1 (fun _ z => nomatch z), g2.ext x⟩
  | tup us => obtain ⟨vs, rfl, _⟩ := id g2; exact ⟨_, e _ _ g1 (fun _ z => nomatch z), g2.ext x⟩
  | dct us => obtain ⟨vs, rfl, _⟩ := id g2; exact ⟨_, e _ _ g1 (fun _ z => nomatch z), g2.ext x⟩
  | ins C us => obtain ⟨dx, vs, rfl, _⟩ := id g2; exact ⟨_, e _ _ g1 (fun _ z => nomatch z), g2.ext x⟩
  | tbl P q =>
    obtain ⟨rfl, _⟩ := g2
    have hn := h.2 n a q h1
    have hp := h.1 n T[n] (List.getElem?_eq_getElem hn)
    rw [h1] at hp
    have ep : T[n].1 = a ∧ T[n].2 = q := by
      have := Option.some.inj hp
      injection this with z1 z2
      exact ⟨z1.symm, z2.symm⟩
    obtain ⟨ps, k1, k2, k3⟩ := t T[n] (List.getElem_mem hn)
    rw [ep.1] at k1
    rw [ep.2] at k3
    exact ⟨_, k1, rfl, ps, rfl, k2, fun pos cv hc => by
      obtain ⟨c, z1, z2⟩ := k3 pos cv hc
      refine ⟨c, z1, fun z => ?_, z2⟩
      obtain ⟨j, hj, ej⟩ := List.mem_iff_getElem.mp z
      have hs : j < st.length := by rw [← r.len]; exact hj
      obtain ⟨ho', y1, y2⟩ := r.cell j st[j] c (List.getElem?_eq_getElem hs) (by rw [List.getElem?_eq_getElem hj, ej])
      have no : ∀ u : HO, H c = some u → (∀ ps, u ≠ .tbl ps) → u = CodeO c q := fun u w1 w2 => by
        have := e c u w1 w2
        rw [z2] at this
        exact (Option.some.inj this).symm
      have bad : ho' ≠ CodeO c q := fun w => by
        subst w
        generalize st[j] = o at y2
        unfold CodeO at y2
        cases o with
        | lst us => obtain ⟨_, w, _⟩ := y2; cases w
        | tup us => obtain ⟨_, w, _⟩ := y2; cases w
        | dct us => obtain ⟨_, w, _⟩ := y2; cases w
        | ins C us => obtain ⟨_, _, w, _⟩ := y2; cases w
        | tbl P q => obtain ⟨_, _, w, _⟩ := y2; cases w
      by_cases ht : ∃ ps, ho' = .tbl ps
      · -- a table and a code object at one place
        have hj2 : ∃ P' q', st[j] = .tbl P' q' := by
          obtain ⟨ps', w⟩ := ht
          subst w
          generalize st[j] = o at y2
          cases o with
          | lst us => obtain ⟨_, w, _⟩ := y2; cases w
          | tup us => obtain ⟨_, w, _⟩ := y2; cases w
          | dct us => obtain ⟨_, w, _⟩ := y2; cases w
          | ins C us => obtain ⟨_, _, w, _⟩ := y2; cases w
          | tbl P q => exact ⟨P, q, rfl⟩
        obtain ⟨P', q', w⟩ := hj2
        rw [w] at y2
        have e0 : c = P' := y2.1
        have hjT := h.2 j P' q' (by rw [List.getElem?_eq_getElem hs, w])
        have w2 := h.1 j T[j] (List.getElem?_eq_getElem hjT)
        rw [List.getElem?_eq_getElem hs, w] at w2
        have w3 : T[j].1 = P' := by
          have := Option.some.inj w2
          injection this with u1 u2
          exact u1.symm
        obtain ⟨ps2, v1, _⟩ := t T[j] (List.getElem_mem hjT)
        rw [w3, ← e0, z2] at v1
        exact codeO_ne ps2 (Option.some.inj v1)
      · exact bad (no ho' y1 fun ps w => ht ⟨ps, w⟩)⟩
theorem tabs_of {K : PySem.W.Frag} {m : List Addr} {st : Store} {H : Hp} {T : List (Addr × Str)} (r : Rep K m st H) (h : TabIn T st) : Tabs T H ∧ ∀ p ∈ T, ∀ p' ∈ T, p.1 = p'.1 → p.2 = p'.2 := by
  have at_ : ∀ (j : Nat) (hj : j < T.length), m[j]? = some T[j].1 ∧ TabS H T[j].1 T[j].2 := fun j hj => by
    have e := h.1 j T[j] (List.getElem?_eq_getElem hj)
    have hs := (List.getElem?_eq_some_iff.mp e).1
    have hm : j < m.length := by rw [r.len]; exact hs
    obtain ⟨ho, g1, rfl', ps, rfl, g2, g3⟩ := r.cell j _ m[j] e (List.getElem?_eq_getElem hm)
    rw [← rfl']
    exact ⟨List.getElem?_eq_getElem hm, ps, g1, g2, fun pos cv hc => let ⟨c, z1, _, z3⟩ := g3 pos cv hc; ⟨c, z1, z3⟩⟩
  refine ⟨fun p hp => ?_, fun p hp p' hp' e => ?_⟩
  · obtain ⟨j, hj, rfl⟩ := List.mem_iff_getElem.mp hp
    exact (at_ j hj).2
  · obtain ⟨j, hj, rfl⟩ := List.mem_iff_getElem.mp hp
    obtain ⟨j', hj', rfl⟩ := List.mem_iff_getElem.mp hp'
    obtain ⟨l1, g1⟩ := List.getElem?_eq_some_iff.mp (at_ j hj).1
    obtain ⟨l2, g2⟩ := List.getElem?_eq_some_iff.mp (at_ j' hj').1
    have := (List.getElem_inj r.nd).mp (g1.trans (e.trans g2.symm))
    subst this
    rfl
theorem d_lam {X : Cx} {W : WX} {T : List (Addr × Str)} {mT : M U → M U} {x a : Str} {g c P : Addr} {k : Nat} {st : Stmt} {fd : FuncData} {Ng : List Str} {params : Arguments} {body : Expr} {scope : Scope} {fb : F U} {p lpos pos : Pos}
    (hm : X.mg x = some (.ref g)) (hk : PySem.W.keepIn X.K (.ref g) = true) (Fn : Fun X.K x x st g fd) (hb : L2.Binds X.K fd [a] []) (Sg : FnScope Ng [a] (defScope st)) (hno : ∀ deed st c fs st', mT deed st ≠ .ex c fs st')
    (hG : ∀ (cdg : Value) (f c' : Addr) (s : Shared) (H : Hp) (Q : VK) (tl : XK → Hp → VK → Prop), Acts X Ng x (defScope st) g cdg a (X.env.qual ++ "<lambda>") f c' s H tl → H c' = some (CodeO c' (X.env.qual ++ "<lambda>")) → TTm X.K mT tl H Q →
      ∃ t, PSs (cxOf C8.CX0 X.prog X.w X.K X.mg X.base Ng x (defScope st) g cdg X.A X.stack s H C8.E0).nox (defBody st) t ∧ t { nx := fun _ H' => Q .non H', rt := Q } (L2.start Ng [.ref f]) H)
    (TB : TabB X.base X.mg c P) (hcode : X.env.code = .ref c) (hmT : (P, X.env.qual ++ "<lambda>") ∈ T) (hr : RoomG (k + 2) X.A) (L : LamS X.env.scope scope)
    (hbody : ∀ (A : Around) (outer : List Env) (s : Shared) (H : Hp) (E : XK) (f c' : Addr), RoomG k (A.deeper (lamEnv X scope s.heap.objs.size f c')) → DE (lamCx X A outer s H E scope f c') (fun cls d _ H' => E cls d H') body fb)
    (hNg : Ng[0]? = some a := by rfl) (hva : Vis (defScope st) a := by first | exact Or.inl rfl | exact Or.inr (Or.inl rfl) | exact Or.inr (Or.inr rfl)) (hdef : defaultsOf params X.env = ([], []) := by rfl)
    (hbind : ∀ (q : Str) (cl : List (Str × Addr)) (pm cv ctv : Value), bindArgs (PySem.W.kla_fn "<lambda>" q params body scope cl pm cv ctv) ⟨[], []⟩ = pure [] := by intros; rfl) (hg : Gl X x := by rfl)
    (hdb : (x == ("__debug__" : Str)) = false := by decide) (hd : (a == ("__debug__" : Str)) = false := by decide) (hcd : (a == ("__classdict__" : Str)) = false := by decide) :
    DE X W (.Call (.Name x p) [.Lambda params body scope lpos] [] pos) (fLam T mT fb) := by
  refine ⟨PE.imp (pe_lamG (T := T) (t := fun E => tF X.K (fun cls d _ H' => E cls d H') fb) hg hm hk Fn hb Sg hNg hva hG TB hcode hmT hr.rm L hdef hbind (fun A outer s H E f c' h1 h2 => (hbody A outer s H E f c' ⟨h2, h1.trans hr.gd⟩).pe) hdb hd hcd) fun σ H Q ⟨m, env, st, r, re, p⟩ => ?_⟩
  unfold fLam at p
  split at p
  · rename_i hTab
    obtain ⟨t1, t2⟩ := tabs_of r hTab
    refine ⟨fun p' hp' e => t2 p' hp' _ hmT e, t1, fun H1 eN T1 => ?_⟩
    obtain ⟨r1, x1⟩ := rep_tabs r hTab eN T1
    refine ⟨m, st, fun st' => fb env st', r1, fun E Q' h => ⟨m, env, st, r1, re.ext x1, h⟩, ?_⟩
    exact (PO'.from x1 p).noex fun c fs st' => hno _ _ c fs st'
  · exact p.elim
theorem mTold_no {K : PySem.W.Frag} {c : Value} {i n : Nat} {gs : Addr → Option Addr → Value → G} : ∀ deed st c' fs st', mTold K c i n gs deed st ≠ .ex c' fs st' := fun deed st c' fs st' => by
  unfold mTold
  split
  · intro z; cases z
  · split
    · split <;> intro z <;> cases z
    · intro z; cases z
  · intro z; cases z
end VL

/-! VLD: the end of a law whose defs make lambdas. -/
namespace VL
open PySem PySem.Spec PyProof.Rows L2 LamX

section
variable {P : Program} {w : World} {K : PySem.W.Frag} {mg : Str → Option Value}
/-- what is tracked at first: the script (where the written part lacks it) and the tables -/
def trk (K : PySem.W.Frag) (a : Addr) (o : Obj) (ns : List Int) (tb : List Addr) : Hp := fun b => if b ∈ tb then some (.tbl #[]) else if b = a ∧ K.lookup a = none then some (.frz o (.lst (ns.map V.int))) else none
theorem law_callT {mb : Str → Option Value} {k : Nat} {fa a : Addr} {cs : List (Addr × Addr)} {fd : FuncData} {x : Str} {sp : Sp} {s₁ : Shared} {vs : List Value} {ns : List Int} (KX : PySem.W.Frag.In K s₁.heap) (hns : s₁.heap.Ns mainGlobals mg) (hb : s₁.heap.Ns builtinsNs mb)
    (hbb : ∀ x : Str, x ≠ "__name__" → mb x = bootBuiltins x) (hlim : s₁.heap.NoLimit) (hg : s₁.gens = #[]) (hT : ∀ p ∈ cs, s₁.heap.get? p.2 = some (PySem.W.tabObj #[])) (nT : ∀ p ∈ cs, K.lookup p.2 = none) (hC : ∀ p ∈ cs, PySem.W.CodeHd s₁.heap p.1 p.2)
    (hm : ∃ (bm : Addr) (ob : Obj), mg "__builtins__" = some (.ref bm) ∧ bm ≠ builtinsNs ∧ s₁.heap.get? bm = some ob ∧ ob.cls = .type "module" ∧ ob.dict = some builtinsNs ∧ ob.data = .plain)
    (ha : s₁.heap.get? a = some { cls := .type "list", data := .seq vs.toArray }) (hi : IntsAre vs ns) (hl : ns.length ≤ sizeLine) (hr : RoomG k callerA)
    (F : ∀ base : Heap, PySem.W.Frag.In K base → base.Ns mainGlobals mg → (∀ p ∈ cs, TabB base mg p.1 p.2) → FnG P w K mg base k fa fd [x] sp) (hbind : ∀ (s : Shared) (u : Value), BindsTo s fd { pos := [u] } [(x, u)])
    (hsp : ∀ H : Hp, (∀ b o, H b = some o → (∀ ps, o ≠ .tbl ps) → ∃ ob xs, o = .frz ob (.lst xs)) → (∀ p ∈ cs, H p.2 = some (.tbl #[])) → SqL K H a (ns.map V.int) → sp [.ref a] H (fun v _ => v = .bl true) fun _ _ _ => False) :
    codeAny (model P w) callerA (.call (.ref fa) { pos := [.ref a] }) (fun r s' => r = .ok (.ret (.bool true)) ∧ OldK s₁.heap s'.heap ∧ s'.os = s₁.os ∧ AllBare s'.gens) s₁ := by
  have rv := vals_ints hi
  have lenV := hi.length
  let tb := cs.map (·.2)
  let H := trk K a { cls := .type "list", data := .seq vs.toArray } ns tb
  have tabAt : ∀ b ∈ tb, s₁.heap.get? b = some (PySem.W.tabObj #[]) ∧ K.lookup b = none := fun b q => by
    obtain ⟨p, hp, rfl⟩ := List.mem_map.mp q
    exact ⟨hT p hp, nT p hp⟩
  have na : a ∉ tb := fun q => by
    have e := (tabAt a q).1
    rw [ha] at e
    injection e with e
    injection e with _ _ e
    cases e
  have Ht : ∀ b ∈ tb, H b = some (.tbl #[]) := fun b q => if_pos q
  have Hn : ∀ b, b ∉ tb → (b = a → K.lookup a ≠ none) → H b = none := fun b q h => (if_neg q).trans (if_neg fun z => h z.1 z.2)
  have Ha : K.lookup a = none → H a = some (.frz { cls := .type "list", data := .seq vs.toArray } (.lst (ns.map V.int))) := fun h => (if_neg na).trans (if_pos ⟨rfl, h⟩)
  -- an object that is neither a table nor a list is not tracked
  have other : ∀ {b : Addr} {o : Obj}, s₁.heap.get? b = some o → o.data ≠ .fields #[] → (∀ xs n, o.data ≠ .seq xs n) → H b = none := fun {b o} e h1 h2 => by
    refine Hn b (fun q => ?_) fun q => ?_
    · have e2 := (tabAt b q).1
      rw [e] at e2
      cases e2
      exact (h1 rfl).elim
    · subst q
      rw [ha] at e
      cases e
      exact (h2 _ _ rfl).elim
  have hS : SqL K H a (ns.map V.int) := by
    cases hk : K.lookup a with
    | none => exact .inl (.inr ⟨_, Ha hk⟩)
    | some o =>
      have e := KX a o hk
      rw [ha] at e
      cases e
      exact .inr ⟨_, vs.toArray, 0, hk, rfl, rfl, rfl, by rw [List.size_toArray, lenV]; exact hl, rv⟩
  have hok : HOk P w H s₁.heap := fun b u z => by
    by_cases q : b ∈ tb
    · rw [Ht b q] at z
      cases z
      exact (tabAt b q).1
    · by_cases q2 : b = a ∧ K.lookup a = none
      · obtain ⟨rfl, q2⟩ := q2
        rw [Ha q2] at z
        cases z
        exact ⟨ha, by rw [List.length_map]; exact hl, vs, 0, rv, ha⟩
      · rw [show H b = none from (if_neg q).trans (if_neg q2)] at z
        cases z
  have dictK : ∀ {b : Addr} {m : Str → Option Value}, s₁.heap.Ns b m → (hidT s₁.heap H).Ns b m := fun {b m} z => by
    obtain ⟨o, es, ep, e, d, r⟩ := z
    exact ⟨o, es, ep, hidT_get e (other e (by rw [d]; intro z; cases z) (by intro xs n z; rw [d] at z; cases z)), d, r⟩
  have KB : PySem.W.Frag.In K (hidT s₁.heap H) := fun b o e => hidT_get (KX b o e) (Hn b (fun q => by
    rw [(tabAt b q).2] at e
    cases e) fun q z => by
    subst q
    rw [z] at e
    cases e)
  have hM : L2.Mod K mg (hidT s₁.heap H) := ⟨KB, dictK hns, ⟨mb, dictK hb, hbb⟩, by
    obtain ⟨mc, h1, h2⟩ := hlim
    exact ⟨mc, dictK h1, h2⟩⟩
  have TBs : ∀ p ∈ cs, TabB (hidT s₁.heap H) mg p.1 p.2 := fun p hp => by
    refine ⟨?_, ?_, fun z => ?_⟩
    · obtain ⟨o, us, fl, tf, fg, tg, iF, tx, tt, c1, c2, c3, c4, cr⟩ := hC p hp
      refine ⟨o, us, fl, tf, fg, tg, iF, tx, tt, hidT_get c1 (other c1 (fun z => ?_) fun xs n z => ?_), c2, c3, c4, cr⟩
      · rw [c3] at z
        injection z with z
        subst z
        cases c4
      · rw [c3] at z; cases z
    · obtain ⟨bm, ob, b1, b2, b3, b4, b5, b6⟩ := hm
      refine ⟨bm, ob, b1, b2, fun q => ?_, fun q => ?_, hidT_get b3 (other b3 (by rw [b6]; intro z; cases z) (by intro xs n z; rw [b6] at z; cases z)), b4, b5, b6⟩
      · obtain ⟨o, es, ep, e, d, _⟩ := hns
        rw [q, e] at b3
        cases b3
        rw [d] at b6
        cases b6
      · rw [q, hT p hp] at b3
        cases b3
        cases b6
    · obtain ⟨o, es, ep, e, d, _⟩ := hns
      rw [z, hT p hp] at e
      cases e
      cases d
  have e0 : Env0 P w K mg (hidT s₁.heap H) callerA [] s₁ H :=
    { frames := rfl, mod := hM, bs := fun b o e => of_hidT e, bsz := Nat.le_of_eq (hidT_size s₁.heap H), funs := trivial, frf := fun b hb => absurd hb List.not_mem_nil, hok := hok, bare := AllBare.of_eq hg }
  have only : ∀ b o, H b = some o → (∀ ps, o ≠ .tbl ps) → ∃ ob xs, o = .frz ob (.lst xs) := fun b o e n => by
    by_cases q : b ∈ tb
    · rw [Ht b q] at e
      cases e
      exact (n _ rfl).elim
    · by_cases q2 : b = a ∧ K.lookup a = none
      · obtain ⟨rfl, q2⟩ := q2
        rw [Ha q2] at e
        cases e
        exact ⟨_, _, rfl⟩
      · rw [show H b = none from (if_neg q).trans (if_neg q2)] at e
        cases e
  refine codeAny_mono ((F (hidT s₁.heap H) KB (dictK hns) TBs).run callerA [] s₁ H { pos := [.ref a] } [.ref a] [.ref a] (fun v _ => v = .bl true) (fun _ _ _ => False) hr e0 (hbind s₁ (.ref a)) (.cons rfl .nil) (hsp H only (fun p hp => Ht _ (List.mem_map.mpr ⟨p, hp, rfl⟩)) hS)) fun r s' h => ?_
  match r, h with
  | .error e, h =>
    obtain ⟨_, _, _, _, _, _, _, _, _, _, _, _, h⟩ := h
    exact h.elim
  | .ok .next, h => exact False.elim h
  | .ok .brk, h => exact False.elim h
  | .ok .cont, h => exact False.elim h
  | .ok (.ret u), h =>
    obtain ⟨v, H', os, bare, un, hok', rv', q⟩ := h
    cases (show v = .bl true from q)
    cases (show u = Value.bool true from rv')
    have stays : ∀ b o, b ∉ tb → s₁.heap.get? b = some o → s'.heap.get? b = some o := fun b o nb e => by
      by_cases q2 : b = a ∧ K.lookup a = none
      · obtain ⟨rfl, q2⟩ := q2
        obtain ⟨g1, _⟩ := hok b _ (Ha q2)
        obtain ⟨g2, _⟩ := hok' b _ (un.frzs b _ _ (Ha q2))
        rw [e] at g1
        cases g1
        exact g2
      · exact un.keep b o e ((if_neg nb).trans (if_neg q2)) List.not_mem_nil List.not_mem_nil
    have grow : ∀ p ∈ cs, ∃ more : Array Value, s'.heap.get? p.2 = some (PySem.W.tabObj more) := fun p hp => by
      obtain ⟨more, z⟩ := un.tbls p.2 #[] (Ht _ (List.mem_map.mpr ⟨p, hp, rfl⟩))
      exact ⟨_, hok' p.2 _ z⟩
    refine ⟨rfl, ⟨fun b o e => ?_, fun b o e => ?_⟩, os, bare⟩
    · by_cases nb : b ∈ tb
      · obtain ⟨p, hp, rfl⟩ := List.mem_map.mp nb
        obtain ⟨more, z⟩ := grow p hp
        have e2 := hT p hp
        rw [e] at e2
        cases e2
        exact .inr (.inl ⟨((hC p hp).tab (hT p hp)).isCodeTable, rfl, #[], more, rfl, by rw [Array.empty_append]; exact z⟩)
      · exact .inl (stays b o nb e)
    · by_cases nb : b ∈ tb
      · obtain ⟨p, hp, rfl⟩ := List.mem_map.mp nb
        obtain ⟨more, z⟩ := grow p hp
        exact ⟨_, z⟩
      · exact ⟨o, stays b o nb e⟩
end
/-- the law's walk; ts: the tables, empty at the head -/
theorem walk_ofT {l : PySem.W.OpenLaw} {n k : Nat} {q : Program} {loose : List Str} {XP : (Str → Option Value) → Heap → Prop} {YP : World → Heap → Prop} {d : DefRec} {K : Params → PySem.W.Frag} {ts : List Addr} {x : Str} (hn : l.most = some n) (hn2 : n ≤ sizeLine)
    (hdf : d.params.defaults = []) (hr : RoomG k callerA) (hY : ∀ (w : World) (h : Heap), YP w h → PySem.W.Frag.In (K w.params) h ∧ ∀ P ∈ ts, h.get? P = some (PySem.W.tabObj #[]))
    (F : ∀ (w : World) (mg : Str → Option Value) (fa : Addr) (h : Heap), PySem.W.Frag.In (K w.params) h → h.Ns mainGlobals mg → mg d.name = some (.ref fa) → (∀ P ∈ ts, h.get? P = some (PySem.W.tabObj #[])) →
      ∃ (fd : FuncData) (cs : List (Addr × Addr)) (sp : Sp), (∀ (s : Shared) (u : Value), BindsTo s fd { pos := [u] } [(x, u)]) ∧ (∀ p ∈ cs, h.get? p.2 = some (PySem.W.tabObj #[]) ∧ PySem.W.CodeHd h p.1 p.2 ∧ (K w.params).lookup p.2 = none) ∧
        (∀ (H : Hp) (a : Addr) (ns : List Int), ns.length ≤ n → (∀ b o, H b = some o → (∀ ps, o ≠ .tbl ps) → ∃ ob xs, o = .frz ob (.lst xs)) → (∀ p ∈ cs, H p.2 = some (.tbl #[])) → SqL (K w.params) H a (ns.map V.int) → sp [.ref a] H (fun v _ => v = .bl true) fun _ _ _ => False) ∧
        ∀ base : Heap, PySem.W.Frag.In (K w.params) base → base.Ns mainGlobals mg → (∀ p ∈ cs, TabB base mg p.1 p.2) → FnG l.prog w (K w.params) mg base k fa fd [x] sp) :
    PySem.W.WalkO q loose XP YP l.row.toRowW d [] fun f vs => call f vs :=
  Att.attach_call hn hdf fun w s₀ s₁ mg mb fa o pm cd doc a vs ns G Y ho hd hcd hmg hobj hints hlen hg => by
    obtain ⟨KX, hts⟩ := hY w s₁.heap Y
    obtain ⟨fd, cs, sp, hb, hc, hsp, hF⟩ := F w mg fa s₁.heap KX G.T.g hmg hts
    exact law_callT KX G.T.g G.T.b G.T.builtins G.T.nolimit hg (fun p hp => (hc p hp).1) (fun p hp => (hc p hp).2.2) (fun p hp => (hc p hp).2.1) G.T.bmain hobj hints (Nat.le_trans hlen hn2) hr hF hb fun H h1 h2 h3 => hsp H a ns hlen h1 h2 h3
end VL

/-! VLE: list of a dict; the law's start with tables. -/
namespace VL
open PySem PySem.Spec PyProof.Rows L2 LamX
def eqTys : List String := ["NoneType", "bool", "int", "str", "list", "tuple"]
def kD : Key → D
  | .inl i => .int i
  | .inr x => .str x
def oListK : List U → Store → Option U := fun us st => match us with
  | [u] => (VL.getD st u).map fun kvs => .d (.lst (kvs.map fun kv => kD kv.1))
  | _ => none
theorem keys_rp {K : PySem.W.Frag} {m : List Addr} {H : Hp} : ∀ {us : List (Key × U)} {vs : List (Key × V)}, RpUK K m H us vs → RpDs K m H (us.map fun kv => kD kv.1) (vs.map fun kv => kV kv.1)
  | [], _, h => by rw [show _ = [] from h]; rfl
  | (k, u) :: us, _, ⟨v, r, e, h1, h2⟩ => by
    subst e
    refine ⟨kV k, _, rfl, ?_, keys_rp h2⟩
    cases k <;> rfl
theorem cr_listK {X : Cx} (hc : X.calm = true) : CallR X (.type "list") (rM X.K (pu oListK)) := by
  refine CallR.imp (call_listD hc) fun vs H Q ⟨m, st, us, r, ru, p⟩ => ?_
  obtain ⟨u, e, p⟩ := p.pu
  unfold oListK at e
  split at e
  · rename_i x
    obtain ⟨v, rfl, hv⟩ := ru.one
    cases hg : VL.getD st x with
    | none => rw [hg] at e; cases e
    | some kvs =>
      rw [hg] at e
      cases e
      obtain ⟨a, ws, rfl, t, q⟩ := getD_rp r hv hg
      exact ⟨a, ws, rfl, t, fun l hl => p _ m _ (new_lst r hl (keys_rp q)) (r.new hl _) (ext_new r hl _)⟩
  · cases e
def tbls (T : List (Addr × Str)) : Store := T.map fun p => .tbl p.1 p.2
theorem law_spT {K : PySem.W.Frag} {mf : List U → M U} {ns : List Int} {H : Hp} {a : Addr} {T : List (Addr × Str)} (hnd : (T.map (·.1)).Nodup) (h : ∃ st, mf [.d (.scr ns)] (tbls T) = .ok (.d (.bl true)) st) (hO : ∀ b o, H b = some o → (∀ ps, o ≠ .tbl ps) → ∃ ob xs, o = .frz ob (.lst xs))
    (hT : ∀ p ∈ T, H p.1 = some (.tbl #[])) (hS : SqL K H a (ns.map V.int)) : spM K 1 mf [.ref a] H (fun v _ => v = .bl true) fun _ _ _ => False := by
  have hv : ScV K (T.map (·.1)) H a (ns.map V.int) := by
    rcases hS with (q | ⟨o, q⟩) | q
    · obtain ⟨ob, xs, z⟩ := hO a _ q fun _ z => nomatch z
      cases z
    · refine .inl ⟨fun z => ?_, o, q⟩
      obtain ⟨p, hp, rfl⟩ := List.mem_map.mp z
      rw [hT p hp] at q
      cases q
    · exact .inr (.inr q)
  refine ⟨rfl, T.map (·.1), tbls T, [.d (.scr ns)], ⟨by rw [tbls, List.length_map, List.length_map], hnd, fun n o b h1 h2 => ?_⟩, ⟨_, _, rfl, ⟨a, rfl, hv⟩, rfl⟩, ?_⟩
  · unfold tbls at h1
    rw [List.getElem?_map] at h1 h2
    cases e : T[n]? with
    | none => rw [e] at h1; cases h1
    | some p =>
      rw [e] at h1 h2
      cases h1
      cases h2
      exact ⟨_, hT p (List.mem_of_getElem? e), rfl, #[], rfl, True.intro, fun pos cv hc => by
        have z : codeAmong pos [] = some cv := hc
        simp [codeAmong] at z⟩
  · obtain ⟨st, e⟩ := h
    rw [e]
    exact fun v m' H' h1 _ _ => h1
end VL

namespace VL.K06
open PySem PySem.Spec PyProof.Rows L2 VL
/-! the text by places -/
def top (i : Nat) : Stmt := PySem.Challenge.pw_settingsmerge_k06_lookups_of_any_object.main.body.getD i (.Pass ⟨0, 0, 0, 0⟩)
abbrev s_L_law_bag : Stmt := (top 28)
abbrev s_L_law_take : Stmt := (top 29)
abbrev s_L_law_of : Stmt := (top 30)
abbrev s_Reader_init : Stmt := (inClass (top 23) 0)
abbrev s_lines_of : Stmt := (top 24)
abbrev s_is_made_of : Stmt := (top 15)
abbrev s_is_number : Stmt := (top 19)
abbrev s_is_name : Stmt := (top 16)
abbrev s_is_place : Stmt := (top 17)
abbrev s_is_value : Stmt := (top 18)
abbrev s_kept_in : Stmt := (top 20)
abbrev s_Reader_put : Stmt := (inClass (top 23) 4)
abbrev s_Reader_take_kept : Stmt := (inClass (top 23) 2)
abbrev s_section_in : Stmt := (top 22)
abbrev s_setting_in : Stmt := (top 21)
abbrev s_Reader_take_setting : Stmt := (inClass (top 23) 3)
abbrev s_Reader_take : Stmt := (inClass (top 23) 1)
abbrev s_parts_of : Stmt := (top 26)
abbrev s_SettingsFile_init : Stmt := (inClass (top 25) 0)
abbrev s_L_law_object : Stmt := (top 32)
abbrev s_SettingsFile_value : Stmt := (inClass (top 25) 4)
abbrev s_SettingsFile___contains__ : Stmt := (inClass (top 25) 10)
abbrev s_SettingsFile_block : Stmt := (inClass (top 25) 6)
abbrev s_L_law_is_right : Stmt := (top 33)
abbrev s_law : Stmt := (top 34)
abbrev s_NoPlace_init : Stmt := (inClass (top 3) 0)
abbrev s_L_law_raised : Stmt := (top 31)
def N_L_law_bag : List Str := ["_law_script", "_law_at", "_law_cell", "_law_blend", "_law_k", "_law_each"]
def N_L_law_take : List Str := ["_law_bag_here", "_law_many", "_law_digit"]
def N_L_law_of : List Str := ["_law_bag_here", "_law_some"]
def N_Reader_init : List Str := ["self"]
def N_lines_of : List Str := ["text"]
def N_is_made_of : List Str := ["thing", "signs", "most", "sign"]
def N_is_number : List Str := ["thing"]
def N_is_name : List Str := ["thing"]
def N_is_place : List Str := ["thing", "section", "dot", "key"]
def N_is_value : List Str := ["thing"]
def N_kept_in : List Str := ["line", "words"]
def N_Reader_put : List Str := ["self", "at", "word", "name", "thing", "kind"]
def N_Reader_take_kept : List Str := ["self", "at", "kept"]
def N_section_in : List Str := ["line", "name"]
def N_setting_in : List Str := ["line", "key", "sign", "value"]
def N_Reader_take_setting : List Str := ["self", "at", "setting", "place"]
def N_Reader_take : List Str := ["self", "at", "line"]
def N_parts_of : List Str := ["parts", "at", "word", "thing"]
def N_SettingsFile_init : List Str := ["self", "text", "reader", "at", "line", "word", "thing"]
def N_L_law_object : List Str := ["_law_bag_here", "_law_names", "_law_one", "_law_spot", "_law_sign", "_law_more", "_law_less", "_law_some"]
def N_SettingsFile_value : List Str := ["self", "place"]
def N_SettingsFile___contains__ : List Str := ["self", "thing"]
def N_SettingsFile_block : List Str := ["self", "thing", "row", "at", "word", "part"]
def N_L_law_is_right : List Str := ["_law_file", "_law_what", "_law_worths", "_law_heads", "_law_is_there", "_law_found", "_law_both"]
def N_law : List Str := ["_law_script", "_law_at", "_law_bag_here", "_law_lines", "_law_worths", "_law_heads", "_law_head", "_law_key", "_law_file", "_law_names", "_law_turn"]
theorem sc_L_law_bag : FnScope N_L_law_bag ["_law_script", "_law_at"] (defScope s_L_law_bag) := ⟨rfl, rfl, rfl, by decide +kernel, rfl, by decide +kernel, by decide +kernel⟩
theorem sc_L_law_take : FnScope N_L_law_take ["_law_bag_here", "_law_many"] (defScope s_L_law_take) := ⟨rfl, rfl, rfl, by decide +kernel, rfl, by decide +kernel, by decide +kernel⟩
theorem sc_L_law_of : FnScope N_L_law_of ["_law_bag_here", "_law_some"] (defScope s_L_law_of) := ⟨rfl, rfl, rfl, by decide +kernel, rfl, by decide +kernel, by decide +kernel⟩
theorem sc_Reader_init : FnScope N_Reader_init ["self"] (defScope s_Reader_init) := ⟨rfl, rfl, rfl, by decide +kernel, rfl, by decide +kernel, by decide +kernel⟩
theorem sc_lines_of : FnScope N_lines_of ["text"] (defScope s_lines_of) := ⟨rfl, rfl, rfl, by decide +kernel, rfl, by decide +kernel, by decide +kernel⟩
theorem sc_is_made_of : FnScope N_is_made_of ["thing", "signs", "most"] (defScope s_is_made_of) := ⟨rfl, rfl, rfl, by decide +kernel, rfl, by decide +kernel, by decide +kernel⟩
theorem sc_is_number : FnScope N_is_number ["thing"] (defScope s_is_number) := ⟨rfl, rfl, rfl, by decide +kernel, rfl, by decide +kernel, by decide +kernel⟩
theorem sc_is_name : FnScope N_is_name ["thing"] (defScope s_is_name) := ⟨rfl, rfl, rfl, by decide +kernel, rfl, by decide +kernel, by decide +kernel⟩
theorem sc_is_place : FnScope N_is_place ["thing"] (defScope s_is_place) := ⟨rfl, rfl, rfl, by decide +kernel, rfl, by decide +kernel, by decide +kernel⟩
theorem sc_is_value : FnScope N_is_value ["thing"] (defScope s_is_value) := ⟨rfl, rfl, rfl, by decide +kernel, rfl, by decide +kernel, by decide +kernel⟩
theorem sc_kept_in : FnScope N_kept_in ["line"] (defScope s_kept_in) := ⟨rfl, rfl, rfl, by decide +kernel, rfl, by decide +kernel, by decide +kernel⟩
theorem sc_Reader_put : FnScope N_Reader_put ["self", "at", "word", "name", "thing", "kind"] (defScope s_Reader_put) := ⟨rfl, rfl, rfl, by decide +kernel, rfl, by decide +kernel, by decide +kernel⟩
theorem sc_Reader_take_kept : FnScope N_Reader_take_kept ["self", "at", "kept"] (defScope s_Reader_take_kept) := ⟨rfl, rfl, rfl, by decide +kernel, rfl, by decide +kernel, by decide +kernel⟩
theorem sc_section_in : FnScope N_section_in ["line"] (defScope s_section_in) := ⟨rfl, rfl, rfl, by decide +kernel, rfl, by decide +kernel, by decide +kernel⟩
theorem sc_setting_in : FnScope N_setting_in ["line"] (defScope s_setting_in) := ⟨rfl, rfl, rfl, by decide +kernel, rfl, by decide +kernel, by decide +kernel⟩
theorem sc_Reader_take_setting : FnScope N_Reader_take_setting ["self", "at", "setting"] (defScope s_Reader_take_setting) := ⟨rfl, rfl, rfl, by decide +kernel, rfl, by decide +kernel, by decide +kernel⟩
theorem sc_Reader_take : FnScope N_Reader_take ["self", "at", "line"] (defScope s_Reader_take) := ⟨rfl, rfl, rfl, by decide +kernel, rfl, by decide +kernel, by decide +kernel⟩
theorem sc_parts_of : FnScope N_parts_of ["parts"] (defScope s_parts_of) := ⟨rfl, rfl, rfl, by decide +kernel, rfl, by decide +kernel, by decide +kernel⟩
theorem sc_SettingsFile_init : FnScope N_SettingsFile_init ["self", "text"] (defScope s_SettingsFile_init) := ⟨rfl, rfl, rfl, by decide +kernel, rfl, by decide +kernel, by decide +kernel⟩
theorem sc_L_law_object : FnScope N_L_law_object ["_law_bag_here", "_law_names"] (defScope s_L_law_object) := ⟨rfl, rfl, rfl, by decide +kernel, rfl, by decide +kernel, by decide +kernel⟩
theorem sc_SettingsFile_value : FnScope N_SettingsFile_value ["self", "place"] (defScope s_SettingsFile_value) := ⟨rfl, rfl, rfl, by decide +kernel, rfl, by decide +kernel, by decide +kernel⟩
theorem sc_SettingsFile___contains__ : FnScope N_SettingsFile___contains__ ["self", "thing"] (defScope s_SettingsFile___contains__) := ⟨rfl, rfl, rfl, by decide +kernel, rfl, by decide +kernel, by decide +kernel⟩
theorem sc_SettingsFile_block : FnScope N_SettingsFile_block ["self", "thing"] (defScope s_SettingsFile_block) := ⟨rfl, rfl, rfl, by decide +kernel, rfl, by decide +kernel, by decide +kernel⟩
theorem sc_L_law_is_right : FnScope N_L_law_is_right ["_law_file", "_law_what", "_law_worths", "_law_heads"] (defScope s_L_law_is_right) := ⟨rfl, rfl, rfl, by decide +kernel, rfl, by decide +kernel, by decide +kernel⟩
theorem sc_law : FnScope N_law ["_law_script"] (defScope s_law) := ⟨rfl, rfl, rfl, by decide +kernel, rfl, by decide +kernel, by decide +kernel⟩
def N_L_law_raised : List Str := ["_law_deed", "e"]
theorem sc_L_law_raised : FnScope N_L_law_raised ["_law_deed"] (defScope s_L_law_raised) := ⟨rfl, rfl, rfl, by decide +kernel, rfl, by decide +kernel, by decide +kernel⟩
theorem sc_NoPlace_init : FnScope ["self", "place"] ["self", "place"] (defScope s_NoPlace_init) := ⟨rfl, rfl, rfl, by decide +kernel, rfl, by decide +kernel, by decide +kernel⟩
/-- where the classes stand -/
structure Ad where
  C_Reader : Addr
  C_SettingsFile : Addr
  C_BadText : Addr
  C_NoChain : Addr
  C_NoPlace : Addr
  C_NoSlot : Addr
  f_L_law_bag : Addr
  f_L_law_take : Addr
  f_L_law_of : Addr
  f_Reader_init : Addr
  f_lines_of : Addr
  f_is_made_of : Addr
  f_is_number : Addr
  f_is_name : Addr
  f_is_place : Addr
  f_is_value : Addr
  f_kept_in : Addr
  f_Reader_put : Addr
  f_Reader_take_kept : Addr
  f_section_in : Addr
  f_setting_in : Addr
  f_Reader_take_setting : Addr
  f_Reader_take : Addr
  f_parts_of : Addr
  f_SettingsFile_init : Addr
  f_L_law_object : Addr
  f_SettingsFile_value : Addr
  f_SettingsFile___contains__ : Addr
  f_SettingsFile_block : Addr
  f_L_law_is_right : Addr
  f_law : Addr
  f_NoPlace_init : Addr
  f_L_law_raised : Addr
  c_L_law_is_right : Addr
  P_L_law_is_right : Addr
def Ad.own (a : Ad) : List Addr := []
def Ad.tabs (a : Ad) : List (Addr × Str) := [(a.P_L_law_is_right, (envOfC "_law_is_right" (defScope s_L_law_is_right) 0 0 .none).qual ++ "<lambda>")]
theorem HM_L_law_is_right (a : Ad) : (a.P_L_law_is_right, (envOfC "_law_is_right" (defScope s_L_law_is_right) 0 0 .none).qual ++ "<lambda>") ∈ a.tabs := .head _
/-! the mirrors -/
noncomputable section
noncomputable def mt_L_law_raised (K : PySem.W.Frag) (a : Ad) : M U → M U := mTold K (.ref a.C_NoPlace) 1 2 (fun a0 d0 c0 =>
    (sSeq (sIf (bOr (asT (fB (pu (oIsX K a0 d0 c0 a.C_NoPlace)) (fCons (vVar 1) (fCons (fTup (fCons (vC (.obj a.C_NoSlot)) (fCons (vC (.obj a.C_NoChain)) (fCons (vC (.obj a.C_BadText)) fNil)))) fNil)))) (bNot (asT (fB (pu (oIsX K a0 d0 c0 a.C_NoPlace)) (fCons (vVar 1) (fCons (vC (.ty "LookupError")) fNil))))))
    (sRet (vC (.str "another class")))
    sNil)
    (sRet (fTup (fCons (xFld a0 d0 c0 a.C_NoPlace "place" 1) fNil)))))
def b_L_law_bag_1 (K : PySem.W.Frag) (a : Ad) : G :=
    (sAsg (f2 oMod (fB (pu oInt) (fCons (f2 oAdd (f2 oAdd (f2 oAdd (f2 oMul (vVar 3) (vC (.int 40014))) (f2 oMod (fB (pu oInt) (fCons (vVar 5) fNil)) (vC (.int 2147483563)))) (f2 oMul (vC (.int 83)) (vVar 4))) (vC (.int 7))) fNil)) (vC (.int 2147483563))) (tgN 3))
def g_L_law_bag (K : PySem.W.Frag) (a : Ad) : G :=
    (sSeq (sAsg (fIf (asB (f2 oLt (vVar 1) (fB (pu oLen) (fCons (vVar 0) fNil)))) (f2 oIx (vVar 0) (vVar 1)) (vC (.int 0))) (tgN 2))
    (sSeq (sAsg (f2 oAdd (f2 oMul (vC (.int 4091)) (vVar 1)) (vC (.int 43))) (tgN 3))
    (sSeq (sFor (fItS itE (fCons (fSl (vVar 0) oNone (oSome (vC (.int 40)))) fNil)) (tgT 2 (tgCons (tgN 4) (tgCons (tgN 5) tgNil))) (b_L_law_bag_1 K a))
    (sRet (fLstC (fCons (fIf (asB (f2 oGe (fB (pu oAbs) (fCons (vVar 2) fNil)) (f2 oPow (vC (.int 10)) (vC (.int 18))))) (fB (pu oAbs) (fCons (vVar 2) fNil)) (vC (.int 0))) (fCons (vVar 3) fNil)))))))
def m_L_law_bag (K : PySem.W.Frag) (a : Ad) : List U → M U := fnM 6 (g_L_law_bag K a) wKeep
def g_L_law_take (K : PySem.W.Frag) (a : Ad) : G :=
    (sSeq (sIf (asB (f2 oGt (f2 oIx (vVar 0) (vC (.int 0))) (vC (.int 0))))
    (sSeq (sAsg (f2 oMod (fB (pu oInt) (fCons (f2 oIx (vVar 0) (vC (.int 0))) fNil)) (vVar 1)) (tgN 2))
    (sSeq (sAsg (f2 oFdiv (f2 oIx (vVar 0) (vC (.int 0))) (vVar 1)) (tgSub (vVar 0) (vC (.int 0))))
    (sRet (vVar 2))))
    sNil)
    (sSeq (sAsg (f2 oMod (fB (pu oInt) (fCons (f2 oAdd (f2 oMul (f2 oIx (vVar 0) (vC (.int 1))) (vC (.int 40692))) (vC (.int 2909))) fNil)) (vC (.int 2147483399))) (tgSub (vVar 0) (vC (.int 1))))
    (sRet (f2 oMod (f2 oFdiv (f2 oMod (fB (pu oInt) (fCons (f2 oMul (f2 oFdiv (f2 oIx (vVar 0) (vC (.int 1))) (vC (.int 7))) (vC (.int 69621))) fNil)) (vC (.int 2147483587))) (vC (.int 64))) (vVar 1)))))
def m_L_law_take (K : PySem.W.Frag) (a : Ad) : List U → M U := fnM 3 (g_L_law_take K a) wCut
def g_L_law_of (K : PySem.W.Frag) (a : Ad) : G :=
    (sRet (f2 oIx (vVar 1) (fCall 2 0 gPos (m_L_law_take K a) (fCW (fCons (vVar 0) (fCons (fB (pu oLen) (fCons (vVar 1) fNil)) fNil)) fNil))))
def m_L_law_of (K : PySem.W.Frag) (a : Ad) : List U → M U := fnM 2 (g_L_law_of K a) wFrz
def g_Reader_init (K : PySem.W.Frag) (a : Ad) : G :=
    (sSeq (sFldS [a.C_Reader] "section" (vVar 0) (vC .non))
    (sSeq (sFldS [a.C_Reader] "met" (vVar 0) (fLstC fNil))
    (sFldS [a.C_Reader] "parts" (vVar 0) (fLstC fNil))))
def m_Reader_init (K : PySem.W.Frag) (a : Ad) : List U → M U := fnM 1 (g_Reader_init K a) wId
def g_lines_of (K : PySem.W.Frag) (a : Ad) : G :=
    (sRet (fIf (asB (f2 oNe (vVar 0) (vC (.str "")))) (fM "str" (pu4 mSplit) (vVar 0) (fCons (vC (.str "\n")) fNil)) (fN vLst fNil)))
def m_lines_of (K : PySem.W.Frag) (a : Ad) : List U → M U := fnM 1 (g_lines_of K a) wFrz
def c_is_made_of_1 (K : PySem.W.Frag) (a : Ad) : F U :=
    fLc (fIter (vVar 0)) (tgN 3) tYesB (f2 oIn (vVar 3) (vVar 1)) [3]
def g_is_made_of (K : PySem.W.Frag) (a : Ad) : G :=
    (sRet (fAnd (fB (pu (oIsi K a.own)) (fCons (vVar 0) (fCons (vC (.ty "str")) fNil))) (fAnd (fChain oLe oLe (vC (.int 1)) (fB (pu oLen) (fCons (vVar 0) fNil)) (vVar 2)) (fB (pu oAll) (fCons (c_is_made_of_1 K a) fNil)))))
def m_is_made_of (K : PySem.W.Frag) (a : Ad) : List U → M U := fnM 4 (g_is_made_of K a) wFrz
def g_is_number (K : PySem.W.Frag) (a : Ad) : G :=
    (sRet (fAnd (fCall 3 0 gPos (m_is_made_of K a) (fCW (fCons (vVar 0) (fCons (vC (.str "0123456789")) (fCons (vC (.int 2)) fNil))) fNil)) (fOr (f2 oEq (vVar 0) (vC (.str "0"))) (f2 oNe (f2 oIx (vVar 0) (vC (.int 0))) (vC (.str "0"))))))
def m_is_number (K : PySem.W.Frag) (a : Ad) : List U → M U := fnM 1 (g_is_number K a) wFrz
def g_is_name (K : PySem.W.Frag) (a : Ad) : G :=
    (sRet (fCall 3 0 gPos (m_is_made_of K a) (fCW (fCons (vVar 0) (fCons (vC (.str "abcdefghijklmnopqrstuvwxyz")) (fCons (vC (.int 8)) fNil))) fNil)))
def m_is_name (K : PySem.W.Frag) (a : Ad) : List U → M U := fnM 1 (g_is_name K a) wFrz
def g_is_place (K : PySem.W.Frag) (a : Ad) : G :=
    (sSeq (sIf (bNot (asT (fB (pu (oIsi K a.own)) (fCons (vVar 0) (fCons (vC (.ty "str")) fNil)))))
    (sRet (vC (.bl false)))
    sNil)
    (sSeq (sAsg (fM "str" (pu4 mPartition) (vVar 0) (fCons (vC (.str ".")) fNil)) (tgT 3 (tgCons (tgN 1) (tgCons (tgN 2) (tgCons (tgN 3) tgNil)))))
    (sRet (fAnd (fCall 1 0 gPos (m_is_name K a) (fCW (fCons (vVar 1) fNil) fNil)) (fCall 1 0 gPos (m_is_name K a) (fCW (fCons (vVar 3) fNil) fNil))))))
def m_is_place (K : PySem.W.Frag) (a : Ad) : List U → M U := fnM 4 (g_is_place K a) wFrz
def g_is_value (K : PySem.W.Frag) (a : Ad) : G :=
    (sRet (fAnd (fCall 3 0 gPos (m_is_made_of K a) (fCW (fCons (vVar 0) (fCons (f2 oAdd (f2 oAdd (vC (.str "abcdefghijklmnopqrstuvwxyz")) (vC (.str "0123456789"))) (vC (.str "-"))) (fCons (vC (.int 12)) fNil))) fNil)) (f2 oNe (f2 oIx (vVar 0) (vC (.int 0))) (vC (.str "-")))))
def m_is_value (K : PySem.W.Frag) (a : Ad) : List U → M U := fnM 1 (g_is_value K a) wFrz
def g_kept_in (K : PySem.W.Frag) (a : Ad) : G :=
    (sSeq (sAsg (fM "str" (pu4 mSplit) (vVar 0) (fCons (vC (.str " ")) fNil)) (tgN 1))
    (sSeq (sIf (bOr (asB (f2 oNotIn (fB (pu oLen) (fCons (vVar 1) fNil)) (fTup (fCons (vC (.int 3)) (fCons (vC (.int 5)) fNil))))) (bOr (asB (f2 oNe (f2 oIx (vVar 1) (vC (.int 0))) (vC (.str "#~")))) (bOr (bNot (asT (fCall 1 0 gPos (m_is_number K a) (fCW (fCons (f2 oIx (vVar 1) (vC (.int 1))) fNil) fNil)))) (bNot (asT (fCall 1 0 gPos (m_is_place K a) (fCW (fCons (f2 oIx (vVar 1) (vC (.int 2))) fNil) fNil)))))))
    (sRet (vC .non))
    sNil)
    (sSeq (sIf (asB (f2 oEq (fB (pu oLen) (fCons (vVar 1) fNil)) (vC (.int 3))))
    (sRet (fTup (fCons (fB (pu oInt) (fCons (f2 oIx (vVar 1) (vC (.int 1))) fNil)) (fCons (f2 oIx (vVar 1) (vC (.int 2))) (fCons (vC .non) fNil)))))
    sNil)
    (sRet (fIf (bAnd (asB (f2 oEq (f2 oIx (vVar 1) (vC (.int 3))) (vC (.str "=")))) (asT (fCall 1 0 gPos (m_is_value K a) (fCW (fCons (f2 oIx (vVar 1) (vC (.int 4))) fNil) fNil)))) (fTup (fCons (fB (pu oInt) (fCons (f2 oIx (vVar 1) (vC (.int 1))) fNil)) (fCons (f2 oIx (vVar 1) (vC (.int 2))) (fCons (f2 oIx (vVar 1) (vC (.int 4))) fNil)))) (vC .non))))))
def m_kept_in (K : PySem.W.Frag) (a : Ad) : List U → M U := fnM 2 (g_kept_in K a) wFrz
def g_Reader_put (K : PySem.W.Frag) (a : Ad) : G :=
    (sSeq (sIf (asB (f2 oIn (fTup (fCons (vVar 2) (fCons (vVar 3) fNil))) (fFld [a.C_Reader] "met" (vVar 0))))
    sNo
    sNil)
    (sSeq (sExpr (fM "list" mAppend (fFld [a.C_Reader] "met" (vVar 0)) (fCons (fTup (fCons (vVar 2) (fCons (vVar 3) fNil))) fNil)))
    (sExpr (fM "list" mAppend (fFld [a.C_Reader] "parts" (vVar 0)) (fCons (fTup (fCons (vVar 1) (fCons (vVar 2) (fCons (vVar 4) fNil)))) fNil)))))
def m_Reader_put (K : PySem.W.Frag) (a : Ad) : List U → M U := fnM 6 (g_Reader_put K a) wCut
def g_Reader_take_kept (K : PySem.W.Frag) (a : Ad) : G :=
    (sSeq (sIf (asB (f2 oIsN (vVar 2) (vC .non)))
    sNo
    sNil)
    (sExpr (fMeth a.C_Reader "put" 5 0 gPos (m_Reader_put K a) (vVar 0) (fCW (fCons (vVar 1) (fCons (vC (.str "kept")) (fCons (fSl (vVar 2) oNone (oSome (vC (.int 2)))) (fCons (vVar 2) (fCons (vC (.str "again")) fNil))))) fNil))))
def m_Reader_take_kept (K : PySem.W.Frag) (a : Ad) : List U → M U := fnM 3 (g_Reader_take_kept K a) wCut
def g_section_in (K : PySem.W.Frag) (a : Ad) : G :=
    (sSeq (sAsg (fSl (vVar 0) (oSome (vC (.int 1))) (oSome (f1 oNeg (vC (.int 1))))) (tgN 1))
    (sRet (fIf (bAnd (asB (f2 oEq (fSl (vVar 0) oNone (oSome (vC (.int 1)))) (vC (.str "[")))) (bAnd (asB (f2 oEq (fSl (vVar 0) (oSome (f1 oNeg (vC (.int 1)))) oNone) (vC (.str "]")))) (asT (fCall 1 0 gPos (m_is_name K a) (fCW (fCons (vVar 1) fNil) fNil))))) (vVar 1) (vC .non))))
def m_section_in (K : PySem.W.Frag) (a : Ad) : List U → M U := fnM 2 (g_section_in K a) wFrz
def g_setting_in (K : PySem.W.Frag) (a : Ad) : G :=
    (sSeq (sAsg (fM "str" (pu4 mPartition) (vVar 0) (fCons (vC (.str " = ")) fNil)) (tgT 3 (tgCons (tgN 1) (tgCons (tgN 2) (tgCons (tgN 3) tgNil)))))
    (sRet (fIf (bAnd (asT (fCall 1 0 gPos (m_is_name K a) (fCW (fCons (vVar 1) fNil) fNil))) (asT (fCall 1 0 gPos (m_is_value K a) (fCW (fCons (vVar 3) fNil) fNil)))) (fTup (fCons (vVar 1) (fCons (vVar 3) fNil))) (vC .non))))
def m_setting_in (K : PySem.W.Frag) (a : Ad) : List U → M U := fnM 4 (g_setting_in K a) wFrz
def g_Reader_take_setting (K : PySem.W.Frag) (a : Ad) : G :=
    (sSeq (sIf (asB (f2 oIsN (vVar 2) (vC .non)))
    sNo
    sNil)
    (sSeq (sIf (asB (f2 oIsN (fFld [a.C_Reader] "section" (vVar 0)) (vC .non)))
    sNo
    sNil)
    (sSeq (sAsg (fJs [(f1 oFmt (fFld [a.C_Reader] "section" (vVar 0))), (vC (.str ".")), (f1 oFmt (f2 oIx (vVar 2) (vC (.int 0))))] Str.empty) (tgN 3))
    (sExpr (fMeth a.C_Reader "put" 5 0 gPos (m_Reader_put K a) (vVar 0) (fCW (fCons (vVar 1) (fCons (vC (.str "place")) (fCons (vVar 3) (fCons (fTup (fCons (vVar 3) (fCons (f2 oIx (vVar 2) (vC (.int 1))) fNil))) (fCons (vC (.str "key")) fNil))))) fNil))))))
def m_Reader_take_setting (K : PySem.W.Frag) (a : Ad) : List U → M U := fnM 4 (g_Reader_take_setting K a) wCut
def g_Reader_take (K : PySem.W.Frag) (a : Ad) : G :=
    (sIf (asT (fM "str" (pu4 mStarts) (vVar 2) (fCons (vC (.str "#~")) fNil)))
    (sExpr (fMeth a.C_Reader "take_kept" 2 0 gPos (m_Reader_take_kept K a) (vVar 0) (fCW (fCons (vVar 1) (fCons (fCall 1 0 gPos (m_kept_in K a) (fCW (fCons (vVar 2) fNil) fNil)) fNil)) fNil)))
    (sIf (bOr (asB (f2 oEq (vVar 2) (vC (.str "")))) (asT (fM "str" (pu4 mStarts) (vVar 2) (fCons (vC (.str "#")) fNil))))
    (sExpr (fM "list" mAppend (fFld [a.C_Reader] "parts" (vVar 0)) (fCons (fTup (fCons (vVar 1) (fCons (vC (.str "remark")) (fCons (vVar 2) fNil)))) fNil)))
    (sIf (asB (f2 oNotN (fCall 1 0 gPos (m_section_in K a) (fCW (fCons (vVar 2) fNil) fNil)) (vC .non)))
    (sSeq (sFldS [a.C_Reader] "section" (vVar 0) (fCall 1 0 gPos (m_section_in K a) (fCW (fCons (vVar 2) fNil) fNil)))
    (sExpr (fMeth a.C_Reader "put" 5 0 gPos (m_Reader_put K a) (vVar 0) (fCW (fCons (vVar 1) (fCons (vC (.str "section")) (fCons (fFld [a.C_Reader] "section" (vVar 0)) (fCons (fFld [a.C_Reader] "section" (vVar 0)) (fCons (vC (.str "section")) fNil))))) fNil))))
    (sExpr (fMeth a.C_Reader "take_setting" 2 0 gPos (m_Reader_take_setting K a) (vVar 0) (fCW (fCons (vVar 1) (fCons (fCall 1 0 gPos (m_setting_in K a) (fCW (fCons (vVar 2) fNil) fNil)) fNil)) fNil))))))
def m_Reader_take (K : PySem.W.Frag) (a : Ad) : List U → M U := fnM 3 (g_Reader_take K a) wCut
def c_parts_of_1 (K : PySem.W.Frag) (a : Ad) : F U :=
    fLc (fIter (vVar 0)) (tgT 3 (tgCons (tgN 1) (tgCons (tgN 2) (tgCons (tgN 3) tgNil)))) (asB (f2 oNe (vVar 2) (vC (.str "remark")))) (fTup (fCons (vVar 1) (fCons (vVar 2) (fCons (fIf (asB (f2 oEq (vVar 2) (vC (.str "place")))) (f2 oIx (vVar 3) (vC (.int 0))) (vVar 3)) fNil)))) [1, 2, 3]
def g_parts_of (K : PySem.W.Frag) (a : Ad) : G :=
    (sRet (c_parts_of_1 K a))
def m_parts_of (K : PySem.W.Frag) (a : Ad) : List U → M U := fnM 4 (g_parts_of K a) wFrz
def b_SettingsFile_init_1 (K : PySem.W.Frag) (a : Ad) : G :=
    (sExpr (fMeth a.C_Reader "take" 2 0 gPos (m_Reader_take K a) (vVar 2) (fCW (fCons (vVar 3) (fCons (vVar 4) fNil)) fNil)))
def c_SettingsFile_init_1 (K : PySem.W.Frag) (a : Ad) : F U :=
    fLc (fIter (fFld [a.C_Reader] "parts" (vVar 2))) (tgT 3 (tgCons (tgN 3) (tgCons (tgN 5) (tgCons (tgN 6) tgNil)))) (asB (f2 oEq (vVar 5) (vC (.str "place")))) (vVar 6) [3, 5, 6]
def g_SettingsFile_init (K : PySem.W.Frag) (a : Ad) : G :=
    (sSeq (sIf (bNot (asT (fB (pu (oIsi K a.own)) (fCons (vVar 1) (fCons (vC (.ty "str")) fNil)))))
    sNo
    sNil)
    (sSeq (sAsg (fMake a.C_Reader 0 0 gPos (m_Reader_init K a) (fCW fNil fNil)) (tgN 2))
    (sSeq (sFor (fItS itE (fCons (fCall 1 0 gPos (m_lines_of K a) (fCW (fCons (vVar 1) fNil) fNil)) fNil)) (tgT 2 (tgCons (tgN 3) (tgCons (tgN 4) tgNil))) (b_SettingsFile_init_1 K a))
    (sSeq (sFldS [a.C_SettingsFile] "whole" (vVar 0) (vVar 1))
    (sSeq (sFldS [a.C_SettingsFile] "all_parts" (vVar 0) (fFld [a.C_Reader] "parts" (vVar 2)))
    (sSeq (sFldS [a.C_SettingsFile] "parts" (vVar 0) (fCall 1 0 gPos (m_parts_of K a) (fCW (fCons (fFld [a.C_Reader] "parts" (vVar 2)) fNil) fNil)))
    (sFldS [a.C_SettingsFile] "settings_read" (vVar 0) (fB (pu oDict) (fCons (c_SettingsFile_init_1 K a) fNil)))))))))
def m_SettingsFile_init (K : PySem.W.Frag) (a : Ad) : List U → M U := fnM 7 (g_SettingsFile_init K a) wId
def g_L_law_object (K : PySem.W.Frag) (a : Ad) : G :=
    (sSeq (sAsg (fCall 2 0 gPos (m_L_law_of K a) (fCW (fCons (vVar 0) (fCons (vVar 1) fNil)) fNil)) (tgN 2))
    (sSeq (sPar 3 4 (fCons (fCall 2 0 gPos (m_L_law_take K a) (fCW (fCons (vVar 0) (fCons (f2 oAdd (fB (pu oLen) (fCons (vVar 2) fNil)) (vC (.int 1))) fNil)) fNil)) (fCons (fCall 2 0 gPos (m_L_law_of K a) (fCW (fCons (vVar 0) (fCons (fN vLst (fCons (vC (.str "a")) (fCons (vC (.str ".")) (fCons (vC (.str " ")) (fCons (vC (.str "z")) (fCons (vC (.str "]")) fNil)))))) fNil)) fNil)) fNil)))
    (sSeq (sAsg (f2 oAdd (f2 oAdd (fSl (vVar 2) oNone (oSome (vVar 3))) (vVar 4)) (fSl (vVar 2) (oSome (vVar 3)) oNone)) (tgN 5))
    (sSeq (sAsg (f2 oAdd (fSl (vVar 2) oNone (oSome (vVar 3))) (fSl (vVar 2) (oSome (f2 oAdd (vVar 3) (vC (.int 1)))) oNone)) (tgN 6))
    (sSeq (sAsg (fN vLst (fCons (vVar 2) (fCons (vVar 2) (fCons (vVar 5) (fCons (vVar 6) (fCons (fM "str" (pu4 mUpper) (vVar 2) fNil) (fCons (f2 oAdd (vVar 2) (vC (.str "\n"))) (fCons (f2 oAdd (f2 oAdd (vC (.str "[")) (vVar 2)) (vC (.str "]"))) (fCons (fTup (fCons (vVar 2) fNil)) (fCons (fN vLst (fCons (vVar 2) fNil)) (fCons (vC .non) (fCons (vC (.int 0)) (fCons (vC (.bl true)) (fCons (vC (.str "")) fNil)))))))))))))) (tgN 7))
    (sRet (fCall 2 0 gPos (m_L_law_of K a) (fCW (fCons (vVar 0) (fCons (vVar 7) fNil)) fNil))))))))
def m_L_law_object (K : PySem.W.Frag) (a : Ad) : List U → M U := fnM 8 (g_L_law_object K a) wFrz
def g_SettingsFile_value (K : PySem.W.Frag) (a : Ad) : G :=
    (sSeq (sIf (bOr (bNot (asT (fCall 1 0 gPos (m_is_place K a) (fCW (fCons (vVar 1) fNil) fNil)))) (asB (f2 oNotInD (vVar 1) (fFld [a.C_SettingsFile] "settings_read" (vVar 0)))))
    (sRaise a.C_NoPlace ["place"] (fCons (vVar 1) fNil))
    sNil)
    (sRet (f2 oIx (fFld [a.C_SettingsFile] "settings_read" (vVar 0)) (vVar 1))))
def m_SettingsFile_value (K : PySem.W.Frag) (a : Ad) : List U → M U := fnM 2 (g_SettingsFile_value K a) wFrz
def g_SettingsFile___contains__ (K : PySem.W.Frag) (a : Ad) : G :=
    (sRet (fAnd (fCall 1 0 gPos (m_is_place K a) (fCW (fCons (vVar 1) fNil) fNil)) (f2 oInD (vVar 1) (fFld [a.C_SettingsFile] "settings_read" (vVar 0)))))
def m_SettingsFile___contains__ (K : PySem.W.Frag) (a : Ad) : List U → M U := fnM 2 (g_SettingsFile___contains__ K a) wFrz
def b_SettingsFile_block_1 (K : PySem.W.Frag) (a : Ad) : G :=
    (sIf (asB (f2 oEq (vVar 4) (vC (.str "remark"))))
    (sExpr (fM "list" mAppend (vVar 2) (fCons (vVar 5) fNil)))
    (sIf (bOr (asB (f2 oEq (vVar 4) (vC (.str "section")))) (asB (f2 oEq (vVar 4) (vC (.str "place")))))
    (sSeq (sIf (asB (f2 oEq (vVar 1) (fIf (asB (f2 oEq (vVar 4) (vC (.str "section")))) (vVar 5) (f2 oIx (vVar 5) (vC (.int 0))))))
    (sRet (vVar 2))
    sNil)
    (sAsg (fLstC fNil) (tgN 2)))
    sNil))
def g_SettingsFile_block (K : PySem.W.Frag) (a : Ad) : G :=
    (sSeq (sIf (bNot (asT (fB (pu (oIsi K a.own)) (fCons (vVar 1) (fCons (vC (.ty "str")) fNil)))))
    (sRaise a.C_NoPlace ["place"] (fCons (vVar 1) fNil))
    sNil)
    (sSeq (sAsg (fLstC fNil) (tgN 2))
    (sSeq (sFor (fIter (fFld [a.C_SettingsFile] "all_parts" (vVar 0))) (tgT 3 (tgCons (tgN 3) (tgCons (tgN 4) (tgCons (tgN 5) tgNil)))) (b_SettingsFile_block_1 K a))
    (sRaise a.C_NoPlace ["place"] (fCons (vVar 1) fNil)))))
def m_SettingsFile_block (K : PySem.W.Frag) (a : Ad) : List U → M U := fnM 6 (g_SettingsFile_block K a) wFrz
def g_L_law_is_right (K : PySem.W.Frag) (a : Ad) : G :=
    (sSeq (sAsg (fAnd (fB (pu (oIsi K a.own)) (fCons (vVar 1) (fCons (vC (.ty "str")) fNil))) (f2 oInD (vVar 1) (vVar 2))) (tgN 4))
    (sSeq (sAsg (fLam a.tabs (mt_L_law_raised K a) (fMeth a.C_SettingsFile "value" 1 0 gPos (m_SettingsFile_value K a) (vVar 0) (fCW (fCons (vVar 1) fNil) fNil))) (tgN 5))
    (sSeq (sIf (bOr (asB (f2 oNe (f2s (inO (fun k => k) a.C_SettingsFile (m_SettingsFile___contains__ K a)) (vVar 1) (vVar 0)) (vVar 4))) (asB (f2 oNe (f2 oIsN (vVar 5) (vC .non)) (vVar 4))))
    (sRet (vC (.bl false)))
    sNil)
    (sSeq (sIf (asT (vVar 4))
    (sSeq (sAsg (fN vLst (fCons (fMeth a.C_SettingsFile "value" 1 0 gPos (m_SettingsFile_value K a) (vVar 0) (fCW (fCons (vVar 1) fNil) fNil)) (fCons (fMeth a.C_SettingsFile "value" 0 1 gApp (m_SettingsFile_value K a) (vVar 0) (fCW fNil (fCons (vVar 1) fNil))) fNil))) (tgN 6))
    (sIf (asB (f2 oNe (vVar 6) (fN vLst (fCons (f2 oIx (vVar 2) (vVar 1)) (fCons (f2 oIx (vVar 2) (vVar 1)) fNil)))))
    (sRet (vC (.bl false)))
    sNil))
    sNil)
    (sSeq (sIf (bAnd (bNot (asT (vVar 4))) (asB (f2 oNe (fB (pu oRepr) (fCons (vVar 5) fNil)) (fB (pu oRepr) (fCons (fTup (fCons (vVar 1) fNil)) fNil)))))
    (sRet (vC (.bl false)))
    sNil)
    (sSeq (sAsg (fLam a.tabs (mt_L_law_raised K a) (fMeth a.C_SettingsFile "block" 1 0 gPos (m_SettingsFile_block K a) (vVar 0) (fCW (fCons (vVar 1) fNil) fNil))) (tgN 5))
    (sSeq (sIf (bOr (asT (vVar 4)) (bAnd (asT (fB (pu (oIsi K a.own)) (fCons (vVar 1) (fCons (vC (.ty "str")) fNil)))) (asB (f2 oIn (vVar 1) (vVar 3)))))
    (sRet (fAnd (f2 oIsN (vVar 5) (vC .non)) (fB (pu (oIsi K a.own)) (fCons (fMeth a.C_SettingsFile "block" 1 0 gPos (m_SettingsFile_block K a) (vVar 0) (fCW (fCons (vVar 1) fNil) fNil)) (fCons (vC (.ty "list")) fNil)))))
    sNil)
    (sRet (f2 oEq (fB (pu oRepr) (fCons (vVar 5) fNil)) (fB (pu oRepr) (fCons (fTup (fCons (vVar 1) fNil)) fNil)))))))))))
def m_L_law_is_right (K : PySem.W.Frag) (a : Ad) : List U → M U := fnM 7 (g_L_law_is_right K a) wFrz
def b_law_1 (K : PySem.W.Frag) (a : Ad) : G :=
    (sSeq (sAsg (fCall 2 0 gPos (m_L_law_of K a) (fCW (fCons (vVar 2) (fCons (fN vLst (fCons (vC (.str "a")) (fCons (vC (.str "net")) (fCons (vC (.str "1")) fNil)))) fNil)) fNil)) (tgSub (vVar 4) (f2 oAdd (f2 oAdd (vVar 6) (vC (.str "."))) (vVar 7))))
    (sExpr (fM "list" mAppend (vVar 3) (fCons (f2 oAdd (f2 oAdd (vVar 7) (vC (.str " = "))) (f2 oIx (vVar 4) (f2 oAdd (f2 oAdd (vVar 6) (vC (.str "."))) (vVar 7)))) fNil))))
def b_law_2 (K : PySem.W.Frag) (a : Ad) : G :=
    (sSeq (sAsg (f2s vAddC (vVar 3) (fN vLst (fCons (vC (.str "")) (fCons (f2 oAdd (f2 oAdd (vC (.str "[")) (vVar 6)) (vC (.str "]"))) fNil)))) (tgN 3))
    (sFor (fIter (fSl (fN vLst (fCons (vC (.str "a")) (fCons (vC (.str "net")) (fCons (vC (.str "port")) fNil)))) oNone (oSome (fCall 2 0 gPos (m_L_law_take K a) (fCW (fCons (vVar 2) (fCons (vC (.int 4)) fNil)) fNil))))) (tgN 7) (b_law_1 K a)))
def b_law_3 (K : PySem.W.Frag) (a : Ad) : G :=
    (sIf (bNot (asT (fCall 4 0 gPos (m_L_law_is_right K a) (fCW (fCons (vVar 8) (fCons (fCall 2 0 gPos (m_L_law_object K a) (fCW (fCons (vVar 2) (fCons (vVar 9) fNil)) fNil)) (fCons (vVar 4) (fCons (vVar 5) fNil)))) fNil))))
    (sRet (vC (.bl false)))
    sNil)
def b_law_4 (K : PySem.W.Frag) (a : Ad) : G :=
    (sSeq (sPar3 2 3 4 (fCons (fCall 2 0 gPos (m_L_law_bag K a) (fCW (fCons (vVar 0) (fCons (vVar 1) fNil)) fNil)) (fCons (fLstC (fCons (vC (.str "#~ 3 ui.b = 1")) (fCons (vC (.str "#~ 4 net.a")) fNil))) (fCons fDnew fNil))))
    (sSeq (sAsg (fSl (fN vLst (fCons (vC (.str "net")) (fCons (vC (.str "a")) (fCons (vC (.str "zz")) fNil)))) oNone (oSome (fCall 2 0 gPos (m_L_law_take K a) (fCW (fCons (vVar 2) (fCons (vC (.int 4)) fNil)) fNil)))) (tgN 5))
    (sSeq (sFor (fIter (vVar 5)) (tgN 6) (b_law_2 K a))
    (sSeq (sAsg (fWr wFrz (fMake a.C_SettingsFile 1 0 gPos (m_SettingsFile_init K a) (fCW (fCons (fM "str" (pu4 mJoin) (vC (.str "\n")) (fCons (vVar 3) fNil)) fNil) fNil))) (tgN 8))
    (sSeq (sAsg (f2 oAdd (f2 oAdd (vVar 5) (fB (pu oListK) (fCons (vVar 4) fNil))) (fN vLst (fCons (vC (.str "net")) (fCons (vC (.str "a")) (fCons (vC (.str "a.a")) (fCons (vC (.str "net.port")) (fCons (vC (.str "port")) (fCons (vC (.str "ui.b")) (fCons (vC (.str "ui")) (fCons (vC (.str "zz.net")) fNil)))))))))) (tgN 9))
    (sFor (fItN itR (fCons (vC (.int 30)) fNil)) (tgN 10) (b_law_3 K a)))))))
def g_law (K : PySem.W.Frag) (a : Ad) : G :=
    (sSeq (sFor (fItN itR (fCons (fB (pu oMax) (fCons (vC (.int 1)) (fCons (fB (pu oMin) (fCons (vC (.int 4)) (fCons (fB (pu oLen) (fCons (vVar 0) fNil)) fNil))) fNil))) fNil)) (tgN 1) (b_law_4 K a))
    (sRet (vC (.bl true))))
def m_law (K : PySem.W.Frag) (a : Ad) : List U → M U := fnM 11 (g_law K a) wFrz
end
/-! what the top has written -/
structure Tx (K : PySem.W.Frag) (mg : Str → Option Value) (base : Heap) (a : Ad) : Prop where
  z_LookupError : mg "LookupError" = none
  z_abs : mg "abs" = none
  z_all : mg "all" = none
  z_dict : mg "dict" = none
  z_enumerate : mg "enumerate" = none
  z_int : mg "int" = none
  z_isinstance : mg "isinstance" = none
  z_len : mg "len" = none
  z_list : mg "list" = none
  z_max : mg "max" = none
  z_min : mg "min" = none
  z_range : mg "range" = none
  z_repr : mg "repr" = none
  z_str : mg "str" = none
  g_DIGITS : GStr mg "DIGITS" "0123456789"
  g_KEPT : GStr mg "KEPT" "kept"
  g_LETTERS : GStr mg "LETTERS" "abcdefghijklmnopqrstuvwxyz"
  g_MOST_LETTERS : GInt mg "MOST_LETTERS" 8
  g_MOST_SIGNS : GInt mg "MOST_SIGNS" 12
  g_PLACE : GStr mg "PLACE" "place"
  g_REMARK : GStr mg "REMARK" "remark"
  g_SECTION : GStr mg "SECTION" "section"
  m_Reader : mg "Reader" = some (.ref a.C_Reader)
  cl_Reader : Cls K a.C_Reader
  m_SettingsFile : mg "SettingsFile" = some (.ref a.C_SettingsFile)
  cl_SettingsFile : Cls K a.C_SettingsFile
  mk_Reader : Mk K a.C_Reader a.f_Reader_init
  mk_SettingsFile : Mk K a.C_SettingsFile a.f_SettingsFile_init
  me_Reader_put : Meth K a.C_Reader "put" a.f_Reader_put
  me_Reader_take : Meth K a.C_Reader "take" a.f_Reader_take
  me_Reader_take_kept : Meth K a.C_Reader "take_kept" a.f_Reader_take_kept
  me_Reader_take_setting : Meth K a.C_Reader "take_setting" a.f_Reader_take_setting
  me_SettingsFile___contains__ : Meth K a.C_SettingsFile "__contains__" a.f_SettingsFile___contains__
  me_SettingsFile_block : Meth K a.C_SettingsFile "block" a.f_SettingsFile_block
  me_SettingsFile_value : Meth K a.C_SettingsFile "value" a.f_SettingsFile_value
  fl_all_parts_SettingsFile : Flds K [a.C_SettingsFile] "all_parts"
  fl_met_Reader : Flds K [a.C_Reader] "met"
  fl_parts_Reader : Flds K [a.C_Reader] "parts"
  fl_parts_SettingsFile : Flds K [a.C_SettingsFile] "parts"
  fl_section_Reader : Flds K [a.C_Reader] "section"
  fl_settings_read_SettingsFile : Flds K [a.C_SettingsFile] "settings_read"
  fl_whole_SettingsFile : Flds K [a.C_SettingsFile] "whole"
  m_L_law_bag : mg "_law_bag" = some (.ref a.f_L_law_bag)
  k_L_law_bag : PySem.W.keepIn K (.ref a.f_L_law_bag) = true
  F_L_law_bag : ∃ fd, Fun K "_law_bag" "_law_bag" s_L_law_bag a.f_L_law_bag fd
  m_L_law_take : mg "_law_take" = some (.ref a.f_L_law_take)
  k_L_law_take : PySem.W.keepIn K (.ref a.f_L_law_take) = true
  F_L_law_take : ∃ fd, Fun K "_law_take" "_law_take" s_L_law_take a.f_L_law_take fd
  m_L_law_of : mg "_law_of" = some (.ref a.f_L_law_of)
  k_L_law_of : PySem.W.keepIn K (.ref a.f_L_law_of) = true
  F_L_law_of : ∃ fd, Fun K "_law_of" "_law_of" s_L_law_of a.f_L_law_of fd
  F_Reader_init : ∃ fd, Fun K "__init__" "Reader.__init__" s_Reader_init a.f_Reader_init fd
  m_lines_of : mg "lines_of" = some (.ref a.f_lines_of)
  k_lines_of : PySem.W.keepIn K (.ref a.f_lines_of) = true
  F_lines_of : ∃ fd, Fun K "lines_of" "lines_of" s_lines_of a.f_lines_of fd
  m_is_made_of : mg "is_made_of" = some (.ref a.f_is_made_of)
  k_is_made_of : PySem.W.keepIn K (.ref a.f_is_made_of) = true
  F_is_made_of : ∃ fd, Fun K "is_made_of" "is_made_of" s_is_made_of a.f_is_made_of fd
  m_is_number : mg "is_number" = some (.ref a.f_is_number)
  k_is_number : PySem.W.keepIn K (.ref a.f_is_number) = true
  F_is_number : ∃ fd, Fun K "is_number" "is_number" s_is_number a.f_is_number fd
  m_is_name : mg "is_name" = some (.ref a.f_is_name)
  k_is_name : PySem.W.keepIn K (.ref a.f_is_name) = true
  F_is_name : ∃ fd, Fun K "is_name" "is_name" s_is_name a.f_is_name fd
  m_is_place : mg "is_place" = some (.ref a.f_is_place)
  k_is_place : PySem.W.keepIn K (.ref a.f_is_place) = true
  F_is_place : ∃ fd, Fun K "is_place" "is_place" s_is_place a.f_is_place fd
  m_is_value : mg "is_value" = some (.ref a.f_is_value)
  k_is_value : PySem.W.keepIn K (.ref a.f_is_value) = true
  F_is_value : ∃ fd, Fun K "is_value" "is_value" s_is_value a.f_is_value fd
  m_kept_in : mg "kept_in" = some (.ref a.f_kept_in)
  k_kept_in : PySem.W.keepIn K (.ref a.f_kept_in) = true
  F_kept_in : ∃ fd, Fun K "kept_in" "kept_in" s_kept_in a.f_kept_in fd
  F_Reader_put : ∃ fd, Fun K "put" "Reader.put" s_Reader_put a.f_Reader_put fd
  F_Reader_take_kept : ∃ fd, Fun K "take_kept" "Reader.take_kept" s_Reader_take_kept a.f_Reader_take_kept fd
  m_section_in : mg "section_in" = some (.ref a.f_section_in)
  k_section_in : PySem.W.keepIn K (.ref a.f_section_in) = true
  F_section_in : ∃ fd, Fun K "section_in" "section_in" s_section_in a.f_section_in fd
  m_setting_in : mg "setting_in" = some (.ref a.f_setting_in)
  k_setting_in : PySem.W.keepIn K (.ref a.f_setting_in) = true
  F_setting_in : ∃ fd, Fun K "setting_in" "setting_in" s_setting_in a.f_setting_in fd
  F_Reader_take_setting : ∃ fd, Fun K "take_setting" "Reader.take_setting" s_Reader_take_setting a.f_Reader_take_setting fd
  F_Reader_take : ∃ fd, Fun K "take" "Reader.take" s_Reader_take a.f_Reader_take fd
  m_parts_of : mg "parts_of" = some (.ref a.f_parts_of)
  k_parts_of : PySem.W.keepIn K (.ref a.f_parts_of) = true
  F_parts_of : ∃ fd, Fun K "parts_of" "parts_of" s_parts_of a.f_parts_of fd
  F_SettingsFile_init : ∃ fd, Fun K "__init__" "SettingsFile.__init__" s_SettingsFile_init a.f_SettingsFile_init fd
  m_L_law_object : mg "_law_object" = some (.ref a.f_L_law_object)
  k_L_law_object : PySem.W.keepIn K (.ref a.f_L_law_object) = true
  F_L_law_object : ∃ fd, Fun K "_law_object" "_law_object" s_L_law_object a.f_L_law_object fd
  F_SettingsFile_value : ∃ fd, Fun K "value" "SettingsFile.value" s_SettingsFile_value a.f_SettingsFile_value fd
  F_SettingsFile___contains__ : ∃ fd, Fun K "__contains__" "SettingsFile.__contains__" s_SettingsFile___contains__ a.f_SettingsFile___contains__ fd
  F_SettingsFile_block : ∃ fd, Fun K "block" "SettingsFile.block" s_SettingsFile_block a.f_SettingsFile_block fd
  m_L_law_is_right : mg "_law_is_right" = some (.ref a.f_L_law_is_right)
  k_L_law_is_right : PySem.W.keepIn K (.ref a.f_L_law_is_right) = true
  F_L_law_is_right : ∃ fd, Fun K "_law_is_right" "_law_is_right" s_L_law_is_right a.f_L_law_is_right fd ∧ fd.code = .ref a.c_L_law_is_right
  tb_L_law_is_right : LamX.TabB base mg a.c_L_law_is_right a.P_L_law_is_right
  m_L_law_raised : mg "_law_raised" = some (.ref a.f_L_law_raised)
  k_L_law_raised : PySem.W.keepIn K (.ref a.f_L_law_raised) = true
  F_L_law_raised : ∃ fd, Fun K "_law_raised" "_law_raised" s_L_law_raised a.f_L_law_raised fd
  m_BadText : mg "BadText" = some (.ref a.C_BadText)
  m_NoChain : mg "NoChain" = some (.ref a.C_NoChain)
  m_NoPlace : mg "NoPlace" = some (.ref a.C_NoPlace)
  m_NoSlot : mg "NoSlot" = some (.ref a.C_NoSlot)
  xo_NoPlace : OexB K a.C_NoPlace
  xf_NoPlace : XfC K a.C_NoPlace
  xi_NoPlace : PySem.W.findIn K (.ref a.C_NoPlace) "__init__" = some (some (.ref a.f_NoPlace_init))
  xt_NoPlace : PySem.W.typeIn K (.ref a.f_NoPlace_init) = some (.type "function")
  xn_NoPlace_place : PySem.W.findIn K (.ref a.C_NoPlace) "place" = some none
  F_NoPlace_init : ∃ fd, Fun K "__init__" "NoPlace.__init__" s_NoPlace_init a.f_NoPlace_init fd
  ei_NoPlace : ExI K a.C_NoPlace
  own : Own K a.own
section
variable {P : Program} {w : World} {K : PySem.W.Frag} {mg : Str → Option Value} {base : Heap} {a : Ad}
theorem exs_NoPlace (T : Tx K mg base a) : Exs P w K mg base a.C_NoPlace ["place"] := by
  obtain ⟨fd, F⟩ := T.F_NoPlace_init
  exact ⟨T.xo_NoPlace, T.xf_NoPlace, a.f_NoPlace_init, fd, T.xi_NoPlace, T.xt_NoPlace, init1_ok F sc_NoPlace_init T.xo_NoPlace T.xn_NoPlace_place fun cdv A outer s H E => (pss_one (ps_ob (pv 0) (pv 1))), F.binds (ps := ["self", "place"]) fun _ _ _ _ _ _ us hl => match us, hl with | [_, _], _ => rfl⟩
theorem tf_L_law_raised (T : Tx K mg base a) : ∃ fd, Fun K "_law_raised" "_law_raised" s_L_law_raised a.f_L_law_raised fd ∧ L2.Binds K fd ["_law_deed"] [] := by
  obtain ⟨fd, F⟩ := T.F_L_law_raised
  exact ⟨fd, F, F.binds (ps := ["_law_deed"]) fun _ _ _ _ _ _ us hl => match us, hl with | [_], _ => rfl⟩
set_option maxHeartbeats 4000000 in
theorem told_L_law_raised (T : Tx K mg base a) (X : Cx) (h1 : X.prog = P) (h2 : X.w = w) (h3 : X.K = K) (h4 : X.mg = mg) (h5 : X.base = base) {q : Str} (cdg : Value) (f c' : Addr) (s : Shared) (H : Hp) (Q : VK) (tl : XK → Hp → VK → Prop) (h6 : Acts X N_L_law_raised "_law_raised" (defScope s_L_law_raised) a.f_L_law_raised cdg "_law_deed" q f c' s H tl) (h7 : H c' = some (LamX.CodeO c' q)) (h8 : TTm X.K (mt_L_law_raised K a) tl H Q) :
    ∃ t, PSs (cxOf C8.CX0 X.prog X.w X.K X.mg X.base N_L_law_raised "_law_raised" (defScope s_L_law_raised) a.f_L_law_raised cdg X.A X.stack s H C8.E0).nox (defBody s_L_law_raised) t ∧ t { nx := fun _ H' => Q .non H', rt := Q } (L2.start N_L_law_raised [.ref f]) H := by
  subst h1 h2 h3 h4 h5
  exact told_G (X := X) (Ng := N_L_law_raised) (x := "_law_raised") (a := "_law_deed") (sg := defScope s_L_law_raised) (g := a.f_L_law_raised) (c := .ref a.C_NoPlace) (e := "NoPlace") (n := "e") (q := q) (i := 1) sc_L_law_raised.nd (by decide) rfl (by decide) (fun _ _ _ => ⟨rfl, by decide, .inl T.m_NoPlace⟩) (fun _ _ _ => rfl) (fun _ _ _ => rfl) (fun cdg s H a0 oe c0 d0 pn hz hf => (show DB ((cxOf C8.CX0 X.prog X.w X.K X.mg X.base N_L_law_raised "_law_raised" (defScope s_L_law_raised) a.f_L_law_raised cdg X.A X.stack s H C8.E0).suite a0 ((a0, oe) :: pn)) W0 _ _ from
      (db_cons (ds_if (dw_pt (dw_or (dt_truth (d_bi (cr_isX T.ei_NoPlace hz hf) T.z_isinstance bt_isinstance (da_cons (d_var 1) (da_cons (d_tupC (da_cons (d_gobj T.m_NoSlot) (da_cons (d_gobj T.m_NoChain) (da_cons (d_gobj T.m_BadText) da_nil)))) da_nil)))) (dw_or1 (dt_not (dt_truth (d_bi (cr_isX T.ei_NoPlace hz hf) T.z_isinstance bt_isinstance (da_cons (d_var 1) (da_cons (d_ty T.z_LookupError bt_LookupError) da_nil)))))))) (db_one (ds_ret d_str)) db_nil)
      (db_one (ds_ret (d_tupC (da_cons (d_xf 1 T.xf_NoPlace T.xn_NoPlace_place hz hf) da_nil))))))) cdg f c' s H Q tl h6 h7 h8
set_option maxHeartbeats 4000000 in
theorem fn_L_law_bag {fd : FuncData} (F : Fun K "_law_bag" "_law_bag" s_L_law_bag a.f_L_law_bag fd) (T : Tx K mg base a) : FnG P w K mg base 1 a.f_L_law_bag fd ["_law_script", "_law_at"] (spM K 2 (m_L_law_bag K a)) :=
  fn_ok F sc_L_law_bag wKeep_ok fun cdv A outer s H E hr => (show DB _ _ _ (g_L_law_bag K a) from
      (db_cons (ds_set 2 sc_L_law_bag.nd (d_if (dt_cmp op_lt' (d_var 1) (d_bi cr_len T.z_len bt_len (da_cons (d_var 0) da_nil))) (d_ix hr.u1 (d_var 0) (d_var 1)) d_int))
      (db_cons (ds_set 3 sc_L_law_bag.nd (d_op op_add' (d_op op_mul' d_int (d_var 1)) d_int))
      (db_cons (ds_for (passes_of rfl) rfl (d_enum T.z_enumerate (da_cons (d_sl (d_var 0) do_none (do_some d_int)) da_nil)) (dg_tup rfl (dgs_cons (dg_name 4 sc_L_law_bag.nd) (dgs_cons (dg_name 5 sc_L_law_bag.nd) dgs_nil))) (db_one (ds_set 3 sc_L_law_bag.nd (d_op op_mod' (d_bt cr_int T.z_int bt_int (da_cons (d_op op_add' (d_op op_add' (d_op op_add' (d_op op_mul' (d_var 3) d_int) (d_op op_mod' (d_bt cr_int T.z_int bt_int (da_cons (d_var 5) da_nil)) d_int)) (d_op op_mul' d_int (d_var 4))) d_int) da_nil)) d_int))))
      (db_one (ds_ret (d_lstC (da_cons (d_if (dt_cmp op_ge' (d_bi cr_abs T.z_abs bt_abs (da_cons (d_var 2) da_nil)) (d_op op_pow' d_int d_int)) (d_bi cr_abs T.z_abs bt_abs (da_cons (d_var 2) da_nil)) d_int) (da_cons (d_var 3) da_nil)))))))))
theorem ok_L_law_bag (T : Tx K mg base a) : Fd P w K mg base a.f_L_law_bag 1 2 [] gPos (m_L_law_bag K a) := by
  obtain ⟨fd, F⟩ := T.F_L_law_bag
  exact ⟨fd, _, _, _, fn_L_law_bag F T, bd_pos (F.binds (ps := ["_law_script", "_law_at"]) fun _ _ _ _ _ _ us hl => match us, hl with | [_, _], _ => rfl)⟩
set_option maxHeartbeats 4000000 in
theorem fn_L_law_take {fd : FuncData} (F : Fun K "_law_take" "_law_take" s_L_law_take a.f_L_law_take fd) (T : Tx K mg base a) : FnG P w K mg base 1 a.f_L_law_take fd ["_law_bag_here", "_law_many"] (spM K 2 (m_L_law_take K a)) :=
  fn_ok F sc_L_law_take wCut_ok fun cdv A outer s H E hr => (show DB _ _ _ (g_L_law_take K a) from
      (db_cons (ds_if (dt_cmp op_gt' (d_ix hr.u1 (d_var 0) d_int) d_int) (db_cons (ds_set 2 sc_L_law_take.nd (d_op op_mod' (d_bt cr_int T.z_int bt_int (da_cons (d_ix hr.u1 (d_var 0) d_int) da_nil)) (d_var 1)))
      (db_cons (ds_asg (d_op op_fdiv' (d_ix hr.u1 (d_var 0) d_int) (d_var 1)) (dg_sub (W := W0) hr.u1 (d_var 0) d_int) nx_sub)
      (db_one (ds_ret (d_var 2))))) db_nil)
      (db_cons (ds_asg (d_op op_mod' (d_bt cr_int T.z_int bt_int (da_cons (d_op op_add' (d_op op_mul' (d_ix hr.u1 (d_var 0) d_int) d_int) d_int) da_nil)) d_int) (dg_sub (W := W0) hr.u1 (d_var 0) d_int) nx_sub)
      (db_one (ds_ret (d_op op_mod' (d_op op_fdiv' (d_op op_mod' (d_bt cr_int T.z_int bt_int (da_cons (d_op op_mul' (d_op op_fdiv' (d_ix hr.u1 (d_var 0) d_int) d_int) d_int) da_nil)) d_int) d_int) (d_var 1)))))))
theorem ok_L_law_take (T : Tx K mg base a) : Fd P w K mg base a.f_L_law_take 1 2 [] gPos (m_L_law_take K a) := by
  obtain ⟨fd, F⟩ := T.F_L_law_take
  exact ⟨fd, _, _, _, fn_L_law_take F T, bd_pos (F.binds (ps := ["_law_bag_here", "_law_many"]) fun _ _ _ _ _ _ us hl => match us, hl with | [_, _], _ => rfl)⟩
set_option maxHeartbeats 4000000 in
theorem fn_L_law_of {fd : FuncData} (F : Fun K "_law_of" "_law_of" s_L_law_of a.f_L_law_of fd) (T : Tx K mg base a) : FnG P w K mg base 2 a.f_L_law_of fd ["_law_bag_here", "_law_some"] (spM K 2 (m_L_law_of K a)) :=
  fn_ok F sc_L_law_of wFrz_ok fun cdv A outer s H E hr => (show DB _ _ _ (g_L_law_of K a) from
      (db_one (ds_ret (d_ix hr.u1 (d_var 1) (d_call (ok_L_law_take T) T.m_L_law_take T.k_L_law_take (hr.mono (by decide)) (takes_of rfl rfl rfl rfl) (cw_pos (da_cons (d_var 0) (da_cons (d_bi cr_len T.z_len bt_len (da_cons (d_var 1) da_nil)) da_nil))))))))
theorem ok_L_law_of (T : Tx K mg base a) : Fd P w K mg base a.f_L_law_of 2 2 [] gPos (m_L_law_of K a) := by
  obtain ⟨fd, F⟩ := T.F_L_law_of
  exact ⟨fd, _, _, _, fn_L_law_of F T, bd_pos (F.binds (ps := ["_law_bag_here", "_law_some"]) fun _ _ _ _ _ _ us hl => match us, hl with | [_, _], _ => rfl)⟩
set_option maxHeartbeats 4000000 in
theorem fn_Reader_init {fd : FuncData} (F : Fun K "__init__" "Reader.__init__" s_Reader_init a.f_Reader_init fd) (T : Tx K mg base a) : FnG P w K mg base 1 a.f_Reader_init fd ["self"] (spM K 1 (m_Reader_init K a)) :=
  fn_ok F sc_Reader_init wId_ok fun cdv A outer s H E hr => (show DB _ _ _ (g_Reader_init K a) from
      (db_cons (ds_fld (cs := [a.C_Reader]) (d_var 0) d_non T.fl_section_Reader)
      (db_cons (ds_fld (cs := [a.C_Reader]) (d_var 0) (d_lstC da_nil) T.fl_met_Reader)
      (db_one (ds_fld (cs := [a.C_Reader]) (d_var 0) (d_lstC da_nil) T.fl_parts_Reader)))))
theorem ok_Reader_init (T : Tx K mg base a) : Fd P w K mg base a.f_Reader_init 1 1 [] gPos (m_Reader_init K a) := by
  obtain ⟨fd, F⟩ := T.F_Reader_init
  exact ⟨fd, _, _, _, fn_Reader_init F T, bd_pos (F.binds (ps := ["self"]) fun _ _ _ _ _ _ us hl => match us, hl with | [_], _ => rfl)⟩
set_option maxHeartbeats 4000000 in
theorem fn_lines_of {fd : FuncData} (F : Fun K "lines_of" "lines_of" s_lines_of a.f_lines_of fd) (T : Tx K mg base a) : FnG P w K mg base 1 a.f_lines_of fd ["text"] (spM K 1 (m_lines_of K a)) :=
  fn_ok F sc_lines_of wFrz_ok fun cdv A outer s H E hr => (show DB _ _ _ (g_lines_of K a) from
      (db_one (ds_ret (d_if (dt_cmp (op_ne' hr.u64) (d_var 0) d_str) (d_m PySem.F.plainAttrs_str PySem.F.slot_str_split PySem.F.type_str_split mt_split' (d_var 0) (da_cons d_str da_nil)) (d_lst da_nil)))))
theorem ok_lines_of (T : Tx K mg base a) : Fd P w K mg base a.f_lines_of 1 1 [] gPos (m_lines_of K a) := by
  obtain ⟨fd, F⟩ := T.F_lines_of
  exact ⟨fd, _, _, _, fn_lines_of F T, bd_pos (F.binds (ps := ["text"]) fun _ _ _ _ _ _ us hl => match us, hl with | [_], _ => rfl)⟩
set_option maxHeartbeats 4000000 in
theorem fn_is_made_of {fd : FuncData} (F : Fun K "is_made_of" "is_made_of" s_is_made_of a.f_is_made_of fd) (T : Tx K mg base a) : FnG P w K mg base 1 a.f_is_made_of fd ["thing", "signs", "most"] (spM K 3 (m_is_made_of K a)) :=
  fn_ok F sc_is_made_of wFrz_ok fun cdv A outer s H E hr => (show DB _ _ _ (g_is_made_of K a) from
      (db_one (ds_ret (d_and (d_bi (cr_isi T.own) T.z_isinstance bt_isinstance (da_cons (d_var 0) (da_cons (d_ty T.z_str bt_str) da_nil))) (d_and (d_chain op_le' op_le' bl_le d_int (d_bi cr_len T.z_len bt_len (da_cons (d_var 0) da_nil)) (d_var 2)) (d_one (d_bi (cr_all' rfl) T.z_all bt_all (da_cons (d_lcV rfl sc_is_made_of.nd (d_iter (d_var 0)) (blkOk_by (N := N_is_made_of) (sc := defScope s_is_made_of) (own := [("sign", 3)]) (by decide +kernel)) (fun _ _ _ _ _ => (dg_name 3 sc_is_made_of.nd)) (fun _ _ _ _ _ => dts_nil) (fun _ _ _ _ _ => (d_cmp (op_in' hr.u65) (d_var 3) (d_var 1)))) da_nil))))))))
theorem ok_is_made_of (T : Tx K mg base a) : Fd P w K mg base a.f_is_made_of 1 3 [] gPos (m_is_made_of K a) := by
  obtain ⟨fd, F⟩ := T.F_is_made_of
  exact ⟨fd, _, _, _, fn_is_made_of F T, bd_pos (F.binds (ps := ["thing", "signs", "most"]) fun _ _ _ _ _ _ us hl => match us, hl with | [_, _, _], _ => rfl)⟩
set_option maxHeartbeats 4000000 in
theorem fn_is_number {fd : FuncData} (F : Fun K "is_number" "is_number" s_is_number a.f_is_number fd) (T : Tx K mg base a) : FnG P w K mg base 2 a.f_is_number fd ["thing"] (spM K 1 (m_is_number K a)) :=
  fn_ok F sc_is_number wFrz_ok fun cdv A outer s H E hr => (show DB _ _ _ (g_is_number K a) from
      (db_one (ds_ret (d_and (d_call (ok_is_made_of T) T.m_is_made_of T.k_is_made_of (hr.mono (by decide)) (takes_of rfl rfl rfl rfl) (cw_pos (da_cons (d_var 0) (da_cons (d_gstr T.g_DIGITS) (da_cons d_int da_nil))))) (d_one (d_or (d_cmp (op_eq' hr.u64) (d_var 0) d_str) (d_one (d_cmp (op_ne' hr.u64) (d_ix hr.u1 (d_var 0) d_int) d_str))))))))
theorem ok_is_number (T : Tx K mg base a) : Fd P w K mg base a.f_is_number 2 1 [] gPos (m_is_number K a) := by
  obtain ⟨fd, F⟩ := T.F_is_number
  exact ⟨fd, _, _, _, fn_is_number F T, bd_pos (F.binds (ps := ["thing"]) fun _ _ _ _ _ _ us hl => match us, hl with | [_], _ => rfl)⟩
set_option maxHeartbeats 4000000 in
theorem fn_is_name {fd : FuncData} (F : Fun K "is_name" "is_name" s_is_name a.f_is_name fd) (T : Tx K mg base a) : FnG P w K mg base 2 a.f_is_name fd ["thing"] (spM K 1 (m_is_name K a)) :=
  fn_ok F sc_is_name wFrz_ok fun cdv A outer s H E hr => (show DB _ _ _ (g_is_name K a) from
      (db_one (ds_ret (d_call (ok_is_made_of T) T.m_is_made_of T.k_is_made_of (hr.mono (by decide)) (takes_of rfl rfl rfl rfl) (cw_pos (da_cons (d_var 0) (da_cons (d_gstr T.g_LETTERS) (da_cons (d_gint T.g_MOST_LETTERS) da_nil))))))))
theorem ok_is_name (T : Tx K mg base a) : Fd P w K mg base a.f_is_name 2 1 [] gPos (m_is_name K a) := by
  obtain ⟨fd, F⟩ := T.F_is_name
  exact ⟨fd, _, _, _, fn_is_name F T, bd_pos (F.binds (ps := ["thing"]) fun _ _ _ _ _ _ us hl => match us, hl with | [_], _ => rfl)⟩
set_option maxHeartbeats 4000000 in
theorem fn_is_place {fd : FuncData} (F : Fun K "is_place" "is_place" s_is_place a.f_is_place fd) (T : Tx K mg base a) : FnG P w K mg base 3 a.f_is_place fd ["thing"] (spM K 1 (m_is_place K a)) :=
  fn_ok F sc_is_place wFrz_ok fun cdv A outer s H E hr => (show DB _ _ _ (g_is_place K a) from
      (db_cons (ds_if (dt_not (dt_truth (d_bi (cr_isi T.own) T.z_isinstance bt_isinstance (da_cons (d_var 0) (da_cons (d_ty T.z_str bt_str) da_nil))))) (db_one (ds_ret d_bl)) db_nil)
      (db_cons (ds_asg (d_m PySem.F.plainAttrs_str PySem.F.slot_str_partition PySem.F.type_str_partition mt_partition' (d_var 0) (da_cons d_str da_nil)) (dg_tup rfl (dgs_cons (dg_name 1 sc_is_place.nd) (dgs_cons (dg_name 2 sc_is_place.nd) (dgs_cons (dg_name 3 sc_is_place.nd) dgs_nil)))) (nx_tup (nxs_cons (nx_name _) (nxs_cons (nx_name _) (nxs_cons (nx_name _) nxs_nil)))))
      (db_one (ds_ret (d_and (d_call (ok_is_name T) T.m_is_name T.k_is_name (hr.mono (by decide)) (takes_of rfl rfl rfl rfl) (cw_pos (da_cons (d_var 1) da_nil))) (d_one (d_call (ok_is_name T) T.m_is_name T.k_is_name (hr.mono (by decide)) (takes_of rfl rfl rfl rfl) (cw_pos (da_cons (d_var 3) da_nil))))))))))
theorem ok_is_place (T : Tx K mg base a) : Fd P w K mg base a.f_is_place 3 1 [] gPos (m_is_place K a) := by
  obtain ⟨fd, F⟩ := T.F_is_place
  exact ⟨fd, _, _, _, fn_is_place F T, bd_pos (F.binds (ps := ["thing"]) fun _ _ _ _ _ _ us hl => match us, hl with | [_], _ => rfl)⟩
set_option maxHeartbeats 4000000 in
theorem fn_is_value {fd : FuncData} (F : Fun K "is_value" "is_value" s_is_value a.f_is_value fd) (T : Tx K mg base a) : FnG P w K mg base 2 a.f_is_value fd ["thing"] (spM K 1 (m_is_value K a)) :=
  fn_ok F sc_is_value wFrz_ok fun cdv A outer s H E hr => (show DB _ _ _ (g_is_value K a) from
      (db_one (ds_ret (d_and (d_call (ok_is_made_of T) T.m_is_made_of T.k_is_made_of (hr.mono (by decide)) (takes_of rfl rfl rfl rfl) (cw_pos (da_cons (d_var 0) (da_cons (d_op op_add' (d_op op_add' (d_gstr T.g_LETTERS) (d_gstr T.g_DIGITS)) d_str) (da_cons (d_gint T.g_MOST_SIGNS) da_nil))))) (d_one (d_cmp (op_ne' hr.u64) (d_ix hr.u1 (d_var 0) d_int) d_str))))))
theorem ok_is_value (T : Tx K mg base a) : Fd P w K mg base a.f_is_value 2 1 [] gPos (m_is_value K a) := by
  obtain ⟨fd, F⟩ := T.F_is_value
  exact ⟨fd, _, _, _, fn_is_value F T, bd_pos (F.binds (ps := ["thing"]) fun _ _ _ _ _ _ us hl => match us, hl with | [_], _ => rfl)⟩
set_option maxHeartbeats 4000000 in
theorem fn_kept_in {fd : FuncData} (F : Fun K "kept_in" "kept_in" s_kept_in a.f_kept_in fd) (T : Tx K mg base a) : FnG P w K mg base 4 a.f_kept_in fd ["line"] (spM K 1 (m_kept_in K a)) :=
  fn_ok F sc_kept_in wFrz_ok fun cdv A outer s H E hr => (show DB _ _ _ (g_kept_in K a) from
      (db_cons (ds_set 1 sc_kept_in.nd (d_m PySem.F.plainAttrs_str PySem.F.slot_str_split PySem.F.type_str_split mt_split' (d_var 0) (da_cons d_str da_nil)))
      (db_cons (ds_if (dw_pt (dw_or (dt_cmp (op_notIn' hr.u65) (d_bi cr_len T.z_len bt_len (da_cons (d_var 1) da_nil)) (d_tupC (da_cons d_int (da_cons d_int da_nil)))) (dw_or (dt_cmp (op_ne' hr.u64) (d_ix hr.u1 (d_var 1) d_int) d_str) (dw_or (dt_not (dt_truth (d_call (ok_is_number T) T.m_is_number T.k_is_number (hr.mono (by decide)) (takes_of rfl rfl rfl rfl) (cw_pos (da_cons (d_ix hr.u1 (d_var 1) d_int) da_nil))))) (dw_or1 (dt_not (dt_truth (d_call (ok_is_place T) T.m_is_place T.k_is_place (hr.mono (by decide)) (takes_of rfl rfl rfl rfl) (cw_pos (da_cons (d_ix hr.u1 (d_var 1) d_int) da_nil)))))))))) (db_one (ds_ret d_non)) db_nil)
      (db_cons (ds_if (dt_cmp (op_eq' hr.u64) (d_bi cr_len T.z_len bt_len (da_cons (d_var 1) da_nil)) d_int) (db_one (ds_ret (d_tupC (da_cons (d_bt cr_int T.z_int bt_int (da_cons (d_ix hr.u1 (d_var 1) d_int) da_nil)) (da_cons (d_ix hr.u1 (d_var 1) d_int) (da_cons d_non da_nil)))))) db_nil)
      (db_one (ds_ret (d_if (dw_pt (dw_and (dt_cmp (op_eq' hr.u64) (d_ix hr.u1 (d_var 1) d_int) d_str) (dw_and1 (dt_truth (d_call (ok_is_value T) T.m_is_value T.k_is_value (hr.mono (by decide)) (takes_of rfl rfl rfl rfl) (cw_pos (da_cons (d_ix hr.u1 (d_var 1) d_int) da_nil))))))) (d_tupC (da_cons (d_bt cr_int T.z_int bt_int (da_cons (d_ix hr.u1 (d_var 1) d_int) da_nil)) (da_cons (d_ix hr.u1 (d_var 1) d_int) (da_cons (d_ix hr.u1 (d_var 1) d_int) da_nil)))) d_non)))))))
theorem ok_kept_in (T : Tx K mg base a) : Fd P w K mg base a.f_kept_in 4 1 [] gPos (m_kept_in K a) := by
  obtain ⟨fd, F⟩ := T.F_kept_in
  exact ⟨fd, _, _, _, fn_kept_in F T, bd_pos (F.binds (ps := ["line"]) fun _ _ _ _ _ _ us hl => match us, hl with | [_], _ => rfl)⟩
set_option maxHeartbeats 4000000 in
theorem fn_Reader_put {fd : FuncData} (F : Fun K "put" "Reader.put" s_Reader_put a.f_Reader_put fd) (T : Tx K mg base a) : FnG P w K mg base 1 a.f_Reader_put fd ["self", "at", "word", "name", "thing", "kind"] (spM K 6 (m_Reader_put K a)) :=
  fn_ok F sc_Reader_put wCut_ok fun cdv A outer s H E hr => (show DB _ _ _ (g_Reader_put K a) from
      (db_cons (ds_if (dt_cmp (op_in' hr.u65) (d_tupC (da_cons (d_var 2) (da_cons (d_var 3) da_nil))) (d_fld (cs := [a.C_Reader]) (d_var 0) T.fl_met_Reader)) db_no db_nil)
      (db_cons (ds_expr (d_m PySem.F.plainAttrs_list PySem.F.slot_list_append PySem.F.type_list_append mt_append' (d_fld (cs := [a.C_Reader]) (d_var 0) T.fl_met_Reader) (da_cons (d_tupC (da_cons (d_var 2) (da_cons (d_var 3) da_nil))) da_nil)))
      (db_one (ds_expr (d_m PySem.F.plainAttrs_list PySem.F.slot_list_append PySem.F.type_list_append mt_append' (d_fld (cs := [a.C_Reader]) (d_var 0) T.fl_parts_Reader) (da_cons (d_tupC (da_cons (d_var 1) (da_cons (d_var 2) (da_cons (d_var 4) da_nil)))) da_nil)))))))
theorem ok_Reader_put (T : Tx K mg base a) : Fd P w K mg base a.f_Reader_put 1 6 [] gPos (m_Reader_put K a) := by
  obtain ⟨fd, F⟩ := T.F_Reader_put
  exact ⟨fd, _, _, _, fn_Reader_put F T, bd_pos (F.binds (ps := ["self", "at", "word", "name", "thing", "kind"]) fun _ _ _ _ _ _ us hl => match us, hl with | [_, _, _, _, _, _], _ => rfl)⟩
set_option maxHeartbeats 4000000 in
theorem fn_Reader_take_kept {fd : FuncData} (F : Fun K "take_kept" "Reader.take_kept" s_Reader_take_kept a.f_Reader_take_kept fd) (T : Tx K mg base a) : FnG P w K mg base 2 a.f_Reader_take_kept fd ["self", "at", "kept"] (spM K 3 (m_Reader_take_kept K a)) :=
  fn_ok F sc_Reader_take_kept wCut_ok fun cdv A outer s H E hr => (show DB _ _ _ (g_Reader_take_kept K a) from
      (db_cons (ds_if (dt_cmp op_isN' (d_var 2) d_non) db_no db_nil)
      (db_one (ds_expr (d_meth (d_var 0) T.cl_Reader T.me_Reader_put (ok_Reader_put T) (hr.mono (by decide)) (takes_of rfl rfl rfl rfl) (cw_pos (da_cons (d_var 1) (da_cons (d_gstr T.g_KEPT) (da_cons (d_sl (d_var 2) do_none (do_some d_int)) (da_cons (d_var 2) (da_cons d_str da_nil)))))))))))
theorem ok_Reader_take_kept (T : Tx K mg base a) : Fd P w K mg base a.f_Reader_take_kept 2 3 [] gPos (m_Reader_take_kept K a) := by
  obtain ⟨fd, F⟩ := T.F_Reader_take_kept
  exact ⟨fd, _, _, _, fn_Reader_take_kept F T, bd_pos (F.binds (ps := ["self", "at", "kept"]) fun _ _ _ _ _ _ us hl => match us, hl with | [_, _, _], _ => rfl)⟩
set_option maxHeartbeats 4000000 in
theorem fn_section_in {fd : FuncData} (F : Fun K "section_in" "section_in" s_section_in a.f_section_in fd) (T : Tx K mg base a) : FnG P w K mg base 3 a.f_section_in fd ["line"] (spM K 1 (m_section_in K a)) :=
  fn_ok F sc_section_in wFrz_ok fun cdv A outer s H E hr => (show DB _ _ _ (g_section_in K a) from
      (db_cons (ds_set 1 sc_section_in.nd (d_sl (d_var 0) (do_some d_int) (do_some (d_un un_neg' d_int))))
      (db_one (ds_ret (d_if (dw_pt (dw_and (dt_cmp (op_eq' hr.u64) (d_sl (d_var 0) do_none (do_some d_int)) d_str) (dw_and (dt_cmp (op_eq' hr.u64) (d_sl (d_var 0) (do_some (d_un un_neg' d_int)) do_none) d_str) (dw_and1 (dt_truth (d_call (ok_is_name T) T.m_is_name T.k_is_name (hr.mono (by decide)) (takes_of rfl rfl rfl rfl) (cw_pos (da_cons (d_var 1) da_nil)))))))) (d_var 1) d_non)))))
theorem ok_section_in (T : Tx K mg base a) : Fd P w K mg base a.f_section_in 3 1 [] gPos (m_section_in K a) := by
  obtain ⟨fd, F⟩ := T.F_section_in
  exact ⟨fd, _, _, _, fn_section_in F T, bd_pos (F.binds (ps := ["line"]) fun _ _ _ _ _ _ us hl => match us, hl with | [_], _ => rfl)⟩
set_option maxHeartbeats 4000000 in
theorem fn_setting_in {fd : FuncData} (F : Fun K "setting_in" "setting_in" s_setting_in a.f_setting_in fd) (T : Tx K mg base a) : FnG P w K mg base 3 a.f_setting_in fd ["line"] (spM K 1 (m_setting_in K a)) :=
  fn_ok F sc_setting_in wFrz_ok fun cdv A outer s H E hr => (show DB _ _ _ (g_setting_in K a) from
      (db_cons (ds_asg (d_m PySem.F.plainAttrs_str PySem.F.slot_str_partition PySem.F.type_str_partition mt_partition' (d_var 0) (da_cons d_str da_nil)) (dg_tup rfl (dgs_cons (dg_name 1 sc_setting_in.nd) (dgs_cons (dg_name 2 sc_setting_in.nd) (dgs_cons (dg_name 3 sc_setting_in.nd) dgs_nil)))) (nx_tup (nxs_cons (nx_name _) (nxs_cons (nx_name _) (nxs_cons (nx_name _) nxs_nil)))))
      (db_one (ds_ret (d_if (dw_pt (dw_and (dt_truth (d_call (ok_is_name T) T.m_is_name T.k_is_name (hr.mono (by decide)) (takes_of rfl rfl rfl rfl) (cw_pos (da_cons (d_var 1) da_nil)))) (dw_and1 (dt_truth (d_call (ok_is_value T) T.m_is_value T.k_is_value (hr.mono (by decide)) (takes_of rfl rfl rfl rfl) (cw_pos (da_cons (d_var 3) da_nil))))))) (d_tupC (da_cons (d_var 1) (da_cons (d_var 3) da_nil))) d_non)))))
theorem ok_setting_in (T : Tx K mg base a) : Fd P w K mg base a.f_setting_in 3 1 [] gPos (m_setting_in K a) := by
  obtain ⟨fd, F⟩ := T.F_setting_in
  exact ⟨fd, _, _, _, fn_setting_in F T, bd_pos (F.binds (ps := ["line"]) fun _ _ _ _ _ _ us hl => match us, hl with | [_], _ => rfl)⟩
set_option maxHeartbeats 4000000 in
theorem fn_Reader_take_setting {fd : FuncData} (F : Fun K "take_setting" "Reader.take_setting" s_Reader_take_setting a.f_Reader_take_setting fd) (T : Tx K mg base a) : FnG P w K mg base 2 a.f_Reader_take_setting fd ["self", "at", "setting"] (spM K 3 (m_Reader_take_setting K a)) :=
  fn_ok F sc_Reader_take_setting wCut_ok fun cdv A outer s H E hr => (show DB _ _ _ (g_Reader_take_setting K a) from
      (db_cons (ds_if (dt_cmp op_isN' (d_var 2) d_non) db_no db_nil)
      (db_cons (ds_if (dt_cmp op_isN' (d_fld (cs := [a.C_Reader]) (d_var 0) T.fl_section_Reader) d_non) db_no db_nil)
      (db_cons (ds_set 3 sc_Reader_take_setting.nd (d_joined (dj_cons (d_fmt (d_fld (cs := [a.C_Reader]) (d_var 0) T.fl_section_Reader)) (dj_cons d_str (dj_cons (d_fmt (d_ix hr.u1 (d_var 2) d_int)) dj_nil)))))
      (db_one (ds_expr (d_meth (d_var 0) T.cl_Reader T.me_Reader_put (ok_Reader_put T) (hr.mono (by decide)) (takes_of rfl rfl rfl rfl) (cw_pos (da_cons (d_var 1) (da_cons (d_gstr T.g_PLACE) (da_cons (d_var 3) (da_cons (d_tupC (da_cons (d_var 3) (da_cons (d_ix hr.u1 (d_var 2) d_int) da_nil))) (da_cons d_str da_nil)))))))))))))
theorem ok_Reader_take_setting (T : Tx K mg base a) : Fd P w K mg base a.f_Reader_take_setting 2 3 [] gPos (m_Reader_take_setting K a) := by
  obtain ⟨fd, F⟩ := T.F_Reader_take_setting
  exact ⟨fd, _, _, _, fn_Reader_take_setting F T, bd_pos (F.binds (ps := ["self", "at", "setting"]) fun _ _ _ _ _ _ us hl => match us, hl with | [_, _, _], _ => rfl)⟩
set_option maxHeartbeats 4000000 in
theorem fn_Reader_take {fd : FuncData} (F : Fun K "take" "Reader.take" s_Reader_take a.f_Reader_take fd) (T : Tx K mg base a) : FnG P w K mg base 5 a.f_Reader_take fd ["self", "at", "line"] (spM K 3 (m_Reader_take K a)) :=
  fn_ok F sc_Reader_take wCut_ok fun cdv A outer s H E hr => (show DB _ _ _ (g_Reader_take K a) from
      (db_one (ds_if (dt_truth (d_m PySem.F.plainAttrs_str PySem.F.slot_str_startswith PySem.F.type_str_startswith mt_starts' (d_var 2) (da_cons d_str da_nil))) (db_one (ds_expr (d_meth (d_var 0) T.cl_Reader T.me_Reader_take_kept (ok_Reader_take_kept T) (hr.mono (by decide)) (takes_of rfl rfl rfl rfl) (cw_pos (da_cons (d_var 1) (da_cons (d_call (ok_kept_in T) T.m_kept_in T.k_kept_in (hr.mono (by decide)) (takes_of rfl rfl rfl rfl) (cw_pos (da_cons (d_var 2) da_nil))) da_nil)))))) (db_one (ds_if (dw_pt (dw_or (dt_cmp (op_eq' hr.u64) (d_var 2) d_str) (dw_or1 (dt_truth (d_m PySem.F.plainAttrs_str PySem.F.slot_str_startswith PySem.F.type_str_startswith mt_starts' (d_var 2) (da_cons d_str da_nil)))))) (db_one (ds_expr (d_m PySem.F.plainAttrs_list PySem.F.slot_list_append PySem.F.type_list_append mt_append' (d_fld (cs := [a.C_Reader]) (d_var 0) T.fl_parts_Reader) (da_cons (d_tupC (da_cons (d_var 1) (da_cons (d_gstr T.g_REMARK) (da_cons (d_var 2) da_nil)))) da_nil)))) (db_one (ds_if (dt_cmp op_notN' (d_call (ok_section_in T) T.m_section_in T.k_section_in (hr.mono (by decide)) (takes_of rfl rfl rfl rfl) (cw_pos (da_cons (d_var 2) da_nil))) d_non) (db_cons (ds_fld (cs := [a.C_Reader]) (d_var 0) (d_call (ok_section_in T) T.m_section_in T.k_section_in (hr.mono (by decide)) (takes_of rfl rfl rfl rfl) (cw_pos (da_cons (d_var 2) da_nil))) T.fl_section_Reader)
      (db_one (ds_expr (d_meth (d_var 0) T.cl_Reader T.me_Reader_put (ok_Reader_put T) (hr.mono (by decide)) (takes_of rfl rfl rfl rfl) (cw_pos (da_cons (d_var 1) (da_cons (d_gstr T.g_SECTION) (da_cons (d_fld (cs := [a.C_Reader]) (d_var 0) T.fl_section_Reader) (da_cons (d_fld (cs := [a.C_Reader]) (d_var 0) T.fl_section_Reader) (da_cons (d_gstr T.g_SECTION) da_nil)))))))))) (db_one (ds_expr (d_meth (d_var 0) T.cl_Reader T.me_Reader_take_setting (ok_Reader_take_setting T) (hr.mono (by decide)) (takes_of rfl rfl rfl rfl) (cw_pos (da_cons (d_var 1) (da_cons (d_call (ok_setting_in T) T.m_setting_in T.k_setting_in (hr.mono (by decide)) (takes_of rfl rfl rfl rfl) (cw_pos (da_cons (d_var 2) da_nil))) da_nil)))))))))))))
theorem ok_Reader_take (T : Tx K mg base a) : Fd P w K mg base a.f_Reader_take 5 3 [] gPos (m_Reader_take K a) := by
  obtain ⟨fd, F⟩ := T.F_Reader_take
  exact ⟨fd, _, _, _, fn_Reader_take F T, bd_pos (F.binds (ps := ["self", "at", "line"]) fun _ _ _ _ _ _ us hl => match us, hl with | [_, _, _], _ => rfl)⟩
set_option maxHeartbeats 4000000 in
theorem fn_parts_of {fd : FuncData} (F : Fun K "parts_of" "parts_of" s_parts_of a.f_parts_of fd) (T : Tx K mg base a) : FnG P w K mg base 1 a.f_parts_of fd ["parts"] (spM K 1 (m_parts_of K a)) :=
  fn_ok F sc_parts_of wFrz_ok fun cdv A outer s H E hr => (show DB _ _ _ (g_parts_of K a) from
      (db_one (ds_ret (d_lcV rfl sc_parts_of.nd (d_iter (d_var 0)) (blkOk_by (N := N_parts_of) (sc := defScope s_parts_of) (own := [("at", 1), ("word", 2), ("thing", 3)]) (by decide +kernel)) (fun _ _ _ _ _ => (dg_tup rfl (dgs_cons (dg_name 1 sc_parts_of.nd) (dgs_cons (dg_name 2 sc_parts_of.nd) (dgs_cons (dg_name 3 sc_parts_of.nd) dgs_nil))))) (fun _ _ _ _ _ => (dts_one (dt_cmp (op_ne' hr.u64) (d_var 2) (d_gstr T.g_REMARK)))) (fun _ _ _ _ _ => (d_tupC (da_cons (d_var 1) (da_cons (d_var 2) (da_cons (d_if (dt_cmp (op_eq' hr.u64) (d_var 2) (d_gstr T.g_PLACE)) (d_ix hr.u1 (d_var 3) d_int) (d_var 3)) da_nil)))))))))
theorem ok_parts_of (T : Tx K mg base a) : Fd P w K mg base a.f_parts_of 1 1 [] gPos (m_parts_of K a) := by
  obtain ⟨fd, F⟩ := T.F_parts_of
  exact ⟨fd, _, _, _, fn_parts_of F T, bd_pos (F.binds (ps := ["parts"]) fun _ _ _ _ _ _ us hl => match us, hl with | [_], _ => rfl)⟩
set_option maxHeartbeats 4000000 in
theorem fn_SettingsFile_init {fd : FuncData} (F : Fun K "__init__" "SettingsFile.__init__" s_SettingsFile_init a.f_SettingsFile_init fd) (T : Tx K mg base a) : FnG P w K mg base 6 a.f_SettingsFile_init fd ["self", "text"] (spM K 2 (m_SettingsFile_init K a)) :=
  fn_ok F sc_SettingsFile_init wId_ok fun cdv A outer s H E hr => (show DB _ _ _ (g_SettingsFile_init K a) from
      (db_cons (ds_if (dt_not (dt_truth (d_bi (cr_isi T.own) T.z_isinstance bt_isinstance (da_cons (d_var 1) (da_cons (d_ty T.z_str bt_str) da_nil))))) db_no db_nil)
      (db_cons (ds_set 2 sc_SettingsFile_init.nd (d_make T.mk_Reader (ok_Reader_init T) T.m_Reader (hr.mono (by decide)) (takes_of rfl rfl rfl rfl) cw_none))
      (db_cons (ds_for (passes_of rfl) rfl (d_enum T.z_enumerate (da_cons (d_call (ok_lines_of T) T.m_lines_of T.k_lines_of (hr.mono (by decide)) (takes_of rfl rfl rfl rfl) (cw_pos (da_cons (d_var 1) da_nil))) da_nil)) (dg_tup rfl (dgs_cons (dg_name 3 sc_SettingsFile_init.nd) (dgs_cons (dg_name 4 sc_SettingsFile_init.nd) dgs_nil))) (db_one (ds_expr (d_meth (d_var 2) T.cl_Reader T.me_Reader_take (ok_Reader_take T) (hr.mono (by decide)) (takes_of rfl rfl rfl rfl) (cw_pos (da_cons (d_var 3) (da_cons (d_var 4) da_nil)))))))
      (db_cons (ds_fld (cs := [a.C_SettingsFile]) (d_var 0) (d_var 1) T.fl_whole_SettingsFile)
      (db_cons (ds_fld (cs := [a.C_SettingsFile]) (d_var 0) (d_fld (cs := [a.C_Reader]) (d_var 2) T.fl_parts_Reader) T.fl_all_parts_SettingsFile)
      (db_cons (ds_fld (cs := [a.C_SettingsFile]) (d_var 0) (d_call (ok_parts_of T) T.m_parts_of T.k_parts_of (hr.mono (by decide)) (takes_of rfl rfl rfl rfl) (cw_pos (da_cons (d_fld (cs := [a.C_Reader]) (d_var 2) T.fl_parts_Reader) da_nil))) T.fl_parts_SettingsFile)
      (db_one (ds_fld (cs := [a.C_SettingsFile]) (d_var 0) (d_bt (cr_dict rfl) T.z_dict bt_dict (da_cons (d_lcV rfl sc_SettingsFile_init.nd (d_iter (d_fld (cs := [a.C_Reader]) (d_var 2) T.fl_parts_Reader)) (blkOk_by (N := N_SettingsFile_init) (sc := defScope s_SettingsFile_init) (own := [("at", 3), ("word", 5), ("thing", 6)]) (by decide +kernel)) (fun _ _ _ _ _ => (dg_tup rfl (dgs_cons (dg_name 3 sc_SettingsFile_init.nd) (dgs_cons (dg_name 5 sc_SettingsFile_init.nd) (dgs_cons (dg_name 6 sc_SettingsFile_init.nd) dgs_nil))))) (fun _ _ _ _ _ => (dts_one (dt_cmp (op_eq' hr.u64) (d_var 5) (d_gstr T.g_PLACE)))) (fun _ _ _ _ _ => (d_var 6))) da_nil)) T.fl_settings_read_SettingsFile)))))))))
theorem ok_SettingsFile_init (T : Tx K mg base a) : Fd P w K mg base a.f_SettingsFile_init 6 2 [] gPos (m_SettingsFile_init K a) := by
  obtain ⟨fd, F⟩ := T.F_SettingsFile_init
  exact ⟨fd, _, _, _, fn_SettingsFile_init F T, bd_pos (F.binds (ps := ["self", "text"]) fun _ _ _ _ _ _ us hl => match us, hl with | [_, _], _ => rfl)⟩
set_option maxHeartbeats 4000000 in
theorem fn_L_law_object {fd : FuncData} (F : Fun K "_law_object" "_law_object" s_L_law_object a.f_L_law_object fd) (T : Tx K mg base a) : FnG P w K mg base 3 a.f_L_law_object fd ["_law_bag_here", "_law_names"] (spM K 2 (m_L_law_object K a)) :=
  fn_ok F sc_L_law_object wFrz_ok fun cdv A outer s H E hr => (show DB _ _ _ (g_L_law_object K a) from
      (db_cons (ds_set 2 sc_L_law_object.nd (d_call (ok_L_law_of T) T.m_L_law_of T.k_L_law_of (hr.mono (by decide)) (takes_of rfl rfl rfl rfl) (cw_pos (da_cons (d_var 0) (da_cons (d_var 1) da_nil)))))
      (db_cons (ds_par 3 4 rfl sc_L_law_object.nd (da_cons (d_call (ok_L_law_take T) T.m_L_law_take T.k_L_law_take (hr.mono (by decide)) (takes_of rfl rfl rfl rfl) (cw_pos (da_cons (d_var 0) (da_cons (d_op op_add' (d_bi cr_len T.z_len bt_len (da_cons (d_var 2) da_nil)) d_int) da_nil)))) (da_cons (d_call (ok_L_law_of T) T.m_L_law_of T.k_L_law_of (hr.mono (by decide)) (takes_of rfl rfl rfl rfl) (cw_pos (da_cons (d_var 0) (da_cons (d_lst (da_cons d_str (da_cons d_str (da_cons d_str (da_cons d_str (da_cons d_str da_nil)))))) da_nil)))) da_nil)) (by decide) rfl)
      (db_cons (ds_set 5 sc_L_law_object.nd (d_op op_add' (d_op op_add' (d_sl (d_var 2) do_none (do_some (d_var 3))) (d_var 4)) (d_sl (d_var 2) (do_some (d_var 3)) do_none)))
      (db_cons (ds_set 6 sc_L_law_object.nd (d_op op_add' (d_sl (d_var 2) do_none (do_some (d_var 3))) (d_sl (d_var 2) (do_some (d_op op_add' (d_var 3) d_int)) do_none)))
      (db_cons (ds_set 7 sc_L_law_object.nd (d_lst (da_cons (d_var 2) (da_cons (d_var 2) (da_cons (d_var 5) (da_cons (d_var 6) (da_cons (d_m0 PySem.F.plainAttrs_str PySem.F.slot_str_upper PySem.F.type_str_upper mt_upper' (d_var 2)) (da_cons (d_op op_add' (d_var 2) d_str) (da_cons (d_op op_add' (d_op op_add' d_str (d_var 2)) d_str) (da_cons (d_tupC (da_cons (d_var 2) da_nil)) (da_cons (d_lst (da_cons (d_var 2) da_nil)) (da_cons d_non (da_cons d_int (da_cons d_bl (da_cons d_str da_nil)))))))))))))))
      (db_one (ds_ret (d_call (ok_L_law_of T) T.m_L_law_of T.k_L_law_of (hr.mono (by decide)) (takes_of rfl rfl rfl rfl) (cw_pos (da_cons (d_var 0) (da_cons (d_var 7) da_nil))))))))))))
theorem ok_L_law_object (T : Tx K mg base a) : Fd P w K mg base a.f_L_law_object 3 2 [] gPos (m_L_law_object K a) := by
  obtain ⟨fd, F⟩ := T.F_L_law_object
  exact ⟨fd, _, _, _, fn_L_law_object F T, bd_pos (F.binds (ps := ["_law_bag_here", "_law_names"]) fun _ _ _ _ _ _ us hl => match us, hl with | [_, _], _ => rfl)⟩
set_option maxHeartbeats 4000000 in
theorem fn_SettingsFile_value {fd : FuncData} (F : Fun K "value" "SettingsFile.value" s_SettingsFile_value a.f_SettingsFile_value fd) (T : Tx K mg base a) : FnG P w K mg base 4 a.f_SettingsFile_value fd ["self", "place"] (spM K 2 (m_SettingsFile_value K a)) :=
  fn_ok F sc_SettingsFile_value wFrz_ok fun cdv A outer s H E hr => (show DB _ _ _ (g_SettingsFile_value K a) from
      (db_cons (ds_if (dw_pt (dw_or (dt_not (dt_truth (d_call (ok_is_place T) T.m_is_place T.k_is_place (hr.mono (by decide)) (takes_of rfl rfl rfl rfl) (cw_pos (da_cons (d_var 1) da_nil))))) (dw_or1 (dt_cmp (op_notInDct hr.u1) (d_var 1) (d_fld (cs := [a.C_SettingsFile]) (d_var 0) T.fl_settings_read_SettingsFile))))) (db_one (ds_raise (k := 0) rfl (takes_of rfl rfl rfl rfl) (exs_NoPlace T) (hr.mono (by decide)) T.m_NoPlace (da_cons (d_var 1) da_nil))) db_nil)
      (db_one (ds_ret (d_ix hr.u1 (d_fld (cs := [a.C_SettingsFile]) (d_var 0) T.fl_settings_read_SettingsFile) (d_var 1))))))
theorem ok_SettingsFile_value (T : Tx K mg base a) : Fd P w K mg base a.f_SettingsFile_value 4 2 [] gPos (m_SettingsFile_value K a) := by
  obtain ⟨fd, F⟩ := T.F_SettingsFile_value
  exact ⟨fd, _, _, _, fn_SettingsFile_value F T, bd_pos (F.binds (ps := ["self", "place"]) fun _ _ _ _ _ _ us hl => match us, hl with | [_, _], _ => rfl)⟩
theorem ok_SettingsFile_value_place (T : Tx K mg base a) : Fd P w K mg base a.f_SettingsFile_value 4 1 ["place"] gApp (m_SettingsFile_value K a) := by
  obtain ⟨fd, F⟩ := T.F_SettingsFile_value
  exact ⟨fd, _, _, _, fn_SettingsFile_value F T, bd_app (ps := ["self", "place"]) (ks := ["place"]) F rfl fun _ _ _ _ _ _ us ws h1 h2 => match us, h1, ws, h2 with | [_], _, [_], _ => rfl⟩
set_option maxHeartbeats 4000000 in
theorem fn_SettingsFile___contains__ {fd : FuncData} (F : Fun K "__contains__" "SettingsFile.__contains__" s_SettingsFile___contains__ a.f_SettingsFile___contains__ fd) (T : Tx K mg base a) : FnG P w K mg base 4 a.f_SettingsFile___contains__ fd ["self", "thing"] (spM K 2 (m_SettingsFile___contains__ K a)) :=
  fn_ok F sc_SettingsFile___contains__ wFrz_ok fun cdv A outer s H E hr => (show DB _ _ _ (g_SettingsFile___contains__ K a) from
      (db_one (ds_ret (d_and (d_call (ok_is_place T) T.m_is_place T.k_is_place (hr.mono (by decide)) (takes_of rfl rfl rfl rfl) (cw_pos (da_cons (d_var 1) da_nil))) (d_one (d_cmp (op_inDct hr.u1) (d_var 1) (d_fld (cs := [a.C_SettingsFile]) (d_var 0) T.fl_settings_read_SettingsFile)))))))
theorem ok_SettingsFile___contains__ (T : Tx K mg base a) : Fd P w K mg base a.f_SettingsFile___contains__ 4 2 [] gPos (m_SettingsFile___contains__ K a) := by
  obtain ⟨fd, F⟩ := T.F_SettingsFile___contains__
  exact ⟨fd, _, _, _, fn_SettingsFile___contains__ F T, bd_pos (F.binds (ps := ["self", "thing"]) fun _ _ _ _ _ _ us hl => match us, hl with | [_, _], _ => rfl)⟩
set_option maxHeartbeats 4000000 in
theorem fn_SettingsFile_block {fd : FuncData} (F : Fun K "block" "SettingsFile.block" s_SettingsFile_block a.f_SettingsFile_block fd) (T : Tx K mg base a) : FnG P w K mg base 3 a.f_SettingsFile_block fd ["self", "thing"] (spM K 2 (m_SettingsFile_block K a)) :=
  fn_ok F sc_SettingsFile_block wFrz_ok fun cdv A outer s H E hr => (show DB _ _ _ (g_SettingsFile_block K a) from
      (db_cons (ds_if (dt_not (dt_truth (d_bi (cr_isi T.own) T.z_isinstance bt_isinstance (da_cons (d_var 1) (da_cons (d_ty T.z_str bt_str) da_nil))))) (db_one (ds_raise (k := 0) rfl (takes_of rfl rfl rfl rfl) (exs_NoPlace T) (hr.mono (by decide)) T.m_NoPlace (da_cons (d_var 1) da_nil))) db_nil)
      (db_cons (ds_set 2 sc_SettingsFile_block.nd (d_lstC da_nil))
      (db_cons (ds_for (passes_of rfl) rfl (d_iter (d_fld (cs := [a.C_SettingsFile]) (d_var 0) T.fl_all_parts_SettingsFile)) (dg_tup rfl (dgs_cons (dg_name 3 sc_SettingsFile_block.nd) (dgs_cons (dg_name 4 sc_SettingsFile_block.nd) (dgs_cons (dg_name 5 sc_SettingsFile_block.nd) dgs_nil)))) (db_one (ds_if (dt_cmp (op_eq' hr.u64) (d_var 4) (d_gstr T.g_REMARK)) (db_one (ds_expr (d_m PySem.F.plainAttrs_list PySem.F.slot_list_append PySem.F.type_list_append mt_append' (d_var 2) (da_cons (d_var 5) da_nil)))) (db_one (ds_if (dw_pt (dw_or (dt_cmp (op_eq' hr.u64) (d_var 4) (d_gstr T.g_SECTION)) (dw_or1 (dt_cmp (op_eq' hr.u64) (d_var 4) (d_gstr T.g_PLACE))))) (db_cons (ds_if (dt_cmp (op_eq' hr.u64) (d_var 1) (d_if (dt_cmp (op_eq' hr.u64) (d_var 4) (d_gstr T.g_SECTION)) (d_var 5) (d_ix hr.u1 (d_var 5) d_int))) (db_one (ds_ret (d_var 2))) db_nil)
      (db_one (ds_set 2 sc_SettingsFile_block.nd (d_lstC da_nil)))) db_nil)))))
      (db_one (ds_raise (k := 0) rfl (takes_of rfl rfl rfl rfl) (exs_NoPlace T) (hr.mono (by decide)) T.m_NoPlace (da_cons (d_var 1) da_nil)))))))
theorem ok_SettingsFile_block (T : Tx K mg base a) : Fd P w K mg base a.f_SettingsFile_block 3 2 [] gPos (m_SettingsFile_block K a) := by
  obtain ⟨fd, F⟩ := T.F_SettingsFile_block
  exact ⟨fd, _, _, _, fn_SettingsFile_block F T, bd_pos (F.binds (ps := ["self", "thing"]) fun _ _ _ _ _ _ us hl => match us, hl with | [_, _], _ => rfl)⟩
set_option maxHeartbeats 4000000 in
theorem fn_L_law_is_right {fd : FuncData} (F : Fun K "_law_is_right" "_law_is_right" s_L_law_is_right a.f_L_law_is_right fd) (T : Tx K mg base a) (hcd : fd.code = .ref a.c_L_law_is_right) : FnG P w K mg base 7 a.f_L_law_is_right fd ["_law_file", "_law_what", "_law_worths", "_law_heads"] (spM K 4 (m_L_law_is_right K a)) :=
  fn_okC F sc_L_law_is_right wFrz_ok fun cdv hc A outer s H E hr => (show DB _ _ _ (g_L_law_is_right K a) from
      (db_cons (ds_set 4 sc_L_law_is_right.nd (d_and (d_bi (cr_isi T.own) T.z_isinstance bt_isinstance (da_cons (d_var 1) (da_cons (d_ty T.z_str bt_str) da_nil))) (d_one (d_cmp (op_inDct hr.u1) (d_var 1) (d_var 2)))))
      (db_cons (ds_set 5 sc_L_law_is_right.nd ((tf_L_law_raised T).elim fun fdl hl => d_lam (T := a.tabs) (mT := mt_L_law_raised K a) (k := 4) T.m_L_law_raised T.k_L_law_raised hl.1 hl.2 sc_L_law_raised mTold_no (told_L_law_raised T _ rfl rfl rfl rfl rfl) T.tb_L_law_is_right (hc.symm.trans hcd) (HM_L_law_is_right a) (hr.mono (by decide)) (LamX.lamS_by (sc := defScope s_L_law_is_right) (by decide +kernel)) (fun A outer s H E f c hr => (d_meth (d_var 0) T.cl_SettingsFile T.me_SettingsFile_value (ok_SettingsFile_value T) (hr.mono (by decide)) (takes_of rfl rfl rfl rfl) (cw_pos (da_cons (d_var 1) da_nil))))))
      (db_cons (ds_if (dw_pt (dw_or (dt_cmp (op_ne' hr.u64) (d_cmpS (op_inO T.me_SettingsFile___contains__ (ok_SettingsFile___contains__ T) (hr.mono (by decide))) (inO_no _ _ _) (d_var 1) (d_var 0)) (d_var 4)) (dw_or1 (dt_cmp (op_ne' hr.u64) (d_cmp op_isN' (d_var 5) d_non) (d_var 4))))) (db_one (ds_ret d_bl)) db_nil)
      (db_cons (ds_if (dt_truth (d_var 4)) (db_cons (ds_set 6 sc_L_law_is_right.nd (d_lst (da_cons (d_meth (d_var 0) T.cl_SettingsFile T.me_SettingsFile_value (ok_SettingsFile_value T) (hr.mono (by decide)) (takes_of rfl rfl rfl rfl) (cw_pos (da_cons (d_var 1) da_nil))) (da_cons (d_meth (d_var 0) T.cl_SettingsFile T.me_SettingsFile_value (ok_SettingsFile_value_place T) (hr.mono (by decide)) (takes_of rfl rfl rfl rfl) (cw_kw0 (dk_cons (d_var 1) dk_nil))) da_nil))))
      (db_one (ds_if (dt_cmp (op_ne' hr.u64) (d_var 6) (d_lst (da_cons (d_ix hr.u1 (d_var 2) (d_var 1)) (da_cons (d_ix hr.u1 (d_var 2) (d_var 1)) da_nil)))) (db_one (ds_ret d_bl)) db_nil))) db_nil)
      (db_cons (ds_if (dw_pt (dw_and (dt_not (dt_truth (d_var 4))) (dw_and1 (dt_cmp (op_ne' hr.u64) (d_bi (cr_repr hr.gd hr.u65) T.z_repr bt_repr (da_cons (d_var 5) da_nil)) (d_bi (cr_repr hr.gd hr.u65) T.z_repr bt_repr (da_cons (d_tupC (da_cons (d_var 1) da_nil)) da_nil)))))) (db_one (ds_ret d_bl)) db_nil)
      (db_cons (ds_set 5 sc_L_law_is_right.nd ((tf_L_law_raised T).elim fun fdl hl => d_lam (T := a.tabs) (mT := mt_L_law_raised K a) (k := 3) T.m_L_law_raised T.k_L_law_raised hl.1 hl.2 sc_L_law_raised mTold_no (told_L_law_raised T _ rfl rfl rfl rfl rfl) T.tb_L_law_is_right (hc.symm.trans hcd) (HM_L_law_is_right a) (hr.mono (by decide)) (LamX.lamS_by (sc := defScope s_L_law_is_right) (by decide +kernel)) (fun A outer s H E f c hr => (d_meth (d_var 0) T.cl_SettingsFile T.me_SettingsFile_block (ok_SettingsFile_block T) (hr.mono (by decide)) (takes_of rfl rfl rfl rfl) (cw_pos (da_cons (d_var 1) da_nil))))))
      (db_cons (ds_if (dw_pt (dw_or (dt_truth (d_var 4)) (dw_or1 (dw_pt (dw_and (dt_truth (d_bi (cr_isi T.own) T.z_isinstance bt_isinstance (da_cons (d_var 1) (da_cons (d_ty T.z_str bt_str) da_nil)))) (dw_and1 (dt_cmp (op_in' hr.u65) (d_var 1) (d_var 3)))))))) (db_one (ds_ret (d_and (d_cmp op_isN' (d_var 5) d_non) (d_one (d_bi (cr_isi T.own) T.z_isinstance bt_isinstance (da_cons (d_meth (d_var 0) T.cl_SettingsFile T.me_SettingsFile_block (ok_SettingsFile_block T) (hr.mono (by decide)) (takes_of rfl rfl rfl rfl) (cw_pos (da_cons (d_var 1) da_nil))) (da_cons (d_ty T.z_list bt_list) da_nil))))))) db_nil)
      (db_one (ds_ret (d_cmp (op_eq' hr.u64) (d_bi (cr_repr hr.gd hr.u65) T.z_repr bt_repr (da_cons (d_var 5) da_nil)) (d_bi (cr_repr hr.gd hr.u65) T.z_repr bt_repr (da_cons (d_tupC (da_cons (d_var 1) da_nil)) da_nil)))))))))))))
theorem ok_L_law_is_right (T : Tx K mg base a) : Fd P w K mg base a.f_L_law_is_right 7 4 [] gPos (m_L_law_is_right K a) := by
  obtain ⟨fd, F, hcd⟩ := T.F_L_law_is_right
  exact ⟨fd, _, _, _, fn_L_law_is_right F T hcd, bd_pos (F.binds (ps := ["_law_file", "_law_what", "_law_worths", "_law_heads"]) fun _ _ _ _ _ _ us hl => match us, hl with | [_, _, _, _], _ => rfl)⟩
set_option maxHeartbeats 4000000 in
theorem fn_law {fd : FuncData} (F : Fun K "law" "law" s_law a.f_law fd) (T : Tx K mg base a) : FnG P w K mg base 8 a.f_law fd ["_law_script"] (spM K 1 (m_law K a)) :=
  fn_ok F sc_law wFrz_ok fun cdv A outer s H E hr => (show DB _ _ _ (g_law K a) from
      (db_cons (ds_for (passes_of rfl) rfl (d_range1 T.z_range (da_cons (d_bi (cr_max rfl) T.z_max bt_max (da_cons d_int (da_cons (d_bi (cr_min rfl) T.z_min bt_min (da_cons d_int (da_cons (d_bi cr_len T.z_len bt_len (da_cons (d_var 0) da_nil)) da_nil))) da_nil))) da_nil)) (dg_name 1 sc_law.nd) (db_cons (ds_par3 2 3 4 rfl sc_law.nd (da_cons (d_call (ok_L_law_bag T) T.m_L_law_bag T.k_L_law_bag (hr.mono (by decide)) (takes_of rfl rfl rfl rfl) (cw_pos (da_cons (d_var 0) (da_cons (d_var 1) da_nil)))) (da_cons (d_lstC (da_cons d_str (da_cons d_str da_nil))) (da_cons d_dnew da_nil))) (by decide) (by decide) (by decide) rfl)
      (db_cons (ds_set 5 sc_law.nd (d_sl (d_lst (da_cons d_str (da_cons d_str (da_cons d_str da_nil)))) do_none (do_some (d_call (ok_L_law_take T) T.m_L_law_take T.k_L_law_take (hr.mono (by decide)) (takes_of rfl rfl rfl rfl) (cw_pos (da_cons (d_var 2) (da_cons d_int da_nil)))))))
      (db_cons (ds_for (passes_of rfl) rfl (d_iter (d_var 5)) (dg_name 6 sc_law.nd) (db_cons (ds_set 3 sc_law.nd (d_opS op_addC vAddC_no (d_var 3) (d_lst (da_cons d_str (da_cons (d_op op_add' (d_op op_add' d_str (d_var 6)) d_str) da_nil)))))
      (db_one (ds_for (passes_of rfl) rfl (d_iter (d_sl (d_lst (da_cons d_str (da_cons d_str (da_cons d_str da_nil)))) do_none (do_some (d_call (ok_L_law_take T) T.m_L_law_take T.k_L_law_take (hr.mono (by decide)) (takes_of rfl rfl rfl rfl) (cw_pos (da_cons (d_var 2) (da_cons d_int da_nil))))))) (dg_name 7 sc_law.nd) (db_cons (ds_asg (d_call (ok_L_law_of T) T.m_L_law_of T.k_L_law_of (hr.mono (by decide)) (takes_of rfl rfl rfl rfl) (cw_pos (da_cons (d_var 2) (da_cons (d_lst (da_cons d_str (da_cons d_str (da_cons d_str da_nil)))) da_nil)))) (dg_sub (W := W0) hr.u1 (d_var 4) (d_op op_add' (d_op op_add' (d_var 6) d_str) (d_var 7))) nx_sub)
      (db_one (ds_expr (d_m PySem.F.plainAttrs_list PySem.F.slot_list_append PySem.F.type_list_append mt_append' (d_var 3) (da_cons (d_op op_add' (d_op op_add' (d_var 7) d_str) (d_ix hr.u1 (d_var 4) (d_op op_add' (d_op op_add' (d_var 6) d_str) (d_var 7)))) da_nil)))))))))
      (db_cons (ds_set 8 sc_law.nd (d_wr wFrz_ok (d_make T.mk_SettingsFile (ok_SettingsFile_init T) T.m_SettingsFile (hr.mono (by decide)) (takes_of rfl rfl rfl rfl) (cw_pos (da_cons (d_m PySem.F.plainAttrs_str PySem.F.slot_str_join PySem.F.type_str_join mt_join' d_str (da_cons (d_var 3) da_nil)) da_nil)))))
      (db_cons (ds_set 9 sc_law.nd (d_op op_add' (d_op op_add' (d_var 5) (d_bt (cr_listK rfl) T.z_list bt_list (da_cons (d_var 4) da_nil))) (d_lst (da_cons d_str (da_cons d_str (da_cons d_str (da_cons d_str (da_cons d_str (da_cons d_str (da_cons d_str (da_cons d_str da_nil)))))))))))
      (db_one (ds_for (passes_of rfl) rfl (d_range1 T.z_range (da_cons d_int da_nil)) (dg_name 10 sc_law.nd) (db_one (ds_if (dt_not (dt_truth (d_call (ok_L_law_is_right T) T.m_L_law_is_right T.k_L_law_is_right (hr.mono (by decide)) (takes_of rfl rfl rfl rfl) (cw_pos (da_cons (d_var 8) (da_cons (d_call (ok_L_law_object T) T.m_L_law_object T.k_L_law_object (hr.mono (by decide)) (takes_of rfl rfl rfl rfl) (cw_pos (da_cons (d_var 2) (da_cons (d_var 9) da_nil)))) (da_cons (d_var 4) (da_cons (d_var 5) da_nil)))))))) (db_one (ds_ret d_bl)) db_nil))))))))))
      (db_one (ds_ret d_bl))))
end
/-- the plain facts of the classes -/
structure Kx (K : PySem.W.Frag) (a : Ad) : Prop where
  dummy : True
  xka_NoPlace : PySem.W.kitAny K (.ref a.C_NoPlace) [.ref a.C_NoSlot, .ref a.C_NoChain, .ref a.C_BadText] = some false
  xko_NoPlace : PySem.W.kitOne K (.ref a.C_NoPlace) (.type "LookupError") = some true
  xem_NoPlace : PySem.W.exmOne K (.ref a.C_NoPlace) (.ref a.C_NoPlace) = some true
def LawOk : Prop := ∀ (K : PySem.W.Frag) (a : Ad), Kx K a → ∀ ns : List Int, ns.length ≤ 63 → ∃ st, m_law K a [.d (.scr ns)] (tbls a.tabs) = .ok (.d (.bl true)) st
def spAll (K : PySem.W.Frag) : Sp := fun vs H Q E => ∀ a : Ad, Kx K a → spM K 1 (m_law K a) vs H Q E
set_option maxHeartbeats 4000000 in
theorem all_mk {w : World} {K : PySem.W.Frag} {h : Heap} {mg : Str → Option Value} {fa : Addr} {l : PySem.W.OpenLaw} {ts : List Addr} (X : PySem.W.Frag.In K h) (G : h.Ns mainGlobals mg) (hfa : mg "law" = some (.ref fa)) (hTab : ∀ P ∈ ts, h.get? P = some (PySem.W.tabObj #[]))
    (ok : LawOk) {C_Reader C_SettingsFile C_BadText C_NoChain C_NoPlace C_NoSlot f_L_law_bag f_L_law_take f_L_law_of f_Reader_init f_lines_of f_is_made_of f_is_number f_is_name f_is_place f_is_value f_kept_in f_Reader_put f_Reader_take_kept f_section_in f_setting_in f_Reader_take_setting f_Reader_take f_parts_of f_SettingsFile_init f_L_law_object f_SettingsFile_value f_SettingsFile___contains__ f_SettingsFile_block f_L_law_is_right f_law f_NoPlace_init f_L_law_raised c_L_law_is_right P_L_law_is_right : Addr} {od1 an1 od2 an2 od3 an3 od4 an4 od5 an5 od6 an6 od7 an7 od8 an8 od9 an9 od10 an10 od11 an11 od12 an12 od13 an13 od14 an14 od15 an15 od16 an16 od17 an17 od18 an18 od19 an19 od20 an20 od21 an21 od22 an22 od23 an23 od24 an24 ld24 od25 an25 od26 an26 od27 an27 : Option Addr} {sl1 sl2 sl3 sl4 sl5 sl6 sl7 sl8 sl9 sl10 sl11 sl12 sl13 sl14 sl15 sl16 sl17 sl18 sl19 sl20 sl21 sl22 sl23 sl24 ls24 sl25 sl26 sl27 : Array (Option Value)} {oc1 kV1 dc1 pm1 cd1 ct1 oc2 kV2 dc2 pm2 cd2 ct2 oc3 kV3 dc3 pm3 cd3 ct3 oc4 kV4 dc4 pm4 cd4 ct4 oc5 kV5 dc5 pm5 cd5 ct5 oc6 kV6 dc6 pm6 cd6 ct6 oc7 kV7 dc7 pm7 cd7 ct7 oc8 kV8 dc8 pm8 cd8 ct8 oc9 kV9 dc9 pm9 cd9 ct9 oc10 kV10 dc10 pm10 cd10 ct10 oc11 kV11 dc11 pm11 cd11 ct11 oc12 kV12 dc12 pm12 cd12 ct12 oc13 kV13 dc13 pm13 cd13 ct13 oc14 kV14 dc14 pm14 cd14 ct14 oc15 kV15 dc15 pm15 cd15 ct15 oc16 kV16 dc16 pm16 cd16 ct16 oc17 kV17 dc17 pm17 cd17 ct17 oc18 kV18 dc18 pm18 cd18 ct18 oc19 kV19 dc19 pm19 cd19 ct19 oc20 kV20 dc20 pm20 cd20 ct20 oc21 kV21 dc21 pm21 cd21 ct21 oc22 kV22 dc22 pm22 cd22 ct22 oc23 kV23 dc23 pm23 cd23 ct23 oc24 kV24 dc24 pm24 ct24 le24 oc25 kV25 dc25 pm25 cd25 ct25 oc26 kV26 dc26 pm26 cd26 ct26 oc27 kV27 dc27 pm27 cd27 ct27 : Value} {xnm_NoPlace xq_NoPlace : Str} {xN_NoPlace : Addr} {xbs_NoPlace : List Value} {xsn_NoPlace : List Str} {xsub_NoPlace : List Value} {xab_NoPlace : Bool} {xcol_NoPlace : Option Bool} {xdd_NoPlace : Option Addr} {x0_NoPlace x1_NoPlace x2_NoPlace x3_NoPlace x5_NoPlace : Option Value} {t_DIGITS t_KEPT t_LETTERS t_MOST_LETTERS t_MOST_SIGNS t_PLACE t_REMARK t_SECTION : Tok} {lv24 : Array Value}
    (a1 : PySem.W.nsIn K mainGlobals "_law_bag" = some (some (.ref f_L_law_bag)))
    (l1 : K.lookup f_L_law_bag = some ⟨oc1, od1, .func (PySem.W.fnOf "_law_bag" "_law_bag" (defArgs s_L_law_bag) (defBody s_L_law_bag) (defScope s_L_law_bag) .none kV1 dc1 pm1 an1 cd1 ct1), sl1⟩)
    (c1 : PySem.W.codeIn K cd1 "_law_bag" = true)
    (k1 : PySem.W.keepIn K (.ref f_L_law_bag) = true)
    (a2 : PySem.W.nsIn K mainGlobals "_law_take" = some (some (.ref f_L_law_take)))
    (l2 : K.lookup f_L_law_take = some ⟨oc2, od2, .func (PySem.W.fnOf "_law_take" "_law_take" (defArgs s_L_law_take) (defBody s_L_law_take) (defScope s_L_law_take) .none kV2 dc2 pm2 an2 cd2 ct2), sl2⟩)
    (c2 : PySem.W.codeIn K cd2 "_law_take" = true)
    (k2 : PySem.W.keepIn K (.ref f_L_law_take) = true)
    (a3 : PySem.W.nsIn K mainGlobals "_law_of" = some (some (.ref f_L_law_of)))
    (l3 : K.lookup f_L_law_of = some ⟨oc3, od3, .func (PySem.W.fnOf "_law_of" "_law_of" (defArgs s_L_law_of) (defBody s_L_law_of) (defScope s_L_law_of) .none kV3 dc3 pm3 an3 cd3 ct3), sl3⟩)
    (c3 : PySem.W.codeIn K cd3 "_law_of" = true)
    (k3 : PySem.W.keepIn K (.ref f_L_law_of) = true)
    (a4 : PySem.W.findIn K (.ref C_Reader) "__init__" = some (some (.ref f_Reader_init)))
    (i4 : PySem.W.isFn K (.ref f_Reader_init) = true)
    (l4 : K.lookup f_Reader_init = some ⟨oc4, od4, .func (PySem.W.fnOf "__init__" "Reader.__init__" (defArgs s_Reader_init) (defBody s_Reader_init) (defScope s_Reader_init) .none kV4 dc4 pm4 an4 cd4 ct4), sl4⟩)
    (c4 : PySem.W.codeIn K cd4 "Reader.__init__" = true)
    (k4 : PySem.W.keepIn K (.ref f_Reader_init) = true)
    (a5 : PySem.W.nsIn K mainGlobals "lines_of" = some (some (.ref f_lines_of)))
    (l5 : K.lookup f_lines_of = some ⟨oc5, od5, .func (PySem.W.fnOf "lines_of" "lines_of" (defArgs s_lines_of) (defBody s_lines_of) (defScope s_lines_of) .none kV5 dc5 pm5 an5 cd5 ct5), sl5⟩)
    (c5 : PySem.W.codeIn K cd5 "lines_of" = true)
    (k5 : PySem.W.keepIn K (.ref f_lines_of) = true)
    (a6 : PySem.W.nsIn K mainGlobals "is_made_of" = some (some (.ref f_is_made_of)))
    (l6 : K.lookup f_is_made_of = some ⟨oc6, od6, .func (PySem.W.fnOf "is_made_of" "is_made_of" (defArgs s_is_made_of) (defBody s_is_made_of) (defScope s_is_made_of) .none kV6 dc6 pm6 an6 cd6 ct6), sl6⟩)
    (c6 : PySem.W.codeIn K cd6 "is_made_of" = true)
    (k6 : PySem.W.keepIn K (.ref f_is_made_of) = true)
    (a7 : PySem.W.nsIn K mainGlobals "is_number" = some (some (.ref f_is_number)))
    (l7 : K.lookup f_is_number = some ⟨oc7, od7, .func (PySem.W.fnOf "is_number" "is_number" (defArgs s_is_number) (defBody s_is_number) (defScope s_is_number) .none kV7 dc7 pm7 an7 cd7 ct7), sl7⟩)
    (c7 : PySem.W.codeIn K cd7 "is_number" = true)
    (k7 : PySem.W.keepIn K (.ref f_is_number) = true)
    (a8 : PySem.W.nsIn K mainGlobals "is_name" = some (some (.ref f_is_name)))
    (l8 : K.lookup f_is_name = some ⟨oc8, od8, .func (PySem.W.fnOf "is_name" "is_name" (defArgs s_is_name) (defBody s_is_name) (defScope s_is_name) .none kV8 dc8 pm8 an8 cd8 ct8), sl8⟩)
    (c8 : PySem.W.codeIn K cd8 "is_name" = true)
    (k8 : PySem.W.keepIn K (.ref f_is_name) = true)
    (a9 : PySem.W.nsIn K mainGlobals "is_place" = some (some (.ref f_is_place)))
    (l9 : K.lookup f_is_place = some ⟨oc9, od9, .func (PySem.W.fnOf "is_place" "is_place" (defArgs s_is_place) (defBody s_is_place) (defScope s_is_place) .none kV9 dc9 pm9 an9 cd9 ct9), sl9⟩)
    (c9 : PySem.W.codeIn K cd9 "is_place" = true)
    (k9 : PySem.W.keepIn K (.ref f_is_place) = true)
    (a10 : PySem.W.nsIn K mainGlobals "is_value" = some (some (.ref f_is_value)))
    (l10 : K.lookup f_is_value = some ⟨oc10, od10, .func (PySem.W.fnOf "is_value" "is_value" (defArgs s_is_value) (defBody s_is_value) (defScope s_is_value) .none kV10 dc10 pm10 an10 cd10 ct10), sl10⟩)
    (c10 : PySem.W.codeIn K cd10 "is_value" = true)
    (k10 : PySem.W.keepIn K (.ref f_is_value) = true)
    (a11 : PySem.W.nsIn K mainGlobals "kept_in" = some (some (.ref f_kept_in)))
    (l11 : K.lookup f_kept_in = some ⟨oc11, od11, .func (PySem.W.fnOf "kept_in" "kept_in" (defArgs s_kept_in) (defBody s_kept_in) (defScope s_kept_in) .none kV11 dc11 pm11 an11 cd11 ct11), sl11⟩)
    (c11 : PySem.W.codeIn K cd11 "kept_in" = true)
    (k11 : PySem.W.keepIn K (.ref f_kept_in) = true)
    (a12 : PySem.W.findIn K (.ref C_Reader) "put" = some (some (.ref f_Reader_put)))
    (i12 : PySem.W.isFn K (.ref f_Reader_put) = true)
    (l12 : K.lookup f_Reader_put = some ⟨oc12, od12, .func (PySem.W.fnOf "put" "Reader.put" (defArgs s_Reader_put) (defBody s_Reader_put) (defScope s_Reader_put) .none kV12 dc12 pm12 an12 cd12 ct12), sl12⟩)
    (c12 : PySem.W.codeIn K cd12 "Reader.put" = true)
    (k12 : PySem.W.keepIn K (.ref f_Reader_put) = true)
    (a13 : PySem.W.findIn K (.ref C_Reader) "take_kept" = some (some (.ref f_Reader_take_kept)))
    (i13 : PySem.W.isFn K (.ref f_Reader_take_kept) = true)
    (l13 : K.lookup f_Reader_take_kept = some ⟨oc13, od13, .func (PySem.W.fnOf "take_kept" "Reader.take_kept" (defArgs s_Reader_take_kept) (defBody s_Reader_take_kept) (defScope s_Reader_take_kept) .none kV13 dc13 pm13 an13 cd13 ct13), sl13⟩)
    (c13 : PySem.W.codeIn K cd13 "Reader.take_kept" = true)
    (k13 : PySem.W.keepIn K (.ref f_Reader_take_kept) = true)
    (a14 : PySem.W.nsIn K mainGlobals "section_in" = some (some (.ref f_section_in)))
    (l14 : K.lookup f_section_in = some ⟨oc14, od14, .func (PySem.W.fnOf "section_in" "section_in" (defArgs s_section_in) (defBody s_section_in) (defScope s_section_in) .none kV14 dc14 pm14 an14 cd14 ct14), sl14⟩)
    (c14 : PySem.W.codeIn K cd14 "section_in" = true)
    (k14 : PySem.W.keepIn K (.ref f_section_in) = true)
    (a15 : PySem.W.nsIn K mainGlobals "setting_in" = some (some (.ref f_setting_in)))
    (l15 : K.lookup f_setting_in = some ⟨oc15, od15, .func (PySem.W.fnOf "setting_in" "setting_in" (defArgs s_setting_in) (defBody s_setting_in) (defScope s_setting_in) .none kV15 dc15 pm15 an15 cd15 ct15), sl15⟩)
    (c15 : PySem.W.codeIn K cd15 "setting_in" = true)
    (k15 : PySem.W.keepIn K (.ref f_setting_in) = true)
    (a16 : PySem.W.findIn K (.ref C_Reader) "take_setting" = some (some (.ref f_Reader_take_setting)))
    (i16 : PySem.W.isFn K (.ref f_Reader_take_setting) = true)
    (l16 : K.lookup f_Reader_take_setting = some ⟨oc16, od16, .func (PySem.W.fnOf "take_setting" "Reader.take_setting" (defArgs s_Reader_take_setting) (defBody s_Reader_take_setting) (defScope s_Reader_take_setting) .none kV16 dc16 pm16 an16 cd16 ct16), sl16⟩)
    (c16 : PySem.W.codeIn K cd16 "Reader.take_setting" = true)
    (k16 : PySem.W.keepIn K (.ref f_Reader_take_setting) = true)
    (a17 : PySem.W.findIn K (.ref C_Reader) "take" = some (some (.ref f_Reader_take)))
    (i17 : PySem.W.isFn K (.ref f_Reader_take) = true)
    (l17 : K.lookup f_Reader_take = some ⟨oc17, od17, .func (PySem.W.fnOf "take" "Reader.take" (defArgs s_Reader_take) (defBody s_Reader_take) (defScope s_Reader_take) .none kV17 dc17 pm17 an17 cd17 ct17), sl17⟩)
    (c17 : PySem.W.codeIn K cd17 "Reader.take" = true)
    (k17 : PySem.W.keepIn K (.ref f_Reader_take) = true)
    (a18 : PySem.W.nsIn K mainGlobals "parts_of" = some (some (.ref f_parts_of)))
    (l18 : K.lookup f_parts_of = some ⟨oc18, od18, .func (PySem.W.fnOf "parts_of" "parts_of" (defArgs s_parts_of) (defBody s_parts_of) (defScope s_parts_of) .none kV18 dc18 pm18 an18 cd18 ct18), sl18⟩)
    (c18 : PySem.W.codeIn K cd18 "parts_of" = true)
    (k18 : PySem.W.keepIn K (.ref f_parts_of) = true)
    (a19 : PySem.W.findIn K (.ref C_SettingsFile) "__init__" = some (some (.ref f_SettingsFile_init)))
    (i19 : PySem.W.isFn K (.ref f_SettingsFile_init) = true)
    (l19 : K.lookup f_SettingsFile_init = some ⟨oc19, od19, .func (PySem.W.fnOf "__init__" "SettingsFile.__init__" (defArgs s_SettingsFile_init) (defBody s_SettingsFile_init) (defScope s_SettingsFile_init) .none kV19 dc19 pm19 an19 cd19 ct19), sl19⟩)
    (c19 : PySem.W.codeIn K cd19 "SettingsFile.__init__" = true)
    (k19 : PySem.W.keepIn K (.ref f_SettingsFile_init) = true)
    (a20 : PySem.W.nsIn K mainGlobals "_law_object" = some (some (.ref f_L_law_object)))
    (l20 : K.lookup f_L_law_object = some ⟨oc20, od20, .func (PySem.W.fnOf "_law_object" "_law_object" (defArgs s_L_law_object) (defBody s_L_law_object) (defScope s_L_law_object) .none kV20 dc20 pm20 an20 cd20 ct20), sl20⟩)
    (c20 : PySem.W.codeIn K cd20 "_law_object" = true)
    (k20 : PySem.W.keepIn K (.ref f_L_law_object) = true)
    (a21 : PySem.W.findIn K (.ref C_SettingsFile) "value" = some (some (.ref f_SettingsFile_value)))
    (i21 : PySem.W.isFn K (.ref f_SettingsFile_value) = true)
    (l21 : K.lookup f_SettingsFile_value = some ⟨oc21, od21, .func (PySem.W.fnOf "value" "SettingsFile.value" (defArgs s_SettingsFile_value) (defBody s_SettingsFile_value) (defScope s_SettingsFile_value) .none kV21 dc21 pm21 an21 cd21 ct21), sl21⟩)
    (c21 : PySem.W.codeIn K cd21 "SettingsFile.value" = true)
    (k21 : PySem.W.keepIn K (.ref f_SettingsFile_value) = true)
    (a22 : PySem.W.findIn K (.ref C_SettingsFile) "__contains__" = some (some (.ref f_SettingsFile___contains__)))
    (i22 : PySem.W.isFn K (.ref f_SettingsFile___contains__) = true)
    (l22 : K.lookup f_SettingsFile___contains__ = some ⟨oc22, od22, .func (PySem.W.fnOf "__contains__" "SettingsFile.__contains__" (defArgs s_SettingsFile___contains__) (defBody s_SettingsFile___contains__) (defScope s_SettingsFile___contains__) .none kV22 dc22 pm22 an22 cd22 ct22), sl22⟩)
    (c22 : PySem.W.codeIn K cd22 "SettingsFile.__contains__" = true)
    (k22 : PySem.W.keepIn K (.ref f_SettingsFile___contains__) = true)
    (a23 : PySem.W.findIn K (.ref C_SettingsFile) "block" = some (some (.ref f_SettingsFile_block)))
    (i23 : PySem.W.isFn K (.ref f_SettingsFile_block) = true)
    (l23 : K.lookup f_SettingsFile_block = some ⟨oc23, od23, .func (PySem.W.fnOf "block" "SettingsFile.block" (defArgs s_SettingsFile_block) (defBody s_SettingsFile_block) (defScope s_SettingsFile_block) .none kV23 dc23 pm23 an23 cd23 ct23), sl23⟩)
    (c23 : PySem.W.codeIn K cd23 "SettingsFile.block" = true)
    (k23 : PySem.W.keepIn K (.ref f_SettingsFile_block) = true)
    (a24 : PySem.W.nsIn K mainGlobals "_law_is_right" = some (some (.ref f_L_law_is_right)))
    (l24 : K.lookup f_L_law_is_right = some ⟨oc24, od24, .func (PySem.W.fnOf "_law_is_right" "_law_is_right" (defArgs s_L_law_is_right) (defBody s_L_law_is_right) (defScope s_L_law_is_right) .none kV24 dc24 pm24 an24 (.ref c_L_law_is_right) ct24), sl24⟩)
    (c24 : PySem.W.codeIn K (.ref c_L_law_is_right) "_law_is_right" = true)
    (lc_L_law_is_right : K.lookup c_L_law_is_right = some ⟨le24, ld24, .fields lv24, ls24⟩)
    (lp_L_law_is_right : lv24[11]? = some (.ref P_L_law_is_right))
    (ln_L_law_is_right : K.lookup P_L_law_is_right = none)
    (lr_L_law_is_right : PySem.W.codeHdIn K c_L_law_is_right P_L_law_is_right = true)
    (lt_L_law_is_right : P_L_law_is_right ∈ ts)
    (k24 : PySem.W.keepIn K (.ref f_L_law_is_right) = true)
    (a25 : PySem.W.nsIn K mainGlobals "law" = some (some (.ref f_law)))
    (l25 : K.lookup f_law = some ⟨oc25, od25, .func (PySem.W.fnOf "law" "law" (defArgs s_law) (defBody s_law) (defScope s_law) .none kV25 dc25 pm25 an25 cd25 ct25), sl25⟩)
    (c25 : PySem.W.codeIn K cd25 "law" = true)
    (k25 : PySem.W.keepIn K (.ref f_law) = true)
    (a26 : PySem.W.nsIn K mainGlobals "_law_raised" = some (some (.ref f_L_law_raised)))
    (l26 : K.lookup f_L_law_raised = some ⟨oc26, od26, .func (PySem.W.fnOf "_law_raised" "_law_raised" (defArgs s_L_law_raised) (defBody s_L_law_raised) (defScope s_L_law_raised) .none kV26 dc26 pm26 an26 cd26 ct26), sl26⟩)
    (c26 : PySem.W.codeIn K cd26 "_law_raised" = true)
    (k26 : PySem.W.keepIn K (.ref f_L_law_raised) = true)
    (xL_NoPlace : K.lookup C_NoPlace = some (excClassObj xnm_NoPlace xq_NoPlace C_NoPlace xN_NoPlace xbs_NoPlace [.type "LookupError", .type "Exception", .type "BaseException", .type "object"] true xsn_NoPlace xsub_NoPlace xab_NoPlace xcol_NoPlace xdd_NoPlace x0_NoPlace x1_NoPlace x2_NoPlace x3_NoPlace x5_NoPlace "LookupError.__new__"))
    (xs_NoPlace : PySem.W.findIn K (.ref C_NoPlace) "__setattr__" = some (some (.builtin "object.__setattr__")))
    (xg_NoPlace : PySem.W.findIn K (.ref C_NoPlace) "__getattribute__" = some (some (.builtin "BaseException.__getattribute__")))
    (xgg_NoPlace : PySem.W.findIn K (.ref C_NoPlace) "__getattr__" = some none)
    (xa_NoPlace : PySem.W.findIn K (.ref C_NoPlace) "__init__" = some (some (.ref f_NoPlace_init)))
    (xty_NoPlace : PySem.W.typeIn K (.ref f_NoPlace_init) = some (.type "function"))
    (xno_NoPlace_place : PySem.W.findIn K (.ref C_NoPlace) "place" = some none)
    (xe_NoPlace : PySem.W.subIn K (.ref C_NoPlace) (.type "BaseException") = some true)
    (xtc_NoPlace : PySem.W.typeIn K (.ref C_NoPlace) = some (.type "type"))
    (xk_NoPlace : PySem.W.keepIn K (.ref C_NoPlace) = true)
    (xh_NoPlace : PySem.W.hasDictIn K C_NoPlace = true)
    (xl_NoPlace : K.lookup f_NoPlace_init = some ⟨oc27, od27, .func (PySem.W.fnOf "__init__" "NoPlace.__init__" (defArgs s_NoPlace_init) (defBody s_NoPlace_init) (defScope s_NoPlace_init) .none kV27 dc27 pm27 an27 cd27 ct27), sl27⟩)
    (xc_NoPlace : PySem.W.codeIn K cd27 "NoPlace.__init__" = true)
    (xkf_NoPlace : PySem.W.keepIn K (.ref f_NoPlace_init) = true)
    (z_LookupError : PySem.W.nsIn K mainGlobals "LookupError" = some none)
    (z_abs : PySem.W.nsIn K mainGlobals "abs" = some none)
    (z_all : PySem.W.nsIn K mainGlobals "all" = some none)
    (z_dict : PySem.W.nsIn K mainGlobals "dict" = some none)
    (z_enumerate : PySem.W.nsIn K mainGlobals "enumerate" = some none)
    (z_int : PySem.W.nsIn K mainGlobals "int" = some none)
    (z_isinstance : PySem.W.nsIn K mainGlobals "isinstance" = some none)
    (z_len : PySem.W.nsIn K mainGlobals "len" = some none)
    (z_list : PySem.W.nsIn K mainGlobals "list" = some none)
    (z_max : PySem.W.nsIn K mainGlobals "max" = some none)
    (z_min : PySem.W.nsIn K mainGlobals "min" = some none)
    (z_range : PySem.W.nsIn K mainGlobals "range" = some none)
    (z_repr : PySem.W.nsIn K mainGlobals "repr" = some none)
    (z_str : PySem.W.nsIn K mainGlobals "str" = some none)
    (g_DIGITS : PySem.W.nsIn K mainGlobals "DIGITS" = some (some (.str "0123456789" t_DIGITS)))
    (g_KEPT : PySem.W.nsIn K mainGlobals "KEPT" = some (some (.str "kept" t_KEPT)))
    (g_LETTERS : PySem.W.nsIn K mainGlobals "LETTERS" = some (some (.str "abcdefghijklmnopqrstuvwxyz" t_LETTERS)))
    (g_MOST_LETTERS : PySem.W.nsIn K mainGlobals "MOST_LETTERS" = some (some (.int 8 t_MOST_LETTERS)))
    (g_MOST_SIGNS : PySem.W.nsIn K mainGlobals "MOST_SIGNS" = some (some (.int 12 t_MOST_SIGNS)))
    (g_PLACE : PySem.W.nsIn K mainGlobals "PLACE" = some (some (.str "place" t_PLACE)))
    (g_REMARK : PySem.W.nsIn K mainGlobals "REMARK" = some (some (.str "remark" t_REMARK)))
    (g_SECTION : PySem.W.nsIn K mainGlobals "SECTION" = some (some (.str "section" t_SECTION)))
    (aC_Reader : PySem.W.nsIn K mainGlobals "Reader" = some (some (.ref C_Reader)))
    (pg_Reader : PySem.W.plainGet K C_Reader Str.empty = true)
    (hd_Reader : PySem.W.hasDictIn K C_Reader = true)
    (po_Reader : PySem.W.plainOver K C_Reader = true)
    (sa_Reader : PySem.W.findIn K (.ref C_Reader) "__setattr__" = some (some (.builtin "object.__setattr__")))
    (aC_SettingsFile : PySem.W.nsIn K mainGlobals "SettingsFile" = some (some (.ref C_SettingsFile)))
    (pg_SettingsFile : PySem.W.plainGet K C_SettingsFile Str.empty = true)
    (hd_SettingsFile : PySem.W.hasDictIn K C_SettingsFile = true)
    (po_SettingsFile : PySem.W.plainOver K C_SettingsFile = true)
    (sa_SettingsFile : PySem.W.findIn K (.ref C_SettingsFile) "__setattr__" = some (some (.builtin "object.__setattr__")))
    (mk_Reader : PySem.W.makesIn K C_Reader = true)
    (kc_Reader : PySem.W.keepIn K (.ref C_Reader) = true)
    (mk_SettingsFile : PySem.W.makesIn K C_SettingsFile = true)
    (kc_SettingsFile : PySem.W.keepIn K (.ref C_SettingsFile) = true)
    (nf_all_parts_SettingsFile : PySem.W.findIn K (.ref C_SettingsFile) "all_parts" = some none)
    (nf_met_Reader : PySem.W.findIn K (.ref C_Reader) "met" = some none)
    (nf_parts_Reader : PySem.W.findIn K (.ref C_Reader) "parts" = some none)
    (nf_parts_SettingsFile : PySem.W.findIn K (.ref C_SettingsFile) "parts" = some none)
    (nf_section_Reader : PySem.W.findIn K (.ref C_Reader) "section" = some none)
    (nf_settings_read_SettingsFile : PySem.W.findIn K (.ref C_SettingsFile) "settings_read" = some none)
    (nf_whole_SettingsFile : PySem.W.findIn K (.ref C_SettingsFile) "whole" = some none)
    (aC_BadText : PySem.W.nsIn K mainGlobals "BadText" = some (some (.ref C_BadText)))
    (aC_NoChain : PySem.W.nsIn K mainGlobals "NoChain" = some (some (.ref C_NoChain)))
    (aC_NoPlace : PySem.W.nsIn K mainGlobals "NoPlace" = some (some (.ref C_NoPlace)))
    (aC_NoSlot : PySem.W.nsIn K mainGlobals "NoSlot" = some (some (.ref C_NoSlot)))
    (xca_NoPlace : PySem.W.findIn K (.ref C_NoPlace) "__class__" = some (some (.builtin "object.__class__")))
    (xcn : PySem.W.specialIn K (.builtin "object.__class__") "__get__" = some (some (.builtin "getset_descriptor.__get__")))
    (xct : PySem.W.takesIn K (.builtin "object.__class__") = some true)
    (xcm_NoPlace : PySem.W.mroIn K C_NoPlace (.type "object") = some true)
    (xka_NoPlace : PySem.W.kitAny K (.ref C_NoPlace) [.ref C_NoSlot, .ref C_NoChain, .ref C_BadText] = some false)
    (xko_NoPlace : PySem.W.kitOne K (.ref C_NoPlace) (.type "LookupError") = some true)
    (xem_NoPlace : PySem.W.exmOne K (.ref C_NoPlace) (.ref C_NoPlace) = some true)
    (hND : [P_L_law_is_right].Nodup) :
    ∃ (fd : FuncData) (cs : List (Addr × Addr)) (sp : Sp), (∀ (s : Shared) (u : Value), BindsTo s fd { pos := [u] } [("_law_script", u)]) ∧ (∀ p ∈ cs, h.get? p.2 = some (PySem.W.tabObj #[]) ∧ PySem.W.CodeHd h p.1 p.2 ∧ K.lookup p.2 = none) ∧
      (∀ (H : Hp) (a : Addr) (ns : List Int), ns.length ≤ 63 → (∀ b o, H b = some o → (∀ ps, o ≠ .tbl ps) → ∃ ob xs, o = .frz ob (.lst xs)) → (∀ p ∈ cs, H p.2 = some (.tbl #[])) → SqL K H a (ns.map V.int) → sp [.ref a] H (fun v _ => v = .bl true) fun _ _ _ => False) ∧
      ∀ base : Heap, PySem.W.Frag.In K base → base.Ns mainGlobals mg → (∀ p ∈ cs, LamX.TabB base mg p.1 p.2) → FnG l.prog w K mg base 8 fa fd ["_law_script"] sp := by
  have e := hfa.symm.trans (PySem.W.mg_of X G a25)
  cases e
  have KK : Kx K ⟨C_Reader, C_SettingsFile, C_BadText, C_NoChain, C_NoPlace, C_NoSlot, f_L_law_bag, f_L_law_take, f_L_law_of, f_Reader_init, f_lines_of, f_is_made_of, f_is_number, f_is_name, f_is_place, f_is_value, f_kept_in, f_Reader_put, f_Reader_take_kept, f_section_in, f_setting_in, f_Reader_take_setting, f_Reader_take, f_parts_of, f_SettingsFile_init, f_L_law_object, f_SettingsFile_value, f_SettingsFile___contains__, f_SettingsFile_block, f_L_law_is_right, fa, f_NoPlace_init, f_L_law_raised, c_L_law_is_right, P_L_law_is_right⟩ := ⟨trivial, xka_NoPlace, xko_NoPlace, xem_NoPlace⟩
  refine ⟨PySem.W.fnOf "law" "law" (defArgs s_law) (defBody s_law) (defScope s_law) .none kV25 dc25 pm25 an25 cd25 ct25, [(c_L_law_is_right, P_L_law_is_right)], spM K 1 (m_law K ⟨C_Reader, C_SettingsFile, C_BadText, C_NoChain, C_NoPlace, C_NoSlot, f_L_law_bag, f_L_law_take, f_L_law_of, f_Reader_init, f_lines_of, f_is_made_of, f_is_number, f_is_name, f_is_place, f_is_value, f_kept_in, f_Reader_put, f_Reader_take_kept, f_section_in, f_setting_in, f_Reader_take_setting, f_Reader_take, f_parts_of, f_SettingsFile_init, f_L_law_object, f_SettingsFile_value, f_SettingsFile___contains__, f_SettingsFile_block, f_L_law_is_right, fa, f_NoPlace_init, f_L_law_raised, c_L_law_is_right, P_L_law_is_right⟩), fun s v => .of_eq rfl, ?_, ?_, ?_⟩
  · intro p hp
    simp only [List.mem_cons, List.not_mem_nil, or_false] at hp
    rcases hp with rfl
    · exact ⟨hTab _ lt_L_law_is_right, PySem.W.codeHd_of_K X lr_L_law_is_right, ln_L_law_is_right⟩
  · intro H a ns hl hO hT hS
    exact law_spT (T := Ad.tabs ⟨C_Reader, C_SettingsFile, C_BadText, C_NoChain, C_NoPlace, C_NoSlot, f_L_law_bag, f_L_law_take, f_L_law_of, f_Reader_init, f_lines_of, f_is_made_of, f_is_number, f_is_name, f_is_place, f_is_value, f_kept_in, f_Reader_put, f_Reader_take_kept, f_section_in, f_setting_in, f_Reader_take_setting, f_Reader_take, f_parts_of, f_SettingsFile_init, f_L_law_object, f_SettingsFile_value, f_SettingsFile___contains__, f_SettingsFile_block, f_L_law_is_right, fa, f_NoPlace_init, f_L_law_raised, c_L_law_is_right, P_L_law_is_right⟩) (by unfold Ad.tabs; exact hND) (ok K ⟨C_Reader, C_SettingsFile, C_BadText, C_NoChain, C_NoPlace, C_NoSlot, f_L_law_bag, f_L_law_take, f_L_law_of, f_Reader_init, f_lines_of, f_is_made_of, f_is_number, f_is_name, f_is_place, f_is_value, f_kept_in, f_Reader_put, f_Reader_take_kept, f_section_in, f_setting_in, f_Reader_take_setting, f_Reader_take, f_parts_of, f_SettingsFile_init, f_L_law_object, f_SettingsFile_value, f_SettingsFile___contains__, f_SettingsFile_block, f_L_law_is_right, fa, f_NoPlace_init, f_L_law_raised, c_L_law_is_right, P_L_law_is_right⟩ KK ns hl) hO (fun p hp => by
      unfold Ad.tabs at hp
      simp only [List.mem_cons, List.not_mem_nil, or_false] at hp
      rcases hp with rfl
      · exact hT _ (.head _)) hS
  · intro base _ _ hTB
    have T : Tx K mg base ⟨C_Reader, C_SettingsFile, C_BadText, C_NoChain, C_NoPlace, C_NoSlot, f_L_law_bag, f_L_law_take, f_L_law_of, f_Reader_init, f_lines_of, f_is_made_of, f_is_number, f_is_name, f_is_place, f_is_value, f_kept_in, f_Reader_put, f_Reader_take_kept, f_section_in, f_setting_in, f_Reader_take_setting, f_Reader_take, f_parts_of, f_SettingsFile_init, f_L_law_object, f_SettingsFile_value, f_SettingsFile___contains__, f_SettingsFile_block, f_L_law_is_right, fa, f_NoPlace_init, f_L_law_raised, c_L_law_is_right, P_L_law_is_right⟩ := by
      refine ⟨?_, ?_, ?_, ?_, ?_, ?_, ?_, ?_, ?_, ?_, ?_, ?_, ?_, ?_, ?_, ?_, ?_, ?_, ?_, ?_, ?_, ?_, ?_, ?_, ?_, ?_, ?_, ?_, ?_, ?_, ?_, ?_, ?_, ?_, ?_, ?_, ?_, ?_, ?_, ?_, ?_, ?_, ?_, ?_, ?_, ?_, ?_, ?_, ?_, ?_, ?_, ?_, ?_, ?_, ?_, ?_, ?_, ?_, ?_, ?_, ?_, ?_, ?_, ?_, ?_, ?_, ?_, ?_, ?_, ?_, ?_, ?_, ?_, ?_, ?_, ?_, ?_, ?_, ?_, ?_, ?_, ?_, ?_, ?_, ?_, ?_, ?_, ?_, ?_, ?_, ?_, ?_, ?_, ?_, ?_, ?_, ?_, ?_, ?_, ?_, ?_, ?_, ?_, ?_, ?_, ?_, ?_, ?_, ?_, ?_, ?_, ?_⟩
      · exact PySem.W.mg_none_of X G z_LookupError
      · exact PySem.W.mg_none_of X G z_abs
      · exact PySem.W.mg_none_of X G z_all
      · exact PySem.W.mg_none_of X G z_dict
      · exact PySem.W.mg_none_of X G z_enumerate
      · exact PySem.W.mg_none_of X G z_int
      · exact PySem.W.mg_none_of X G z_isinstance
      · exact PySem.W.mg_none_of X G z_len
      · exact PySem.W.mg_none_of X G z_list
      · exact PySem.W.mg_none_of X G z_max
      · exact PySem.W.mg_none_of X G z_min
      · exact PySem.W.mg_none_of X G z_range
      · exact PySem.W.mg_none_of X G z_repr
      · exact PySem.W.mg_none_of X G z_str
      · exact ⟨_, PySem.W.mg_of X G g_DIGITS, _, rfl⟩
      · exact ⟨_, PySem.W.mg_of X G g_KEPT, _, rfl⟩
      · exact ⟨_, PySem.W.mg_of X G g_LETTERS, _, rfl⟩
      · exact ⟨_, PySem.W.mg_of X G g_MOST_LETTERS, _, rfl⟩
      · exact ⟨_, PySem.W.mg_of X G g_MOST_SIGNS, _, rfl⟩
      · exact ⟨_, PySem.W.mg_of X G g_PLACE, _, rfl⟩
      · exact ⟨_, PySem.W.mg_of X G g_REMARK, _, rfl⟩
      · exact ⟨_, PySem.W.mg_of X G g_SECTION, _, rfl⟩
      · exact PySem.W.mg_of X G aC_Reader
      · exact ⟨pg_Reader, hd_Reader, po_Reader, sa_Reader⟩
      · exact PySem.W.mg_of X G aC_SettingsFile
      · exact ⟨pg_SettingsFile, hd_SettingsFile, po_SettingsFile, sa_SettingsFile⟩
      · exact ⟨mk_Reader, a4, i4, kc_Reader⟩
      · exact ⟨mk_SettingsFile, a19, i19, kc_SettingsFile⟩
      · exact ⟨a12, i12, k12⟩
      · exact ⟨a17, i17, k17⟩
      · exact ⟨a13, i13, k13⟩
      · exact ⟨a16, i16, k16⟩
      · exact ⟨a22, i22, k22⟩
      · exact ⟨a23, i23, k23⟩
      · exact ⟨a21, i21, k21⟩
      · exact fun C hC => by
          simp only [List.mem_cons, List.not_mem_nil, or_false] at hC
          rcases hC with rfl
          · exact ⟨⟨pg_SettingsFile, hd_SettingsFile, po_SettingsFile, sa_SettingsFile⟩, nf_all_parts_SettingsFile⟩
      · exact fun C hC => by
          simp only [List.mem_cons, List.not_mem_nil, or_false] at hC
          rcases hC with rfl
          · exact ⟨⟨pg_Reader, hd_Reader, po_Reader, sa_Reader⟩, nf_met_Reader⟩
      · exact fun C hC => by
          simp only [List.mem_cons, List.not_mem_nil, or_false] at hC
          rcases hC with rfl
          · exact ⟨⟨pg_Reader, hd_Reader, po_Reader, sa_Reader⟩, nf_parts_Reader⟩
      · exact fun C hC => by
          simp only [List.mem_cons, List.not_mem_nil, or_false] at hC
          rcases hC with rfl
          · exact ⟨⟨pg_SettingsFile, hd_SettingsFile, po_SettingsFile, sa_SettingsFile⟩, nf_parts_SettingsFile⟩
      · exact fun C hC => by
          simp only [List.mem_cons, List.not_mem_nil, or_false] at hC
          rcases hC with rfl
          · exact ⟨⟨pg_Reader, hd_Reader, po_Reader, sa_Reader⟩, nf_section_Reader⟩
      · exact fun C hC => by
          simp only [List.mem_cons, List.not_mem_nil, or_false] at hC
          rcases hC with rfl
          · exact ⟨⟨pg_SettingsFile, hd_SettingsFile, po_SettingsFile, sa_SettingsFile⟩, nf_settings_read_SettingsFile⟩
      · exact fun C hC => by
          simp only [List.mem_cons, List.not_mem_nil, or_false] at hC
          rcases hC with rfl
          · exact ⟨⟨pg_SettingsFile, hd_SettingsFile, po_SettingsFile, sa_SettingsFile⟩, nf_whole_SettingsFile⟩
      · exact PySem.W.mg_of X G a1
      · exact k1
      · exact ⟨_, fun_mk (st := s_L_law_bag) l1 c1 k1⟩
      · exact PySem.W.mg_of X G a2
      · exact k2
      · exact ⟨_, fun_mk (st := s_L_law_take) l2 c2 k2⟩
      · exact PySem.W.mg_of X G a3
      · exact k3
      · exact ⟨_, fun_mk (st := s_L_law_of) l3 c3 k3⟩
      · exact ⟨_, fun_mk (st := s_Reader_init) l4 c4 k4⟩
      · exact PySem.W.mg_of X G a5
      · exact k5
      · exact ⟨_, fun_mk (st := s_lines_of) l5 c5 k5⟩
      · exact PySem.W.mg_of X G a6
      · exact k6
      · exact ⟨_, fun_mk (st := s_is_made_of) l6 c6 k6⟩
      · exact PySem.W.mg_of X G a7
      · exact k7
      · exact ⟨_, fun_mk (st := s_is_number) l7 c7 k7⟩
      · exact PySem.W.mg_of X G a8
      · exact k8
      · exact ⟨_, fun_mk (st := s_is_name) l8 c8 k8⟩
      · exact PySem.W.mg_of X G a9
      · exact k9
      · exact ⟨_, fun_mk (st := s_is_place) l9 c9 k9⟩
      · exact PySem.W.mg_of X G a10
      · exact k10
      · exact ⟨_, fun_mk (st := s_is_value) l10 c10 k10⟩
      · exact PySem.W.mg_of X G a11
      · exact k11
      · exact ⟨_, fun_mk (st := s_kept_in) l11 c11 k11⟩
      · exact ⟨_, fun_mk (st := s_Reader_put) l12 c12 k12⟩
      · exact ⟨_, fun_mk (st := s_Reader_take_kept) l13 c13 k13⟩
      · exact PySem.W.mg_of X G a14
      · exact k14
      · exact ⟨_, fun_mk (st := s_section_in) l14 c14 k14⟩
      · exact PySem.W.mg_of X G a15
      · exact k15
      · exact ⟨_, fun_mk (st := s_setting_in) l15 c15 k15⟩
      · exact ⟨_, fun_mk (st := s_Reader_take_setting) l16 c16 k16⟩
      · exact ⟨_, fun_mk (st := s_Reader_take) l17 c17 k17⟩
      · exact PySem.W.mg_of X G a18
      · exact k18
      · exact ⟨_, fun_mk (st := s_parts_of) l18 c18 k18⟩
      · exact ⟨_, fun_mk (st := s_SettingsFile_init) l19 c19 k19⟩
      · exact PySem.W.mg_of X G a20
      · exact k20
      · exact ⟨_, fun_mk (st := s_L_law_object) l20 c20 k20⟩
      · exact ⟨_, fun_mk (st := s_SettingsFile_value) l21 c21 k21⟩
      · exact ⟨_, fun_mk (st := s_SettingsFile___contains__) l22 c22 k22⟩
      · exact ⟨_, fun_mk (st := s_SettingsFile_block) l23 c23 k23⟩
      · exact PySem.W.mg_of X G a24
      · exact k24
      · exact ⟨_, fun_mk (st := s_L_law_is_right) l24 c24 k24, rfl⟩
      · exact hTB _ (.head _)
      · exact PySem.W.mg_of X G a26
      · exact k26
      · exact ⟨_, fun_mk (st := s_L_law_raised) l26 c26 k26⟩
      · exact PySem.W.mg_of X G aC_BadText
      · exact PySem.W.mg_of X G aC_NoChain
      · exact PySem.W.mg_of X G aC_NoPlace
      · exact PySem.W.mg_of X G aC_NoSlot
      · exact ⟨⟨_, _, _, _, _, _, _, _, _, _, _, _, _, _, _, _, _, _, PySem.F.excBase_LookupError, PySem.F.store_LookupError, xL_NoPlace⟩, xs_NoPlace, xe_NoPlace, xtc_NoPlace, xk_NoPlace⟩
      · exact ⟨xg_NoPlace, xgg_NoPlace, xe_NoPlace, xh_NoPlace⟩
      · exact xa_NoPlace
      · exact xty_NoPlace
      · exact xno_NoPlace_place
      · exact ⟨_, fun_mk (st := s_NoPlace_init) xl_NoPlace xc_NoPlace xkf_NoPlace⟩
      · exact ⟨⟨xg_NoPlace, xgg_NoPlace, xe_NoPlace, xh_NoPlace⟩, xca_NoPlace, xcn, xct, xcm_NoPlace⟩
      · exact fun C hC => absurd hC List.not_mem_nil
    exact (fn_law (fun_mk (st := s_law) l25 c25 k25) T)
end VL.K06

namespace VL.K06
open PySem PySem.Spec PyProof.Rows L2 VL
variable {K : PySem.W.Frag} {a : Ad} {st : Store}
def inS (c : Nat) (g : Str) : Bool := !(Builtin.Str.occurrences g ⟨#[c]⟩ 0 g.length 1).isEmpty
def madeOf (s g : Str) (m : Int) : Bool := decide ((1 : Int) ≤ (s.length : Nat)) && (decide (((s.length : Nat) : Int) ≤ m) && s.cps.toList.all fun c => inS c g)
theorem ev_made (h : WF st) (s g : Str) (m : Int) (hs : s.length ≤ sizeLine) : m_is_made_of K a [.d (.str s), .d (.str g), .d (.int m)] st = .ok (.d (.bl (madeOf s g m))) st := by
  have e : ∀ st : Store, WF st → c_is_made_of_1 K a [some (.d (.str s)), some (.d (.str g)), some (.d (.int m)), none] st = .ok (.d (.lst (s.cps.toList.map fun c => D.bl (inS c g)))) st := fun st h => by
    unfold c_is_made_of_1
    rw [fLc_pure (us := s.cps.toList.map fun c => .d (.str ⟨#[c]⟩)) (P := fun _ => true) (q := fun u => match u with
      | .d (.str c) => D.bl (!(Builtin.Str.occurrences g c 0 g.length 1).isEmpty)
      | _ => .non) h]
    · rw [List.filter_eq_self.mpr (fun _ _ => rfl), List.map_map]; rfl
    · simp only [fnM, sSeq, sRet, sRetN, sExpr, sIf, sNil, sNo, sAsg, tgN, bndS, bnd, vVar, vC, f2, f1, fB, pu, fN, vTup, vLst, fTup, fCons, fNil, fPure, fIf, fAnd, fOr, fNot, asB, asT, bAnd, bOr, bNot, fChain, fCall, fCW, gPos, gApp, R.of, R.of2, fM, pu4, tgT, tgCons, tgNil, unp, pureL, sPar, sPar3, fLstC, fFld, oFld, fMeth, insU, sFldS, setFld, fSl, oNone, oSome, tgSub, setU, fIter, fItN, fItS, sFor, getL, getT, VL.getD, keyD, tyB, lstC, oAdd, oSub, oMul, oFdiv, oMod, oPow, oNeg, oLt, oLe, oGt, oGe, oEq, oNe, oIsN, oNotN, oIn, oNotIn, oIx, oLen, oInt, oAbs, oMin, oMax, oStr, oList, oListC, oTuple, oAll, oAny, itemsU, lenN, truB, fJs, oFmt, List.map_cons, List.map_nil, List.length_cons, List.length_nil, List.replicate_succ, List.replicate_zero, List.cons_append, List.nil_append, List.append_nil, List.getElem?_cons_zero, List.getElem?_cons_succ, List.set_cons_zero, List.set_cons_succ, Nat.reduceAdd, Nat.reduceSub, Option.map_some, Option.map_none, if_true, if_false, ite_true, ite_false, Bool.false_eq_true, reduceCtorEq, true_and, and_true, and_self, Bool.not_true, Bool.not_false, Nat.zero_add, Option.bind_some, Option.bind_eq_bind, Option.pure_def, decide_true, decide_false, eq_self, Nat.reduceEqDiff, Nat.reduceLT, Nat.reduceLeDiff, Int.reduceLT, Int.reduceLE, Int.reduceEq, Bool.and_true, Bool.true_and, Bool.false_and, Bool.or_false, Bool.or_true, Bool.true_or, Bool.false_or, sz0, szl0, sz1, szl1, sz2, szl2, sz3, szl3, sz4, szl4, sz5, szl5, sz6, szl6, sz7, szl7, sz8, szl8, sz9, szl9, sz10, szl10, sz11, szl11, sz12, szl12, sz13, szl13, sz14, szl14, sz15, szl15, itV_str]
    · rw [List.length_map, Array.length_toList]; exact hs
    · intro u hu st' h'
      obtain ⟨c, hc, rfl⟩ := List.mem_map.mp hu
      refine ⟨_, rfl, rfl, fun _ => ?_⟩
      simp only [fnM, sSeq, sRet, sRetN, sExpr, sIf, sNil, sNo, sAsg, tgN, bndS, bnd, vVar, vC, f2, f1, fB, pu, fN, vTup, vLst, fTup, fCons, fNil, fPure, fIf, fAnd, fOr, fNot, asB, asT, bAnd, bOr, bNot, fChain, fCall, fCW, gPos, gApp, R.of, R.of2, fM, pu4, tgT, tgCons, tgNil, unp, pureL, sPar, sPar3, fLstC, fFld, oFld, fMeth, insU, sFldS, setFld, fSl, oNone, oSome, tgSub, setU, fIter, fItN, fItS, sFor, getL, getT, VL.getD, keyD, tyB, lstC, oAdd, oSub, oMul, oFdiv, oMod, oPow, oNeg, oLt, oLe, oGt, oGe, oEq, oNe, oIsN, oNotN, oIn, oNotIn, oIx, oLen, oInt, oAbs, oMin, oMax, oStr, oList, oListC, oTuple, oAll, oAny, itemsU, lenN, truB, fJs, oFmt, List.map_cons, List.map_nil, List.length_cons, List.length_nil, List.replicate_succ, List.replicate_zero, List.cons_append, List.nil_append, List.append_nil, List.getElem?_cons_zero, List.getElem?_cons_succ, List.set_cons_zero, List.set_cons_succ, Nat.reduceAdd, Nat.reduceSub, Option.map_some, Option.map_none, if_true, if_false, ite_true, ite_false, Bool.false_eq_true, reduceCtorEq, true_and, and_true, and_self, Bool.not_true, Bool.not_false, Nat.zero_add, Option.bind_some, Option.bind_eq_bind, Option.pure_def, decide_true, decide_false, eq_self, Nat.reduceEqDiff, Nat.reduceLT, Nat.reduceLeDiff, Int.reduceLT, Int.reduceLE, Int.reduceEq, Bool.and_true, Bool.true_and, Bool.false_and, Bool.or_false, Bool.or_true, Bool.true_or, Bool.false_or, sz0, szl0, sz1, szl1, sz2, szl2, sz3, szl3, sz4, szl4, sz5, szl5, sz6, szl6, sz7, szl7, sz8, szl8, sz9, szl9, sz10, szl10, sz11, szl11, sz12, szl12, sz13, szl13, sz14, szl14, sz15, szl15, wipeE, inB]
  unfold m_is_made_of g_is_made_of madeOf
  by_cases h1 : (1 : Int) ≤ (s.length : Nat)
  · by_cases h2 : ((s.length : Nat) : Int) ≤ m
    · simp only [fnM, sSeq, sRet, sRetN, sExpr, sIf, sNil, sNo, sAsg, tgN, bndS, bnd, vVar, vC, f2, f1, fB, pu, fN, vTup, vLst, fTup, fCons, fNil, fPure, fIf, fAnd, fOr, fNot, asB, asT, bAnd, bOr, bNot, fChain, fCall, fCW, gPos, gApp, R.of, R.of2, fM, pu4, tgT, tgCons, tgNil, unp, pureL, sPar, sPar3, fLstC, fFld, oFld, fMeth, insU, sFldS, setFld, fSl, oNone, oSome, tgSub, setU, fIter, fItN, fItS, sFor, getL, getT, VL.getD, keyD, tyB, lstC, oAdd, oSub, oMul, oFdiv, oMod, oPow, oNeg, oLt, oLe, oGt, oGe, oEq, oNe, oIsN, oNotN, oIn, oNotIn, oIx, oLen, oInt, oAbs, oMin, oMax, oStr, oList, oListC, oTuple, oAll, oAny, itemsU, lenN, truB, fJs, oFmt, List.map_cons, List.map_nil, List.length_cons, List.length_nil, List.replicate_succ, List.replicate_zero, List.cons_append, List.nil_append, List.append_nil, List.getElem?_cons_zero, List.getElem?_cons_succ, List.set_cons_zero, List.set_cons_succ, Nat.reduceAdd, Nat.reduceSub, Option.map_some, Option.map_none, if_true, if_false, ite_true, ite_false, Bool.false_eq_true, reduceCtorEq, true_and, and_true, and_self, Bool.not_true, Bool.not_false, Nat.zero_add, Option.bind_some, Option.bind_eq_bind, Option.pure_def, decide_true, decide_false, eq_self, Nat.reduceEqDiff, Nat.reduceLT, Nat.reduceLeDiff, Int.reduceLT, Int.reduceLE, Int.reduceEq, Bool.and_true, Bool.true_and, Bool.false_and, Bool.or_false, Bool.or_true, Bool.true_or, Bool.false_or, sz0, szl0, sz1, szl1, sz2, szl2, sz3, szl3, sz4, szl4, sz5, szl5, sz6, szl6, sz7, szl7, sz8, szl8, sz9, szl9, sz10, szl10, sz11, szl11, sz12, szl12, sz13, szl13, sz14, szl14, sz15, szl15, oIsi, tyN, isi_str, hs, e st h, decide_eq_true h1, decide_eq_true h2, List.map_map, Function.comp_def, blsU_map, wFrz_d h, Bool.true_and, List.all_map, id_eq]
    · simp only [fnM, sSeq, sRet, sRetN, sExpr, sIf, sNil, sNo, sAsg, tgN, bndS, bnd, vVar, vC, f2, f1, fB, pu, fN, vTup, vLst, fTup, fCons, fNil, fPure, fIf, fAnd, fOr, fNot, asB, asT, bAnd, bOr, bNot, fChain, fCall, fCW, gPos, gApp, R.of, R.of2, fM, pu4, tgT, tgCons, tgNil, unp, pureL, sPar, sPar3, fLstC, fFld, oFld, fMeth, insU, sFldS, setFld, fSl, oNone, oSome, tgSub, setU, fIter, fItN, fItS, sFor, getL, getT, VL.getD, keyD, tyB, lstC, oAdd, oSub, oMul, oFdiv, oMod, oPow, oNeg, oLt, oLe, oGt, oGe, oEq, oNe, oIsN, oNotN, oIn, oNotIn, oIx, oLen, oInt, oAbs, oMin, oMax, oStr, oList, oListC, oTuple, oAll, oAny, itemsU, lenN, truB, fJs, oFmt, List.map_cons, List.map_nil, List.length_cons, List.length_nil, List.replicate_succ, List.replicate_zero, List.cons_append, List.nil_append, List.append_nil, List.getElem?_cons_zero, List.getElem?_cons_succ, List.set_cons_zero, List.set_cons_succ, Nat.reduceAdd, Nat.reduceSub, Option.map_some, Option.map_none, if_true, if_false, ite_true, ite_false, Bool.false_eq_true, reduceCtorEq, true_and, and_true, and_self, Bool.not_true, Bool.not_false, Nat.zero_add, Option.bind_some, Option.bind_eq_bind, Option.pure_def, decide_true, decide_false, eq_self, Nat.reduceEqDiff, Nat.reduceLT, Nat.reduceLeDiff, Int.reduceLT, Int.reduceLE, Int.reduceEq, Bool.and_true, Bool.true_and, Bool.false_and, Bool.or_false, Bool.or_true, Bool.true_or, Bool.false_or, sz0, szl0, sz1, szl1, sz2, szl2, sz3, szl3, sz4, szl4, sz5, szl5, sz6, szl6, sz7, szl7, sz8, szl8, sz9, szl9, sz10, szl10, sz11, szl11, sz12, szl12, sz13, szl13, sz14, szl14, sz15, szl15, oIsi, tyN, isi_str, hs, decide_eq_true h1, decide_eq_false h2, wFrz_d h, Bool.false_and, Bool.and_false]
  · simp only [fnM, sSeq, sRet, sRetN, sExpr, sIf, sNil, sNo, sAsg, tgN, bndS, bnd, vVar, vC, f2, f1, fB, pu, fN, vTup, vLst, fTup, fCons, fNil, fPure, fIf, fAnd, fOr, fNot, asB, asT, bAnd, bOr, bNot, fChain, fCall, fCW, gPos, gApp, R.of, R.of2, fM, pu4, tgT, tgCons, tgNil, unp, pureL, sPar, sPar3, fLstC, fFld, oFld, fMeth, insU, sFldS, setFld, fSl, oNone, oSome, tgSub, setU, fIter, fItN, fItS, sFor, getL, getT, VL.getD, keyD, tyB, lstC, oAdd, oSub, oMul, oFdiv, oMod, oPow, oNeg, oLt, oLe, oGt, oGe, oEq, oNe, oIsN, oNotN, oIn, oNotIn, oIx, oLen, oInt, oAbs, oMin, oMax, oStr, oList, oListC, oTuple, oAll, oAny, itemsU, lenN, truB, fJs, oFmt, List.map_cons, List.map_nil, List.length_cons, List.length_nil, List.replicate_succ, List.replicate_zero, List.cons_append, List.nil_append, List.append_nil, List.getElem?_cons_zero, List.getElem?_cons_succ, List.set_cons_zero, List.set_cons_succ, Nat.reduceAdd, Nat.reduceSub, Option.map_some, Option.map_none, if_true, if_false, ite_true, ite_false, Bool.false_eq_true, reduceCtorEq, true_and, and_true, and_self, Bool.not_true, Bool.not_false, Nat.zero_add, Option.bind_some, Option.bind_eq_bind, Option.pure_def, decide_true, decide_false, eq_self, Nat.reduceEqDiff, Nat.reduceLT, Nat.reduceLeDiff, Int.reduceLT, Int.reduceLE, Int.reduceEq, Bool.and_true, Bool.true_and, Bool.false_and, Bool.or_false, Bool.or_true, Bool.true_or, Bool.false_or, sz0, szl0, sz1, szl1, sz2, szl2, sz3, szl3, sz4, szl4, sz5, szl5, sz6, szl6, sz7, szl7, sz8, szl8, sz9, szl9, sz10, szl10, sz11, szl11, sz12, szl12, sz13, szl13, sz14, szl14, sz15, szl15, oIsi, tyN, isi_str, hs, decide_eq_false h1, wFrz_d h, Bool.false_and]
/-! names, places, values -/
def LETTERS : Str := "abcdefghijklmnopqrstuvwxyz"
def DIGITS : Str := "0123456789"
def isName (s : Str) : Bool := madeOf s "abcdefghijklmnopqrstuvwxyz" 8
theorem ev_name (h : WF st) (s : Str) (hs : s.length ≤ sizeLine) : m_is_name K a [.d (.str s)] st = .ok (.d (.bl (isName s))) st := by
  unfold m_is_name g_is_name
  simp only [fnM, sSeq, sRet, sRetN, sExpr, sIf, sNil, sNo, sAsg, tgN, bndS, bnd, vVar, vC, f2, f1, fB, pu, fN, vTup, vLst, fTup, fCons, fNil, fPure, fIf, fAnd, fOr, fNot, asB, asT, bAnd, bOr, bNot, fChain, fCall, fCW, gPos, gApp, R.of, R.of2, fM, pu4, tgT, tgCons, tgNil, unp, pureL, sPar, sPar3, fLstC, fFld, oFld, fMeth, insU, sFldS, setFld, fSl, oNone, oSome, tgSub, setU, fIter, fItN, fItS, sFor, getL, getT, VL.getD, keyD, tyB, lstC, oAdd, oSub, oMul, oFdiv, oMod, oPow, oNeg, oLt, oLe, oGt, oGe, oEq, oNe, oIsN, oNotN, oIn, oNotIn, oIx, oLen, oInt, oAbs, oMin, oMax, oStr, oList, oListC, oTuple, oAll, oAny, itemsU, lenN, truB, fJs, oFmt, List.map_cons, List.map_nil, List.length_cons, List.length_nil, List.replicate_succ, List.replicate_zero, List.cons_append, List.nil_append, List.append_nil, List.getElem?_cons_zero, List.getElem?_cons_succ, List.set_cons_zero, List.set_cons_succ, Nat.reduceAdd, Nat.reduceSub, Option.map_some, Option.map_none, if_true, if_false, ite_true, ite_false, Bool.false_eq_true, reduceCtorEq, true_and, and_true, and_self, Bool.not_true, Bool.not_false, Nat.zero_add, Option.bind_some, Option.bind_eq_bind, Option.pure_def, decide_true, decide_false, eq_self, Nat.reduceEqDiff, Nat.reduceLT, Nat.reduceLeDiff, Int.reduceLT, Int.reduceLE, Int.reduceEq, Bool.and_true, Bool.true_and, Bool.false_and, Bool.or_false, Bool.or_true, Bool.true_or, Bool.false_or, sz0, szl0, sz1, szl1, sz2, szl2, sz3, szl3, sz4, szl4, sz5, szl5, sz6, szl6, sz7, szl7, sz8, szl8, sz9, szl9, sz10, szl10, sz11, szl11, sz12, szl12, sz13, szl13, sz14, szl14, sz15, szl15, ev_made h _ _ _ hs, wFrz_d h, isName]
def isPlace (s : Str) : Bool := isName (Txt.partition s ".").1 && isName (Txt.partition s ".").2.2
theorem part_len1 (s t : Str) : (Txt.partition s t).1.length ≤ s.length := by
  unfold Txt.partition
  split
  · exact strSub_length_le _ _ _
  · exact Nat.le_refl _
theorem part_len3 (s t : Str) : (Txt.partition s t).2.2.length ≤ s.length := by
  unfold Txt.partition
  split
  · exact strSub_length_le _ _ _
  · exact Nat.zero_le _
theorem ev_place (h : WF st) (s : Str) (hs : s.length ≤ sizeLine) : m_is_place K a [.d (.str s)] st = .ok (.d (.bl (isPlace s))) st := by
  have l1 : (Txt.partition s ".").1.length ≤ sizeLine := Nat.le_trans (part_len1 _ _) hs
  have l2 : (Txt.partition s ".").2.2.length ≤ sizeLine := Nat.le_trans (part_len3 _ _) hs
  have hd : (("." : Str).length == 0) = false := by decide +kernel
  unfold m_is_place g_is_place isPlace
  cases e : isName (Txt.partition s ".").1 with
  | true => simp only [fnM, sSeq, sRet, sRetN, sExpr, sIf, sNil, sNo, sAsg, tgN, bndS, bnd, vVar, vC, f2, f1, fB, pu, fN, vTup, vLst, fTup, fCons, fNil, fPure, fIf, fAnd, fOr, fNot, asB, asT, bAnd, bOr, bNot, fChain, fCall, fCW, gPos, gApp, R.of, R.of2, fM, pu4, tgT, tgCons, tgNil, unp, pureL, sPar, sPar3, fLstC, fFld, oFld, fMeth, insU, sFldS, setFld, fSl, oNone, oSome, tgSub, setU, fIter, fItN, fItS, sFor, getL, getT, VL.getD, keyD, tyB, lstC, oAdd, oSub, oMul, oFdiv, oMod, oPow, oNeg, oLt, oLe, oGt, oGe, oEq, oNe, oIsN, oNotN, oIn, oNotIn, oIx, oLen, oInt, oAbs, oMin, oMax, oStr, oList, oListC, oTuple, oAll, oAny, itemsU, lenN, truB, fJs, oFmt, List.map_cons, List.map_nil, List.length_cons, List.length_nil, List.replicate_succ, List.replicate_zero, List.cons_append, List.nil_append, List.append_nil, List.getElem?_cons_zero, List.getElem?_cons_succ, List.set_cons_zero, List.set_cons_succ, Nat.reduceAdd, Nat.reduceSub, Option.map_some, Option.map_none, if_true, if_false, ite_true, ite_false, Bool.false_eq_true, reduceCtorEq, true_and, and_true, and_self, Bool.not_true, Bool.not_false, Nat.zero_add, Option.bind_some, Option.bind_eq_bind, Option.pure_def, decide_true, decide_false, eq_self, Nat.reduceEqDiff, Nat.reduceLT, Nat.reduceLeDiff, Int.reduceLT, Int.reduceLE, Int.reduceEq, Bool.and_true, Bool.true_and, Bool.false_and, Bool.or_false, Bool.or_true, Bool.true_or, Bool.false_or, sz0, szl0, sz1, szl1, sz2, szl2, sz3, szl3, sz4, szl4, sz5, szl5, sz6, szl6, sz7, szl7, sz8, szl8, sz9, szl9, sz10, szl10, sz11, szl11, sz12, szl12, sz13, szl13, sz14, szl14, sz15, szl15, oIsi, tyN, isi_str, mPartition, hd, hs, ev_name h _ l1, ev_name h _ l2, wFrz_d h, e]
  | false => simp only [fnM, sSeq, sRet, sRetN, sExpr, sIf, sNil, sNo, sAsg, tgN, bndS, bnd, vVar, vC, f2, f1, fB, pu, fN, vTup, vLst, fTup, fCons, fNil, fPure, fIf, fAnd, fOr, fNot, asB, asT, bAnd, bOr, bNot, fChain, fCall, fCW, gPos, gApp, R.of, R.of2, fM, pu4, tgT, tgCons, tgNil, unp, pureL, sPar, sPar3, fLstC, fFld, oFld, fMeth, insU, sFldS, setFld, fSl, oNone, oSome, tgSub, setU, fIter, fItN, fItS, sFor, getL, getT, VL.getD, keyD, tyB, lstC, oAdd, oSub, oMul, oFdiv, oMod, oPow, oNeg, oLt, oLe, oGt, oGe, oEq, oNe, oIsN, oNotN, oIn, oNotIn, oIx, oLen, oInt, oAbs, oMin, oMax, oStr, oList, oListC, oTuple, oAll, oAny, itemsU, lenN, truB, fJs, oFmt, List.map_cons, List.map_nil, List.length_cons, List.length_nil, List.replicate_succ, List.replicate_zero, List.cons_append, List.nil_append, List.append_nil, List.getElem?_cons_zero, List.getElem?_cons_succ, List.set_cons_zero, List.set_cons_succ, Nat.reduceAdd, Nat.reduceSub, Option.map_some, Option.map_none, if_true, if_false, ite_true, ite_false, Bool.false_eq_true, reduceCtorEq, true_and, and_true, and_self, Bool.not_true, Bool.not_false, Nat.zero_add, Option.bind_some, Option.bind_eq_bind, Option.pure_def, decide_true, decide_false, eq_self, Nat.reduceEqDiff, Nat.reduceLT, Nat.reduceLeDiff, Int.reduceLT, Int.reduceLE, Int.reduceEq, Bool.and_true, Bool.true_and, Bool.false_and, Bool.or_false, Bool.or_true, Bool.true_or, Bool.false_or, sz0, szl0, sz1, szl1, sz2, szl2, sz3, szl3, sz4, szl4, sz5, szl5, sz6, szl6, sz7, szl7, sz8, szl8, sz9, szl9, sz10, szl10, sz11, szl11, sz12, szl12, sz13, szl13, sz14, szl14, sz15, szl15, oIsi, tyN, isi_str, mPartition, hd, hs, ev_name h _ l1, ev_name h _ l2, wFrz_d h, e]
/-- the first sign -/
def first (s : Str) : Str := match s.cps.toList with
  | [] => Str.empty
  | c :: _ => ⟨#[c]⟩
theorem at0 {s : Str} (h : 1 ≤ s.length) : (atI s.cps.toList 0).map (fun c => U.d (.str ⟨#[c]⟩)) = some (.d (.str (first s))) := by
  unfold first
  have hl : s.cps.toList.length = s.length := Array.length_toList
  cases e : s.cps.toList with
  | nil => rw [e] at hl; simp at hl; omega
  | cons c r =>
    unfold atI ixN
    simp
theorem made_pos {s g : Str} {m : Int} (h : madeOf s g m = true) : 1 ≤ s.length := by
  unfold madeOf at h
  rw [Bool.and_eq_true] at h
  have := of_decide_eq_true h.1
  omega
theorem vals_len : ("abcdefghijklmnopqrstuvwxyz" : Str).length + ("0123456789" : Str).length ≤ sizeLine := by decide +kernel
theorem vals_len2 : (("abcdefghijklmnopqrstuvwxyz" : Str) ++ ("0123456789" : Str)).length + ("-" : Str).length ≤ sizeLine := by decide +kernel
def VALS : Str := ("abcdefghijklmnopqrstuvwxyz" : Str) ++ ("0123456789" : Str) ++ ("-" : Str)
def isValue (s : Str) : Bool := madeOf s VALS 12 && !decide (first s = "-")
theorem ev_value (h : WF st) (s : Str) (hs : s.length ≤ sizeLine) : m_is_value K a [.d (.str s)] st = .ok (.d (.bl (isValue s))) st := by
  unfold m_is_value g_is_value isValue
  cases e : madeOf s VALS 12 with
  | false => 
    have em := ev_made (K := K) (a := a) h s VALS 12 hs
    unfold VALS at em e
    simp only [fnM, sSeq, sRet, sRetN, sExpr, sIf, sNil, sNo, sAsg, tgN, bndS, bnd, vVar, vC, f2, f1, fB, pu, fN, vTup, vLst, fTup, fCons, fNil, fPure, fIf, fAnd, fOr, fNot, asB, asT, bAnd, bOr, bNot, fChain, fCall, fCW, gPos, gApp, R.of, R.of2, fM, pu4, tgT, tgCons, tgNil, unp, pureL, sPar, sPar3, fLstC, fFld, oFld, fMeth, insU, sFldS, setFld, fSl, oNone, oSome, tgSub, setU, fIter, fItN, fItS, sFor, getL, getT, VL.getD, keyD, tyB, lstC, oAdd, oSub, oMul, oFdiv, oMod, oPow, oNeg, oLt, oLe, oGt, oGe, oEq, oNe, oIsN, oNotN, oIn, oNotIn, oIx, oLen, oInt, oAbs, oMin, oMax, oStr, oList, oListC, oTuple, oAll, oAny, itemsU, lenN, truB, fJs, oFmt, List.map_cons, List.map_nil, List.length_cons, List.length_nil, List.replicate_succ, List.replicate_zero, List.cons_append, List.nil_append, List.append_nil, List.getElem?_cons_zero, List.getElem?_cons_succ, List.set_cons_zero, List.set_cons_succ, Nat.reduceAdd, Nat.reduceSub, Option.map_some, Option.map_none, if_true, if_false, ite_true, ite_false, Bool.false_eq_true, reduceCtorEq, true_and, and_true, and_self, Bool.not_true, Bool.not_false, Nat.zero_add, Option.bind_some, Option.bind_eq_bind, Option.pure_def, decide_true, decide_false, eq_self, Nat.reduceEqDiff, Nat.reduceLT, Nat.reduceLeDiff, Int.reduceLT, Int.reduceLE, Int.reduceEq, Bool.and_true, Bool.true_and, Bool.false_and, Bool.or_false, Bool.or_true, Bool.true_or, Bool.false_or, sz0, szl0, sz1, szl1, sz2, szl2, sz3, szl3, sz4, szl4, sz5, szl5, sz6, szl6, sz7, szl7, sz8, szl8, sz9, szl9, sz10, szl10, sz11, szl11, sz12, szl12, sz13, szl13, sz14, szl14, sz15, szl15, vals_len, vals_len2, em, wFrz_d h, e]
  | true =>
    have a0 := at0 (made_pos e)
    have em := ev_made (K := K) (a := a) h s VALS 12 hs
    unfold VALS at em e
    simp only [fnM, sSeq, sRet, sRetN, sExpr, sIf, sNil, sNo, sAsg, tgN, bndS, bnd, vVar, vC, f2, f1, fB, pu, fN, vTup, vLst, fTup, fCons, fNil, fPure, fIf, fAnd, fOr, fNot, asB, asT, bAnd, bOr, bNot, fChain, fCall, fCW, gPos, gApp, R.of, R.of2, fM, pu4, tgT, tgCons, tgNil, unp, pureL, sPar, sPar3, fLstC, fFld, oFld, fMeth, insU, sFldS, setFld, fSl, oNone, oSome, tgSub, setU, fIter, fItN, fItS, sFor, getL, getT, VL.getD, keyD, tyB, lstC, oAdd, oSub, oMul, oFdiv, oMod, oPow, oNeg, oLt, oLe, oGt, oGe, oEq, oNe, oIsN, oNotN, oIn, oNotIn, oIx, oLen, oInt, oAbs, oMin, oMax, oStr, oList, oListC, oTuple, oAll, oAny, itemsU, lenN, truB, fJs, oFmt, List.map_cons, List.map_nil, List.length_cons, List.length_nil, List.replicate_succ, List.replicate_zero, List.cons_append, List.nil_append, List.append_nil, List.getElem?_cons_zero, List.getElem?_cons_succ, List.set_cons_zero, List.set_cons_succ, Nat.reduceAdd, Nat.reduceSub, Option.map_some, Option.map_none, if_true, if_false, ite_true, ite_false, Bool.false_eq_true, reduceCtorEq, true_and, and_true, and_self, Bool.not_true, Bool.not_false, Nat.zero_add, Option.bind_some, Option.bind_eq_bind, Option.pure_def, decide_true, decide_false, eq_self, Nat.reduceEqDiff, Nat.reduceLT, Nat.reduceLeDiff, Int.reduceLT, Int.reduceLE, Int.reduceEq, Bool.and_true, Bool.true_and, Bool.false_and, Bool.or_false, Bool.or_true, Bool.true_or, Bool.false_or, sz0, szl0, sz1, szl1, sz2, szl2, sz3, szl3, sz4, szl4, sz5, szl5, sz6, szl6, sz7, szl7, sz8, szl8, sz9, szl9, sz10, szl10, sz11, szl11, sz12, szl12, sz13, szl13, sz14, szl14, sz15, szl15, vals_len, vals_len2, em, wFrz_d h, e, eqB, hs, a0]

end VL.K06

namespace VL.K06
open PySem PySem.Spec PyProof.Rows L2 VL
variable {K : PySem.W.Frag} {a : Ad} {st : Store}
/-! names, places, values -/
/-- the first sign -/
def isNumber (s : Str) : Bool := madeOf s "0123456789" 2 && (decide (s = "0") || !decide (first s = "0"))
theorem ev_number (h : WF st) (s : Str) (hs : s.length ≤ sizeLine) : m_is_number K a [.d (.str s)] st = .ok (.d (.bl (isNumber s))) st := by
  unfold m_is_number g_is_number isNumber
  cases e : madeOf s "0123456789" 2 with
  | false => simp only [fnM, sSeq, sRet, sRetN, sExpr, sIf, sNil, sNo, sAsg, tgN, bndS, bnd, vVar, vC, f2, f1, fB, pu, fN, vTup, vLst, fTup, fCons, fNil, fPure, fIf, fAnd, fOr, fNot, asB, asT, bAnd, bOr, bNot, fChain, fCall, fCW, gPos, gApp, R.of, R.of2, fM, pu4, tgT, tgCons, tgNil, unp, pureL, sPar, sPar3, fLstC, fFld, oFld, fMeth, insU, sFldS, setFld, fSl, oNone, oSome, tgSub, setU, fIter, fItN, fItS, sFor, getL, getT, VL.getD, keyD, tyB, lstC, oAdd, oSub, oMul, oFdiv, oMod, oPow, oNeg, oLt, oLe, oGt, oGe, oEq, oNe, oIsN, oNotN, oIn, oNotIn, oIx, oLen, oInt, oAbs, oMin, oMax, oStr, oList, oListC, oTuple, oAll, oAny, itemsU, lenN, truB, fJs, oFmt, List.map_cons, List.map_nil, List.length_cons, List.length_nil, List.replicate_succ, List.replicate_zero, List.cons_append, List.nil_append, List.append_nil, List.getElem?_cons_zero, List.getElem?_cons_succ, List.set_cons_zero, List.set_cons_succ, Nat.reduceAdd, Nat.reduceSub, Option.map_some, Option.map_none, if_true, if_false, ite_true, ite_false, Bool.false_eq_true, reduceCtorEq, true_and, and_true, and_self, Bool.not_true, Bool.not_false, Nat.zero_add, Option.bind_some, Option.bind_eq_bind, Option.pure_def, decide_true, decide_false, eq_self, Nat.reduceEqDiff, Nat.reduceLT, Nat.reduceLeDiff, Int.reduceLT, Int.reduceLE, Int.reduceEq, Bool.and_true, Bool.true_and, Bool.false_and, Bool.or_false, Bool.or_true, Bool.true_or, Bool.false_or, sz0, szl0, sz1, szl1, sz2, szl2, sz3, szl3, sz4, szl4, sz5, szl5, sz6, szl6, sz7, szl7, sz8, szl8, sz9, szl9, sz10, szl10, sz11, szl11, sz12, szl12, sz13, szl13, sz14, szl14, sz15, szl15, ev_made h _ _ _ hs, wFrz_d h, e]
  | true =>
    have a0 := at0 (made_pos e)
    by_cases e2 : s = "0"
    · simp only [fnM, sSeq, sRet, sRetN, sExpr, sIf, sNil, sNo, sAsg, tgN, bndS, bnd, vVar, vC, f2, f1, fB, pu, fN, vTup, vLst, fTup, fCons, fNil, fPure, fIf, fAnd, fOr, fNot, asB, asT, bAnd, bOr, bNot, fChain, fCall, fCW, gPos, gApp, R.of, R.of2, fM, pu4, tgT, tgCons, tgNil, unp, pureL, sPar, sPar3, fLstC, fFld, oFld, fMeth, insU, sFldS, setFld, fSl, oNone, oSome, tgSub, setU, fIter, fItN, fItS, sFor, getL, getT, VL.getD, keyD, tyB, lstC, oAdd, oSub, oMul, oFdiv, oMod, oPow, oNeg, oLt, oLe, oGt, oGe, oEq, oNe, oIsN, oNotN, oIn, oNotIn, oIx, oLen, oInt, oAbs, oMin, oMax, oStr, oList, oListC, oTuple, oAll, oAny, itemsU, lenN, truB, fJs, oFmt, List.map_cons, List.map_nil, List.length_cons, List.length_nil, List.replicate_succ, List.replicate_zero, List.cons_append, List.nil_append, List.append_nil, List.getElem?_cons_zero, List.getElem?_cons_succ, List.set_cons_zero, List.set_cons_succ, Nat.reduceAdd, Nat.reduceSub, Option.map_some, Option.map_none, if_true, if_false, ite_true, ite_false, Bool.false_eq_true, reduceCtorEq, true_and, and_true, and_self, Bool.not_true, Bool.not_false, Nat.zero_add, Option.bind_some, Option.bind_eq_bind, Option.pure_def, decide_true, decide_false, eq_self, Nat.reduceEqDiff, Nat.reduceLT, Nat.reduceLeDiff, Int.reduceLT, Int.reduceLE, Int.reduceEq, Bool.and_true, Bool.true_and, Bool.false_and, Bool.or_false, Bool.or_true, Bool.true_or, Bool.false_or, sz0, szl0, sz1, szl1, sz2, szl2, sz3, szl3, sz4, szl4, sz5, szl5, sz6, szl6, sz7, szl7, sz8, szl8, sz9, szl9, sz10, szl10, sz11, szl11, sz12, szl12, sz13, szl13, sz14, szl14, sz15, szl15, ev_made h _ _ _ hs, wFrz_d h, e, eqB, decide_eq_true e2]
    · simp only [fnM, sSeq, sRet, sRetN, sExpr, sIf, sNil, sNo, sAsg, tgN, bndS, bnd, vVar, vC, f2, f1, fB, pu, fN, vTup, vLst, fTup, fCons, fNil, fPure, fIf, fAnd, fOr, fNot, asB, asT, bAnd, bOr, bNot, fChain, fCall, fCW, gPos, gApp, R.of, R.of2, fM, pu4, tgT, tgCons, tgNil, unp, pureL, sPar, sPar3, fLstC, fFld, oFld, fMeth, insU, sFldS, setFld, fSl, oNone, oSome, tgSub, setU, fIter, fItN, fItS, sFor, getL, getT, VL.getD, keyD, tyB, lstC, oAdd, oSub, oMul, oFdiv, oMod, oPow, oNeg, oLt, oLe, oGt, oGe, oEq, oNe, oIsN, oNotN, oIn, oNotIn, oIx, oLen, oInt, oAbs, oMin, oMax, oStr, oList, oListC, oTuple, oAll, oAny, itemsU, lenN, truB, fJs, oFmt, List.map_cons, List.map_nil, List.length_cons, List.length_nil, List.replicate_succ, List.replicate_zero, List.cons_append, List.nil_append, List.append_nil, List.getElem?_cons_zero, List.getElem?_cons_succ, List.set_cons_zero, List.set_cons_succ, Nat.reduceAdd, Nat.reduceSub, Option.map_some, Option.map_none, if_true, if_false, ite_true, ite_false, Bool.false_eq_true, reduceCtorEq, true_and, and_true, and_self, Bool.not_true, Bool.not_false, Nat.zero_add, Option.bind_some, Option.bind_eq_bind, Option.pure_def, decide_true, decide_false, eq_self, Nat.reduceEqDiff, Nat.reduceLT, Nat.reduceLeDiff, Int.reduceLT, Int.reduceLE, Int.reduceEq, Bool.and_true, Bool.true_and, Bool.false_and, Bool.or_false, Bool.or_true, Bool.true_or, Bool.false_or, sz0, szl0, sz1, szl1, sz2, szl2, sz3, szl3, sz4, szl4, sz5, szl5, sz6, szl6, sz7, szl7, sz8, szl8, sz9, szl9, sz10, szl10, sz11, szl11, sz12, szl12, sz13, szl13, sz14, szl14, sz15, szl15, ev_made h _ _ _ hs, wFrz_d h, e, eqB, decide_eq_false e2, hs, a0]
def settingIn (s : Str) : D := if (isName (Txt.partition s " = ").1 && isValue (Txt.partition s " = ").2.2) = true then .tup [.str (Txt.partition s " = ").1, .str (Txt.partition s " = ").2.2] else .non
theorem ev_setting (h : WF st) (s : Str) (hs : s.length ≤ sizeLine) : m_setting_in K a [.d (.str s)] st = .ok (.d (settingIn s)) st := by
  have l1 : (Txt.partition s " = ").1.length ≤ sizeLine := Nat.le_trans (part_len1 _ _) hs
  have l2 : (Txt.partition s " = ").2.2.length ≤ sizeLine := Nat.le_trans (part_len3 _ _) hs
  have hd : ((" = " : Str).length == 0) = false := by decide +kernel
  unfold m_setting_in g_setting_in settingIn
  cases e : isName (Txt.partition s " = ").1 with
  | false => simp only [fnM, sSeq, sRet, sRetN, sExpr, sIf, sNil, sNo, sAsg, tgN, bndS, bnd, vVar, vC, f2, f1, fB, pu, fN, vTup, vLst, fTup, fCons, fNil, fPure, fIf, fAnd, fOr, fNot, asB, asT, bAnd, bOr, bNot, fChain, fCall, fCW, gPos, gApp, R.of, R.of2, fM, pu4, tgT, tgCons, tgNil, unp, pureL, sPar, sPar3, fLstC, fFld, oFld, fMeth, insU, sFldS, setFld, fSl, oNone, oSome, tgSub, setU, fIter, fItN, fItS, sFor, getL, getT, VL.getD, keyD, tyB, lstC, oAdd, oSub, oMul, oFdiv, oMod, oPow, oNeg, oLt, oLe, oGt, oGe, oEq, oNe, oIsN, oNotN, oIn, oNotIn, oIx, oLen, oInt, oAbs, oMin, oMax, oStr, oList, oListC, oTuple, oAll, oAny, itemsU, lenN, truB, fJs, oFmt, List.map_cons, List.map_nil, List.length_cons, List.length_nil, List.replicate_succ, List.replicate_zero, List.cons_append, List.nil_append, List.append_nil, List.getElem?_cons_zero, List.getElem?_cons_succ, List.set_cons_zero, List.set_cons_succ, Nat.reduceAdd, Nat.reduceSub, Option.map_some, Option.map_none, if_true, if_false, ite_true, ite_false, Bool.false_eq_true, reduceCtorEq, true_and, and_true, and_self, Bool.not_true, Bool.not_false, Nat.zero_add, Option.bind_some, Option.bind_eq_bind, Option.pure_def, decide_true, decide_false, eq_self, Nat.reduceEqDiff, Nat.reduceLT, Nat.reduceLeDiff, Int.reduceLT, Int.reduceLE, Int.reduceEq, Bool.and_true, Bool.true_and, Bool.false_and, Bool.or_false, Bool.or_true, Bool.true_or, Bool.false_or, sz0, szl0, sz1, szl1, sz2, szl2, sz3, szl3, sz4, szl4, sz5, szl5, sz6, szl6, sz7, szl7, sz8, szl8, sz9, szl9, sz10, szl10, sz11, szl11, sz12, szl12, sz13, szl13, sz14, szl14, sz15, szl15, mPartition, hd, hs, ev_name h _ l1, wFrz_d h, e]
  | true =>
    cases e2 : isValue (Txt.partition s " = ").2.2 with
    | true => simp only [fnM, sSeq, sRet, sRetN, sExpr, sIf, sNil, sNo, sAsg, tgN, bndS, bnd, vVar, vC, f2, f1, fB, pu, fN, vTup, vLst, fTup, fCons, fNil, fPure, fIf, fAnd, fOr, fNot, asB, asT, bAnd, bOr, bNot, fChain, fCall, fCW, gPos, gApp, R.of, R.of2, fM, pu4, tgT, tgCons, tgNil, unp, pureL, sPar, sPar3, fLstC, fFld, oFld, fMeth, insU, sFldS, setFld, fSl, oNone, oSome, tgSub, setU, fIter, fItN, fItS, sFor, getL, getT, VL.getD, keyD, tyB, lstC, oAdd, oSub, oMul, oFdiv, oMod, oPow, oNeg, oLt, oLe, oGt, oGe, oEq, oNe, oIsN, oNotN, oIn, oNotIn, oIx, oLen, oInt, oAbs, oMin, oMax, oStr, oList, oListC, oTuple, oAll, oAny, itemsU, lenN, truB, fJs, oFmt, List.map_cons, List.map_nil, List.length_cons, List.length_nil, List.replicate_succ, List.replicate_zero, List.cons_append, List.nil_append, List.append_nil, List.getElem?_cons_zero, List.getElem?_cons_succ, List.set_cons_zero, List.set_cons_succ, Nat.reduceAdd, Nat.reduceSub, Option.map_some, Option.map_none, if_true, if_false, ite_true, ite_false, Bool.false_eq_true, reduceCtorEq, true_and, and_true, and_self, Bool.not_true, Bool.not_false, Nat.zero_add, Option.bind_some, Option.bind_eq_bind, Option.pure_def, decide_true, decide_false, eq_self, Nat.reduceEqDiff, Nat.reduceLT, Nat.reduceLeDiff, Int.reduceLT, Int.reduceLE, Int.reduceEq, Bool.and_true, Bool.true_and, Bool.false_and, Bool.or_false, Bool.or_true, Bool.true_or, Bool.false_or, sz0, szl0, sz1, szl1, sz2, szl2, sz3, szl3, sz4, szl4, sz5, szl5, sz6, szl6, sz7, szl7, sz8, szl8, sz9, szl9, sz10, szl10, sz11, szl11, sz12, szl12, sz13, szl13, sz14, szl14, sz15, szl15, mPartition, hd, hs, ev_name h _ l1, ev_value h _ l2, wFrz_d h, e, e2]
    | false => simp only [fnM, sSeq, sRet, sRetN, sExpr, sIf, sNil, sNo, sAsg, tgN, bndS, bnd, vVar, vC, f2, f1, fB, pu, fN, vTup, vLst, fTup, fCons, fNil, fPure, fIf, fAnd, fOr, fNot, asB, asT, bAnd, bOr, bNot, fChain, fCall, fCW, gPos, gApp, R.of, R.of2, fM, pu4, tgT, tgCons, tgNil, unp, pureL, sPar, sPar3, fLstC, fFld, oFld, fMeth, insU, sFldS, setFld, fSl, oNone, oSome, tgSub, setU, fIter, fItN, fItS, sFor, getL, getT, VL.getD, keyD, tyB, lstC, oAdd, oSub, oMul, oFdiv, oMod, oPow, oNeg, oLt, oLe, oGt, oGe, oEq, oNe, oIsN, oNotN, oIn, oNotIn, oIx, oLen, oInt, oAbs, oMin, oMax, oStr, oList, oListC, oTuple, oAll, oAny, itemsU, lenN, truB, fJs, oFmt, List.map_cons, List.map_nil, List.length_cons, List.length_nil, List.replicate_succ, List.replicate_zero, List.cons_append, List.nil_append, List.append_nil, List.getElem?_cons_zero, List.getElem?_cons_succ, List.set_cons_zero, List.set_cons_succ, Nat.reduceAdd, Nat.reduceSub, Option.map_some, Option.map_none, if_true, if_false, ite_true, ite_false, Bool.false_eq_true, reduceCtorEq, true_and, and_true, and_self, Bool.not_true, Bool.not_false, Nat.zero_add, Option.bind_some, Option.bind_eq_bind, Option.pure_def, decide_true, decide_false, eq_self, Nat.reduceEqDiff, Nat.reduceLT, Nat.reduceLeDiff, Int.reduceLT, Int.reduceLE, Int.reduceEq, Bool.and_true, Bool.true_and, Bool.false_and, Bool.or_false, Bool.or_true, Bool.true_or, Bool.false_or, sz0, szl0, sz1, szl1, sz2, szl2, sz3, szl3, sz4, szl4, sz5, szl5, sz6, szl6, sz7, szl7, sz8, szl8, sz9, szl9, sz10, szl10, sz11, szl11, sz12, szl12, sz13, szl13, sz14, szl14, sz15, szl15, mPartition, hd, hs, ev_name h _ l1, ev_value h _ l2, wFrz_d h, e, e2]
def sectionIn (s : Str) : D := if decide (L2.cutS s none (some 1) = "[") && decide (L2.cutS s (some (-1)) none = "]") && isName (L2.cutS s (some 1) (some (-1))) then .str (L2.cutS s (some 1) (some (-1))) else .non
theorem ev_section (h : WF st) (s : Str) (hs : s.length ≤ sizeLine) : m_section_in K a [.d (.str s)] st = .ok (.d (sectionIn s)) st := by
  have l1 : (L2.cutS s (some 1) (some (-1))).length ≤ sizeLine := Nat.le_trans (cut_len _ _ _) hs
  unfold m_section_in g_section_in sectionIn
  by_cases e1 : L2.cutS s none (some 1) = "["
  · by_cases e2 : L2.cutS s (some (-1)) none = "]"
    · cases e3 : isName (L2.cutS s (some 1) (some (-1))) with
      | true => simp only [fnM, sSeq, sRet, sRetN, sExpr, sIf, sNil, sNo, sAsg, tgN, bndS, bnd, vVar, vC, f2, f1, fB, pu, fN, vTup, vLst, fTup, fCons, fNil, fPure, fIf, fAnd, fOr, fNot, asB, asT, bAnd, bOr, bNot, fChain, fCall, fCW, gPos, gApp, R.of, R.of2, fM, pu4, tgT, tgCons, tgNil, unp, pureL, sPar, sPar3, fLstC, fFld, oFld, fMeth, insU, sFldS, setFld, fSl, oNone, oSome, tgSub, setU, fIter, fItN, fItS, sFor, getL, getT, VL.getD, keyD, tyB, lstC, oAdd, oSub, oMul, oFdiv, oMod, oPow, oNeg, oLt, oLe, oGt, oGe, oEq, oNe, oIsN, oNotN, oIn, oNotIn, oIx, oLen, oInt, oAbs, oMin, oMax, oStr, oList, oListC, oTuple, oAll, oAny, itemsU, lenN, truB, fJs, oFmt, List.map_cons, List.map_nil, List.length_cons, List.length_nil, List.replicate_succ, List.replicate_zero, List.cons_append, List.nil_append, List.append_nil, List.getElem?_cons_zero, List.getElem?_cons_succ, List.set_cons_zero, List.set_cons_succ, Nat.reduceAdd, Nat.reduceSub, Option.map_some, Option.map_none, if_true, if_false, ite_true, ite_false, Bool.false_eq_true, reduceCtorEq, true_and, and_true, and_self, Bool.not_true, Bool.not_false, Nat.zero_add, Option.bind_some, Option.bind_eq_bind, Option.pure_def, decide_true, decide_false, eq_self, Nat.reduceEqDiff, Nat.reduceLT, Nat.reduceLeDiff, Int.reduceLT, Int.reduceLE, Int.reduceEq, Bool.and_true, Bool.true_and, Bool.false_and, Bool.or_false, Bool.or_true, Bool.true_or, Bool.false_or, sz0, szl0, sz1, szl1, sz2, szl2, sz3, szl3, sz4, szl4, sz5, szl5, sz6, szl6, sz7, szl7, sz8, szl8, sz9, szl9, sz10, szl10, sz11, szl11, sz12, szl12, sz13, szl13, sz14, szl14, sz15, szl15, oSl, hs, ev_name h _ l1, wFrz_d h, eqB, decide_eq_true e1, decide_eq_true e2, e3]
      | false => simp only [fnM, sSeq, sRet, sRetN, sExpr, sIf, sNil, sNo, sAsg, tgN, bndS, bnd, vVar, vC, f2, f1, fB, pu, fN, vTup, vLst, fTup, fCons, fNil, fPure, fIf, fAnd, fOr, fNot, asB, asT, bAnd, bOr, bNot, fChain, fCall, fCW, gPos, gApp, R.of, R.of2, fM, pu4, tgT, tgCons, tgNil, unp, pureL, sPar, sPar3, fLstC, fFld, oFld, fMeth, insU, sFldS, setFld, fSl, oNone, oSome, tgSub, setU, fIter, fItN, fItS, sFor, getL, getT, VL.getD, keyD, tyB, lstC, oAdd, oSub, oMul, oFdiv, oMod, oPow, oNeg, oLt, oLe, oGt, oGe, oEq, oNe, oIsN, oNotN, oIn, oNotIn, oIx, oLen, oInt, oAbs, oMin, oMax, oStr, oList, oListC, oTuple, oAll, oAny, itemsU, lenN, truB, fJs, oFmt, List.map_cons, List.map_nil, List.length_cons, List.length_nil, List.replicate_succ, List.replicate_zero, List.cons_append, List.nil_append, List.append_nil, List.getElem?_cons_zero, List.getElem?_cons_succ, List.set_cons_zero, List.set_cons_succ, Nat.reduceAdd, Nat.reduceSub, Option.map_some, Option.map_none, if_true, if_false, ite_true, ite_false, Bool.false_eq_true, reduceCtorEq, true_and, and_true, and_self, Bool.not_true, Bool.not_false, Nat.zero_add, Option.bind_some, Option.bind_eq_bind, Option.pure_def, decide_true, decide_false, eq_self, Nat.reduceEqDiff, Nat.reduceLT, Nat.reduceLeDiff, Int.reduceLT, Int.reduceLE, Int.reduceEq, Bool.and_true, Bool.true_and, Bool.false_and, Bool.or_false, Bool.or_true, Bool.true_or, Bool.false_or, sz0, szl0, sz1, szl1, sz2, szl2, sz3, szl3, sz4, szl4, sz5, szl5, sz6, szl6, sz7, szl7, sz8, szl8, sz9, szl9, sz10, szl10, sz11, szl11, sz12, szl12, sz13, szl13, sz14, szl14, sz15, szl15, oSl, hs, ev_name h _ l1, wFrz_d h, eqB, decide_eq_true e1, decide_eq_true e2, e3]
    · simp only [fnM, sSeq, sRet, sRetN, sExpr, sIf, sNil, sNo, sAsg, tgN, bndS, bnd, vVar, vC, f2, f1, fB, pu, fN, vTup, vLst, fTup, fCons, fNil, fPure, fIf, fAnd, fOr, fNot, asB, asT, bAnd, bOr, bNot, fChain, fCall, fCW, gPos, gApp, R.of, R.of2, fM, pu4, tgT, tgCons, tgNil, unp, pureL, sPar, sPar3, fLstC, fFld, oFld, fMeth, insU, sFldS, setFld, fSl, oNone, oSome, tgSub, setU, fIter, fItN, fItS, sFor, getL, getT, VL.getD, keyD, tyB, lstC, oAdd, oSub, oMul, oFdiv, oMod, oPow, oNeg, oLt, oLe, oGt, oGe, oEq, oNe, oIsN, oNotN, oIn, oNotIn, oIx, oLen, oInt, oAbs, oMin, oMax, oStr, oList, oListC, oTuple, oAll, oAny, itemsU, lenN, truB, fJs, oFmt, List.map_cons, List.map_nil, List.length_cons, List.length_nil, List.replicate_succ, List.replicate_zero, List.cons_append, List.nil_append, List.append_nil, List.getElem?_cons_zero, List.getElem?_cons_succ, List.set_cons_zero, List.set_cons_succ, Nat.reduceAdd, Nat.reduceSub, Option.map_some, Option.map_none, if_true, if_false, ite_true, ite_false, Bool.false_eq_true, reduceCtorEq, true_and, and_true, and_self, Bool.not_true, Bool.not_false, Nat.zero_add, Option.bind_some, Option.bind_eq_bind, Option.pure_def, decide_true, decide_false, eq_self, Nat.reduceEqDiff, Nat.reduceLT, Nat.reduceLeDiff, Int.reduceLT, Int.reduceLE, Int.reduceEq, Bool.and_true, Bool.true_and, Bool.false_and, Bool.or_false, Bool.or_true, Bool.true_or, Bool.false_or, sz0, szl0, sz1, szl1, sz2, szl2, sz3, szl3, sz4, szl4, sz5, szl5, sz6, szl6, sz7, szl7, sz8, szl8, sz9, szl9, sz10, szl10, sz11, szl11, sz12, szl12, sz13, szl13, sz14, szl14, sz15, szl15, oSl, hs, ev_name h _ l1, wFrz_d h, eqB, decide_eq_true e1, decide_eq_false e2]
  · simp only [fnM, sSeq, sRet, sRetN, sExpr, sIf, sNil, sNo, sAsg, tgN, bndS, bnd, vVar, vC, f2, f1, fB, pu, fN, vTup, vLst, fTup, fCons, fNil, fPure, fIf, fAnd, fOr, fNot, asB, asT, bAnd, bOr, bNot, fChain, fCall, fCW, gPos, gApp, R.of, R.of2, fM, pu4, tgT, tgCons, tgNil, unp, pureL, sPar, sPar3, fLstC, fFld, oFld, fMeth, insU, sFldS, setFld, fSl, oNone, oSome, tgSub, setU, fIter, fItN, fItS, sFor, getL, getT, VL.getD, keyD, tyB, lstC, oAdd, oSub, oMul, oFdiv, oMod, oPow, oNeg, oLt, oLe, oGt, oGe, oEq, oNe, oIsN, oNotN, oIn, oNotIn, oIx, oLen, oInt, oAbs, oMin, oMax, oStr, oList, oListC, oTuple, oAll, oAny, itemsU, lenN, truB, fJs, oFmt, List.map_cons, List.map_nil, List.length_cons, List.length_nil, List.replicate_succ, List.replicate_zero, List.cons_append, List.nil_append, List.append_nil, List.getElem?_cons_zero, List.getElem?_cons_succ, List.set_cons_zero, List.set_cons_succ, Nat.reduceAdd, Nat.reduceSub, Option.map_some, Option.map_none, if_true, if_false, ite_true, ite_false, Bool.false_eq_true, reduceCtorEq, true_and, and_true, and_self, Bool.not_true, Bool.not_false, Nat.zero_add, Option.bind_some, Option.bind_eq_bind, Option.pure_def, decide_true, decide_false, eq_self, Nat.reduceEqDiff, Nat.reduceLT, Nat.reduceLeDiff, Int.reduceLT, Int.reduceLE, Int.reduceEq, Bool.and_true, Bool.true_and, Bool.false_and, Bool.or_false, Bool.or_true, Bool.true_or, Bool.false_or, sz0, szl0, sz1, szl1, sz2, szl2, sz3, szl3, sz4, szl4, sz5, szl5, sz6, szl6, sz7, szl7, sz8, szl8, sz9, szl9, sz10, szl10, sz11, szl11, sz12, szl12, sz13, szl13, sz14, szl14, sz15, szl15, oSl, hs, ev_name h _ l1, wFrz_d h, eqB, decide_eq_false e1]

/-- a kept line's parts: release, place, value -/
structure KeptOk (line : Str) (n : Int) (p : Str) (v : D) : Prop where
  ln : line.length + 2 ≤ sizeLine
  ex : (∃ w1, Txt.split line " " = [("#~" : Str), w1, p] ∧ isNumber w1 = true ∧ intText? w1 = some n ∧ w1.length ≤ 640 ∧ v = .non) ∨
    ∃ w1 w, Txt.split line " " = [("#~" : Str), w1, p, ("=" : Str), w] ∧ isNumber w1 = true ∧ intText? w1 = some n ∧ w1.length ≤ 640 ∧ isValue w = true ∧ w.length ≤ sizeLine ∧ v = .str w
  pl : isPlace p = true
  ps : p.length ≤ sizeLine
theorem lit_eqs : ("#~" : Str) = ("#~" : Str) := rfl
theorem ev_kept (h : WF st) {line : Str} {n : Int} {p : Str} {v : D} (k : KeptOk line n p v) : m_kept_in K a [.d (.str line)] st = .ok (.d (.tup [.int n, .str p, v])) st := by
  have hd : ((" " : Str).length == 0) = false := by decide +kernel
  have pl := k.pl
  have e0 : decide (("#~" : Str) = ("#~" : Str)) = true := decide_eq_true rfl
  have e1 : decide (("=" : Str) = ("=" : Str)) = true := decide_eq_true rfl
  unfold m_kept_in g_kept_in
  rcases k.ex with ⟨w1, e, n1, i1, l1, rfl⟩ | ⟨w1, w, e, n1, i1, l1, v1, lw, rfl⟩
  · simp only [fnM, sSeq, sRet, sRetN, sExpr, sIf, sNil, sNo, sAsg, tgN, bndS, bnd, vVar, vC, f2, f1, fB, pu, fN, vTup, vLst, fTup, fCons, fNil, fPure, fIf, fAnd, fOr, fNot, asB, asT, bAnd, bOr, bNot, fChain, fCall, fCW, gPos, gApp, R.of, R.of2, fM, pu4, tgT, tgCons, tgNil, unp, pureL, sPar, sPar3, fLstC, fFld, oFld, fMeth, insU, sFldS, setFld, fSl, oNone, oSome, tgSub, setU, fIter, fItN, fItS, sFor, getL, getT, VL.getD, keyD, tyB, lstC, oAdd, oSub, oMul, oFdiv, oMod, oPow, oNeg, oLt, oLe, oGt, oGe, oEq, oNe, oIsN, oNotN, oIn, oNotIn, oIx, oLen, oInt, oAbs, oMin, oMax, oStr, oList, oListC, oTuple, oAll, oAny, itemsU, lenN, truB, fJs, oFmt, List.map_cons, List.map_nil, List.length_cons, List.length_nil, List.replicate_succ, List.replicate_zero, List.cons_append, List.nil_append, List.append_nil, List.getElem?_cons_zero, List.getElem?_cons_succ, List.set_cons_zero, List.set_cons_succ, Nat.reduceAdd, Nat.reduceSub, Option.map_some, Option.map_none, if_true, if_false, ite_true, ite_false, Bool.false_eq_true, reduceCtorEq, true_and, and_true, and_self, Bool.not_true, Bool.not_false, Nat.zero_add, Option.bind_some, Option.bind_eq_bind, Option.pure_def, decide_true, decide_false, eq_self, Nat.reduceEqDiff, Nat.reduceLT, Nat.reduceLeDiff, Int.reduceLT, Int.reduceLE, Int.reduceEq, Bool.and_true, Bool.true_and, Bool.false_and, Bool.or_false, Bool.or_true, Bool.true_or, Bool.false_or, sz0, szl0, sz1, szl1, sz2, szl2, sz3, szl3, sz4, szl4, sz5, szl5, sz6, szl6, sz7, szl7, sz8, szl8, sz9, szl9, sz10, szl10, sz11, szl11, sz12, szl12, sz13, szl13, sz14, szl14, sz15, szl15, mSplit, hd, k.ln, e, at_0, at_1, at_2, inB, flatD, allM, List.any_cons, List.any_nil, eqv_int, eqB, e0, ev_number h _ (w640 l1), ev_place h _ k.ps, n1, pl, i1, l1, wFrz_d h, Int.reduceBEq, Int.cast_ofNat_Int, beq_self_eq_true]
  · simp only [fnM, sSeq, sRet, sRetN, sExpr, sIf, sNil, sNo, sAsg, tgN, bndS, bnd, vVar, vC, f2, f1, fB, pu, fN, vTup, vLst, fTup, fCons, fNil, fPure, fIf, fAnd, fOr, fNot, asB, asT, bAnd, bOr, bNot, fChain, fCall, fCW, gPos, gApp, R.of, R.of2, fM, pu4, tgT, tgCons, tgNil, unp, pureL, sPar, sPar3, fLstC, fFld, oFld, fMeth, insU, sFldS, setFld, fSl, oNone, oSome, tgSub, setU, fIter, fItN, fItS, sFor, getL, getT, VL.getD, keyD, tyB, lstC, oAdd, oSub, oMul, oFdiv, oMod, oPow, oNeg, oLt, oLe, oGt, oGe, oEq, oNe, oIsN, oNotN, oIn, oNotIn, oIx, oLen, oInt, oAbs, oMin, oMax, oStr, oList, oListC, oTuple, oAll, oAny, itemsU, lenN, truB, fJs, oFmt, List.map_cons, List.map_nil, List.length_cons, List.length_nil, List.replicate_succ, List.replicate_zero, List.cons_append, List.nil_append, List.append_nil, List.getElem?_cons_zero, List.getElem?_cons_succ, List.set_cons_zero, List.set_cons_succ, Nat.reduceAdd, Nat.reduceSub, Option.map_some, Option.map_none, if_true, if_false, ite_true, ite_false, Bool.false_eq_true, reduceCtorEq, true_and, and_true, and_self, Bool.not_true, Bool.not_false, Nat.zero_add, Option.bind_some, Option.bind_eq_bind, Option.pure_def, decide_true, decide_false, eq_self, Nat.reduceEqDiff, Nat.reduceLT, Nat.reduceLeDiff, Int.reduceLT, Int.reduceLE, Int.reduceEq, Bool.and_true, Bool.true_and, Bool.false_and, Bool.or_false, Bool.or_true, Bool.true_or, Bool.false_or, sz0, szl0, sz1, szl1, sz2, szl2, sz3, szl3, sz4, szl4, sz5, szl5, sz6, szl6, sz7, szl7, sz8, szl8, sz9, szl9, sz10, szl10, sz11, szl11, sz12, szl12, sz13, szl13, sz14, szl14, sz15, szl15, mSplit, hd, k.ln, e, at_0, at_1, at_2, at_3, at_4, inB, flatD, allM, List.any_cons, List.any_nil, eqv_int, eqB, e0, e1, ev_number h _ (w640 l1), ev_place h _ k.ps, ev_value h _ lw, v1, n1, pl, i1, l1, wFrz_d h, Int.reduceBEq, Int.cast_ofNat_Int, beq_self_eq_true]

end VL.K06

namespace VL.K06
open PySem PySem.Spec PyProof.Rows L2 VL
variable {K : PySem.W.Frag} {a : Ad} {st : Store}
theorem lk_sec (x y z : U) : List.lookup ("section" : Str) [(("section" : Str), x), (("met" : Str), y), (("parts" : Str), z)] = some x := rfl
theorem lk_met (x y z : U) : List.lookup ("met" : Str) [(("section" : Str), x), (("met" : Str), y), (("parts" : Str), z)] = some y := rfl
theorem lk_parts (x y z : U) : List.lookup ("parts" : Str) [(("section" : Str), x), (("met" : Str), y), (("parts" : Str), z)] = some z := rfl
theorem lk_put (x y z : U) : List.lookup ("put" : Str) [(("section" : Str), x), (("met" : Str), y), (("parts" : Str), z)] = none := rfl
theorem lk_tk (x y z : U) : List.lookup ("take_kept" : Str) [(("section" : Str), x), (("met" : Str), y), (("parts" : Str), z)] = none := rfl
theorem lk_ts (x y z : U) : List.lookup ("take_setting" : Str) [(("section" : Str), x), (("met" : Str), y), (("parts" : Str), z)] = none := rfl
theorem lk_take (x y z : U) : List.lookup ("take" : Str) [(("section" : Str), x), (("met" : Str), y), (("parts" : Str), z)] = none := rfl
structure RdAt (a : Ad) (st : Store) (r i j : Nat) (sec : D) (met parts : List D) : Prop where
  r0 : st[r]? = some (.ins a.C_Reader [("section", .d sec), ("met", .ref i), ("parts", .ref j)])
  i0 : st[i]? = some (.lst (met.map U.d))
  j0 : st[j]? = some (.lst (parts.map U.d))
  ri : r ≠ i
  rj : r ≠ j
  ij : i ≠ j
/-- not among those met -/
structure NewIn (met : List D) (x : D) : Prop where
  ex : ∃ qs p, toPs met = some qs ∧ toP x = some p ∧ SeqAt.shaped p = true ∧ SeqAt.shaped (.list qs) = true ∧ (qs.any fun q => PyData.eqv q p) = false
theorem NewIn.inB {st : Store} {i : Nat} {met : List D} {w : Str} {nm : D} (h : NewIn met (.tup [.str w, nm])) (hi : st[i]? = some (.lst (met.map U.d))) : inB st (.d (.tup [.str w, nm])) (.ref i) = some false := by
  obtain ⟨qs, p, h1, h2, h3, h4, h5⟩ := h.ex
  unfold VL.inB
  simp only [asP_d, asP_ref hi, h1, h2, Option.map_some, h3, h4, and_self, if_true, h5]
theorem ev_put (h : WF st) {r i j : Nat} {sec : D} {met parts : List D} (rd : RdAt a st r i j sec met parts) {t : Int} {w kd : Str} {nm th : D} (N : NewIn met (.tup [.str w, nm])) (l1 : met.length < sizeLine) (l2 : parts.length < sizeLine) :
    m_Reader_put K a [.ref r, .d (.int t), .d (.str w), .d nm, .d th, .d (.str kd)] st = .ok (.d .non) ((st.set i (.lst ((met ++ [D.tup [.str w, nm]]).map U.d))).set j (.lst ((parts ++ [D.tup [.int t, .str w, th]]).map U.d))) := by
  have hn := N.inB rd.i0
  have l1' : (met.map U.d).length < sizeLine := by rw [List.length_map]; exact l1
  have l2' : (parts.map U.d).length < sizeLine := by rw [List.length_map]; exact l2
  have e1 : (st.set i (.lst ((met ++ [D.tup [.str w, nm]]).map U.d)))[r]? = some (.ins a.C_Reader [("section", .d sec), ("met", .ref i), ("parts", .ref j)]) := by rw [List.getElem?_set_ne rd.ri.symm]; exact rd.r0
  have e2 : (st.set i (.lst ((met ++ [D.tup [.str w, nm]]).map U.d)))[j]? = some (.lst (parts.map U.d)) := by rw [List.getElem?_set_ne rd.ij]; exact rd.j0
  have hw : WF ((st.set i (.lst ((met ++ [D.tup [.str w, nm]]).map U.d))).set j (.lst ((parts ++ [D.tup [.int t, .str w, th]]).map U.d))) := (h.setL _ _).setL _ _
  unfold m_Reader_put g_Reader_put
  simp only [fnM, sSeq, sRet, sRetN, sExpr, sIf, sNil, sNo, sAsg, tgN, bndS, bnd, vVar, vC, f2, f1, fB, pu, fN, vTup, vLst, fTup, fCons, fNil, fPure, fIf, fAnd, fOr, fNot, asB, asT, bAnd, bOr, bNot, fChain, fCall, fCW, gPos, gApp, R.of, R.of2, fM, pu4, tgT, tgCons, tgNil, unp, pureL, sPar, sPar3, fLstC, fFld, oFld, fMeth, insU, sFldS, setFld, fSl, oNone, oSome, tgSub, setU, fIter, fItN, fItS, sFor, getL, getT, VL.getD, keyD, tyB, lstC, oAdd, oSub, oMul, oFdiv, oMod, oPow, oNeg, oLt, oLe, oGt, oGe, oEq, oNe, oIsN, oNotN, oIn, oNotIn, oIx, oLen, oInt, oAbs, oMin, oMax, oStr, oList, oListC, oTuple, oAll, oAny, itemsU, lenN, truB, fJs, oFmt, List.map_cons, List.map_nil, List.length_cons, List.length_nil, List.replicate_succ, List.replicate_zero, List.cons_append, List.nil_append, List.append_nil, List.getElem?_cons_zero, List.getElem?_cons_succ, List.set_cons_zero, List.set_cons_succ, Nat.reduceAdd, Nat.reduceSub, Option.map_some, Option.map_none, if_true, if_false, ite_true, ite_false, Bool.false_eq_true, reduceCtorEq, true_and, and_true, and_self, Bool.not_true, Bool.not_false, Nat.zero_add, Option.bind_some, Option.bind_eq_bind, Option.pure_def, decide_true, decide_false, eq_self, Nat.reduceEqDiff, Nat.reduceLT, Nat.reduceLeDiff, Int.reduceLT, Int.reduceLE, Int.reduceEq, Bool.and_true, Bool.true_and, Bool.false_and, Bool.or_false, Bool.or_true, Bool.true_or, Bool.false_or, sz0, szl0, sz1, szl1, sz2, szl2, sz3, szl3, sz4, szl4, sz5, szl5, sz6, szl6, sz7, szl7, sz8, szl8, sz9, szl9, sz10, szl10, sz11, szl11, sz12, szl12, sz13, szl13, sz14, szl14, sz15, szl15, rd.r0, rd.i0, hn, List.mem_cons, List.not_mem_nil, or_false, lk_met, lk_parts, mAppend, l1', l2', map_snoc, e1, e2]
  exact wCut_len hw (by rw [List.length_set, List.length_set]) _
theorem RdAt.put {r i j : Nat} {sec : D} {met parts : List D} (rd : RdAt a st r i j sec met parts) (m' p' : List D) : RdAt a ((st.set i (.lst (m'.map U.d))).set j (.lst (p'.map U.d))) r i j sec m' p' := by
  have li := (List.getElem?_eq_some_iff.mp rd.i0).1
  have lj := (List.getElem?_eq_some_iff.mp rd.j0).1
  refine ⟨?_, ?_, ?_, rd.ri, rd.rj, rd.ij⟩
  · rw [List.getElem?_set_ne rd.rj.symm, List.getElem?_set_ne rd.ri.symm]; exact rd.r0
  · rw [List.getElem?_set_ne rd.ij.symm, List.getElem?_set_self li]
  · rw [List.getElem?_set_self (by rw [List.length_set]; exact lj)]
theorem ev_take_kept (h : WF st) {r i j : Nat} {sec : D} {met parts : List D} (rd : RdAt a st r i j sec met parts) {t : Int} {n p v : D} (N : NewIn met (.tup [.str "kept", .tup [n, p]])) (l1 : met.length < sizeLine) (l2 : parts.length < sizeLine) :
    m_Reader_take_kept K a [.ref r, .d (.int t), .d (.tup [n, p, v])] st = .ok (.d .non) ((st.set i (.lst ((met ++ [D.tup [.str "kept", .tup [n, p]]]).map U.d))).set j (.lst ((parts ++ [D.tup [.int t, .str "kept", .tup [n, p, v]]]).map U.d))) := by
  have hp := ev_put (K := K) h rd (t := t) (kd := "again") (th := .tup [n, p, v]) N l1 l2
  have hw : WF ((st.set i (.lst ((met ++ [D.tup [.str "kept", .tup [n, p]]]).map U.d))).set j (.lst ((parts ++ [D.tup [.int t, .str "kept", .tup [n, p, v]]]).map U.d))) := (h.setL _ _).setL _ _
  have hc : cutG [n, p, v] none (some 2) = [n, p] := rfl
  unfold m_Reader_take_kept g_Reader_take_kept
  simp only [fnM, sSeq, sRet, sRetN, sExpr, sIf, sNil, sNo, sAsg, tgN, bndS, bnd, vVar, vC, f2, f1, fB, pu, fN, vTup, vLst, fTup, fCons, fNil, fPure, fIf, fAnd, fOr, fNot, asB, asT, bAnd, bOr, bNot, fChain, fCall, fCW, gPos, gApp, R.of, R.of2, fM, pu4, tgT, tgCons, tgNil, unp, pureL, sPar, sPar3, fLstC, fFld, oFld, fMeth, insU, sFldS, setFld, fSl, oNone, oSome, tgSub, setU, fIter, fItN, fItS, sFor, getL, getT, VL.getD, keyD, tyB, lstC, oAdd, oSub, oMul, oFdiv, oMod, oPow, oNeg, oLt, oLe, oGt, oGe, oEq, oNe, oIsN, oNotN, oIn, oNotIn, oIx, oLen, oInt, oAbs, oMin, oMax, oStr, oList, oListC, oTuple, oAll, oAny, itemsU, lenN, truB, fJs, oFmt, List.map_cons, List.map_nil, List.length_cons, List.length_nil, List.replicate_succ, List.replicate_zero, List.cons_append, List.nil_append, List.append_nil, List.getElem?_cons_zero, List.getElem?_cons_succ, List.set_cons_zero, List.set_cons_succ, Nat.reduceAdd, Nat.reduceSub, Option.map_some, Option.map_none, if_true, if_false, ite_true, ite_false, Bool.false_eq_true, reduceCtorEq, true_and, and_true, and_self, Bool.not_true, Bool.not_false, Nat.zero_add, Option.bind_some, Option.bind_eq_bind, Option.pure_def, decide_true, decide_false, eq_self, Nat.reduceEqDiff, Nat.reduceLT, Nat.reduceLeDiff, Int.reduceLT, Int.reduceLE, Int.reduceEq, Bool.and_true, Bool.true_and, Bool.false_and, Bool.or_false, Bool.or_true, Bool.true_or, Bool.false_or, sz0, szl0, sz1, szl1, sz2, szl2, sz3, szl3, sz4, szl4, sz5, szl5, sz6, szl6, sz7, szl7, sz8, szl8, sz9, szl9, sz10, szl10, sz11, szl11, sz12, szl12, sz13, szl13, sz14, szl14, sz15, szl15, rd.r0, lk_put, oSl, hc, hp, List.length_set, wCut_len hw rfl]
  exact wCut_len hw (by rw [List.length_set, List.length_set]) _
theorem ev_take_setting (h : WF st) {r i j : Nat} {s : Str} {met parts : List D} (rd : RdAt a st r i j (.str s) met parts) {t : Int} {k v : Str} (N : NewIn met (.tup [.str "place", .str (s ++ "." ++ k)])) (l1 : met.length < sizeLine) (l2 : parts.length < sizeLine)
    (l3 : s.length ≤ sizeLine) (l4 : (s ++ ".").length ≤ sizeLine) (l5 : (s ++ "." ++ k).length ≤ sizeLine) (l6 : k.length ≤ sizeLine) :
    m_Reader_take_setting K a [.ref r, .d (.int t), .d (.tup [.str k, .str v])] st = .ok (.d .non) ((st.set i (.lst ((met ++ [D.tup [.str "place", .str (s ++ "." ++ k)]]).map U.d))).set j (.lst ((parts ++ [D.tup [.int t, .str "place", .tup [.str (s ++ "." ++ k), .str v]]]).map U.d))) := by
  have hp := ev_put (K := K) h rd (t := t) (kd := "key") (th := .tup [.str (s ++ "." ++ k), .str v]) N l1 l2
  have hw : WF ((st.set i (.lst ((met ++ [D.tup [.str "place", .str (s ++ "." ++ k)]]).map U.d))).set j (.lst ((parts ++ [D.tup [.int t, .str "place", .tup [.str (s ++ "." ++ k), .str v]]]).map U.d))) := (h.setL _ _).setL _ _
  have he : Str.empty ++ s = s := by
    show Str.append _ _ = _
    unfold Str.append Str.empty
    simp
  unfold m_Reader_take_setting g_Reader_take_setting
  simp only [fnM, sSeq, sRet, sRetN, sExpr, sIf, sNil, sNo, sAsg, tgN, bndS, bnd, vVar, vC, f2, f1, fB, pu, fN, vTup, vLst, fTup, fCons, fNil, fPure, fIf, fAnd, fOr, fNot, asB, asT, bAnd, bOr, bNot, fChain, fCall, fCW, gPos, gApp, R.of, R.of2, fM, pu4, tgT, tgCons, tgNil, unp, pureL, sPar, sPar3, fLstC, fFld, oFld, fMeth, insU, sFldS, setFld, fSl, oNone, oSome, tgSub, setU, fIter, fItN, fItS, sFor, getL, getT, VL.getD, keyD, tyB, lstC, oAdd, oSub, oMul, oFdiv, oMod, oPow, oNeg, oLt, oLe, oGt, oGe, oEq, oNe, oIsN, oNotN, oIn, oNotIn, oIx, oLen, oInt, oAbs, oMin, oMax, oStr, oList, oListC, oTuple, oAll, oAny, itemsU, lenN, truB, fJs, oFmt, List.map_cons, List.map_nil, List.length_cons, List.length_nil, List.replicate_succ, List.replicate_zero, List.cons_append, List.nil_append, List.append_nil, List.getElem?_cons_zero, List.getElem?_cons_succ, List.set_cons_zero, List.set_cons_succ, Nat.reduceAdd, Nat.reduceSub, Option.map_some, Option.map_none, if_true, if_false, ite_true, ite_false, Bool.false_eq_true, reduceCtorEq, true_and, and_true, and_self, Bool.not_true, Bool.not_false, Nat.zero_add, Option.bind_some, Option.bind_eq_bind, Option.pure_def, decide_true, decide_false, eq_self, Nat.reduceEqDiff, Nat.reduceLT, Nat.reduceLeDiff, Int.reduceLT, Int.reduceLE, Int.reduceEq, Bool.and_true, Bool.true_and, Bool.false_and, Bool.or_false, Bool.or_true, Bool.true_or, Bool.false_or, sz0, szl0, sz1, szl1, sz2, szl2, sz3, szl3, sz4, szl4, sz5, szl5, sz6, szl6, sz7, szl7, sz8, szl8, sz9, szl9, sz10, szl10, sz11, szl11, sz12, szl12, sz13, szl13, sz14, szl14, sz15, szl15, rd.r0, lk_put, lk_sec, List.mem_cons, List.not_mem_nil, or_false, he, l3, l4, l5, l6, at_0, at_1, List.map_cons, List.map_nil, hp]
  exact wCut_len hw (by rw [List.length_set, List.length_set]) _

structure Fr (st st' : Store) (r i j : Nat) : Prop where
  wf : WF st'
  len : st'.length = st.length
  fr : ∀ n, n ≠ r → n ≠ i → n ≠ j → st'[n]? = st[n]?
theorem Fr.trans {s0 s1 s2 : Store} {r i j : Nat} (x : Fr s0 s1 r i j) (y : Fr s1 s2 r i j) : Fr s0 s2 r i j :=
  ⟨y.wf, y.len.trans x.len, fun n h1 h2 h3 => (y.fr n h1 h2 h3).trans (x.fr n h1 h2 h3)⟩
theorem fr_ij (h : WF st) (r i j : Nat) (m p : List D) : Fr st ((st.set i (.lst (m.map U.d))).set j (.lst (p.map U.d))) r i j :=
  ⟨(h.setL _ _).setL _ _, by rw [List.length_set, List.length_set], fun n _ h2 h3 => by rw [List.getElem?_set_ne (Ne.symm h3), List.getElem?_set_ne (Ne.symm h2)]⟩
/-- a line of a text -/
inductive Ln where
  | rem (s : Str) | kept (s : Str) (n : Int) (p : Str) (v : D) | head (n : Str) | set (k v : Str)
def Ln.text : Ln → Str
  | .rem s => s
  | .kept s _ _ _ => s
  | .head n => ("[" : Str) ++ n ++ ("]" : Str)
  | .set k v => k ++ (" = " : Str) ++ v
structure Plain (s : Str) : Prop where
  a1 : Txt.startswith s "#~" = false
  a2 : s ≠ ("" : Str)
  a3 : Txt.startswith s "#" = false
def Ln.Ok (l : Ln) : Prop := l.text.length ≤ sizeLine ∧ match l with
  | .rem s => Txt.startswith s "#~" = false ∧ (s = ("" : Str) ∨ Txt.startswith s "#" = true)
  | .kept s n p v => Txt.startswith s "#~" = true ∧ KeptOk s n p v
  | .head n => Plain (Ln.text (.head n)) ∧ sectionIn (Ln.text (.head n)) = .str n
  | .set k v => Plain (Ln.text (.set k v)) ∧ sectionIn (Ln.text (.set k v)) = .non ∧ settingIn (Ln.text (.set k v)) = .tup [.str k, .str v] ∧ k.length ≤ sizeLine
/-- what the reader has of it -/
def Ln.sec (s : D) : Ln → D
  | .head n => .str n
  | _ => s
def pl (s : D) (k : Str) : Str := match s with
  | .str x => x ++ ("." : Str) ++ k
  | _ => k
def Ln.met (s : D) : Ln → List D
  | .rem _ => []
  | .kept _ n p _ => [.tup [.str "kept", .tup [.int n, .str p]]]
  | .head n => [.tup [.str "section", .str n]]
  | .set k _ => [.tup [.str "place", .str (pl s k)]]
def Ln.part (s : D) (t : Int) : Ln → D
  | .rem x => .tup [.int t, .str "remark", .str x]
  | .kept _ n p v => .tup [.int t, .str "kept", .tup [.int n, .str p, v]]
  | .head n => .tup [.int t, .str "section", .str n]
  | .set k v => .tup [.int t, .str "place", .tup [.str (pl s k), .str v]]
/-- a section stands above -/
def Ln.In (s : D) : Ln → Prop
  | .set k _ => ∃ x, s = .str x ∧ x.length ≤ sizeLine ∧ (x ++ ("." : Str)).length ≤ sizeLine ∧ (x ++ ("." : Str) ++ k).length ≤ sizeLine
  | _ => True
theorem pf_sec (u x y z : U) : putFU ("section" : Str) u [(("section" : Str), x), (("met" : Str), y), (("parts" : Str), z)] = [(("section" : Str), u), (("met" : Str), y), (("parts" : Str), z)] := rfl
theorem app_rd {r i j : Nat} {sec : D} {met parts : List D} (rd : RdAt a st r i j sec met parts) (h : WF st) (p' : List D) : RdAt a (st.set j (.lst (p'.map U.d))) r i j sec met p' ∧ Fr st (st.set j (.lst (p'.map U.d))) r i j := by
  have lj := (List.getElem?_eq_some_iff.mp rd.j0).1
  refine ⟨⟨?_, ?_, ?_, rd.ri, rd.rj, rd.ij⟩, h.setL _ _, List.length_set, fun n _ _ h3 => List.getElem?_set_ne (Ne.symm h3)⟩
  · rw [List.getElem?_set_ne rd.rj.symm]; exact rd.r0
  · rw [List.getElem?_set_ne rd.ij.symm]; exact rd.i0
  · rw [List.getElem?_set_self lj]
theorem sec_rd {r i j : Nat} {sec : D} {met parts : List D} (rd : RdAt a st r i j sec met parts) (h : WF st) (s : D) : RdAt a (st.set r (.ins a.C_Reader [("section", .d s), ("met", .ref i), ("parts", .ref j)])) r i j s met parts ∧ Fr st (st.set r (.ins a.C_Reader [("section", .d s), ("met", .ref i), ("parts", .ref j)])) r i j := by
  have lr := (List.getElem?_eq_some_iff.mp rd.r0).1
  have li := (List.getElem?_eq_some_iff.mp rd.i0).1
  have lj := (List.getElem?_eq_some_iff.mp rd.j0).1
  refine ⟨⟨?_, ?_, ?_, rd.ri, rd.rj, rd.ij⟩, h.set ?_, List.length_set, fun n h1 _ _ => List.getElem?_set_ne (Ne.symm h1)⟩
  · rw [List.getElem?_set_self lr]
  · rw [List.getElem?_set_ne rd.ri]; exact rd.i0
  · rw [List.getElem?_set_ne rd.rj]; exact rd.j0
  · show (true && (decide (i < st.length) && (decide (j < st.length) && true))) = true
    simp [li, lj]
theorem ev_take (h : WF st) {r i j : Nat} {sec : D} {met parts : List D} (rd : RdAt a st r i j sec met parts) (l : Ln) (ok : l.Ok) (hin : l.In sec) (t : Int) (N : ∀ x ∈ l.met sec, NewIn met x) (l1 : met.length < sizeLine) (l2 : parts.length < sizeLine) :
    ∃ st', m_Reader_take K a [.ref r, .d (.int t), .d (.str l.text)] st = .ok (.d .non) st' ∧ Fr st st' r i j ∧ RdAt a st' r i j (l.sec sec) (met ++ l.met sec) (parts ++ [l.part sec t]) := by
  have l2' : (parts.map U.d).length < sizeLine := by rw [List.length_map]; exact l2
  obtain ⟨hl, ok⟩ := ok
  unfold m_Reader_take g_Reader_take
  cases l with
  | rem s =>
    obtain ⟨a1, a2⟩ := ok
    obtain ⟨g1, g2⟩ := app_rd rd h (parts ++ [D.tup [.int t, .str "remark", .str s]])
    refine ⟨_, ?_, g2, ?_⟩
    · by_cases he : s = ("" : Str)
      · simp only [fnM, sSeq, sRet, sRetN, sExpr, sIf, sNil, sNo, sAsg, tgN, bndS, bnd, vVar, vC, f2, f1, fB, pu, fN, vTup, vLst, fTup, fCons, fNil, fPure, fIf, fAnd, fOr, fNot, asB, asT, bAnd, bOr, bNot, fChain, fCall, fCW, gPos, gApp, R.of, R.of2, fM, pu4, tgT, tgCons, tgNil, unp, pureL, sPar, sPar3, fLstC, fFld, oFld, fMeth, insU, sFldS, setFld, fSl, oNone, oSome, tgSub, setU, fIter, fItN, fItS, sFor, getL, getT, VL.getD, keyD, tyB, lstC, oAdd, oSub, oMul, oFdiv, oMod, oPow, oNeg, oLt, oLe, oGt, oGe, oEq, oNe, oIsN, oNotN, oIn, oNotIn, oIx, oLen, oInt, oAbs, oMin, oMax, oStr, oList, oListC, oTuple, oAll, oAny, itemsU, lenN, truB, fJs, oFmt, List.map_cons, List.map_nil, List.length_cons, List.length_nil, List.replicate_succ, List.replicate_zero, List.cons_append, List.nil_append, List.append_nil, List.getElem?_cons_zero, List.getElem?_cons_succ, List.set_cons_zero, List.set_cons_succ, Nat.reduceAdd, Nat.reduceSub, Option.map_some, Option.map_none, if_true, if_false, ite_true, ite_false, Bool.false_eq_true, reduceCtorEq, true_and, and_true, and_self, Bool.not_true, Bool.not_false, Nat.zero_add, Option.bind_some, Option.bind_eq_bind, Option.pure_def, decide_true, decide_false, eq_self, Nat.reduceEqDiff, Nat.reduceLT, Nat.reduceLeDiff, Int.reduceLT, Int.reduceLE, Int.reduceEq, Bool.and_true, Bool.true_and, Bool.false_and, Bool.or_false, Bool.or_true, Bool.true_or, Bool.false_or, sz0, szl0, sz1, szl1, sz2, szl2, sz3, szl3, sz4, szl4, sz5, szl5, sz6, szl6, sz7, szl7, sz8, szl8, sz9, szl9, sz10, szl10, sz11, szl11, sz12, szl12, sz13, szl13, sz14, szl14, sz15, szl15, Ln.text, mStarts, a1, eqB, decide_eq_true he, rd.r0, rd.j0, List.mem_cons, List.not_mem_nil, or_false, lk_parts, mAppend, l2', map_snoc]
        exact wCut_len g2.wf g2.len _
      · have a3 := a2.resolve_left he
        simp only [fnM, sSeq, sRet, sRetN, sExpr, sIf, sNil, sNo, sAsg, tgN, bndS, bnd, vVar, vC, f2, f1, fB, pu, fN, vTup, vLst, fTup, fCons, fNil, fPure, fIf, fAnd, fOr, fNot, asB, asT, bAnd, bOr, bNot, fChain, fCall, fCW, gPos, gApp, R.of, R.of2, fM, pu4, tgT, tgCons, tgNil, unp, pureL, sPar, sPar3, fLstC, fFld, oFld, fMeth, insU, sFldS, setFld, fSl, oNone, oSome, tgSub, setU, fIter, fItN, fItS, sFor, getL, getT, VL.getD, keyD, tyB, lstC, oAdd, oSub, oMul, oFdiv, oMod, oPow, oNeg, oLt, oLe, oGt, oGe, oEq, oNe, oIsN, oNotN, oIn, oNotIn, oIx, oLen, oInt, oAbs, oMin, oMax, oStr, oList, oListC, oTuple, oAll, oAny, itemsU, lenN, truB, fJs, oFmt, List.map_cons, List.map_nil, List.length_cons, List.length_nil, List.replicate_succ, List.replicate_zero, List.cons_append, List.nil_append, List.append_nil, List.getElem?_cons_zero, List.getElem?_cons_succ, List.set_cons_zero, List.set_cons_succ, Nat.reduceAdd, Nat.reduceSub, Option.map_some, Option.map_none, if_true, if_false, ite_true, ite_false, Bool.false_eq_true, reduceCtorEq, true_and, and_true, and_self, Bool.not_true, Bool.not_false, Nat.zero_add, Option.bind_some, Option.bind_eq_bind, Option.pure_def, decide_true, decide_false, eq_self, Nat.reduceEqDiff, Nat.reduceLT, Nat.reduceLeDiff, Int.reduceLT, Int.reduceLE, Int.reduceEq, Bool.and_true, Bool.true_and, Bool.false_and, Bool.or_false, Bool.or_true, Bool.true_or, Bool.false_or, sz0, szl0, sz1, szl1, sz2, szl2, sz3, szl3, sz4, szl4, sz5, szl5, sz6, szl6, sz7, szl7, sz8, szl8, sz9, szl9, sz10, szl10, sz11, szl11, sz12, szl12, sz13, szl13, sz14, szl14, sz15, szl15, Ln.text, mStarts, a1, a3, eqB, decide_eq_false he, rd.r0, rd.j0, List.mem_cons, List.not_mem_nil, or_false, lk_parts, mAppend, l2', map_snoc]
        exact wCut_len g2.wf g2.len _
    · show RdAt a _ r i j sec (met ++ []) _
      rw [List.append_nil]; exact g1
  | kept s n p v =>
    obtain ⟨a1, k⟩ := ok
    have hk := ev_take_kept (K := K) h rd (t := t) (v := v) (N _ (List.mem_singleton.mpr rfl)) l1 l2
    have fr := fr_ij h r i j (met ++ [.tup [.str "kept", .tup [.int n, .str p]]]) (parts ++ [.tup [.int t, .str "kept", .tup [.int n, .str p, v]]])
    refine ⟨_, ?_, fr, rd.put _ _⟩
    simp only [fnM, sSeq, sRet, sRetN, sExpr, sIf, sNil, sNo, sAsg, tgN, bndS, bnd, vVar, vC, f2, f1, fB, pu, fN, vTup, vLst, fTup, fCons, fNil, fPure, fIf, fAnd, fOr, fNot, asB, asT, bAnd, bOr, bNot, fChain, fCall, fCW, gPos, gApp, R.of, R.of2, fM, pu4, tgT, tgCons, tgNil, unp, pureL, sPar, sPar3, fLstC, fFld, oFld, fMeth, insU, sFldS, setFld, fSl, oNone, oSome, tgSub, setU, fIter, fItN, fItS, sFor, getL, getT, VL.getD, keyD, tyB, lstC, oAdd, oSub, oMul, oFdiv, oMod, oPow, oNeg, oLt, oLe, oGt, oGe, oEq, oNe, oIsN, oNotN, oIn, oNotIn, oIx, oLen, oInt, oAbs, oMin, oMax, oStr, oList, oListC, oTuple, oAll, oAny, itemsU, lenN, truB, fJs, oFmt, List.map_cons, List.map_nil, List.length_cons, List.length_nil, List.replicate_succ, List.replicate_zero, List.cons_append, List.nil_append, List.append_nil, List.getElem?_cons_zero, List.getElem?_cons_succ, List.set_cons_zero, List.set_cons_succ, Nat.reduceAdd, Nat.reduceSub, Option.map_some, Option.map_none, if_true, if_false, ite_true, ite_false, Bool.false_eq_true, reduceCtorEq, true_and, and_true, and_self, Bool.not_true, Bool.not_false, Nat.zero_add, Option.bind_some, Option.bind_eq_bind, Option.pure_def, decide_true, decide_false, eq_self, Nat.reduceEqDiff, Nat.reduceLT, Nat.reduceLeDiff, Int.reduceLT, Int.reduceLE, Int.reduceEq, Bool.and_true, Bool.true_and, Bool.false_and, Bool.or_false, Bool.or_true, Bool.true_or, Bool.false_or, sz0, szl0, sz1, szl1, sz2, szl2, sz3, szl3, sz4, szl4, sz5, szl5, sz6, szl6, sz7, szl7, sz8, szl8, sz9, szl9, sz10, szl10, sz11, szl11, sz12, szl12, sz13, szl13, sz14, szl14, sz15, szl15, Ln.text, mStarts, a1, rd.r0, lk_tk, ev_kept h k, hk]
    exact wCut_len fr.wf fr.len _
  | head n =>
    obtain ⟨⟨a1, a2, a3⟩, e⟩ := ok
    obtain ⟨g1, g2⟩ := sec_rd rd h (.str n)
    have hp := ev_put (K := K) g2.wf g1 (t := t) (kd := "section") (th := .str n) (N _ (List.mem_singleton.mpr rfl)) l1 l2
    have fr := fr_ij g2.wf r i j (met ++ [.tup [.str "section", .str n]]) (parts ++ [.tup [.int t, .str "section", .str n]])
    refine ⟨_, ?_, g2.trans fr, g1.put _ _⟩
    have hs := ev_section (K := K) (a := a) h _ hl
    rw [e] at hs
    simp only [fnM, sSeq, sRet, sRetN, sExpr, sIf, sNil, sNo, sAsg, tgN, bndS, bnd, vVar, vC, f2, f1, fB, pu, fN, vTup, vLst, fTup, fCons, fNil, fPure, fIf, fAnd, fOr, fNot, asB, asT, bAnd, bOr, bNot, fChain, fCall, fCW, gPos, gApp, R.of, R.of2, fM, pu4, tgT, tgCons, tgNil, unp, pureL, sPar, sPar3, fLstC, fFld, oFld, fMeth, insU, sFldS, setFld, fSl, oNone, oSome, tgSub, setU, fIter, fItN, fItS, sFor, getL, getT, VL.getD, keyD, tyB, lstC, oAdd, oSub, oMul, oFdiv, oMod, oPow, oNeg, oLt, oLe, oGt, oGe, oEq, oNe, oIsN, oNotN, oIn, oNotIn, oIx, oLen, oInt, oAbs, oMin, oMax, oStr, oList, oListC, oTuple, oAll, oAny, itemsU, lenN, truB, fJs, oFmt, List.map_cons, List.map_nil, List.length_cons, List.length_nil, List.replicate_succ, List.replicate_zero, List.cons_append, List.nil_append, List.append_nil, List.getElem?_cons_zero, List.getElem?_cons_succ, List.set_cons_zero, List.set_cons_succ, Nat.reduceAdd, Nat.reduceSub, Option.map_some, Option.map_none, if_true, if_false, ite_true, ite_false, Bool.false_eq_true, reduceCtorEq, true_and, and_true, and_self, Bool.not_true, Bool.not_false, Nat.zero_add, Option.bind_some, Option.bind_eq_bind, Option.pure_def, decide_true, decide_false, eq_self, Nat.reduceEqDiff, Nat.reduceLT, Nat.reduceLeDiff, Int.reduceLT, Int.reduceLE, Int.reduceEq, Bool.and_true, Bool.true_and, Bool.false_and, Bool.or_false, Bool.or_true, Bool.true_or, Bool.false_or, sz0, szl0, sz1, szl1, sz2, szl2, sz3, szl3, sz4, szl4, sz5, szl5, sz6, szl6, sz7, szl7, sz8, szl8, sz9, szl9, sz10, szl10, sz11, szl11, sz12, szl12, sz13, szl13, sz14, szl14, sz15, szl15, mStarts, a1, a3, eqB, decide_eq_false a2, hs, rd.r0, List.mem_cons, List.not_mem_nil, or_false, g1.r0, lk_put, lk_sec, pf_sec, hp]
    exact wCut_len fr.wf (fr.len.trans g2.len) _
  | set k v =>
    obtain ⟨⟨a1, a2, a3⟩, e, e2, lk⟩ := ok
    obtain ⟨x, rfl, x1, x2, x3⟩ := hin
    have hk := ev_take_setting (K := K) h rd (t := t) (k := k) (v := v) (N _ (List.mem_singleton.mpr rfl)) l1 l2 x1 x2 x3 lk
    have fr := fr_ij h r i j (met ++ [.tup [.str "place", .str (x ++ ("." : Str) ++ k)]]) (parts ++ [.tup [.int t, .str "place", .tup [.str (x ++ ("." : Str) ++ k), .str v]]])
    refine ⟨_, ?_, fr, rd.put _ _⟩
    have hs := ev_section (K := K) (a := a) h _ hl
    have hs2 := ev_setting (K := K) (a := a) h _ hl
    rw [e] at hs
    rw [e2] at hs2
    simp only [fnM, sSeq, sRet, sRetN, sExpr, sIf, sNil, sNo, sAsg, tgN, bndS, bnd, vVar, vC, f2, f1, fB, pu, fN, vTup, vLst, fTup, fCons, fNil, fPure, fIf, fAnd, fOr, fNot, asB, asT, bAnd, bOr, bNot, fChain, fCall, fCW, gPos, gApp, R.of, R.of2, fM, pu4, tgT, tgCons, tgNil, unp, pureL, sPar, sPar3, fLstC, fFld, oFld, fMeth, insU, sFldS, setFld, fSl, oNone, oSome, tgSub, setU, fIter, fItN, fItS, sFor, getL, getT, VL.getD, keyD, tyB, lstC, oAdd, oSub, oMul, oFdiv, oMod, oPow, oNeg, oLt, oLe, oGt, oGe, oEq, oNe, oIsN, oNotN, oIn, oNotIn, oIx, oLen, oInt, oAbs, oMin, oMax, oStr, oList, oListC, oTuple, oAll, oAny, itemsU, lenN, truB, fJs, oFmt, List.map_cons, List.map_nil, List.length_cons, List.length_nil, List.replicate_succ, List.replicate_zero, List.cons_append, List.nil_append, List.append_nil, List.getElem?_cons_zero, List.getElem?_cons_succ, List.set_cons_zero, List.set_cons_succ, Nat.reduceAdd, Nat.reduceSub, Option.map_some, Option.map_none, if_true, if_false, ite_true, ite_false, Bool.false_eq_true, reduceCtorEq, true_and, and_true, and_self, Bool.not_true, Bool.not_false, Nat.zero_add, Option.bind_some, Option.bind_eq_bind, Option.pure_def, decide_true, decide_false, eq_self, Nat.reduceEqDiff, Nat.reduceLT, Nat.reduceLeDiff, Int.reduceLT, Int.reduceLE, Int.reduceEq, Bool.and_true, Bool.true_and, Bool.false_and, Bool.or_false, Bool.or_true, Bool.true_or, Bool.false_or, sz0, szl0, sz1, szl1, sz2, szl2, sz3, szl3, sz4, szl4, sz5, szl5, sz6, szl6, sz7, szl7, sz8, szl8, sz9, szl9, sz10, szl10, sz11, szl11, sz12, szl12, sz13, szl13, sz14, szl14, sz15, szl15, mStarts, a1, a3, eqB, decide_eq_false a2, hs, hs2, rd.r0, lk_ts, hk]
    exact wCut_len fr.wf fr.len _

end VL.K06

namespace VL.K06
open PySem PySem.Spec PyProof.Rows L2 VL
variable {K : PySem.W.Frag} {a : Ad} {st : Store}
theorem pf0 (u : U) : putFU ("section" : Str) u [] = [(("section" : Str), u)] := rfl
theorem pf1 (u x : U) : putFU ("met" : Str) u [(("section" : Str), x)] = [(("section" : Str), x), (("met" : Str), u)] := rfl
theorem pf2 (u x y : U) : putFU ("parts" : Str) u [(("section" : Str), x), (("met" : Str), y)] = [(("section" : Str), x), (("met" : Str), y), (("parts" : Str), u)] := rfl
theorem ev_rinit (h : WF st) {r : Nat} (hr : st[r]? = some (.ins a.C_Reader [])) :
    ∃ st', m_Reader_init K a [.ref r] st = .ok (.d .non) st' ∧ WF st' ∧ st'.length = st.length + 2 ∧ RdAt a st' r st.length (st.length + 1) .non [] [] ∧ ∀ n, n ≠ r → n < st.length → st'[n]? = st[n]? := by
  have lr := (List.getElem?_eq_some_iff.mp hr).1
  let A : O := .ins a.C_Reader [(("section" : Str), .d .non)]
  let B : O := .ins a.C_Reader [(("section" : Str), .d .non), (("met" : Str), .ref st.length)]
  let C : O := .ins a.C_Reader [(("section" : Str), .d .non), (("met" : Str), .ref st.length), (("parts" : Str), .ref (st.length + 1))]
  have e1 : (st.set r A)[r]? = some A := set_at hr
  have e2 : (st.set r A ++ [O.lst []])[r]? = some A := app_at e1
  have e3 : ((st.set r A ++ [O.lst []]).set r B)[r]? = some B := set_at e2
  have e4 : ((st.set r A ++ [O.lst []]).set r B ++ [O.lst []])[r]? = some B := app_at e3
  have e5 : (((st.set r A ++ [O.lst []]).set r B ++ [O.lst []]).set r C)[r]? = some C := set_at e4
  refine ⟨((st.set r A ++ [O.lst []]).set r B ++ [O.lst []]).set r C, ?_, ?_, ?_, ⟨e5, ?_, ?_, ?_, ?_, ?_⟩, ?_⟩
  · simp only [A, B, C] at *
    unfold m_Reader_init g_Reader_init
    simp only [fnM, sSeq, sRet, sRetN, sExpr, sIf, sNil, sNo, sAsg, tgN, bndS, bnd, vVar, vC, f2, f1, fB, pu, fN, vTup, vLst, fTup, fCons, fNil, fPure, fIf, fAnd, fOr, fNot, asB, asT, bAnd, bOr, bNot, fChain, fCall, fCW, gPos, gApp, R.of, R.of2, fM, pu4, tgT, tgCons, tgNil, unp, pureL, sPar, sPar3, fLstC, fFld, oFld, fMeth, insU, sFldS, setFld, fSl, oNone, oSome, tgSub, setU, fIter, fItN, fItS, sFor, getL, getT, VL.getD, keyD, tyB, lstC, oAdd, oSub, oMul, oFdiv, oMod, oPow, oNeg, oLt, oLe, oGt, oGe, oEq, oNe, oIsN, oNotN, oIn, oNotIn, oIx, oLen, oInt, oAbs, oMin, oMax, oStr, oList, oListC, oTuple, oAll, oAny, itemsU, lenN, truB, fJs, oFmt, List.map_cons, List.map_nil, List.length_cons, List.length_nil, List.replicate_succ, List.replicate_zero, List.cons_append, List.nil_append, List.append_nil, List.getElem?_cons_zero, List.getElem?_cons_succ, List.set_cons_zero, List.set_cons_succ, Nat.reduceAdd, Nat.reduceSub, Option.map_some, Option.map_none, if_true, if_false, ite_true, ite_false, Bool.false_eq_true, reduceCtorEq, true_and, and_true, and_self, Bool.not_true, Bool.not_false, Nat.zero_add, Option.bind_some, Option.bind_eq_bind, Option.pure_def, decide_true, decide_false, eq_self, Nat.reduceEqDiff, Nat.reduceLT, Nat.reduceLeDiff, Int.reduceLT, Int.reduceLE, Int.reduceEq, Bool.and_true, Bool.true_and, Bool.false_and, Bool.or_false, Bool.or_true, Bool.true_or, Bool.false_or, sz0, szl0, sz1, szl1, sz2, szl2, sz3, szl3, sz4, szl4, sz5, szl5, sz6, szl6, sz7, szl7, sz8, szl8, sz9, szl9, sz10, szl10, sz11, szl11, sz12, szl12, sz13, szl13, sz14, szl14, sz15, szl15, hr, List.mem_cons, List.not_mem_nil, or_false, pf0, e2, pf1, e4, pf2, wId, List.length_set, List.length_append]
  · refine WF.set (WF.push (WF.set (WF.push (WF.set h ?_) rfl) ?_) rfl) ?_
    · rfl
    · show (true && (decide (st.length < _) && true)) = true
      simp
    · show (true && (decide (st.length < _) && (decide (st.length + 1 < _) && true))) = true
      simp
      omega
  · simp
  · rw [List.getElem?_set_ne (by omega), app_at (o := .lst [])]
    · rfl
    · rw [List.getElem?_set_ne (by omega)]
      have := new_at (st := st.set r A) (o := .lst [])
      rw [List.length_set] at this
      exact this
  · rw [List.getElem?_set_ne (by omega)]
    have := new_at (st := (st.set r A ++ [O.lst []]).set r B) (o := .lst [])
    simpa using this
  · omega
  · omega
  · omega
  · intro n h1 h2
    rw [List.getElem?_set_ne (Ne.symm h1), List.getElem?_append_left (by simp; omega), List.getElem?_set_ne (Ne.symm h1), List.getElem?_append_left (by simp; omega), List.getElem?_set_ne (Ne.symm h1)]
/-! the lines -/
def Vd : D → List D → List Ln → Prop
  | _, _, [] => True
  | s, m, l :: ls => l.Ok ∧ l.In s ∧ (∀ x ∈ l.met s, NewIn m x) ∧ Vd (l.sec s) (m ++ l.met s) ls
def partsL : D → Nat → List Ln → List D
  | _, _, [] => []
  | s, k, l :: ls => l.part s (k : Nat) :: partsL (l.sec s) (k + 1) ls
def secL : D → List Ln → D
  | s, [] => s
  | s, l :: ls => secL (l.sec s) ls
theorem met_len (s : D) (l : Ln) : (l.met s).length ≤ 1 := by cases l <;> simp [Ln.met]
theorem ev_lines {r i j : Nat} {u0 u1 : Option U} {x5 x6 : Option U} : ∀ (ls : List Ln) (k : Nat) (x3 x4 : Option U) (st : Store) (sec : D) (met parts : List D), WF st → RdAt a st r i j sec met parts → Vd sec met ls → met.length + ls.length < sizeLine → parts.length + ls.length < sizeLine →
    ∃ x3' x4' st' met', loopL (tgT 2 (tgCons (tgN 3) (tgCons (tgN 4) tgNil))) (b_SettingsFile_init_1 K a) (pairsFrom k (ls.map fun l => D.str l.text)) [u0, u1, some (.ref r), x3, x4, x5, x6] st = .ok [u0, u1, some (.ref r), x3', x4', x5, x6] .nx st' ∧ Fr st st' r i j ∧ RdAt a st' r i j (secL sec ls) met' (parts ++ partsL sec k ls)
  | [], k, x3, x4, st, sec, met, parts, h, rd, _, _, _ => ⟨x3, x4, st, met, rfl, ⟨h, rfl, fun _ _ _ _ => rfl⟩, by rw [show partsL sec k [] = [] from rfl, List.append_nil]; exact rd⟩
  | l :: ls, k, x3, x4, st, sec, met, parts, h, rd, ⟨v1, v2, v3, v4⟩, l1, l2 => by
    rw [List.length_cons] at l1 l2
    obtain ⟨st1, e1, f1, rd1⟩ := ev_take (K := K) h rd l v1 v2 (k : Nat) v3 (by omega) (by omega)
    have ml := met_len sec l
    obtain ⟨y3, y4, st2, met2, e2, f2, rd2⟩ := ev_lines (u0 := u0) (u1 := u1) (x5 := x5) (x6 := x6) ls (k + 1) (some (.d (.int (k : Nat)))) (some (.d (.str l.text))) st1 (l.sec sec) (met ++ l.met sec) (parts ++ [l.part sec (k : Nat)]) f1.wf rd1 v4 (by rw [List.length_append]; omega) (by rw [List.length_append, List.length_singleton]; omega)
    refine ⟨y3, y4, st2, met2, ?_, f1.trans f2, ?_⟩
    · rw [List.map_cons, pairsFrom, loopL]
      have eb : b_SettingsFile_init_1 K a [u0, u1, some (.ref r), some (.d (.int (k : Nat))), some (.d (.str l.text)), x5, x6] st = .ok [u0, u1, some (.ref r), some (.d (.int (k : Nat))), some (.d (.str l.text)), x5, x6] .nx st1 := by
        unfold b_SettingsFile_init_1
        simp only [fnM, sSeq, sRet, sRetN, sExpr, sIf, sNil, sNo, sAsg, tgN, bndS, bnd, vVar, vC, f2, f1, fB, pu, fN, vTup, vLst, fTup, fCons, fNil, fPure, fIf, fAnd, fOr, fNot, asB, asT, bAnd, bOr, bNot, fChain, fCall, fCW, gPos, gApp, R.of, R.of2, fM, pu4, tgT, tgCons, tgNil, unp, pureL, sPar, sPar3, fLstC, fFld, oFld, fMeth, insU, sFldS, setFld, fSl, oNone, oSome, tgSub, setU, fIter, fItN, fItS, sFor, getL, getT, VL.getD, keyD, tyB, lstC, oAdd, oSub, oMul, oFdiv, oMod, oPow, oNeg, oLt, oLe, oGt, oGe, oEq, oNe, oIsN, oNotN, oIn, oNotIn, oIx, oLen, oInt, oAbs, oMin, oMax, oStr, oList, oListC, oTuple, oAll, oAny, itemsU, lenN, truB, fJs, oFmt, List.map_cons, List.map_nil, List.length_cons, List.length_nil, List.replicate_succ, List.replicate_zero, List.cons_append, List.nil_append, List.append_nil, List.getElem?_cons_zero, List.getElem?_cons_succ, List.set_cons_zero, List.set_cons_succ, Nat.reduceAdd, Nat.reduceSub, Option.map_some, Option.map_none, if_true, if_false, ite_true, ite_false, Bool.false_eq_true, reduceCtorEq, true_and, and_true, and_self, Bool.not_true, Bool.not_false, Nat.zero_add, Option.bind_some, Option.bind_eq_bind, Option.pure_def, decide_true, decide_false, eq_self, Nat.reduceEqDiff, Nat.reduceLT, Nat.reduceLeDiff, Int.reduceLT, Int.reduceLE, Int.reduceEq, Bool.and_true, Bool.true_and, Bool.false_and, Bool.or_false, Bool.or_true, Bool.true_or, Bool.false_or, sz0, szl0, sz1, szl1, sz2, szl2, sz3, szl3, sz4, szl4, sz5, szl5, sz6, szl6, sz7, szl7, sz8, szl8, sz9, szl9, sz10, szl10, sz11, szl11, sz12, szl12, sz13, szl13, sz14, szl14, sz15, szl15, rd.r0, lk_take, e1]
      simp only [fnM, sSeq, sRet, sRetN, sExpr, sIf, sNil, sNo, sAsg, tgN, bndS, bnd, vVar, vC, f2, f1, fB, pu, fN, vTup, vLst, fTup, fCons, fNil, fPure, fIf, fAnd, fOr, fNot, asB, asT, bAnd, bOr, bNot, fChain, fCall, fCW, gPos, gApp, R.of, R.of2, fM, pu4, tgT, tgCons, tgNil, unp, pureL, sPar, sPar3, fLstC, fFld, oFld, fMeth, insU, sFldS, setFld, fSl, oNone, oSome, tgSub, setU, fIter, fItN, fItS, sFor, getL, getT, VL.getD, keyD, tyB, lstC, oAdd, oSub, oMul, oFdiv, oMod, oPow, oNeg, oLt, oLe, oGt, oGe, oEq, oNe, oIsN, oNotN, oIn, oNotIn, oIx, oLen, oInt, oAbs, oMin, oMax, oStr, oList, oListC, oTuple, oAll, oAny, itemsU, lenN, truB, fJs, oFmt, List.map_cons, List.map_nil, List.length_cons, List.length_nil, List.replicate_succ, List.replicate_zero, List.cons_append, List.nil_append, List.append_nil, List.getElem?_cons_zero, List.getElem?_cons_succ, List.set_cons_zero, List.set_cons_succ, Nat.reduceAdd, Nat.reduceSub, Option.map_some, Option.map_none, if_true, if_false, ite_true, ite_false, Bool.false_eq_true, reduceCtorEq, true_and, and_true, and_self, Bool.not_true, Bool.not_false, Nat.zero_add, Option.bind_some, Option.bind_eq_bind, Option.pure_def, decide_true, decide_false, eq_self, Nat.reduceEqDiff, Nat.reduceLT, Nat.reduceLeDiff, Int.reduceLT, Int.reduceLE, Int.reduceEq, Bool.and_true, Bool.true_and, Bool.false_and, Bool.or_false, Bool.or_true, Bool.true_or, Bool.false_or, sz0, szl0, sz1, szl1, sz2, szl2, sz3, szl3, sz4, szl4, sz5, szl5, sz6, szl6, sz7, szl7, sz8, szl8, sz9, szl9, sz10, szl10, sz11, szl11, sz12, szl12, sz13, szl13, sz14, szl14, sz15, szl15, eb, e2]
    · rw [show partsL sec k (l :: ls) = l.part sec (k : Nat) :: partsL (l.sec sec) (k + 1) ls from rfl]
      rw [List.append_assoc] at rd2
      exact rd2

end VL.K06

namespace VL.K06
open PySem PySem.Spec PyProof.Rows L2 VL
variable {K : PySem.W.Frag} {a : Ad} {st : Store}
def linesOf (s : Str) : List Str := if s = ("" : Str) then [] else Txt.split s ("\n" : Str)
theorem ev_lines_of (h : WF st) (s : Str) (hs : s.length + 2 ≤ sizeLine) : m_lines_of K a [.d (.str s)] st = .ok (.d (.lst ((linesOf s).map .str))) st := by
  have hd : (("\n" : Str).length == 0) = false := by decide +kernel
  unfold m_lines_of g_lines_of linesOf
  by_cases e : s = ("" : Str)
  · rw [if_pos e]
    simp only [fnM, sSeq, sRet, sRetN, sExpr, sIf, sNil, sNo, sAsg, tgN, bndS, bnd, vVar, vC, f2, f1, fB, pu, fN, vTup, vLst, fTup, fCons, fNil, fPure, fIf, fAnd, fOr, fNot, asB, asT, bAnd, bOr, bNot, fChain, fCall, fCW, gPos, gApp, R.of, R.of2, fM, pu4, tgT, tgCons, tgNil, unp, pureL, sPar, sPar3, fLstC, fFld, oFld, fMeth, insU, sFldS, setFld, fSl, oNone, oSome, tgSub, setU, fIter, fItN, fItS, sFor, getL, getT, VL.getD, keyD, tyB, lstC, oAdd, oSub, oMul, oFdiv, oMod, oPow, oNeg, oLt, oLe, oGt, oGe, oEq, oNe, oIsN, oNotN, oIn, oNotIn, oIx, oLen, oInt, oAbs, oMin, oMax, oStr, oList, oListC, oTuple, oAll, oAny, itemsU, lenN, truB, fJs, oFmt, List.map_cons, List.map_nil, List.length_cons, List.length_nil, List.replicate_succ, List.replicate_zero, List.cons_append, List.nil_append, List.append_nil, List.getElem?_cons_zero, List.getElem?_cons_succ, List.set_cons_zero, List.set_cons_succ, Nat.reduceAdd, Nat.reduceSub, Option.map_some, Option.map_none, if_true, if_false, ite_true, ite_false, Bool.false_eq_true, reduceCtorEq, true_and, and_true, and_self, Bool.not_true, Bool.not_false, Nat.zero_add, Option.bind_some, Option.bind_eq_bind, Option.pure_def, decide_true, decide_false, eq_self, Nat.reduceEqDiff, Nat.reduceLT, Nat.reduceLeDiff, Int.reduceLT, Int.reduceLE, Int.reduceEq, Bool.and_true, Bool.true_and, Bool.false_and, Bool.or_false, Bool.or_true, Bool.true_or, Bool.false_or, sz0, szl0, sz1, szl1, sz2, szl2, sz3, szl3, sz4, szl4, sz5, szl5, sz6, szl6, sz7, szl7, sz8, szl8, sz9, szl9, sz10, szl10, sz11, szl11, sz12, szl12, sz13, szl13, sz14, szl14, sz15, szl15, eqB, decide_eq_true e, wFrz_d h]
  · rw [if_neg e]
    simp only [fnM, sSeq, sRet, sRetN, sExpr, sIf, sNil, sNo, sAsg, tgN, bndS, bnd, vVar, vC, f2, f1, fB, pu, fN, vTup, vLst, fTup, fCons, fNil, fPure, fIf, fAnd, fOr, fNot, asB, asT, bAnd, bOr, bNot, fChain, fCall, fCW, gPos, gApp, R.of, R.of2, fM, pu4, tgT, tgCons, tgNil, unp, pureL, sPar, sPar3, fLstC, fFld, oFld, fMeth, insU, sFldS, setFld, fSl, oNone, oSome, tgSub, setU, fIter, fItN, fItS, sFor, getL, getT, VL.getD, keyD, tyB, lstC, oAdd, oSub, oMul, oFdiv, oMod, oPow, oNeg, oLt, oLe, oGt, oGe, oEq, oNe, oIsN, oNotN, oIn, oNotIn, oIx, oLen, oInt, oAbs, oMin, oMax, oStr, oList, oListC, oTuple, oAll, oAny, itemsU, lenN, truB, fJs, oFmt, List.map_cons, List.map_nil, List.length_cons, List.length_nil, List.replicate_succ, List.replicate_zero, List.cons_append, List.nil_append, List.append_nil, List.getElem?_cons_zero, List.getElem?_cons_succ, List.set_cons_zero, List.set_cons_succ, Nat.reduceAdd, Nat.reduceSub, Option.map_some, Option.map_none, if_true, if_false, ite_true, ite_false, Bool.false_eq_true, reduceCtorEq, true_and, and_true, and_self, Bool.not_true, Bool.not_false, Nat.zero_add, Option.bind_some, Option.bind_eq_bind, Option.pure_def, decide_true, decide_false, eq_self, Nat.reduceEqDiff, Nat.reduceLT, Nat.reduceLeDiff, Int.reduceLT, Int.reduceLE, Int.reduceEq, Bool.and_true, Bool.true_and, Bool.false_and, Bool.or_false, Bool.or_true, Bool.true_or, Bool.false_or, sz0, szl0, sz1, szl1, sz2, szl2, sz3, szl3, sz4, szl4, sz5, szl5, sz6, szl6, sz7, szl7, sz8, szl8, sz9, szl9, sz10, szl10, sz11, szl11, sz12, szl12, sz13, szl13, sz14, szl14, sz15, szl15, eqB, decide_eq_false e, mSplit, hd, hs, wFrz_d h]
/-- what a part is like -/
inductive PartOk : D → Prop
  | rem (t : Int) (x : Str) : PartOk (.tup [.int t, .str "remark", .str x])
  | kept (t n : Int) (p : Str) (v : D) : PartOk (.tup [.int t, .str "kept", .tup [.int n, .str p, v]])
  | head (t : Int) (n : Str) : PartOk (.tup [.int t, .str "section", .str n])
  | set (t : Int) (p v : Str) : PartOk (.tup [.int t, .str "place", .tup [.str p, .str v]])
theorem partsL_ok : ∀ (ls : List Ln) (s : D) (k : Nat), ∀ p ∈ partsL s k ls, PartOk p
  | [], _, _, p, h => by cases h
  | l :: ls, s, k, p, h => by
    rcases List.mem_cons.mp h with rfl | h
    · cases l with
      | rem x => exact .rem _ _
      | kept x n p v => exact .kept _ _ _ _
      | head n => exact .head _ _
      | set k v => exact .set _ _ _
    · exact partsL_ok ls _ _ p h
def isRem : U → Bool
  | .d (.tup [_, .str w, _]) => decide (w = ("remark" : Str))
  | _ => false
def isSet : U → Bool
  | .d (.tup [_, .str w, _]) => decide (w = ("place" : Str))
  | _ => false
def shortP : U → D
  | .d (.tup [t, .str w, th]) => .tup [t, .str w, if w = ("place" : Str) then (match th with | .tup (x :: _) => x | _ => .non) else th]
  | _ => .non
def thingP : U → D
  | .d (.tup [_, _, th]) => th
  | _ => .non
theorem ne_rem1 : ¬ (("kept" : Str) = ("remark" : Str)) := by decide +kernel
theorem ne_rem2 : ¬ (("section" : Str) = ("remark" : Str)) := by decide +kernel
theorem ne_rem3 : ¬ (("place" : Str) = ("remark" : Str)) := by decide +kernel
theorem ne_pl1 : ¬ (("remark" : Str) = ("place" : Str)) := by decide +kernel
theorem ne_pl2 : ¬ (("kept" : Str) = ("place" : Str)) := by decide +kernel
theorem ne_pl3 : ¬ (("section" : Str) = ("place" : Str)) := by decide +kernel
theorem ev_parts_of (h : WF st) {j : Nat} {ps : List D} (hj : st[j]? = some (.lst (ps.map U.d))) (ok : ∀ p ∈ ps, PartOk p) (hl : ps.length ≤ sizeLine) :
    ∃ ds, m_parts_of K a [.ref j] st = .ok (.d (.lst ds)) st := by
  have ec : c_parts_of_1 K a [some (.ref j), none, none, none] st = .ok (.d (.lst (((ps.map U.d).filter fun u => !isRem u).map shortP))) st := by
    unfold c_parts_of_1
    refine fLc_pureC (n := j) (us := ps.map U.d) (fun u => !isRem u) shortP h ?_ hj (by rw [List.length_map]; exact hl) fun u hu st' h' => ?_
    · simp only [fnM, sSeq, sRet, sRetN, sExpr, sIf, sNil, sNo, sAsg, tgN, bndS, bnd, vVar, vC, f2, f1, fB, pu, fN, vTup, vLst, fTup, fCons, fNil, fPure, fIf, fAnd, fOr, fNot, asB, asT, bAnd, bOr, bNot, fChain, fCall, fCW, gPos, gApp, R.of, R.of2, fM, pu4, tgT, tgCons, tgNil, unp, pureL, sPar, sPar3, fLstC, fFld, oFld, fMeth, insU, sFldS, setFld, fSl, oNone, oSome, tgSub, setU, fIter, fItN, fItS, sFor, getL, getT, VL.getD, keyD, tyB, lstC, oAdd, oSub, oMul, oFdiv, oMod, oPow, oNeg, oLt, oLe, oGt, oGe, oEq, oNe, oIsN, oNotN, oIn, oNotIn, oIx, oLen, oInt, oAbs, oMin, oMax, oStr, oList, oListC, oTuple, oAll, oAny, itemsU, lenN, truB, fJs, oFmt, List.map_cons, List.map_nil, List.length_cons, List.length_nil, List.replicate_succ, List.replicate_zero, List.cons_append, List.nil_append, List.append_nil, List.getElem?_cons_zero, List.getElem?_cons_succ, List.set_cons_zero, List.set_cons_succ, Nat.reduceAdd, Nat.reduceSub, Option.map_some, Option.map_none, if_true, if_false, ite_true, ite_false, Bool.false_eq_true, reduceCtorEq, true_and, and_true, and_self, Bool.not_true, Bool.not_false, Nat.zero_add, Option.bind_some, Option.bind_eq_bind, Option.pure_def, decide_true, decide_false, eq_self, Nat.reduceEqDiff, Nat.reduceLT, Nat.reduceLeDiff, Int.reduceLT, Int.reduceLE, Int.reduceEq, Bool.and_true, Bool.true_and, Bool.false_and, Bool.or_false, Bool.or_true, Bool.true_or, Bool.false_or, sz0, szl0, sz1, szl1, sz2, szl2, sz3, szl3, sz4, szl4, sz5, szl5, sz6, szl6, sz7, szl7, sz8, szl8, sz9, szl9, sz10, szl10, sz11, szl11, sz12, szl12, sz13, szl13, sz14, szl14, sz15, szl15, itV, hj]
    · obtain ⟨p, hp, rfl⟩ := List.mem_map.mp hu
      have := ok p hp
      cases this with
      | rem t x => exact ⟨_, rfl, by simp only [fnM, sSeq, sRet, sRetN, sExpr, sIf, sNil, sNo, sAsg, tgN, bndS, bnd, vVar, vC, f2, f1, fB, pu, fN, vTup, vLst, fTup, fCons, fNil, fPure, fIf, fAnd, fOr, fNot, asB, asT, bAnd, bOr, bNot, fChain, fCall, fCW, gPos, gApp, R.of, R.of2, fM, pu4, tgT, tgCons, tgNil, unp, pureL, sPar, sPar3, fLstC, fFld, oFld, fMeth, insU, sFldS, setFld, fSl, oNone, oSome, tgSub, setU, fIter, fItN, fItS, sFor, getL, getT, VL.getD, keyD, tyB, lstC, oAdd, oSub, oMul, oFdiv, oMod, oPow, oNeg, oLt, oLe, oGt, oGe, oEq, oNe, oIsN, oNotN, oIn, oNotIn, oIx, oLen, oInt, oAbs, oMin, oMax, oStr, oList, oListC, oTuple, oAll, oAny, itemsU, lenN, truB, fJs, oFmt, List.map_cons, List.map_nil, List.length_cons, List.length_nil, List.replicate_succ, List.replicate_zero, List.cons_append, List.nil_append, List.append_nil, List.getElem?_cons_zero, List.getElem?_cons_succ, List.set_cons_zero, List.set_cons_succ, Nat.reduceAdd, Nat.reduceSub, Option.map_some, Option.map_none, if_true, if_false, ite_true, ite_false, Bool.false_eq_true, reduceCtorEq, true_and, and_true, and_self, Bool.not_true, Bool.not_false, Nat.zero_add, Option.bind_some, Option.bind_eq_bind, Option.pure_def, decide_true, decide_false, eq_self, Nat.reduceEqDiff, Nat.reduceLT, Nat.reduceLeDiff, Int.reduceLT, Int.reduceLE, Int.reduceEq, Bool.and_true, Bool.true_and, Bool.false_and, Bool.or_false, Bool.or_true, Bool.true_or, Bool.false_or, sz0, szl0, sz1, szl1, sz2, szl2, sz3, szl3, sz4, szl4, sz5, szl5, sz6, szl6, sz7, szl7, sz8, szl8, sz9, szl9, sz10, szl10, sz11, szl11, sz12, szl12, sz13, szl13, sz14, szl14, sz15, szl15, wipeE, eqB, isRem], fun e => by simp only [isRem, decide_true, Bool.not_true] at e; cases e⟩
      | kept t n p v => exact ⟨_, rfl, by simp only [fnM, sSeq, sRet, sRetN, sExpr, sIf, sNil, sNo, sAsg, tgN, bndS, bnd, vVar, vC, f2, f1, fB, pu, fN, vTup, vLst, fTup, fCons, fNil, fPure, fIf, fAnd, fOr, fNot, asB, asT, bAnd, bOr, bNot, fChain, fCall, fCW, gPos, gApp, R.of, R.of2, fM, pu4, tgT, tgCons, tgNil, unp, pureL, sPar, sPar3, fLstC, fFld, oFld, fMeth, insU, sFldS, setFld, fSl, oNone, oSome, tgSub, setU, fIter, fItN, fItS, sFor, getL, getT, VL.getD, keyD, tyB, lstC, oAdd, oSub, oMul, oFdiv, oMod, oPow, oNeg, oLt, oLe, oGt, oGe, oEq, oNe, oIsN, oNotN, oIn, oNotIn, oIx, oLen, oInt, oAbs, oMin, oMax, oStr, oList, oListC, oTuple, oAll, oAny, itemsU, lenN, truB, fJs, oFmt, List.map_cons, List.map_nil, List.length_cons, List.length_nil, List.replicate_succ, List.replicate_zero, List.cons_append, List.nil_append, List.append_nil, List.getElem?_cons_zero, List.getElem?_cons_succ, List.set_cons_zero, List.set_cons_succ, Nat.reduceAdd, Nat.reduceSub, Option.map_some, Option.map_none, if_true, if_false, ite_true, ite_false, Bool.false_eq_true, reduceCtorEq, true_and, and_true, and_self, Bool.not_true, Bool.not_false, Nat.zero_add, Option.bind_some, Option.bind_eq_bind, Option.pure_def, decide_true, decide_false, eq_self, Nat.reduceEqDiff, Nat.reduceLT, Nat.reduceLeDiff, Int.reduceLT, Int.reduceLE, Int.reduceEq, Bool.and_true, Bool.true_and, Bool.false_and, Bool.or_false, Bool.or_true, Bool.true_or, Bool.false_or, sz0, szl0, sz1, szl1, sz2, szl2, sz3, szl3, sz4, szl4, sz5, szl5, sz6, szl6, sz7, szl7, sz8, szl8, sz9, szl9, sz10, szl10, sz11, szl11, sz12, szl12, sz13, szl13, sz14, szl14, sz15, szl15, wipeE, eqB, isRem, decide_eq_false ne_rem1], fun e => by simp only [fnM, sSeq, sRet, sRetN, sExpr, sIf, sNil, sNo, sAsg, tgN, bndS, bnd, vVar, vC, f2, f1, fB, pu, fN, vTup, vLst, fTup, fCons, fNil, fPure, fIf, fAnd, fOr, fNot, asB, asT, bAnd, bOr, bNot, fChain, fCall, fCW, gPos, gApp, R.of, R.of2, fM, pu4, tgT, tgCons, tgNil, unp, pureL, sPar, sPar3, fLstC, fFld, oFld, fMeth, insU, sFldS, setFld, fSl, oNone, oSome, tgSub, setU, fIter, fItN, fItS, sFor, getL, getT, VL.getD, keyD, tyB, lstC, oAdd, oSub, oMul, oFdiv, oMod, oPow, oNeg, oLt, oLe, oGt, oGe, oEq, oNe, oIsN, oNotN, oIn, oNotIn, oIx, oLen, oInt, oAbs, oMin, oMax, oStr, oList, oListC, oTuple, oAll, oAny, itemsU, lenN, truB, fJs, oFmt, List.map_cons, List.map_nil, List.length_cons, List.length_nil, List.replicate_succ, List.replicate_zero, List.cons_append, List.nil_append, List.append_nil, List.getElem?_cons_zero, List.getElem?_cons_succ, List.set_cons_zero, List.set_cons_succ, Nat.reduceAdd, Nat.reduceSub, Option.map_some, Option.map_none, if_true, if_false, ite_true, ite_false, Bool.false_eq_true, reduceCtorEq, true_and, and_true, and_self, Bool.not_true, Bool.not_false, Nat.zero_add, Option.bind_some, Option.bind_eq_bind, Option.pure_def, decide_true, decide_false, eq_self, Nat.reduceEqDiff, Nat.reduceLT, Nat.reduceLeDiff, Int.reduceLT, Int.reduceLE, Int.reduceEq, Bool.and_true, Bool.true_and, Bool.false_and, Bool.or_false, Bool.or_true, Bool.true_or, Bool.false_or, sz0, szl0, sz1, szl1, sz2, szl2, sz3, szl3, sz4, szl4, sz5, szl5, sz6, szl6, sz7, szl7, sz8, szl8, sz9, szl9, sz10, szl10, sz11, szl11, sz12, szl12, sz13, szl13, sz14, szl14, sz15, szl15, wipeE, eqB, shortP, decide_eq_false ne_pl2, if_neg ne_pl2]⟩
      | head t n => exact ⟨_, rfl, by simp only [fnM, sSeq, sRet, sRetN, sExpr, sIf, sNil, sNo, sAsg, tgN, bndS, bnd, vVar, vC, f2, f1, fB, pu, fN, vTup, vLst, fTup, fCons, fNil, fPure, fIf, fAnd, fOr, fNot, asB, asT, bAnd, bOr, bNot, fChain, fCall, fCW, gPos, gApp, R.of, R.of2, fM, pu4, tgT, tgCons, tgNil, unp, pureL, sPar, sPar3, fLstC, fFld, oFld, fMeth, insU, sFldS, setFld, fSl, oNone, oSome, tgSub, setU, fIter, fItN, fItS, sFor, getL, getT, VL.getD, keyD, tyB, lstC, oAdd, oSub, oMul, oFdiv, oMod, oPow, oNeg, oLt, oLe, oGt, oGe, oEq, oNe, oIsN, oNotN, oIn, oNotIn, oIx, oLen, oInt, oAbs, oMin, oMax, oStr, oList, oListC, oTuple, oAll, oAny, itemsU, lenN, truB, fJs, oFmt, List.map_cons, List.map_nil, List.length_cons, List.length_nil, List.replicate_succ, List.replicate_zero, List.cons_append, List.nil_append, List.append_nil, List.getElem?_cons_zero, List.getElem?_cons_succ, List.set_cons_zero, List.set_cons_succ, Nat.reduceAdd, Nat.reduceSub, Option.map_some, Option.map_none, if_true, if_false, ite_true, ite_false, Bool.false_eq_true, reduceCtorEq, true_and, and_true, and_self, Bool.not_true, Bool.not_false, Nat.zero_add, Option.bind_some, Option.bind_eq_bind, Option.pure_def, decide_true, decide_false, eq_self, Nat.reduceEqDiff, Nat.reduceLT, Nat.reduceLeDiff, Int.reduceLT, Int.reduceLE, Int.reduceEq, Bool.and_true, Bool.true_and, Bool.false_and, Bool.or_false, Bool.or_true, Bool.true_or, Bool.false_or, sz0, szl0, sz1, szl1, sz2, szl2, sz3, szl3, sz4, szl4, sz5, szl5, sz6, szl6, sz7, szl7, sz8, szl8, sz9, szl9, sz10, szl10, sz11, szl11, sz12, szl12, sz13, szl13, sz14, szl14, sz15, szl15, wipeE, eqB, isRem, decide_eq_false ne_rem2], fun e => by simp only [fnM, sSeq, sRet, sRetN, sExpr, sIf, sNil, sNo, sAsg, tgN, bndS, bnd, vVar, vC, f2, f1, fB, pu, fN, vTup, vLst, fTup, fCons, fNil, fPure, fIf, fAnd, fOr, fNot, asB, asT, bAnd, bOr, bNot, fChain, fCall, fCW, gPos, gApp, R.of, R.of2, fM, pu4, tgT, tgCons, tgNil, unp, pureL, sPar, sPar3, fLstC, fFld, oFld, fMeth, insU, sFldS, setFld, fSl, oNone, oSome, tgSub, setU, fIter, fItN, fItS, sFor, getL, getT, VL.getD, keyD, tyB, lstC, oAdd, oSub, oMul, oFdiv, oMod, oPow, oNeg, oLt, oLe, oGt, oGe, oEq, oNe, oIsN, oNotN, oIn, oNotIn, oIx, oLen, oInt, oAbs, oMin, oMax, oStr, oList, oListC, oTuple, oAll, oAny, itemsU, lenN, truB, fJs, oFmt, List.map_cons, List.map_nil, List.length_cons, List.length_nil, List.replicate_succ, List.replicate_zero, List.cons_append, List.nil_append, List.append_nil, List.getElem?_cons_zero, List.getElem?_cons_succ, List.set_cons_zero, List.set_cons_succ, Nat.reduceAdd, Nat.reduceSub, Option.map_some, Option.map_none, if_true, if_false, ite_true, ite_false, Bool.false_eq_true, reduceCtorEq, true_and, and_true, and_self, Bool.not_true, Bool.not_false, Nat.zero_add, Option.bind_some, Option.bind_eq_bind, Option.pure_def, decide_true, decide_false, eq_self, Nat.reduceEqDiff, Nat.reduceLT, Nat.reduceLeDiff, Int.reduceLT, Int.reduceLE, Int.reduceEq, Bool.and_true, Bool.true_and, Bool.false_and, Bool.or_false, Bool.or_true, Bool.true_or, Bool.false_or, sz0, szl0, sz1, szl1, sz2, szl2, sz3, szl3, sz4, szl4, sz5, szl5, sz6, szl6, sz7, szl7, sz8, szl8, sz9, szl9, sz10, szl10, sz11, szl11, sz12, szl12, sz13, szl13, sz14, szl14, sz15, szl15, wipeE, eqB, shortP, decide_eq_false ne_pl3, if_neg ne_pl3]⟩
      | set t p v => exact ⟨_, rfl, by simp only [fnM, sSeq, sRet, sRetN, sExpr, sIf, sNil, sNo, sAsg, tgN, bndS, bnd, vVar, vC, f2, f1, fB, pu, fN, vTup, vLst, fTup, fCons, fNil, fPure, fIf, fAnd, fOr, fNot, asB, asT, bAnd, bOr, bNot, fChain, fCall, fCW, gPos, gApp, R.of, R.of2, fM, pu4, tgT, tgCons, tgNil, unp, pureL, sPar, sPar3, fLstC, fFld, oFld, fMeth, insU, sFldS, setFld, fSl, oNone, oSome, tgSub, setU, fIter, fItN, fItS, sFor, getL, getT, VL.getD, keyD, tyB, lstC, oAdd, oSub, oMul, oFdiv, oMod, oPow, oNeg, oLt, oLe, oGt, oGe, oEq, oNe, oIsN, oNotN, oIn, oNotIn, oIx, oLen, oInt, oAbs, oMin, oMax, oStr, oList, oListC, oTuple, oAll, oAny, itemsU, lenN, truB, fJs, oFmt, List.map_cons, List.map_nil, List.length_cons, List.length_nil, List.replicate_succ, List.replicate_zero, List.cons_append, List.nil_append, List.append_nil, List.getElem?_cons_zero, List.getElem?_cons_succ, List.set_cons_zero, List.set_cons_succ, Nat.reduceAdd, Nat.reduceSub, Option.map_some, Option.map_none, if_true, if_false, ite_true, ite_false, Bool.false_eq_true, reduceCtorEq, true_and, and_true, and_self, Bool.not_true, Bool.not_false, Nat.zero_add, Option.bind_some, Option.bind_eq_bind, Option.pure_def, decide_true, decide_false, eq_self, Nat.reduceEqDiff, Nat.reduceLT, Nat.reduceLeDiff, Int.reduceLT, Int.reduceLE, Int.reduceEq, Bool.and_true, Bool.true_and, Bool.false_and, Bool.or_false, Bool.or_true, Bool.true_or, Bool.false_or, sz0, szl0, sz1, szl1, sz2, szl2, sz3, szl3, sz4, szl4, sz5, szl5, sz6, szl6, sz7, szl7, sz8, szl8, sz9, szl9, sz10, szl10, sz11, szl11, sz12, szl12, sz13, szl13, sz14, szl14, sz15, szl15, wipeE, eqB, isRem, decide_eq_false ne_rem3], fun e => by simp only [fnM, sSeq, sRet, sRetN, sExpr, sIf, sNil, sNo, sAsg, tgN, bndS, bnd, vVar, vC, f2, f1, fB, pu, fN, vTup, vLst, fTup, fCons, fNil, fPure, fIf, fAnd, fOr, fNot, asB, asT, bAnd, bOr, bNot, fChain, fCall, fCW, gPos, gApp, R.of, R.of2, fM, pu4, tgT, tgCons, tgNil, unp, pureL, sPar, sPar3, fLstC, fFld, oFld, fMeth, insU, sFldS, setFld, fSl, oNone, oSome, tgSub, setU, fIter, fItN, fItS, sFor, getL, getT, VL.getD, keyD, tyB, lstC, oAdd, oSub, oMul, oFdiv, oMod, oPow, oNeg, oLt, oLe, oGt, oGe, oEq, oNe, oIsN, oNotN, oIn, oNotIn, oIx, oLen, oInt, oAbs, oMin, oMax, oStr, oList, oListC, oTuple, oAll, oAny, itemsU, lenN, truB, fJs, oFmt, List.map_cons, List.map_nil, List.length_cons, List.length_nil, List.replicate_succ, List.replicate_zero, List.cons_append, List.nil_append, List.append_nil, List.getElem?_cons_zero, List.getElem?_cons_succ, List.set_cons_zero, List.set_cons_succ, Nat.reduceAdd, Nat.reduceSub, Option.map_some, Option.map_none, if_true, if_false, ite_true, ite_false, Bool.false_eq_true, reduceCtorEq, true_and, and_true, and_self, Bool.not_true, Bool.not_false, Nat.zero_add, Option.bind_some, Option.bind_eq_bind, Option.pure_def, decide_true, decide_false, eq_self, Nat.reduceEqDiff, Nat.reduceLT, Nat.reduceLeDiff, Int.reduceLT, Int.reduceLE, Int.reduceEq, Bool.and_true, Bool.true_and, Bool.false_and, Bool.or_false, Bool.or_true, Bool.true_or, Bool.false_or, sz0, szl0, sz1, szl1, sz2, szl2, sz3, szl3, sz4, szl4, sz5, szl5, sz6, szl6, sz7, szl7, sz8, szl8, sz9, szl9, sz10, szl10, sz11, szl11, sz12, szl12, sz13, szl13, sz14, szl14, sz15, szl15, wipeE, eqB, shortP, at_0]⟩
  refine ⟨((ps.map U.d).filter fun u => !isRem u).map shortP, ?_⟩
  unfold m_parts_of g_parts_of
  simp only [fnM, sSeq, sRet, sRetN, sExpr, sIf, sNil, sNo, sAsg, tgN, bndS, bnd, vVar, vC, f2, f1, fB, pu, fN, vTup, vLst, fTup, fCons, fNil, fPure, fIf, fAnd, fOr, fNot, asB, asT, bAnd, bOr, bNot, fChain, fCall, fCW, gPos, gApp, R.of, R.of2, fM, pu4, tgT, tgCons, tgNil, unp, pureL, sPar, sPar3, fLstC, fFld, oFld, fMeth, insU, sFldS, setFld, fSl, oNone, oSome, tgSub, setU, fIter, fItN, fItS, sFor, getL, getT, VL.getD, keyD, tyB, lstC, oAdd, oSub, oMul, oFdiv, oMod, oPow, oNeg, oLt, oLe, oGt, oGe, oEq, oNe, oIsN, oNotN, oIn, oNotIn, oIx, oLen, oInt, oAbs, oMin, oMax, oStr, oList, oListC, oTuple, oAll, oAny, itemsU, lenN, truB, fJs, oFmt, List.map_cons, List.map_nil, List.length_cons, List.length_nil, List.replicate_succ, List.replicate_zero, List.cons_append, List.nil_append, List.append_nil, List.getElem?_cons_zero, List.getElem?_cons_succ, List.set_cons_zero, List.set_cons_succ, Nat.reduceAdd, Nat.reduceSub, Option.map_some, Option.map_none, if_true, if_false, ite_true, ite_false, Bool.false_eq_true, reduceCtorEq, true_and, and_true, and_self, Bool.not_true, Bool.not_false, Nat.zero_add, Option.bind_some, Option.bind_eq_bind, Option.pure_def, decide_true, decide_false, eq_self, Nat.reduceEqDiff, Nat.reduceLT, Nat.reduceLeDiff, Int.reduceLT, Int.reduceLE, Int.reduceEq, Bool.and_true, Bool.true_and, Bool.false_and, Bool.or_false, Bool.or_true, Bool.true_or, Bool.false_or, sz0, szl0, sz1, szl1, sz2, szl2, sz3, szl3, sz4, szl4, sz5, szl5, sz6, szl6, sz7, szl7, sz8, szl8, sz9, szl9, sz10, szl10, sz11, szl11, sz12, szl12, sz13, szl13, sz14, szl14, sz15, szl15, ec, wFrz_d h]

end VL.K06

namespace VL.K06
open PySem PySem.Spec PyProof.Rows L2 VL
variable {K : PySem.W.Frag} {a : Ad} {st : Store}
theorem qf0 (u : U) : putFU ("whole" : Str) u [] = [(("whole" : Str), u)] := rfl
theorem qf1 (u x : U) : putFU ("all_parts" : Str) u [(("whole" : Str), x)] = [(("whole" : Str), x), (("all_parts" : Str), u)] := rfl
theorem qf2 (u x y : U) : putFU ("parts" : Str) u [(("whole" : Str), x), (("all_parts" : Str), y)] = [(("whole" : Str), x), (("all_parts" : Str), y), (("parts" : Str), u)] := rfl
theorem qf3 (u x y z : U) : putFU ("settings_read" : Str) u [(("whole" : Str), x), (("all_parts" : Str), y), (("parts" : Str), z)] = [(("whole" : Str), x), (("all_parts" : Str), y), (("parts" : Str), z), (("settings_read" : Str), u)] := rfl
/-- the settings, in order -/
def setsL : D → List Ln → List (Str × Str)
  | _, [] => []
  | s, .set k v :: ls => (pl s k, v) :: setsL s ls
  | s, .rem _ :: ls => setsL s ls
  | s, .kept _ _ _ _ :: ls => setsL s ls
  | _, .head n :: ls => setsL (.str n) ls
def kvD (ps : List (Str × Str)) : List (Key × D) := ps.map fun p => (.inr p.1, .str p.2)
theorem pairs_ok2 : ∀ (ls : List Ln) (s : D) (k : Nat), allM pairD (((((partsL s k ls).map U.d).filter isSet).map thingP).map U.d) = some (kvD (setsL s ls))
  | [], _, _ => rfl
  | .rem x :: ls, s, k => by
    show allM pairD (((((U.d (.tup [.int k, .str "remark", .str x]) :: (partsL s (k + 1) ls).map U.d)).filter isSet).map thingP).map U.d) = _
    rw [List.filter_cons_of_neg (by simp only [isSet, decide_eq_false ne_pl1]; exact Bool.false_ne_true)]
    exact pairs_ok2 ls s (k + 1)
  | .kept x n p v :: ls, s, k => by
    show allM pairD (((((U.d (.tup [.int k, .str "kept", .tup [.int n, .str p, v]]) :: (partsL s (k + 1) ls).map U.d)).filter isSet).map thingP).map U.d) = _
    rw [List.filter_cons_of_neg (by simp only [isSet, decide_eq_false ne_pl2]; exact Bool.false_ne_true)]
    exact pairs_ok2 ls s (k + 1)
  | .head n :: ls, s, k => by
    show allM pairD (((((U.d (.tup [.int k, .str "section", .str n]) :: (partsL (.str n) (k + 1) ls).map U.d)).filter isSet).map thingP).map U.d) = _
    rw [List.filter_cons_of_neg (by simp only [isSet, decide_eq_false ne_pl3]; exact Bool.false_ne_true)]
    exact pairs_ok2 ls (.str n) (k + 1)
  | .set x v :: ls, s, k => by
    have ih := pairs_ok2 ls s (k + 1)
    show allM pairD (((((U.d (.tup [.int k, .str "place", .tup [.str (pl s x), .str v]]) :: (partsL s (k + 1) ls).map U.d)).filter isSet).map thingP).map U.d) = _
    rw [List.filter_cons_of_pos (by simp only [isSet, decide_true]), List.map_cons, List.map_cons]
    unfold allM
    rw [ih]
    rfl
/-- a dict of settings of different places -/
theorem merge_app : ∀ (ps : List (Str × Str)) (acc : List (Key × D)), (∀ p ∈ ps, ∀ q ∈ acc, q.1 ≠ .inr p.1) → (ps.map fun p => p.1).Nodup → mergeD acc (kvD ps) = acc ++ kvD ps
  | [], acc, _, _ => by
    show acc = acc ++ []
    rw [List.append_nil]
  | p :: ps, acc, h, hn => by
    have hn' := List.nodup_cons.mp hn
    have hno : (acc.any fun kv => decide (kv.1 = (.inr p.1 : Key))) = false := by
      rw [List.any_eq_false]
      intro q hq
      rw [decide_eq_true_eq]
      exact h p (List.mem_cons_self ..) q hq
    have e1 : putD acc (.inr p.1) (.str p.2) = acc ++ [(.inr p.1, .str p.2)] := by
      unfold putD
      rw [hno]
      rfl
    show mergeD (putD acc (.inr p.1) (.str p.2)) (kvD ps) = _
    rw [e1, merge_app ps _ (fun r hr q hq => ?_) hn'.2, List.append_assoc]
    · rfl
    · rcases List.mem_append.mp hq with z | z
      · exact h r (List.mem_cons_of_mem _ hr) q z
      · rw [List.mem_singleton] at z
        subst z
        intro e
        have e' : p.1 = r.1 := Sum.inr.inj e
        exact hn'.1 (List.mem_map.mpr ⟨r, hr, e'.symm⟩)
theorem merge_nodup {ps : List (Str × Str)} (h : (ps.map fun p => p.1).Nodup) : mergeD [] (kvD ps) = kvD ps := by
  rw [merge_app ps [] (fun _ _ _ z => nomatch z) h]
  rfl
theorem ev_comp (h : WF st) {r i j : Nat} {sec : D} {met ps : List D} {u0 u1 x3 x4 x5 x6 : Option U} (rd : RdAt a st r i j sec met ps) (ok : ∀ p ∈ ps, PartOk p) (hl : ps.length ≤ sizeLine) :
    c_SettingsFile_init_1 K a [u0, u1, some (.ref r), x3, x4, x5, x6] st = .ok (.d (.lst (((ps.map U.d).filter isSet).map thingP))) st := by
  unfold c_SettingsFile_init_1
  refine fLc_pureC (n := j) (us := ps.map U.d) isSet thingP h ?_ rd.j0 (by rw [List.length_map]; exact hl) fun u hu st' h' => ?_
  · simp only [fnM, sSeq, sRet, sRetN, sExpr, sIf, sNil, sNo, sAsg, tgN, bndS, bnd, vVar, vC, f2, f1, fB, pu, fN, vTup, vLst, fTup, fCons, fNil, fPure, fIf, fAnd, fOr, fNot, asB, asT, bAnd, bOr, bNot, fChain, fCall, fCW, gPos, gApp, R.of, R.of2, fM, pu4, tgT, tgCons, tgNil, unp, pureL, sPar, sPar3, fLstC, fFld, oFld, fMeth, insU, sFldS, setFld, fSl, oNone, oSome, tgSub, setU, fIter, fItN, fItS, sFor, getL, getT, VL.getD, keyD, tyB, lstC, oAdd, oSub, oMul, oFdiv, oMod, oPow, oNeg, oLt, oLe, oGt, oGe, oEq, oNe, oIsN, oNotN, oIn, oNotIn, oIx, oLen, oInt, oAbs, oMin, oMax, oStr, oList, oListC, oTuple, oAll, oAny, itemsU, lenN, truB, fJs, oFmt, List.map_cons, List.map_nil, List.length_cons, List.length_nil, List.replicate_succ, List.replicate_zero, List.cons_append, List.nil_append, List.append_nil, List.getElem?_cons_zero, List.getElem?_cons_succ, List.set_cons_zero, List.set_cons_succ, Nat.reduceAdd, Nat.reduceSub, Option.map_some, Option.map_none, if_true, if_false, ite_true, ite_false, Bool.false_eq_true, reduceCtorEq, true_and, and_true, and_self, Bool.not_true, Bool.not_false, Nat.zero_add, Option.bind_some, Option.bind_eq_bind, Option.pure_def, decide_true, decide_false, eq_self, Nat.reduceEqDiff, Nat.reduceLT, Nat.reduceLeDiff, Int.reduceLT, Int.reduceLE, Int.reduceEq, Bool.and_true, Bool.true_and, Bool.false_and, Bool.or_false, Bool.or_true, Bool.true_or, Bool.false_or, sz0, szl0, sz1, szl1, sz2, szl2, sz3, szl3, sz4, szl4, sz5, szl5, sz6, szl6, sz7, szl7, sz8, szl8, sz9, szl9, sz10, szl10, sz11, szl11, sz12, szl12, sz13, szl13, sz14, szl14, sz15, szl15, itV, rd.r0, rd.j0, List.mem_cons, List.not_mem_nil, or_false, lk_parts]
  · obtain ⟨p, hp, rfl⟩ := List.mem_map.mp hu
    have := ok p hp
    cases this with
    | rem t x => exact ⟨_, rfl, by simp only [fnM, sSeq, sRet, sRetN, sExpr, sIf, sNil, sNo, sAsg, tgN, bndS, bnd, vVar, vC, f2, f1, fB, pu, fN, vTup, vLst, fTup, fCons, fNil, fPure, fIf, fAnd, fOr, fNot, asB, asT, bAnd, bOr, bNot, fChain, fCall, fCW, gPos, gApp, R.of, R.of2, fM, pu4, tgT, tgCons, tgNil, unp, pureL, sPar, sPar3, fLstC, fFld, oFld, fMeth, insU, sFldS, setFld, fSl, oNone, oSome, tgSub, setU, fIter, fItN, fItS, sFor, getL, getT, VL.getD, keyD, tyB, lstC, oAdd, oSub, oMul, oFdiv, oMod, oPow, oNeg, oLt, oLe, oGt, oGe, oEq, oNe, oIsN, oNotN, oIn, oNotIn, oIx, oLen, oInt, oAbs, oMin, oMax, oStr, oList, oListC, oTuple, oAll, oAny, itemsU, lenN, truB, fJs, oFmt, List.map_cons, List.map_nil, List.length_cons, List.length_nil, List.replicate_succ, List.replicate_zero, List.cons_append, List.nil_append, List.append_nil, List.getElem?_cons_zero, List.getElem?_cons_succ, List.set_cons_zero, List.set_cons_succ, Nat.reduceAdd, Nat.reduceSub, Option.map_some, Option.map_none, if_true, if_false, ite_true, ite_false, Bool.false_eq_true, reduceCtorEq, true_and, and_true, and_self, Bool.not_true, Bool.not_false, Nat.zero_add, Option.bind_some, Option.bind_eq_bind, Option.pure_def, decide_true, decide_false, eq_self, Nat.reduceEqDiff, Nat.reduceLT, Nat.reduceLeDiff, Int.reduceLT, Int.reduceLE, Int.reduceEq, Bool.and_true, Bool.true_and, Bool.false_and, Bool.or_false, Bool.or_true, Bool.true_or, Bool.false_or, sz0, szl0, sz1, szl1, sz2, szl2, sz3, szl3, sz4, szl4, sz5, szl5, sz6, szl6, sz7, szl7, sz8, szl8, sz9, szl9, sz10, szl10, sz11, szl11, sz12, szl12, sz13, szl13, sz14, szl14, sz15, szl15, wipeE, eqB, isSet, decide_eq_false ne_pl1], fun e => by simp only [fnM, sSeq, sRet, sRetN, sExpr, sIf, sNil, sNo, sAsg, tgN, bndS, bnd, vVar, vC, f2, f1, fB, pu, fN, vTup, vLst, fTup, fCons, fNil, fPure, fIf, fAnd, fOr, fNot, asB, asT, bAnd, bOr, bNot, fChain, fCall, fCW, gPos, gApp, R.of, R.of2, fM, pu4, tgT, tgCons, tgNil, unp, pureL, sPar, sPar3, fLstC, fFld, oFld, fMeth, insU, sFldS, setFld, fSl, oNone, oSome, tgSub, setU, fIter, fItN, fItS, sFor, getL, getT, VL.getD, keyD, tyB, lstC, oAdd, oSub, oMul, oFdiv, oMod, oPow, oNeg, oLt, oLe, oGt, oGe, oEq, oNe, oIsN, oNotN, oIn, oNotIn, oIx, oLen, oInt, oAbs, oMin, oMax, oStr, oList, oListC, oTuple, oAll, oAny, itemsU, lenN, truB, fJs, oFmt, List.map_cons, List.map_nil, List.length_cons, List.length_nil, List.replicate_succ, List.replicate_zero, List.cons_append, List.nil_append, List.append_nil, List.getElem?_cons_zero, List.getElem?_cons_succ, List.set_cons_zero, List.set_cons_succ, Nat.reduceAdd, Nat.reduceSub, Option.map_some, Option.map_none, if_true, if_false, ite_true, ite_false, Bool.false_eq_true, reduceCtorEq, true_and, and_true, and_self, Bool.not_true, Bool.not_false, Nat.zero_add, Option.bind_some, Option.bind_eq_bind, Option.pure_def, decide_true, decide_false, eq_self, Nat.reduceEqDiff, Nat.reduceLT, Nat.reduceLeDiff, Int.reduceLT, Int.reduceLE, Int.reduceEq, Bool.and_true, Bool.true_and, Bool.false_and, Bool.or_false, Bool.or_true, Bool.true_or, Bool.false_or, sz0, szl0, sz1, szl1, sz2, szl2, sz3, szl3, sz4, szl4, sz5, szl5, sz6, szl6, sz7, szl7, sz8, szl8, sz9, szl9, sz10, szl10, sz11, szl11, sz12, szl12, sz13, szl13, sz14, szl14, sz15, szl15, wipeE, thingP]⟩
    | kept t n p v => exact ⟨_, rfl, by simp only [fnM, sSeq, sRet, sRetN, sExpr, sIf, sNil, sNo, sAsg, tgN, bndS, bnd, vVar, vC, f2, f1, fB, pu, fN, vTup, vLst, fTup, fCons, fNil, fPure, fIf, fAnd, fOr, fNot, asB, asT, bAnd, bOr, bNot, fChain, fCall, fCW, gPos, gApp, R.of, R.of2, fM, pu4, tgT, tgCons, tgNil, unp, pureL, sPar, sPar3, fLstC, fFld, oFld, fMeth, insU, sFldS, setFld, fSl, oNone, oSome, tgSub, setU, fIter, fItN, fItS, sFor, getL, getT, VL.getD, keyD, tyB, lstC, oAdd, oSub, oMul, oFdiv, oMod, oPow, oNeg, oLt, oLe, oGt, oGe, oEq, oNe, oIsN, oNotN, oIn, oNotIn, oIx, oLen, oInt, oAbs, oMin, oMax, oStr, oList, oListC, oTuple, oAll, oAny, itemsU, lenN, truB, fJs, oFmt, List.map_cons, List.map_nil, List.length_cons, List.length_nil, List.replicate_succ, List.replicate_zero, List.cons_append, List.nil_append, List.append_nil, List.getElem?_cons_zero, List.getElem?_cons_succ, List.set_cons_zero, List.set_cons_succ, Nat.reduceAdd, Nat.reduceSub, Option.map_some, Option.map_none, if_true, if_false, ite_true, ite_false, Bool.false_eq_true, reduceCtorEq, true_and, and_true, and_self, Bool.not_true, Bool.not_false, Nat.zero_add, Option.bind_some, Option.bind_eq_bind, Option.pure_def, decide_true, decide_false, eq_self, Nat.reduceEqDiff, Nat.reduceLT, Nat.reduceLeDiff, Int.reduceLT, Int.reduceLE, Int.reduceEq, Bool.and_true, Bool.true_and, Bool.false_and, Bool.or_false, Bool.or_true, Bool.true_or, Bool.false_or, sz0, szl0, sz1, szl1, sz2, szl2, sz3, szl3, sz4, szl4, sz5, szl5, sz6, szl6, sz7, szl7, sz8, szl8, sz9, szl9, sz10, szl10, sz11, szl11, sz12, szl12, sz13, szl13, sz14, szl14, sz15, szl15, wipeE, eqB, isSet, decide_eq_false ne_pl2], fun e => by simp only [fnM, sSeq, sRet, sRetN, sExpr, sIf, sNil, sNo, sAsg, tgN, bndS, bnd, vVar, vC, f2, f1, fB, pu, fN, vTup, vLst, fTup, fCons, fNil, fPure, fIf, fAnd, fOr, fNot, asB, asT, bAnd, bOr, bNot, fChain, fCall, fCW, gPos, gApp, R.of, R.of2, fM, pu4, tgT, tgCons, tgNil, unp, pureL, sPar, sPar3, fLstC, fFld, oFld, fMeth, insU, sFldS, setFld, fSl, oNone, oSome, tgSub, setU, fIter, fItN, fItS, sFor, getL, getT, VL.getD, keyD, tyB, lstC, oAdd, oSub, oMul, oFdiv, oMod, oPow, oNeg, oLt, oLe, oGt, oGe, oEq, oNe, oIsN, oNotN, oIn, oNotIn, oIx, oLen, oInt, oAbs, oMin, oMax, oStr, oList, oListC, oTuple, oAll, oAny, itemsU, lenN, truB, fJs, oFmt, List.map_cons, List.map_nil, List.length_cons, List.length_nil, List.replicate_succ, List.replicate_zero, List.cons_append, List.nil_append, List.append_nil, List.getElem?_cons_zero, List.getElem?_cons_succ, List.set_cons_zero, List.set_cons_succ, Nat.reduceAdd, Nat.reduceSub, Option.map_some, Option.map_none, if_true, if_false, ite_true, ite_false, Bool.false_eq_true, reduceCtorEq, true_and, and_true, and_self, Bool.not_true, Bool.not_false, Nat.zero_add, Option.bind_some, Option.bind_eq_bind, Option.pure_def, decide_true, decide_false, eq_self, Nat.reduceEqDiff, Nat.reduceLT, Nat.reduceLeDiff, Int.reduceLT, Int.reduceLE, Int.reduceEq, Bool.and_true, Bool.true_and, Bool.false_and, Bool.or_false, Bool.or_true, Bool.true_or, Bool.false_or, sz0, szl0, sz1, szl1, sz2, szl2, sz3, szl3, sz4, szl4, sz5, szl5, sz6, szl6, sz7, szl7, sz8, szl8, sz9, szl9, sz10, szl10, sz11, szl11, sz12, szl12, sz13, szl13, sz14, szl14, sz15, szl15, wipeE, thingP]⟩
    | head t n => exact ⟨_, rfl, by simp only [fnM, sSeq, sRet, sRetN, sExpr, sIf, sNil, sNo, sAsg, tgN, bndS, bnd, vVar, vC, f2, f1, fB, pu, fN, vTup, vLst, fTup, fCons, fNil, fPure, fIf, fAnd, fOr, fNot, asB, asT, bAnd, bOr, bNot, fChain, fCall, fCW, gPos, gApp, R.of, R.of2, fM, pu4, tgT, tgCons, tgNil, unp, pureL, sPar, sPar3, fLstC, fFld, oFld, fMeth, insU, sFldS, setFld, fSl, oNone, oSome, tgSub, setU, fIter, fItN, fItS, sFor, getL, getT, VL.getD, keyD, tyB, lstC, oAdd, oSub, oMul, oFdiv, oMod, oPow, oNeg, oLt, oLe, oGt, oGe, oEq, oNe, oIsN, oNotN, oIn, oNotIn, oIx, oLen, oInt, oAbs, oMin, oMax, oStr, oList, oListC, oTuple, oAll, oAny, itemsU, lenN, truB, fJs, oFmt, List.map_cons, List.map_nil, List.length_cons, List.length_nil, List.replicate_succ, List.replicate_zero, List.cons_append, List.nil_append, List.append_nil, List.getElem?_cons_zero, List.getElem?_cons_succ, List.set_cons_zero, List.set_cons_succ, Nat.reduceAdd, Nat.reduceSub, Option.map_some, Option.map_none, if_true, if_false, ite_true, ite_false, Bool.false_eq_true, reduceCtorEq, true_and, and_true, and_self, Bool.not_true, Bool.not_false, Nat.zero_add, Option.bind_some, Option.bind_eq_bind, Option.pure_def, decide_true, decide_false, eq_self, Nat.reduceEqDiff, Nat.reduceLT, Nat.reduceLeDiff, Int.reduceLT, Int.reduceLE, Int.reduceEq, Bool.and_true, Bool.true_and, Bool.false_and, Bool.or_false, Bool.or_true, Bool.true_or, Bool.false_or, sz0, szl0, sz1, szl1, sz2, szl2, sz3, szl3, sz4, szl4, sz5, szl5, sz6, szl6, sz7, szl7, sz8, szl8, sz9, szl9, sz10, szl10, sz11, szl11, sz12, szl12, sz13, szl13, sz14, szl14, sz15, szl15, wipeE, eqB, isSet, decide_eq_false ne_pl3], fun e => by simp only [fnM, sSeq, sRet, sRetN, sExpr, sIf, sNil, sNo, sAsg, tgN, bndS, bnd, vVar, vC, f2, f1, fB, pu, fN, vTup, vLst, fTup, fCons, fNil, fPure, fIf, fAnd, fOr, fNot, asB, asT, bAnd, bOr, bNot, fChain, fCall, fCW, gPos, gApp, R.of, R.of2, fM, pu4, tgT, tgCons, tgNil, unp, pureL, sPar, sPar3, fLstC, fFld, oFld, fMeth, insU, sFldS, setFld, fSl, oNone, oSome, tgSub, setU, fIter, fItN, fItS, sFor, getL, getT, VL.getD, keyD, tyB, lstC, oAdd, oSub, oMul, oFdiv, oMod, oPow, oNeg, oLt, oLe, oGt, oGe, oEq, oNe, oIsN, oNotN, oIn, oNotIn, oIx, oLen, oInt, oAbs, oMin, oMax, oStr, oList, oListC, oTuple, oAll, oAny, itemsU, lenN, truB, fJs, oFmt, List.map_cons, List.map_nil, List.length_cons, List.length_nil, List.replicate_succ, List.replicate_zero, List.cons_append, List.nil_append, List.append_nil, List.getElem?_cons_zero, List.getElem?_cons_succ, List.set_cons_zero, List.set_cons_succ, Nat.reduceAdd, Nat.reduceSub, Option.map_some, Option.map_none, if_true, if_false, ite_true, ite_false, Bool.false_eq_true, reduceCtorEq, true_and, and_true, and_self, Bool.not_true, Bool.not_false, Nat.zero_add, Option.bind_some, Option.bind_eq_bind, Option.pure_def, decide_true, decide_false, eq_self, Nat.reduceEqDiff, Nat.reduceLT, Nat.reduceLeDiff, Int.reduceLT, Int.reduceLE, Int.reduceEq, Bool.and_true, Bool.true_and, Bool.false_and, Bool.or_false, Bool.or_true, Bool.true_or, Bool.false_or, sz0, szl0, sz1, szl1, sz2, szl2, sz3, szl3, sz4, szl4, sz5, szl5, sz6, szl6, sz7, szl7, sz8, szl8, sz9, szl9, sz10, szl10, sz11, szl11, sz12, szl12, sz13, szl13, sz14, szl14, sz15, szl15, wipeE, thingP]⟩
    | set t p v => exact ⟨_, rfl, by simp only [fnM, sSeq, sRet, sRetN, sExpr, sIf, sNil, sNo, sAsg, tgN, bndS, bnd, vVar, vC, f2, f1, fB, pu, fN, vTup, vLst, fTup, fCons, fNil, fPure, fIf, fAnd, fOr, fNot, asB, asT, bAnd, bOr, bNot, fChain, fCall, fCW, gPos, gApp, R.of, R.of2, fM, pu4, tgT, tgCons, tgNil, unp, pureL, sPar, sPar3, fLstC, fFld, oFld, fMeth, insU, sFldS, setFld, fSl, oNone, oSome, tgSub, setU, fIter, fItN, fItS, sFor, getL, getT, VL.getD, keyD, tyB, lstC, oAdd, oSub, oMul, oFdiv, oMod, oPow, oNeg, oLt, oLe, oGt, oGe, oEq, oNe, oIsN, oNotN, oIn, oNotIn, oIx, oLen, oInt, oAbs, oMin, oMax, oStr, oList, oListC, oTuple, oAll, oAny, itemsU, lenN, truB, fJs, oFmt, List.map_cons, List.map_nil, List.length_cons, List.length_nil, List.replicate_succ, List.replicate_zero, List.cons_append, List.nil_append, List.append_nil, List.getElem?_cons_zero, List.getElem?_cons_succ, List.set_cons_zero, List.set_cons_succ, Nat.reduceAdd, Nat.reduceSub, Option.map_some, Option.map_none, if_true, if_false, ite_true, ite_false, Bool.false_eq_true, reduceCtorEq, true_and, and_true, and_self, Bool.not_true, Bool.not_false, Nat.zero_add, Option.bind_some, Option.bind_eq_bind, Option.pure_def, decide_true, decide_false, eq_self, Nat.reduceEqDiff, Nat.reduceLT, Nat.reduceLeDiff, Int.reduceLT, Int.reduceLE, Int.reduceEq, Bool.and_true, Bool.true_and, Bool.false_and, Bool.or_false, Bool.or_true, Bool.true_or, Bool.false_or, sz0, szl0, sz1, szl1, sz2, szl2, sz3, szl3, sz4, szl4, sz5, szl5, sz6, szl6, sz7, szl7, sz8, szl8, sz9, szl9, sz10, szl10, sz11, szl11, sz12, szl12, sz13, szl13, sz14, szl14, sz15, szl15, wipeE, eqB, isSet], fun e => by simp only [fnM, sSeq, sRet, sRetN, sExpr, sIf, sNil, sNo, sAsg, tgN, bndS, bnd, vVar, vC, f2, f1, fB, pu, fN, vTup, vLst, fTup, fCons, fNil, fPure, fIf, fAnd, fOr, fNot, asB, asT, bAnd, bOr, bNot, fChain, fCall, fCW, gPos, gApp, R.of, R.of2, fM, pu4, tgT, tgCons, tgNil, unp, pureL, sPar, sPar3, fLstC, fFld, oFld, fMeth, insU, sFldS, setFld, fSl, oNone, oSome, tgSub, setU, fIter, fItN, fItS, sFor, getL, getT, VL.getD, keyD, tyB, lstC, oAdd, oSub, oMul, oFdiv, oMod, oPow, oNeg, oLt, oLe, oGt, oGe, oEq, oNe, oIsN, oNotN, oIn, oNotIn, oIx, oLen, oInt, oAbs, oMin, oMax, oStr, oList, oListC, oTuple, oAll, oAny, itemsU, lenN, truB, fJs, oFmt, List.map_cons, List.map_nil, List.length_cons, List.length_nil, List.replicate_succ, List.replicate_zero, List.cons_append, List.nil_append, List.append_nil, List.getElem?_cons_zero, List.getElem?_cons_succ, List.set_cons_zero, List.set_cons_succ, Nat.reduceAdd, Nat.reduceSub, Option.map_some, Option.map_none, if_true, if_false, ite_true, ite_false, Bool.false_eq_true, reduceCtorEq, true_and, and_true, and_self, Bool.not_true, Bool.not_false, Nat.zero_add, Option.bind_some, Option.bind_eq_bind, Option.pure_def, decide_true, decide_false, eq_self, Nat.reduceEqDiff, Nat.reduceLT, Nat.reduceLeDiff, Int.reduceLT, Int.reduceLE, Int.reduceEq, Bool.and_true, Bool.true_and, Bool.false_and, Bool.or_false, Bool.or_true, Bool.true_or, Bool.false_or, sz0, szl0, sz1, szl1, sz2, szl2, sz3, szl3, sz4, szl4, sz5, szl5, sz6, szl6, sz7, szl7, sz8, szl8, sz9, szl9, sz10, szl10, sz11, szl11, sz12, szl12, sz13, szl13, sz14, szl14, sz15, szl15, wipeE, thingP]⟩
theorem RdAt.setO {r i j n : Nat} {sec : D} {met parts : List D} (rd : RdAt a st r i j sec met parts) (o : O) (h1 : n ≠ r) (h2 : n ≠ i) (h3 : n ≠ j) : RdAt a (st.set n o) r i j sec met parts :=
  ⟨by rw [List.getElem?_set_ne h1]; exact rd.r0, by rw [List.getElem?_set_ne h2]; exact rd.i0, by rw [List.getElem?_set_ne h3]; exact rd.j0, rd.ri, rd.rj, rd.ij⟩
/-- what a file's text is -/
structure TextOk (s : Str) (ls : List Ln) : Prop where
  ln : linesOf s = ls.map Ln.text
  vd : Vd .non [] ls
  l1 : s.length + 2 ≤ sizeLine
  l2 : ls.length < sizeLine
theorem ev_sinit (h : WF st) {sf : Nat} (hs : st[sf]? = some (.ins a.C_SettingsFile [])) {s : Str} {ls : List Ln} (T : TextOk s ls) :
    ∃ st' j ds, m_SettingsFile_init K a [.ref sf, .d (.str s)] st = .ok (.d .non) st' ∧ st'[sf]? = some (.ins a.C_SettingsFile [("whole", .d (.str s)), ("all_parts", .ref j), ("parts", .d (.lst ds)), ("settings_read", .d (.dct (mergeD [] (kvD (setsL .non ls)))))]) ∧
      st'[j]? = some (.lst ((partsL .non 0 ls).map U.d)) ∧ st.length ≤ j ∧ ∀ n, n ≠ sf → n < st.length → st'[n]? = st[n]? := by
  have ok := partsL_ok ls .non 0
  have lsf := (List.getElem?_eq_some_iff.mp hs).1
  have h0 : WF (st ++ [.ins a.C_Reader []]) := h.push rfl
  obtain ⟨st1, e1, w1, n1, rd1, fr1⟩ := ev_rinit (K := K) h0 (r := st.length) new_at
  rw [List.length_append, List.length_singleton] at n1 rd1 fr1
  have el := ev_lines_of (K := K) (a := a) w1 s T.l1
  rw [T.ln, List.map_map] at el
  obtain ⟨y3, y4, st2, met2, e2, fr2, rd2⟩ := ev_lines (K := K) (u0 := some (.ref sf)) (u1 := some (.d (.str s))) (x5 := none) (x6 := none) ls 0 none none st1 .non [] [] w1 rd1 T.vd (by simpa using T.l2) (by simpa using T.l2)
  rw [List.nil_append] at rd2
  have lp : (partsL .non 0 ls).length ≤ sizeLine := by
    have : ∀ (ls : List Ln) (s : D) (k : Nat), (partsL s k ls).length = ls.length := fun ls => by
      induction ls with
      | nil => intro s k; rfl
      | cons l ls ih => intro s k; show (partsL _ _ ls).length + 1 = ls.length + 1; rw [ih]
    rw [this]; exact Nat.le_of_lt T.l2
  have hsf : st2[sf]? = some (.ins a.C_SettingsFile []) := by
    rw [fr2.fr sf (by omega) (by omega) (by omega), fr1 sf (by omega) (by omega), List.getElem?_append_left lsf]; exact hs
  have n2 := fr2.len.trans n1
  let A1 : O := .ins a.C_SettingsFile [(("whole" : Str), .d (.str s))]
  let A2 : O := .ins a.C_SettingsFile [(("whole" : Str), .d (.str s)), (("all_parts" : Str), .ref (st.length + 1 + 1))]
  have a1 : (st2.set sf A1)[sf]? = some A1 := set_at hsf
  have a2 : ((st2.set sf A1).set sf A2)[sf]? = some A2 := set_at a1
  have rd3 := rd2.setO (n := sf) A1 (by omega) (by omega) (by omega)
  have rd4 := rd3.setO (n := sf) A2 (by omega) (by omega) (by omega)
  have w4 : WF ((st2.set sf A1).set sf A2) := (fr2.wf.set rfl).set (by
    show (true && (decide (st.length + 1 + 1 < _) && true)) = true
    rw [List.length_set, n2]
    simp)
  obtain ⟨ds, ep⟩ := ev_parts_of (K := K) (a := a) w4 rd4.j0 ok lp
  let A3 : O := .ins a.C_SettingsFile [(("whole" : Str), .d (.str s)), (("all_parts" : Str), .ref (st.length + 1 + 1)), (("parts" : Str), .d (.lst ds))]
  have a3 : (((st2.set sf A1).set sf A2).set sf A3)[sf]? = some A3 := set_at a2
  have rd5 := rd4.setO (n := sf) A3 (by omega) (by omega) (by omega)
  have w5 : WF (((st2.set sf A1).set sf A2).set sf A3) := w4.set (by
    show (true && (decide (st.length + 1 + 1 < _) && (true && true))) = true
    rw [List.length_set, List.length_set, n2]
    simp)
  have ec := ev_comp (K := K) (u0 := some (.ref sf)) (u1 := some (.d (.str s))) (x3 := y3) (x4 := y4) (x5 := none) (x6 := none) w5 rd5 ok lp
  have ek := pairs_ok2 ls .non 0
  let A4 : O := .ins a.C_SettingsFile [(("whole" : Str), .d (.str s)), (("all_parts" : Str), .ref (st.length + 1 + 1)), (("parts" : Str), .d (.lst ds)), (("settings_read" : Str), .d (.dct (mergeD [] (kvD (setsL .non ls)))))]
  have a4 : ((((st2.set sf A1).set sf A2).set sf A3).set sf A4)[sf]? = some A4 := set_at a3
  have rd6 := rd5.setO (n := sf) A4 (by omega) (by omega) (by omega)
  refine ⟨(((st2.set sf A1).set sf A2).set sf A3).set sf A4, st.length + 1 + 1, ds, ?_, a4, rd6.j0, by omega, fun n hn hl => ?_⟩
  · simp only [A1, A2, A3, A4] at *
    unfold m_SettingsFile_init g_SettingsFile_init
    simp only [fnM, sSeq, sRet, sRetN, sExpr, sIf, sNil, sNo, sAsg, tgN, bndS, bnd, vVar, vC, f2, f1, fB, pu, fN, vTup, vLst, fTup, fCons, fNil, fPure, fIf, fAnd, fOr, fNot, asB, asT, bAnd, bOr, bNot, fChain, fCall, fCW, gPos, gApp, R.of, R.of2, fM, pu4, tgT, tgCons, tgNil, unp, pureL, sPar, sPar3, fLstC, fFld, oFld, fMeth, insU, sFldS, setFld, fSl, oNone, oSome, tgSub, setU, fIter, fItN, fItS, sFor, getL, getT, VL.getD, keyD, tyB, lstC, oAdd, oSub, oMul, oFdiv, oMod, oPow, oNeg, oLt, oLe, oGt, oGe, oEq, oNe, oIsN, oNotN, oIn, oNotIn, oIx, oLen, oInt, oAbs, oMin, oMax, oStr, oList, oListC, oTuple, oAll, oAny, itemsU, lenN, truB, fJs, oFmt, List.map_cons, List.map_nil, List.length_cons, List.length_nil, List.replicate_succ, List.replicate_zero, List.cons_append, List.nil_append, List.append_nil, List.getElem?_cons_zero, List.getElem?_cons_succ, List.set_cons_zero, List.set_cons_succ, Nat.reduceAdd, Nat.reduceSub, Option.map_some, Option.map_none, if_true, if_false, ite_true, ite_false, Bool.false_eq_true, reduceCtorEq, true_and, and_true, and_self, Bool.not_true, Bool.not_false, Nat.zero_add, Option.bind_some, Option.bind_eq_bind, Option.pure_def, decide_true, decide_false, eq_self, Nat.reduceEqDiff, Nat.reduceLT, Nat.reduceLeDiff, Int.reduceLT, Int.reduceLE, Int.reduceEq, Bool.and_true, Bool.true_and, Bool.false_and, Bool.or_false, Bool.or_true, Bool.true_or, Bool.false_or, sz0, szl0, sz1, szl1, sz2, szl2, sz3, szl3, sz4, szl4, sz5, szl5, sz6, szl6, sz7, szl7, sz8, szl8, sz9, szl9, sz10, szl10, sz11, szl11, sz12, szl12, sz13, szl13, sz14, szl14, sz15, szl15, oIsi, tyN, isi_str, fMake, e1, el, itE, Function.comp_def, e2, hsf, List.mem_cons, List.not_mem_nil, or_false, qf0, qf1, qf2, qf3, a1, a2, a3, rd3.r0, rd4.r0, lk_parts, ep, ec, oDict, ek, wId]
  · rw [List.getElem?_set_ne (Ne.symm hn), List.getElem?_set_ne (Ne.symm hn), List.getElem?_set_ne (Ne.symm hn), List.getElem?_set_ne (Ne.symm hn), fr2.fr n (by omega) (by omega) (by omega), fr1 n (by omega) (by omega), List.getElem?_append_left hl]

end VL.K06

namespace VL.K06
open PySem PySem.Spec PyProof.Rows L2 VL
variable {K : PySem.W.Frag} {a : Ad} {st : Store}
/-- a file as data -/
def fileD (a : Ad) (s : Str) (ps ds : List D) (dd : List (Key × D)) : D := .ins a.C_SettingsFile [("whole", .str s), ("all_parts", .lst ps), ("parts", .lst ds), ("settings_read", .dct dd)]
theorem ev_make (h : WF st) {s : Str} {ls : List Ln} (T : TextOk s ls) {fc : F (List U × List U)} {env : VEnv} (hf : fc env st = .ok ([.d (.str s)], []) st) :
    ∃ ds, fWr wFrz (fMake a.C_SettingsFile 1 0 gPos (m_SettingsFile_init K a) fc) env st = .ok (.d (fileD a s (partsL .non 0 ls) ds (mergeD [] (kvD (setsL .non ls))))) st := by
  have h0 : WF (st ++ [.ins a.C_SettingsFile []]) := h.push rfl
  obtain ⟨st', j, ds, e, es, ej, lj, fr⟩ := ev_sinit (K := K) (a := a) h0 (sf := st.length) new_at T
  rw [List.length_append, List.length_singleton] at lj fr
  refine ⟨ds, ?_⟩
  have e2 : fMake a.C_SettingsFile 1 0 gPos (m_SettingsFile_init K a) fc env st = .ok (.ref st.length) st' := by
    unfold fMake
    simp only [fnM, sSeq, sRet, sRetN, sExpr, sIf, sNil, sNo, sAsg, tgN, bndS, bnd, vVar, vC, f2, f1, fB, pu, fN, vTup, vLst, fTup, fCons, fNil, fPure, fIf, fAnd, fOr, fNot, asB, asT, bAnd, bOr, bNot, fChain, fCall, fCW, gPos, gApp, R.of, R.of2, fM, pu4, tgT, tgCons, tgNil, unp, pureL, sPar, sPar3, fLstC, fFld, oFld, fMeth, insU, sFldS, setFld, fSl, oNone, oSome, tgSub, setU, fIter, fItN, fItS, sFor, getL, getT, VL.getD, keyD, tyB, lstC, oAdd, oSub, oMul, oFdiv, oMod, oPow, oNeg, oLt, oLe, oGt, oGe, oEq, oNe, oIsN, oNotN, oIn, oNotIn, oIx, oLen, oInt, oAbs, oMin, oMax, oStr, oList, oListC, oTuple, oAll, oAny, itemsU, lenN, truB, fJs, oFmt, List.map_cons, List.map_nil, List.length_cons, List.length_nil, List.replicate_succ, List.replicate_zero, List.cons_append, List.nil_append, List.append_nil, List.getElem?_cons_zero, List.getElem?_cons_succ, List.set_cons_zero, List.set_cons_succ, Nat.reduceAdd, Nat.reduceSub, Option.map_some, Option.map_none, if_true, if_false, ite_true, ite_false, Bool.false_eq_true, reduceCtorEq, true_and, and_true, and_self, Bool.not_true, Bool.not_false, Nat.zero_add, Option.bind_some, Option.bind_eq_bind, Option.pure_def, decide_true, decide_false, eq_self, Nat.reduceEqDiff, Nat.reduceLT, Nat.reduceLeDiff, Int.reduceLT, Int.reduceLE, Int.reduceEq, Bool.and_true, Bool.true_and, Bool.false_and, Bool.or_false, Bool.or_true, Bool.true_or, Bool.false_or, sz0, szl0, sz1, szl1, sz2, szl2, sz3, szl3, sz4, szl4, sz5, szl5, sz6, szl6, sz7, szl7, sz8, szl8, sz9, szl9, sz10, szl10, sz11, szl11, sz12, szl12, sz13, szl13, sz14, szl14, sz15, szl15, hf, e]
  have ec : cutS st.length st' = some st := cut_same h fun n hn => by rw [fr n (by omega) (by omega), List.getElem?_append_left hn]
  have hj : ¬ j < st.length := by omega
  have ef : frz st' st.length 4 (.ref st.length) = some (fileD a s (partsL .non 0 ls) ds (mergeD [] (kvD (setsL .non ls)))) := by
    unfold frz
    rw [if_neg (Nat.lt_irrefl _)]
    simp only [es, allM]
    simp only [frz, if_neg hj, ej, allM_frz, Option.map_some, fileD]
  unfold fWr
  rw [e2]
  simp only [wFrz, ef, ec]
/-! blocks -/

end VL.K06

namespace VL.K06
open PySem PySem.Spec PyProof.Rows L2 VL
variable {K : PySem.W.Frag} {a : Ad} {st : Store}
theorem ev_ltake {b : Nat} (h : WF st) (hb : Bag st b) {m : Int} (h0 : 0 < m) (h1 : m < 1073741824) :
    ∃ (d : Nat) (st' : Store), m_L_law_take K a [.ref b, .d (.int m)] st = .ok (.d (.int (d : Nat))) st' ∧ (d : Int) < m ∧ Fb st st' b := by
  obtain ⟨n, x, hb⟩ := hb
  have hs := fun (n' x' : Int) => set_at (o' := .lst [.d (.int n'), .d (.int x')]) hb
  by_cases hn : 0 < n
  · have e0 : 0 ≤ n % m := Int.emod_nonneg _ (by omega)
    have e1 : n % m < m := Int.emod_lt_of_pos _ h0
    have fb := fb_set h hb (n / m) x
    refine ⟨(n % m).toNat, _, ?_, by omega, fb⟩
    rw [Int.toNat_of_nonneg e0]
    unfold m_L_law_take g_L_law_take
    simp only [fnM, sSeq, sRet, sRetN, sExpr, sIf, sNil, sNo, sAsg, tgN, bndS, bnd, vVar, vC, f2, f1, fB, pu, fN, vTup, vLst, fTup, fCons, fNil, fPure, fIf, fAnd, fOr, fNot, asB, asT, bAnd, bOr, bNot, fChain, fCall, fCW, gPos, gApp, R.of, R.of2, fM, pu4, tgT, tgCons, tgNil, unp, pureL, sPar, sPar3, fLstC, fFld, oFld, fMeth, insU, sFldS, setFld, fSl, oNone, oSome, tgSub, setU, fIter, fItN, fItS, sFor, getL, getT, VL.getD, keyD, tyB, lstC, oAdd, oSub, oMul, oFdiv, oMod, oPow, oNeg, oLt, oLe, oGt, oGe, oEq, oNe, oIsN, oNotN, oIn, oNotIn, oIx, oLen, oInt, oAbs, oMin, oMax, oStr, oList, oListC, oTuple, oAll, oAny, itemsU, lenN, truB, fJs, oFmt, List.map_cons, List.map_nil, List.length_cons, List.length_nil, List.replicate_succ, List.replicate_zero, List.cons_append, List.nil_append, List.append_nil, List.getElem?_cons_zero, List.getElem?_cons_succ, List.set_cons_zero, List.set_cons_succ, Nat.reduceAdd, Nat.reduceSub, Option.map_some, Option.map_none, if_true, if_false, ite_true, ite_false, Bool.false_eq_true, reduceCtorEq, true_and, and_true, and_self, Bool.not_true, Bool.not_false, Nat.zero_add, Option.bind_some, Option.bind_eq_bind, Option.pure_def, decide_true, decide_false, eq_self, Nat.reduceEqDiff, Nat.reduceLT, Nat.reduceLeDiff, Int.reduceLT, Int.reduceLE, Int.reduceEq, Bool.and_true, Bool.true_and, Bool.false_and, Bool.or_false, Bool.or_true, Bool.true_or, Bool.false_or, sz0, szl0, sz1, szl1, sz2, szl2, sz3, szl3, sz4, szl4, sz5, szl5, sz6, szl6, sz7, szl7, sz8, szl8, sz9, szl9, sz10, szl10, sz11, szl11, sz12, szl12, sz13, szl13, sz14, szl14, sz15, szl15, hb, at_0, at_1, decide_eq_true hn, h0, h1, ixn0]
    exact wCut_len fb.wf fb.len _
  · have hw : (0 : Int) < 64 := by decide
    have h7 : (0 : Int) < 7 ∧ (7 : Int) < 1073741824 := ⟨by decide, by decide⟩
    have h64 : (0 : Int) < 64 ∧ (64 : Int) < 1073741824 := ⟨by decide, by decide⟩
    have hq1 : (0 : Int) < 2147483399 := by decide
    have hq2 : (0 : Int) < 2147483587 := by decide
    have c1 : ∀ y : Int, ((-(2 ^ 64) < y ∧ y < 2 ^ 64) ∨ (-(2 ^ 64) < (40692 : Int) ∧ (40692 : Int) < 2 ^ 64)) := fun y => .inr ⟨by decide, by decide⟩
    have c2 : ∀ y : Int, ((-(2 ^ 64) < y ∧ y < 2 ^ 64) ∨ (-(2 ^ 64) < (69621 : Int) ∧ (69621 : Int) < 2 ^ 64)) := fun y => .inr ⟨by decide, by decide⟩
    let X : Int := (x * 40692 + 2909) % 2147483399
    let Y : Int := X / 7 * 69621 % 2147483587 / 64
    have e0 : 0 ≤ Y % m := Int.emod_nonneg _ (by omega)
    have e1 : Y % m < m := Int.emod_lt_of_pos _ h0
    have fb := fb_set h hb n X
    refine ⟨(Y % m).toNat, _, ?_, by omega, fb⟩
    rw [Int.toNat_of_nonneg e0]
    simp only [X, Y] at *
    unfold m_L_law_take g_L_law_take
    simp only [fnM, sSeq, sRet, sRetN, sExpr, sIf, sNil, sNo, sAsg, tgN, bndS, bnd, vVar, vC, f2, f1, fB, pu, fN, vTup, vLst, fTup, fCons, fNil, fPure, fIf, fAnd, fOr, fNot, asB, asT, bAnd, bOr, bNot, fChain, fCall, fCW, gPos, gApp, R.of, R.of2, fM, pu4, tgT, tgCons, tgNil, unp, pureL, sPar, sPar3, fLstC, fFld, oFld, fMeth, insU, sFldS, setFld, fSl, oNone, oSome, tgSub, setU, fIter, fItN, fItS, sFor, getL, getT, VL.getD, keyD, tyB, lstC, oAdd, oSub, oMul, oFdiv, oMod, oPow, oNeg, oLt, oLe, oGt, oGe, oEq, oNe, oIsN, oNotN, oIn, oNotIn, oIx, oLen, oInt, oAbs, oMin, oMax, oStr, oList, oListC, oTuple, oAll, oAny, itemsU, lenN, truB, fJs, oFmt, List.map_cons, List.map_nil, List.length_cons, List.length_nil, List.replicate_succ, List.replicate_zero, List.cons_append, List.nil_append, List.append_nil, List.getElem?_cons_zero, List.getElem?_cons_succ, List.set_cons_zero, List.set_cons_succ, Nat.reduceAdd, Nat.reduceSub, Option.map_some, Option.map_none, if_true, if_false, ite_true, ite_false, Bool.false_eq_true, reduceCtorEq, true_and, and_true, and_self, Bool.not_true, Bool.not_false, Nat.zero_add, Option.bind_some, Option.bind_eq_bind, Option.pure_def, decide_true, decide_false, eq_self, Nat.reduceEqDiff, Nat.reduceLT, Nat.reduceLeDiff, Int.reduceLT, Int.reduceLE, Int.reduceEq, Bool.and_true, Bool.true_and, Bool.false_and, Bool.or_false, Bool.or_true, Bool.true_or, Bool.false_or, sz0, szl0, sz1, szl1, sz2, szl2, sz3, szl3, sz4, szl4, sz5, szl5, sz6, szl6, sz7, szl7, sz8, szl8, sz9, szl9, sz10, szl10, sz11, szl11, sz12, szl12, sz13, szl13, sz14, szl14, sz15, szl15, hb, at_0, at_1, decide_eq_false hn, h0, h7, h64, hw, hq1, hq2, c1, c2, ixn1, hs]
    exact wCut_len fb.wf fb.len _
theorem ev_lof {b : Nat} (h : WF st) (hb : Bag st b) {ds : List D} (h0 : 0 < ds.length) (h1 : ds.length < 1073741824) :
    ∃ (x : D) (st' : Store), m_L_law_of K a [.ref b, .d (.lst ds)] st = .ok (.d x) st' ∧ x ∈ ds ∧ Fb st st' b := by
  obtain ⟨d, st', e, hd, fb⟩ := ev_ltake (K := K) (a := a) h hb (m := (ds.length : Nat)) (by omega) (by omega)
  have hd' : d < ds.length := by omega
  have ha : atI (ds.map U.d) (d : Int) = some (.d ds[d]) := by
    rw [at_lt (by rw [List.length_map]; exact hd')]
    rw [List.getElem_map]
  refine ⟨ds[d], st', ?_, List.getElem_mem hd', fb⟩
  have wc := wFrz_d fb.wf ds[d]
  rw [fb.len] at wc
  unfold m_L_law_of g_L_law_of
  simp only [fnM, sSeq, sRet, sRetN, sExpr, sIf, sNil, sNo, sAsg, tgN, bndS, bnd, vVar, vC, f2, f1, fB, pu, fN, vTup, vLst, fTup, fCons, fNil, fPure, fIf, fAnd, fOr, fNot, asB, asT, bAnd, bOr, bNot, fChain, fCall, fCW, gPos, gApp, R.of, R.of2, fM, pu4, tgT, tgCons, tgNil, unp, pureL, sPar, sPar3, fLstC, fFld, oFld, fMeth, insU, sFldS, setFld, fSl, oNone, oSome, tgSub, setU, fIter, fItN, fItS, sFor, getL, getT, VL.getD, keyD, tyB, lstC, oAdd, oSub, oMul, oFdiv, oMod, oPow, oNeg, oLt, oLe, oGt, oGe, oEq, oNe, oIsN, oNotN, oIn, oNotIn, oIx, oLen, oInt, oAbs, oMin, oMax, oStr, oList, oListC, oTuple, oAll, oAny, itemsU, lenN, truB, fJs, oFmt, List.map_cons, List.map_nil, List.length_cons, List.length_nil, List.replicate_succ, List.replicate_zero, List.cons_append, List.nil_append, List.append_nil, List.getElem?_cons_zero, List.getElem?_cons_succ, List.set_cons_zero, List.set_cons_succ, Nat.reduceAdd, Nat.reduceSub, Option.map_some, Option.map_none, if_true, if_false, ite_true, ite_false, Bool.false_eq_true, reduceCtorEq, true_and, and_true, and_self, Bool.not_true, Bool.not_false, Nat.zero_add, Option.bind_some, Option.bind_eq_bind, Option.pure_def, decide_true, decide_false, eq_self, Nat.reduceEqDiff, Nat.reduceLT, Nat.reduceLeDiff, Int.reduceLT, Int.reduceLE, Int.reduceEq, Bool.and_true, Bool.true_and, Bool.false_and, Bool.or_false, Bool.or_true, Bool.true_or, Bool.false_or, sz0, szl0, sz1, szl1, sz2, szl2, sz3, szl3, sz4, szl4, sz5, szl5, sz6, szl6, sz7, szl7, sz8, szl8, sz9, szl9, sz10, szl10, sz11, szl11, sz12, szl12, sz13, szl13, sz14, szl14, sz15, szl15, List.length_map, e, ha, wc]
/-! the bag -/
theorem ev_bagloop {u0 u1 u2 : Option U} : ∀ (ns : List Int) (k : Nat) (x : Int) (x4 x5 : Option U), ∃ (x' : Int) (y4 y5 : Option U), loopL (tgT 2 (tgCons (tgN 4) (tgCons (tgN 5) tgNil))) (b_L_law_bag_1 K a) (pairsFrom k (ns.map .int)) [u0, u1, u2, some (.d (.int x)), x4, x5] st = .ok [u0, u1, u2, some (.d (.int x')), y4, y5] .nx st
  | [], k, x, x4, x5 => ⟨x, x4, x5, rfl⟩
  | n :: ns, k, x, x4, x5 => by
    have c1 : ∀ y : Int, ((-(2 ^ 64) < y ∧ y < 2 ^ 64) ∨ (-(2 ^ 64) < (40014 : Int) ∧ (40014 : Int) < 2 ^ 64)) := fun y => .inr ⟨by decide, by decide⟩
    have c2 : ∀ y : Int, ((-(2 ^ 64) < (83 : Int) ∧ (83 : Int) < 2 ^ 64) ∨ (-(2 ^ 64) < y ∧ y < 2 ^ 64)) := fun y => .inl ⟨by decide, by decide⟩
    have hq : (0 : Int) < 2147483563 := by decide
    obtain ⟨x', y4, y5, e⟩ := ev_bagloop (u0 := u0) (u1 := u1) (u2 := u2) ns (k + 1) ((x * 40014 + n % 2147483563 + 83 * (k : Nat) + 7) % 2147483563) (some (.d (.int (k : Nat)))) (some (.d (.int n)))
    refine ⟨x', y4, y5, ?_⟩
    rw [List.map_cons, pairsFrom, loopL]
    have eb : b_L_law_bag_1 K a [u0, u1, u2, some (.d (.int x)), some (.d (.int (k : Nat))), some (.d (.int n))] st = .ok [u0, u1, u2, some (.d (.int ((x * 40014 + n % 2147483563 + 83 * (k : Nat) + 7) % 2147483563))), some (.d (.int (k : Nat))), some (.d (.int n))] .nx st := by
      unfold b_L_law_bag_1
      simp only [fnM, sSeq, sRet, sRetN, sExpr, sIf, sNil, sNo, sAsg, tgN, bndS, bnd, vVar, vC, f2, f1, fB, pu, fN, vTup, vLst, fTup, fCons, fNil, fPure, fIf, fAnd, fOr, fNot, asB, asT, bAnd, bOr, bNot, fChain, fCall, fCW, gPos, gApp, R.of, R.of2, fM, pu4, tgT, tgCons, tgNil, unp, pureL, sPar, sPar3, fLstC, fFld, oFld, fMeth, insU, sFldS, setFld, fSl, oNone, oSome, tgSub, setU, fIter, fItN, fItS, sFor, getL, getT, VL.getD, keyD, tyB, lstC, oAdd, oSub, oMul, oFdiv, oMod, oPow, oNeg, oLt, oLe, oGt, oGe, oEq, oNe, oIsN, oNotN, oIn, oNotIn, oIx, oLen, oInt, oAbs, oMin, oMax, oStr, oList, oListC, oTuple, oAll, oAny, itemsU, lenN, truB, fJs, oFmt, List.map_cons, List.map_nil, List.length_cons, List.length_nil, List.replicate_succ, List.replicate_zero, List.cons_append, List.nil_append, List.append_nil, List.getElem?_cons_zero, List.getElem?_cons_succ, List.set_cons_zero, List.set_cons_succ, Nat.reduceAdd, Nat.reduceSub, Option.map_some, Option.map_none, if_true, if_false, ite_true, ite_false, Bool.false_eq_true, reduceCtorEq, true_and, and_true, and_self, Bool.not_true, Bool.not_false, Nat.zero_add, Option.bind_some, Option.bind_eq_bind, Option.pure_def, decide_true, decide_false, eq_self, Nat.reduceEqDiff, Nat.reduceLT, Nat.reduceLeDiff, Int.reduceLT, Int.reduceLE, Int.reduceEq, Bool.and_true, Bool.true_and, Bool.false_and, Bool.or_false, Bool.or_true, Bool.true_or, Bool.false_or, sz0, szl0, sz1, szl1, sz2, szl2, sz3, szl3, sz4, szl4, sz5, szl5, sz6, szl6, sz7, szl7, sz8, szl8, sz9, szl9, sz10, szl10, sz11, szl11, sz12, szl12, sz13, szl13, sz14, szl14, sz15, szl15, c1, c2, hq]
    simp only [fnM, sSeq, sRet, sRetN, sExpr, sIf, sNil, sNo, sAsg, tgN, bndS, bnd, vVar, vC, f2, f1, fB, pu, fN, vTup, vLst, fTup, fCons, fNil, fPure, fIf, fAnd, fOr, fNot, asB, asT, bAnd, bOr, bNot, fChain, fCall, fCW, gPos, gApp, R.of, R.of2, fM, pu4, tgT, tgCons, tgNil, unp, pureL, sPar, sPar3, fLstC, fFld, oFld, fMeth, insU, sFldS, setFld, fSl, oNone, oSome, tgSub, setU, fIter, fItN, fItS, sFor, getL, getT, VL.getD, keyD, tyB, lstC, oAdd, oSub, oMul, oFdiv, oMod, oPow, oNeg, oLt, oLe, oGt, oGe, oEq, oNe, oIsN, oNotN, oIn, oNotIn, oIx, oLen, oInt, oAbs, oMin, oMax, oStr, oList, oListC, oTuple, oAll, oAny, itemsU, lenN, truB, fJs, oFmt, List.map_cons, List.map_nil, List.length_cons, List.length_nil, List.replicate_succ, List.replicate_zero, List.cons_append, List.nil_append, List.append_nil, List.getElem?_cons_zero, List.getElem?_cons_succ, List.set_cons_zero, List.set_cons_succ, Nat.reduceAdd, Nat.reduceSub, Option.map_some, Option.map_none, if_true, if_false, ite_true, ite_false, Bool.false_eq_true, reduceCtorEq, true_and, and_true, and_self, Bool.not_true, Bool.not_false, Nat.zero_add, Option.bind_some, Option.bind_eq_bind, Option.pure_def, decide_true, decide_false, eq_self, Nat.reduceEqDiff, Nat.reduceLT, Nat.reduceLeDiff, Int.reduceLT, Int.reduceLE, Int.reduceEq, Bool.and_true, Bool.true_and, Bool.false_and, Bool.or_false, Bool.or_true, Bool.true_or, Bool.false_or, sz0, szl0, sz1, szl1, sz2, szl2, sz3, szl3, sz4, szl4, sz5, szl5, sz6, szl6, sz7, szl7, sz8, szl8, sz9, szl9, sz10, szl10, sz11, szl11, sz12, szl12, sz13, szl13, sz14, szl14, sz15, szl15, eb, e]
theorem ev_lbag (h : WF st) (ns : List Int) (hn : ns.length ≤ 63) (t : Nat) (ht : t < 64) : ∃ n x : Int, m_L_law_bag K a [.d (.scr ns), .d (.int (t : Nat))] st = .ok (.ref st.length) (st ++ [.lst [.d (.int n), .d (.int x)]]) := by
  have c1 : ((-(2 ^ 64) < (4091 : Int) ∧ (4091 : Int) < 2 ^ 64) ∨ (-(2 ^ 64) < ((t : Nat) : Int) ∧ ((t : Nat) : Int) < 2 ^ 64)) := .inl ⟨by decide, by decide⟩
  have c3 : (0 : Int) ≤ 18 ∧ (18 : Int) ≤ 1000000 ∧ (10 : Int).natAbs < 2 ^ 64 := ⟨by decide, by decide, by decide⟩
  obtain ⟨ms, hms⟩ : ∃ ms : List Int, cutG (ns.map fun i => U.d (.int i)) none (some 40) = ms.map fun i => U.d (.int i) := by
    rw [cutG_map (fun i => U.d (.int i)) ns]; exact ⟨_, rfl⟩
  have fin : ∀ (n x : Int), wKeep st.length (.ref st.length) (st ++ [.lst [.d (.int n), .d (.int x)]]) = .ok (.ref st.length) (st ++ [.lst [.d (.int n), .d (.int x)]]) := fun n x =>
    wKeep_of (ds := [.int n, .int x]) h (by rw [new_at]; rfl) (Nat.le_refl _) fun m hm => List.getElem?_append_left hm
  obtain ⟨c, hc0⟩ : ∃ c : Int, ∀ x' y4 y5, loopL (tgT 2 (tgCons (tgN 4) (tgCons (tgN 5) tgNil))) (b_L_law_bag_1 K a) (pairsFrom 0 (ms.map .int)) [some (.d (.scr ns)), some (.d (.int (t : Nat))), some (.d (.int c)), some (.d (.int (4091 * (t : Nat) + 43))), none, none] st = .ok [some (.d (.scr ns)), some (.d (.int (t : Nat))), some (.d (.int c)), some (.d (.int x')), y4, y5] .nx st →
      ∃ n x : Int, m_L_law_bag K a [.d (.scr ns), .d (.int (t : Nat))] st = .ok (.ref st.length) (st ++ [.lst [.d (.int n), .d (.int x)]]) := by
    by_cases hl : (t : Int) < (ns.length : Nat)
    · have ha : ∃ c, atI (ns.map fun i => U.d (.int i)) (t : Int) = some (.d (.int c)) := by
        rw [at_lt (by rw [List.length_map]; omega)]
        exact ⟨ns[t]'(by omega), by rw [List.getElem_map]⟩
      obtain ⟨c, ha⟩ := ha
      refine ⟨c, fun x' y4 y5 e => ?_⟩
      by_cases hc : (10 : Int) ^ (Int.toNat 18) ≤ (if c < 0 then -c else c)
      · refine ⟨if c < 0 then -c else c, x', ?_⟩
        unfold m_L_law_bag g_L_law_bag
        simp only [fnM, sSeq, sRet, sRetN, sExpr, sIf, sNil, sNo, sAsg, tgN, bndS, bnd, vVar, vC, f2, f1, fB, pu, fN, vTup, vLst, fTup, fCons, fNil, fPure, fIf, fAnd, fOr, fNot, asB, asT, bAnd, bOr, bNot, fChain, fCall, fCW, gPos, gApp, R.of, R.of2, fM, pu4, tgT, tgCons, tgNil, unp, pureL, sPar, sPar3, fLstC, fFld, oFld, fMeth, insU, sFldS, setFld, fSl, oNone, oSome, tgSub, setU, fIter, fItN, fItS, sFor, getL, getT, VL.getD, keyD, tyB, lstC, oAdd, oSub, oMul, oFdiv, oMod, oPow, oNeg, oLt, oLe, oGt, oGe, oEq, oNe, oIsN, oNotN, oIn, oNotIn, oIx, oLen, oInt, oAbs, oMin, oMax, oStr, oList, oListC, oTuple, oAll, oAny, itemsU, lenN, truB, fJs, oFmt, List.map_cons, List.map_nil, List.length_cons, List.length_nil, List.replicate_succ, List.replicate_zero, List.cons_append, List.nil_append, List.append_nil, List.getElem?_cons_zero, List.getElem?_cons_succ, List.set_cons_zero, List.set_cons_succ, Nat.reduceAdd, Nat.reduceSub, Option.map_some, Option.map_none, if_true, if_false, ite_true, ite_false, Bool.false_eq_true, reduceCtorEq, true_and, and_true, and_self, Bool.not_true, Bool.not_false, Nat.zero_add, Option.bind_some, Option.bind_eq_bind, Option.pure_def, decide_true, decide_false, eq_self, Nat.reduceEqDiff, Nat.reduceLT, Nat.reduceLeDiff, Int.reduceLT, Int.reduceLE, Int.reduceEq, Bool.and_true, Bool.true_and, Bool.false_and, Bool.or_false, Bool.or_true, Bool.true_or, Bool.false_or, sz0, szl0, sz1, szl1, sz2, szl2, sz3, szl3, sz4, szl4, sz5, szl5, sz6, szl6, sz7, szl7, sz8, szl8, sz9, szl9, sz10, szl10, sz11, szl11, sz12, szl12, sz13, szl13, sz14, szl14, sz15, szl15, List.length_map, decide_eq_true hl, ha, c1, oSl, hms, pure_ints, itE, e, c3, decide_eq_true hc]
        exact fin _ _
      · refine ⟨0, x', ?_⟩
        unfold m_L_law_bag g_L_law_bag
        simp only [fnM, sSeq, sRet, sRetN, sExpr, sIf, sNil, sNo, sAsg, tgN, bndS, bnd, vVar, vC, f2, f1, fB, pu, fN, vTup, vLst, fTup, fCons, fNil, fPure, fIf, fAnd, fOr, fNot, asB, asT, bAnd, bOr, bNot, fChain, fCall, fCW, gPos, gApp, R.of, R.of2, fM, pu4, tgT, tgCons, tgNil, unp, pureL, sPar, sPar3, fLstC, fFld, oFld, fMeth, insU, sFldS, setFld, fSl, oNone, oSome, tgSub, setU, fIter, fItN, fItS, sFor, getL, getT, VL.getD, keyD, tyB, lstC, oAdd, oSub, oMul, oFdiv, oMod, oPow, oNeg, oLt, oLe, oGt, oGe, oEq, oNe, oIsN, oNotN, oIn, oNotIn, oIx, oLen, oInt, oAbs, oMin, oMax, oStr, oList, oListC, oTuple, oAll, oAny, itemsU, lenN, truB, fJs, oFmt, List.map_cons, List.map_nil, List.length_cons, List.length_nil, List.replicate_succ, List.replicate_zero, List.cons_append, List.nil_append, List.append_nil, List.getElem?_cons_zero, List.getElem?_cons_succ, List.set_cons_zero, List.set_cons_succ, Nat.reduceAdd, Nat.reduceSub, Option.map_some, Option.map_none, if_true, if_false, ite_true, ite_false, Bool.false_eq_true, reduceCtorEq, true_and, and_true, and_self, Bool.not_true, Bool.not_false, Nat.zero_add, Option.bind_some, Option.bind_eq_bind, Option.pure_def, decide_true, decide_false, eq_self, Nat.reduceEqDiff, Nat.reduceLT, Nat.reduceLeDiff, Int.reduceLT, Int.reduceLE, Int.reduceEq, Bool.and_true, Bool.true_and, Bool.false_and, Bool.or_false, Bool.or_true, Bool.true_or, Bool.false_or, sz0, szl0, sz1, szl1, sz2, szl2, sz3, szl3, sz4, szl4, sz5, szl5, sz6, szl6, sz7, szl7, sz8, szl8, sz9, szl9, sz10, szl10, sz11, szl11, sz12, szl12, sz13, szl13, sz14, szl14, sz15, szl15, List.length_map, decide_eq_true hl, ha, c1, oSl, hms, pure_ints, itE, e, c3, decide_eq_false hc]
        exact fin _ _
    · refine ⟨0, fun x' y4 y5 e => ⟨0, x', ?_⟩⟩
      have hc : ¬ ((10 : Int) ^ (Int.toNat 18) ≤ (if (0 : Int) < 0 then -0 else 0)) := by decide
      unfold m_L_law_bag g_L_law_bag
      simp only [fnM, sSeq, sRet, sRetN, sExpr, sIf, sNil, sNo, sAsg, tgN, bndS, bnd, vVar, vC, f2, f1, fB, pu, fN, vTup, vLst, fTup, fCons, fNil, fPure, fIf, fAnd, fOr, fNot, asB, asT, bAnd, bOr, bNot, fChain, fCall, fCW, gPos, gApp, R.of, R.of2, fM, pu4, tgT, tgCons, tgNil, unp, pureL, sPar, sPar3, fLstC, fFld, oFld, fMeth, insU, sFldS, setFld, fSl, oNone, oSome, tgSub, setU, fIter, fItN, fItS, sFor, getL, getT, VL.getD, keyD, tyB, lstC, oAdd, oSub, oMul, oFdiv, oMod, oPow, oNeg, oLt, oLe, oGt, oGe, oEq, oNe, oIsN, oNotN, oIn, oNotIn, oIx, oLen, oInt, oAbs, oMin, oMax, oStr, oList, oListC, oTuple, oAll, oAny, itemsU, lenN, truB, fJs, oFmt, List.map_cons, List.map_nil, List.length_cons, List.length_nil, List.replicate_succ, List.replicate_zero, List.cons_append, List.nil_append, List.append_nil, List.getElem?_cons_zero, List.getElem?_cons_succ, List.set_cons_zero, List.set_cons_succ, Nat.reduceAdd, Nat.reduceSub, Option.map_some, Option.map_none, if_true, if_false, ite_true, ite_false, Bool.false_eq_true, reduceCtorEq, true_and, and_true, and_self, Bool.not_true, Bool.not_false, Nat.zero_add, Option.bind_some, Option.bind_eq_bind, Option.pure_def, decide_true, decide_false, eq_self, Nat.reduceEqDiff, Nat.reduceLT, Nat.reduceLeDiff, Int.reduceLT, Int.reduceLE, Int.reduceEq, Bool.and_true, Bool.true_and, Bool.false_and, Bool.or_false, Bool.or_true, Bool.true_or, Bool.false_or, sz0, szl0, sz1, szl1, sz2, szl2, sz3, szl3, sz4, szl4, sz5, szl5, sz6, szl6, sz7, szl7, sz8, szl8, sz9, szl9, sz10, szl10, sz11, szl11, sz12, szl12, sz13, szl13, sz14, szl14, sz15, szl15, List.length_map, decide_eq_false hl, c1, oSl, hms, pure_ints, itE, e, c3, decide_eq_false hc]
      exact fin _ _
  obtain ⟨x', y4, y5, e⟩ := ev_bagloop (K := K) (a := a) (st := st) (u0 := some (.d (.scr ns))) (u1 := some (.d (.int (t : Nat)))) (u2 := some (.d (.int c))) ms 0 (4091 * (t : Nat) + 43) none none
  exact hc0 x' y4 y5 e

end VL.K06

namespace VL.K06
open PySem PySem.Spec PyProof.Rows L2 VL
variable {K : PySem.W.Frag} {a : Ad} {st : Store}
/-! what the reader has met -/
inductive En where
  | sec (h : Str) | plc (x : Str) | kp (m : Int) (p : Str)
  deriving DecidableEq
def En.D : En → D
  | .sec h => .tup [.str "section", .str h]
  | .plc x => .tup [.str "place", .str x]
  | .kp m p => .tup [.str "kept", .tup [.int m, .str p]]
def En.P : En → PyData
  | .sec h => .tuple [.str "section", .str h]
  | .plc x => .tuple [.str "place", .str x]
  | .kp m p => .tuple [.str "kept", .tuple [.int m, .str p]]
def En.ok : En → Prop
  | .sec h => PyData.strOk h = true
  | .plc x => PyData.strOk x = true
  | .kp _ p => PyData.strOk p = true
theorem En.toP (e : En) : toP e.D = some e.P := by cases e <;> rfl
theorem En.toPs : ∀ es : List En, toPs (es.map En.D) = some (es.map En.P)
  | [] => rfl
  | e :: es => by
    show (match VL.toP e.D, VL.toPs (es.map En.D) with
      | some p, some ps => some (p :: ps)
      | _, _ => none) = _
    rw [En.toP, En.toPs es]
    rfl
theorem so1 : PyData.strOk "section" = true := by decide +kernel
theorem so2 : PyData.strOk "place" = true := by decide +kernel
theorem so3 : PyData.strOk "kept" = true := by decide +kernel
theorem En.lay {e : En} (h : e.ok) : e.P.canLay0 = true := by
  cases e with
  | sec x => have h' : PyData.strOk x = true := h; simp [En.P, PyData.canLay0, PyData.canLayAll0, so1, h']
  | plc x => have h' : PyData.strOk x = true := h; simp [En.P, PyData.canLay0, PyData.canLayAll0, so2, h']
  | kp m x => have h' : PyData.strOk x = true := h; simp [En.P, PyData.canLay0, PyData.canLayAll0, so3, h']
theorem En.depth (e : En) : e.P.depth ≤ 2 := by cases e <;> simp [En.P, PyData.depth, PyData.depthAll]
theorem En.shaped {e : En} (h : e.ok) : SeqAt.shaped e.P = true := by
  unfold SeqAt.shaped
  have := e.depth
  rw [En.lay h, Bool.true_and, decide_eq_true_eq]
  omega
theorem En.layAll : ∀ {es : List En}, (∀ e ∈ es, e.ok) → PyData.canLayAll0 (es.map En.P) = true
  | [], _ => rfl
  | e :: es, h => by
    rw [List.map_cons]
    simp [PyData.canLayAll0, En.lay (h e (List.mem_cons_self ..)), En.layAll fun x hx => h x (List.mem_cons_of_mem _ hx)]
theorem En.depthAll : ∀ (es : List En), PyData.depthAll (es.map En.P) ≤ 2
  | [] => by simp [PyData.depthAll]
  | e :: es => by
    have := e.depth
    have := En.depthAll es
    rw [List.map_cons]
    simp [PyData.depthAll]
    omega
theorem En.shapedL {es : List En} (h : ∀ e ∈ es, e.ok) : SeqAt.shaped (.list (es.map En.P)) = true := by
  unfold SeqAt.shaped
  have := En.depthAll es
  simp [PyData.canLay0, PyData.depth, En.layAll h]
  omega
theorem sec_place : (("section" : Str) == ("place" : Str)) = false := by decide +kernel
theorem sec_kept : (("section" : Str) == ("kept" : Str)) = false := by decide +kernel
theorem place_sec : (("place" : Str) == ("section" : Str)) = false := by decide +kernel
theorem place_kept : (("place" : Str) == ("kept" : Str)) = false := by decide +kernel
theorem kept_sec : (("kept" : Str) == ("section" : Str)) = false := by decide +kernel
theorem kept_place : (("kept" : Str) == ("place" : Str)) = false := by decide +kernel
theorem eqv_tup (a b : List PyData) : PyData.eqv (.tuple a) (.tuple b) = PyData.eqvAll a b := by simp [PyData.eqv]
theorem eqv_cons (a b : List PyData) (x y : PyData) : PyData.eqvAll (x :: a) (y :: b) = (PyData.eqv x y && PyData.eqvAll a b) := by simp [PyData.eqvAll]
theorem eqv_emp : PyData.eqvAll [] [] = true := by simp [PyData.eqvAll]
theorem eqv_ne {e f : En} (h : e ≠ f) : PyData.eqv e.P f.P = false := by
  cases e with
  | sec x => cases f with
    | sec y => simp only [En.P, eqv_tup, eqv_cons, eqv_str]; simp; intro z; exact absurd (congrArg En.sec z) h
    | plc y => simp only [En.P, eqv_tup, eqv_cons, eqv_str, sec_place, Bool.false_and]
    | kp m y => simp only [En.P, eqv_tup, eqv_cons, eqv_str, sec_kept, Bool.false_and]
  | plc x => cases f with
    | sec y => simp only [En.P, eqv_tup, eqv_cons, eqv_str, place_sec, Bool.false_and]
    | plc y => simp only [En.P, eqv_tup, eqv_cons, eqv_str]; simp; intro z; exact absurd (congrArg En.plc z) h
    | kp m y => simp only [En.P, eqv_tup, eqv_cons, eqv_str, place_kept, Bool.false_and]
  | kp m x => cases f with
    | sec y => simp only [En.P, eqv_tup, eqv_cons, eqv_str, kept_sec, Bool.false_and]
    | plc y => simp only [En.P, eqv_tup, eqv_cons, eqv_str, kept_place, Bool.false_and]
    | kp n y =>
      simp only [En.P, eqv_tup, eqv_cons, eqv_str, eqv_int]
      simp
      intro z1 z2
      subst z1; subst z2
      exact absurd rfl h
theorem eqv_self (e : En) : PyData.eqv e.P e.P = true := by
  cases e <;> simp [En.P, eqv_tup, eqv_cons, eqv_str, eqv_int, eqv_emp]
theorem En.new {es : List En} {e : En} (h : ∀ e ∈ es, e.ok) (he : e.ok) (hn : e ∉ es) : NewIn (es.map En.D) e.D :=
  ⟨es.map En.P, e.P, En.toPs es, En.toP e, En.shaped he, En.shapedL h, by
    rw [List.any_map]
    refine List.any_eq_false.mpr fun f hf => ?_
    show ¬ (PyData.eqv f.P e.P = true)
    rw [eqv_ne (fun z => hn (by rw [← z]; exact hf))]
    exact Bool.false_ne_true⟩

end VL.K06

namespace VL.K06
open PySem PySem.Spec PyProof.Rows L2 VL
variable {K : PySem.W.Frag} {a : Ad} {st : Store}
theorem inS_mem (c : Nat) (g : Str) : inS c g = decide (c ∈ TL.tl g) := by
  exact StrLaws.found_one g c
def az : Str := "abcdefghijklmnopqrstuvwxyz"
theorem dot_az : ¬ (46 ∈ TL.tl ("abcdefghijklmnopqrstuvwxyz" : Str)) := by decide +kernel
theorem name_nodot {s : Str} (h : isName s = true) : ¬ (46 ∈ TL.tl s) := by
  intro z
  unfold isName madeOf at h
  rw [Bool.and_eq_true, Bool.and_eq_true, List.all_eq_true] at h
  have := h.2.2 46 z
  rw [inS_mem] at this
  exact dot_az (of_decide_eq_true this)
theorem name_empty : isName Str.empty = false := by decide +kernel
theorem dot_tl : TL.tl ("." : Str) = [46] := by decide +kernel
theorem join_two (p q : Str) (r : List Str) : Str.join "." (p :: q :: r) = p ++ "." ++ Str.join "." (q :: r) := rfl
theorem join_dot (q w : Str) (r : List Str) : 46 ∈ TL.tl (Str.join "." (q :: w :: r)) := by
  rw [join_two, TL.tl_append, TL.tl_append, dot_tl]
  simp
def placeOf (ps : List Str) : Bool := match ps with
  | [p, q] => isName p && isName q
  | _ => false
theorem place_split (s : Str) : isPlace s = placeOf (Txt.split s ".") := by
  have hj : Str.join "." (Txt.split s ".") = s := StrLaws.join_split s "."
  have hf : ∀ p ∈ Txt.split s ".", ¬ (46 ∈ TL.tl p) := StrLaws.split_free s 46
  have hp := split_pos s "."
  generalize Txt.split s "." = ps at hj hf hp
  match ps, hj, hf, hp with
  | [p], hj, hf, _ =>
    have e : p = s := hj
    have := TL.partition_none (y := ".") (s := 46) (S := []) dot_tl (hf p (List.mem_singleton.mpr rfl))
    unfold isPlace placeOf
    rw [← e, this, name_empty, Bool.and_false]
  | [p, q], hj, hf, _ =>
    rw [join_two] at hj
    have := TL.partition_app (y := ".") (s := 46) (S := []) dot_tl (a := p) (b := q) (hf p (List.mem_cons_self ..))
    have e : p ++ "." ++ q = s := hj
    unfold isPlace placeOf
    rw [← e, this]
  | p :: q :: w :: r, hj, hf, _ =>
    rw [join_two] at hj
    have := TL.partition_app (y := ".") (s := 46) (S := []) dot_tl (a := p) (b := Str.join "." (q :: w :: r)) (hf p (List.mem_cons_self ..))
    unfold isPlace placeOf
    rw [← hj, this]
    show (isName p && isName (Str.join "." (q :: w :: r))) = false
    have h0 : isName (Str.join "." (q :: w :: r)) = false := Bool.eq_false_iff.mpr fun z => name_nodot z (join_dot q w r)
    rw [h0, Bool.and_false]
theorem first_cons {s : Str} {c : Nat} {r : List Nat} (h : TL.tl s = c :: r) : first s = ⟨#[c]⟩ := by
  unfold first
  rw [show s.cps.toList = c :: r from h]
theorem one_inj {c : Nat} {s : Str} {d : Nat} (h : TL.tl s = [d]) : ((⟨#[c]⟩ : Str) = s) ↔ c = d := by
  constructor
  · intro e
    have : TL.tl (⟨#[c]⟩ : Str) = TL.tl s := by rw [e]
    rw [h] at this
    exact (List.cons.inj this).1
  · intro e
    subst e
    exact TL.ext_tl (by rw [h])
theorem minus_tl : TL.tl ("-" : Str) = [45] := by decide +kernel
theorem starts_one {s y : Str} {d : Nat} (hy : TL.tl y = [d]) (h : 1 ≤ s.length) : Txt.startswith s y = decide (first s = y) := by
  have hy' : y = ⟨#[d]⟩ := TL.ext_tl hy
  subst hy'
  unfold Txt.startswith
  rw [Bool.eq_iff_iff, Bool.and_eq_true, decide_eq_true_eq, StrLaws.subAt_one, decide_eq_true_eq]
  rw [TL.len_tl] at h
  cases e : TL.tl s with
  | nil => rw [e] at h; simp at h
  | cons c r =>
    rw [first_cons e, show s.cps.toList = c :: r from e, one_inj (d := d) rfl]
    simp
def Sg (n : Nat) (s : Str) : Prop := s.length ≤ n ∧ ∀ c ∈ TL.tl s, c < 128
theorem Sg.mono {n m : Nat} {s : Str} (h : Sg n s) (k : n ≤ m) : Sg m s := ⟨Nat.le_trans h.1 k, h.2⟩
theorem len_app (x y : Str) : (x ++ y).length = x.length + y.length := by
  rw [TL.len_tl, TL.tl_append, List.length_append, ← TL.len_tl, ← TL.len_tl]
theorem Sg.app {n m : Nat} {x y : Str} (h : Sg n x) (k : Sg m y) : Sg (n + m) (x ++ y) := by
  refine ⟨by rw [len_app]; exact Nat.add_le_add h.1 k.1, fun c hc => ?_⟩
  rw [TL.tl_append] at hc
  rcases List.mem_append.mp hc with q | q
  · exact h.2 c q
  · exact k.2 c q
theorem tl_cut (s : Str) (lo hi : Option Int) : TL.tl (L2.cutS s lo hi) = ((TL.tl s).drop (HT.sIx s.length 0 lo)).take (HT.sIx s.length s.length hi - HT.sIx s.length 0 lo) := by
  unfold L2.cutS
  rfl
theorem Sg.cut {n : Nat} {s : Str} (h : Sg n s) (lo hi : Option Int) : Sg n (L2.cutS s lo hi) := by
  refine ⟨Nat.le_trans (cut_len _ _ _) h.1, fun c hc => ?_⟩
  rw [tl_cut] at hc
  exact h.2 c (List.mem_of_mem_drop (List.mem_of_mem_take hc))
theorem Sg.sz {n : Nat} {s : Str} (h : Sg n s) (k : n ≤ 300) : s.length ≤ sizeLine := szb (Nat.le_trans h.1 k)
theorem tl_empty : TL.tl ("" : Str) = [] := by decide +kernel
theorem strs_u (ss : List Str) : strsU ((sD ss).map U.d) = some ss := by
  induction ss with
  | nil => rfl
  | cons s ss ih =>
    unfold strsU at ih ⊢
    unfold sD at ih ⊢
    rw [List.map_cons, List.map_cons, allM, ih]
theorem strOk_of {n : Nat} {s : Str} (h : Sg n s) : PyData.strOk s = true := by
  unfold PyData.strOk
  rw [← Array.all_toList, List.all_eq_true]
  intro c hc
  have := h.2 c hc
  exact decide_eq_true (by omega)
theorem eqB_nilD {xs : List Str} (h : ∀ s ∈ xs, PyData.strOk s = true) : eqB st (.d (.lst (sD xs))) (.d (.lst [])) = some xs.isEmpty := by
  have e := toP_strs xs
  have hs := shaped_strs xs h
  have e2 : toP (.lst []) = some (.list []) := rfl
  unfold eqB
  simp only [asP_d, e, e2, hs, shaped_nil, and_self, if_true, eqv_nil]
  cases xs <;> rfl
def wrongs (s g : Str) : List Str := (s.cps.toList.filter fun c => !inS c g).map fun c => ⟨#[c]⟩
theorem wrongs_empty (s g : Str) : (wrongs s g).isEmpty = s.cps.toList.all fun c => inS c g := by
  unfold wrongs
  induction s.cps.toList with
  | nil => rfl
  | cons c r ih =>
    rw [List.filter_cons, List.all_cons]
    cases e : inS c g with
    | true => simpa using ih
    | false => rfl
theorem wrongs_ok {s g : Str} {n : Nat} (h : Sg n s) : ∀ p ∈ wrongs s g, PyData.strOk p = true := fun p hp => by
  obtain ⟨c, hc, rfl⟩ := List.mem_map.mp hp
  have hc' := h.2 c ((List.mem_filter.mp hc).1)
  refine strOk_of (n := 1) ⟨Nat.le_refl 1, fun d hd => ?_⟩
  have hd' : d ∈ [c] := hd
  rw [List.mem_singleton] at hd'
  subst hd'
  exact hc'
theorem ev_wrongs {j : Nat} {env' : VEnv} (h : WF st) {s g : Str} (hs : s.length ≤ sizeLine) (hj : j < env'.length) :
    fLc (fIter (vVar 0)) (tgN (j + 1)) (asB (f2 oNotIn (vVar (j + 1)) (vC (.str g)))) (vVar (j + 1)) [j + 1] (some (.d (.str s)) :: env') st = .ok (.d (.lst (sD (wrongs s g)))) st := by
  rw [fLc_pure (us := s.cps.toList.map fun c => .d (.str ⟨#[c]⟩)) (P := fun u => match u with
      | .d (.str c) => !(!(Builtin.Str.occurrences g c 0 g.length 1).isEmpty)
      | _ => false) (q := fun u => match u with
      | .d x => x
      | _ => .non) h]
  · rw [List.filter_map, List.map_map]
    unfold wrongs sD
    rw [List.map_map]
    rfl
  · simp only [fnM, sSeq, sRet, sRetN, sExpr, sIf, sNil, sNo, sAsg, tgN, bndS, bnd, vVar, vC, f2, f1, fB, pu, fN, vTup, vLst, fTup, fCons, fNil, fPure, fIf, fAnd, fOr, fNot, asB, asT, bAnd, bOr, bNot, fChain, fCall, fCW, gPos, gApp, R.of, R.of2, fM, pu4, tgT, tgCons, tgNil, unp, pureL, sPar, sPar3, fLstC, fFld, oFld, fMeth, insU, sFldS, setFld, fSl, oNone, oSome, tgSub, setU, fIter, fItN, fItS, sFor, getL, getT, VL.getD, keyD, tyB, lstC, oAdd, oSub, oMul, oFdiv, oMod, oPow, oNeg, oLt, oLe, oGt, oGe, oEq, oNe, oIsN, oNotN, oIn, oNotIn, oIx, oLen, oInt, oAbs, oMin, oMax, oStr, oList, oListC, oTuple, oAll, oAny, itemsU, lenN, truB, fJs, oFmt, List.map_cons, List.map_nil, List.length_cons, List.length_nil, List.replicate_succ, List.replicate_zero, List.cons_append, List.nil_append, List.append_nil, List.getElem?_cons_zero, List.getElem?_cons_succ, List.set_cons_zero, List.set_cons_succ, Nat.reduceAdd, Nat.reduceSub, Option.map_some, Option.map_none, if_true, if_false, ite_true, ite_false, Bool.false_eq_true, reduceCtorEq, true_and, and_true, and_self, Bool.not_true, Bool.not_false, Nat.zero_add, Option.bind_some, Option.bind_eq_bind, Option.pure_def, decide_true, decide_false, eq_self, Nat.reduceEqDiff, Nat.reduceLT, Nat.reduceLeDiff, Int.reduceLT, Int.reduceLE, Int.reduceEq, Bool.and_true, Bool.true_and, Bool.false_and, Bool.or_false, Bool.or_true, Bool.true_or, Bool.false_or, sz0, szl0, sz1, szl1, sz2, szl2, sz3, szl3, sz4, szl4, sz5, szl5, sz6, szl6, sz7, szl7, sz8, szl8, sz9, szl9, sz10, szl10, sz11, szl11, sz12, szl12, sz13, szl13, sz14, szl14, sz15, szl15, itV_str]
  · rw [List.length_map, Array.length_toList]; exact hs
  · intro u hu st' h'
    obtain ⟨c, hc, rfl⟩ := List.mem_map.mp hu
    have hg : ((env'.set j none).set j (some (.d (.str ⟨#[c]⟩))))[j]? = some (some (.d (.str ⟨#[c]⟩))) := List.getElem?_set_self (by rw [List.length_set]; exact hj)
    refine ⟨some (.d (.str s)) :: (env'.set j none).set j (some (.d (.str ⟨#[c]⟩))), ?_, ?_, fun _ => ?_⟩
    · simp only [fnM, sSeq, sRet, sRetN, sExpr, sIf, sNil, sNo, sAsg, tgN, bndS, bnd, vVar, vC, f2, f1, fB, pu, fN, vTup, vLst, fTup, fCons, fNil, fPure, fIf, fAnd, fOr, fNot, asB, asT, bAnd, bOr, bNot, fChain, fCall, fCW, gPos, gApp, R.of, R.of2, fM, pu4, tgT, tgCons, tgNil, unp, pureL, sPar, sPar3, fLstC, fFld, oFld, fMeth, insU, sFldS, setFld, fSl, oNone, oSome, tgSub, setU, fIter, fItN, fItS, sFor, getL, getT, VL.getD, keyD, tyB, lstC, oAdd, oSub, oMul, oFdiv, oMod, oPow, oNeg, oLt, oLe, oGt, oGe, oEq, oNe, oIsN, oNotN, oIn, oNotIn, oIx, oLen, oInt, oAbs, oMin, oMax, oStr, oList, oListC, oTuple, oAll, oAny, itemsU, lenN, truB, fJs, oFmt, List.map_cons, List.map_nil, List.length_cons, List.length_nil, List.replicate_succ, List.replicate_zero, List.cons_append, List.nil_append, List.append_nil, List.getElem?_cons_zero, List.getElem?_cons_succ, List.set_cons_zero, List.set_cons_succ, Nat.reduceAdd, Nat.reduceSub, Option.map_some, Option.map_none, if_true, if_false, ite_true, ite_false, Bool.false_eq_true, reduceCtorEq, true_and, and_true, and_self, Bool.not_true, Bool.not_false, Nat.zero_add, Option.bind_some, Option.bind_eq_bind, Option.pure_def, decide_true, decide_false, eq_self, Nat.reduceEqDiff, Nat.reduceLT, Nat.reduceLeDiff, Int.reduceLT, Int.reduceLE, Int.reduceEq, Bool.and_true, Bool.true_and, Bool.false_and, Bool.or_false, Bool.or_true, Bool.true_or, Bool.false_or, sz0, szl0, sz1, szl1, sz2, szl2, sz3, szl3, sz4, szl4, sz5, szl5, sz6, szl6, sz7, szl7, sz8, szl8, sz9, szl9, sz10, szl10, sz11, szl11, sz12, szl12, sz13, szl13, sz14, szl14, sz15, szl15, wipeE]
    · simp only [fnM, sSeq, sRet, sRetN, sExpr, sIf, sNil, sNo, sAsg, tgN, bndS, bnd, vVar, vC, f2, f1, fB, pu, fN, vTup, vLst, fTup, fCons, fNil, fPure, fIf, fAnd, fOr, fNot, asB, asT, bAnd, bOr, bNot, fChain, fCall, fCW, gPos, gApp, R.of, R.of2, fM, pu4, tgT, tgCons, tgNil, unp, pureL, sPar, sPar3, fLstC, fFld, oFld, fMeth, insU, sFldS, setFld, fSl, oNone, oSome, tgSub, setU, fIter, fItN, fItS, sFor, getL, getT, VL.getD, keyD, tyB, lstC, oAdd, oSub, oMul, oFdiv, oMod, oPow, oNeg, oLt, oLe, oGt, oGe, oEq, oNe, oIsN, oNotN, oIn, oNotIn, oIx, oLen, oInt, oAbs, oMin, oMax, oStr, oList, oListC, oTuple, oAll, oAny, itemsU, lenN, truB, fJs, oFmt, List.map_cons, List.map_nil, List.length_cons, List.length_nil, List.replicate_succ, List.replicate_zero, List.cons_append, List.nil_append, List.append_nil, List.getElem?_cons_zero, List.getElem?_cons_succ, List.set_cons_zero, List.set_cons_succ, Nat.reduceAdd, Nat.reduceSub, Option.map_some, Option.map_none, if_true, if_false, ite_true, ite_false, Bool.false_eq_true, reduceCtorEq, true_and, and_true, and_self, Bool.not_true, Bool.not_false, Nat.zero_add, Option.bind_some, Option.bind_eq_bind, Option.pure_def, decide_true, decide_false, eq_self, Nat.reduceEqDiff, Nat.reduceLT, Nat.reduceLeDiff, Int.reduceLT, Int.reduceLE, Int.reduceEq, Bool.and_true, Bool.true_and, Bool.false_and, Bool.or_false, Bool.or_true, Bool.true_or, Bool.false_or, sz0, szl0, sz1, szl1, sz2, szl2, sz3, szl3, sz4, szl4, sz5, szl5, sz6, szl6, sz7, szl7, sz8, szl8, sz9, szl9, sz10, szl10, sz11, szl11, sz12, szl12, sz13, szl13, sz14, szl14, sz15, szl15, hg, inB]
    · simp only [fnM, sSeq, sRet, sRetN, sExpr, sIf, sNil, sNo, sAsg, tgN, bndS, bnd, vVar, vC, f2, f1, fB, pu, fN, vTup, vLst, fTup, fCons, fNil, fPure, fIf, fAnd, fOr, fNot, asB, asT, bAnd, bOr, bNot, fChain, fCall, fCW, gPos, gApp, R.of, R.of2, fM, pu4, tgT, tgCons, tgNil, unp, pureL, sPar, sPar3, fLstC, fFld, oFld, fMeth, insU, sFldS, setFld, fSl, oNone, oSome, tgSub, setU, fIter, fItN, fItS, sFor, getL, getT, VL.getD, keyD, tyB, lstC, oAdd, oSub, oMul, oFdiv, oMod, oPow, oNeg, oLt, oLe, oGt, oGe, oEq, oNe, oIsN, oNotN, oIn, oNotIn, oIx, oLen, oInt, oAbs, oMin, oMax, oStr, oList, oListC, oTuple, oAll, oAny, itemsU, lenN, truB, fJs, oFmt, List.map_cons, List.map_nil, List.length_cons, List.length_nil, List.replicate_succ, List.replicate_zero, List.cons_append, List.nil_append, List.append_nil, List.getElem?_cons_zero, List.getElem?_cons_succ, List.set_cons_zero, List.set_cons_succ, Nat.reduceAdd, Nat.reduceSub, Option.map_some, Option.map_none, if_true, if_false, ite_true, ite_false, Bool.false_eq_true, reduceCtorEq, true_and, and_true, and_self, Bool.not_true, Bool.not_false, Nat.zero_add, Option.bind_some, Option.bind_eq_bind, Option.pure_def, decide_true, decide_false, eq_self, Nat.reduceEqDiff, Nat.reduceLT, Nat.reduceLeDiff, Int.reduceLT, Int.reduceLE, Int.reduceEq, Bool.and_true, Bool.true_and, Bool.false_and, Bool.or_false, Bool.or_true, Bool.true_or, Bool.false_or, sz0, szl0, sz1, szl1, sz2, szl2, sz3, szl3, sz4, szl4, sz5, szl5, sz6, szl6, sz7, szl7, sz8, szl8, sz9, szl9, sz10, szl10, sz11, szl11, sz12, szl12, sz13, szl13, sz14, szl14, sz15, szl15, hg]

end VL.K06

namespace VL.K06
open PySem PySem.Spec PyProof.Rows L2 VL
variable {K : PySem.W.Frag} {a : Ad} {st : Store}
/-! lookups in a file -/
def blockL (nm : Str) : D → List D → List Ln → Option (List D)
  | _, _, [] => none
  | s, row, .rem x :: ls => blockL nm s (row ++ [.str x]) ls
  | s, row, .kept _ _ _ _ :: ls => blockL nm s row ls
  | s, row, .head n :: ls => if nm = n then some row else blockL nm (.str n) [] ls
  | s, row, .set k _ :: ls => if nm = pl s k then some row else blockL nm s [] ls
theorem ne_sec1 : ¬ (("kept" : Str) = ("section" : Str)) := by decide +kernel
theorem ne_sec2 : ¬ (("place" : Str) = ("section" : Str)) := by decide +kernel
theorem ne_k1 : ¬ (("section" : Str) = ("kept" : Str)) := by decide +kernel
theorem ne_k2 : ¬ (("place" : Str) = ("kept" : Str)) := by decide +kernel
theorem ev_bloop2 {nm : Str} {F : D} {k0 : Nat} : ∀ (ls : List Ln) (s : D) (k : Nat) (row : List D) (q : Option (List D)) (n : Nat) (x3 x4 x5 : Option U) (st : Store), st[n]? = some (.lst (row.map U.d)) → k0 ≤ n → row.length + ls.length < sizeLine → blockL nm s row ls = q →
    ∃ env' st' n', loopL (tgT 3 (tgCons (tgN 3) (tgCons (tgN 4) (tgCons (tgN 5) tgNil)))) (b_SettingsFile_block_1 K a) ((partsL s k ls).map U.d) [some (.d F), some (.d (.str nm)), some (.ref n), x3, x4, x5] st = .ok env' (if q.isSome = true then .rt (.ref n') else .nx) st' ∧ (∀ r, q = some r → st'[n']? = some (.lst (r.map U.d))) ∧ k0 ≤ n' ∧ (∀ m, m < k0 → st'[m]? = st[m]?) ∧ ∃ w2 w3 w4 w5, env' = [some (.d F), some (.d (.str nm)), w2, w3, w4, w5]
  | [], s, k, row, q, n, x3, x4, x5, st, hn, hk, hl, e => by
    subst e
    exact ⟨_, st, n, rfl, fun r z => (nomatch z), hk, fun _ _ => rfl, _, _, _, _, rfl⟩
  | .rem x :: ls, s, k, row, q, n, x3, x4, x5, st, hn, hk, hl, e => by
    rw [List.length_cons] at hl
    obtain ⟨env', st', n', e1, e2, e3, e4, e5⟩ := ev_bloop2 (k0 := k0) (F := F) ls s (k + 1) (row ++ [.str x]) q n (some (.d (.int (k : Nat)))) (some (.d (.str "remark"))) (some (.d (.str x))) (st.set n (.lst ((row ++ [D.str x]).map U.d))) (set_at hn) hk (by rw [List.length_append, List.length_singleton]; omega) e
    refine ⟨env', st', n', ?_, e2, e3, fun m hm => by rw [e4 m hm, List.getElem?_set_ne (by omega)], e5⟩
    have hl' : (row.map U.d).length < sizeLine := by rw [List.length_map]; omega
    rw [show partsL s k (.rem x :: ls) = .tup [.int (k : Nat), .str "remark", .str x] :: partsL s (k + 1) ls from rfl, List.map_cons, loopL]
    have eb : b_SettingsFile_block_1 K a [some (.d F), some (.d (.str nm)), some (.ref n), some (.d (.int (k : Nat))), some (.d (.str "remark")), some (.d (.str x))] st = .ok [some (.d F), some (.d (.str nm)), some (.ref n), some (.d (.int (k : Nat))), some (.d (.str "remark")), some (.d (.str x))] .nx (st.set n (.lst ((row ++ [D.str x]).map U.d))) := by
      unfold b_SettingsFile_block_1
      simp only [fnM, sSeq, sRet, sRetN, sExpr, sIf, sNil, sNo, sAsg, tgN, bndS, bnd, vVar, vC, f2, f1, fB, pu, fN, vTup, vLst, fTup, fCons, fNil, fPure, fIf, fAnd, fOr, fNot, asB, asT, bAnd, bOr, bNot, fChain, fCall, fCW, gPos, gApp, R.of, R.of2, fM, pu4, tgT, tgCons, tgNil, unp, pureL, sPar, sPar3, fLstC, fFld, oFld, fMeth, insU, sFldS, setFld, fSl, oNone, oSome, tgSub, setU, fIter, fItN, fItS, sFor, getL, getT, VL.getD, keyD, tyB, lstC, oAdd, oSub, oMul, oFdiv, oMod, oPow, oNeg, oLt, oLe, oGt, oGe, oEq, oNe, oIsN, oNotN, oIn, oNotIn, oIx, oLen, oInt, oAbs, oMin, oMax, oStr, oList, oListC, oTuple, oAll, oAny, itemsU, lenN, truB, fJs, oFmt, List.map_cons, List.map_nil, List.length_cons, List.length_nil, List.replicate_succ, List.replicate_zero, List.cons_append, List.nil_append, List.append_nil, List.getElem?_cons_zero, List.getElem?_cons_succ, List.set_cons_zero, List.set_cons_succ, Nat.reduceAdd, Nat.reduceSub, Option.map_some, Option.map_none, if_true, if_false, ite_true, ite_false, Bool.false_eq_true, reduceCtorEq, true_and, and_true, and_self, Bool.not_true, Bool.not_false, Nat.zero_add, Option.bind_some, Option.bind_eq_bind, Option.pure_def, decide_true, decide_false, eq_self, Nat.reduceEqDiff, Nat.reduceLT, Nat.reduceLeDiff, Int.reduceLT, Int.reduceLE, Int.reduceEq, Bool.and_true, Bool.true_and, Bool.false_and, Bool.or_false, Bool.or_true, Bool.true_or, Bool.false_or, sz0, szl0, sz1, szl1, sz2, szl2, sz3, szl3, sz4, szl4, sz5, szl5, sz6, szl6, sz7, szl7, sz8, szl8, sz9, szl9, sz10, szl10, sz11, szl11, sz12, szl12, sz13, szl13, sz14, szl14, sz15, szl15, eqB, hn, mAppend, hl', map_snoc]
    simp only [fnM, sSeq, sRet, sRetN, sExpr, sIf, sNil, sNo, sAsg, tgN, bndS, bnd, vVar, vC, f2, f1, fB, pu, fN, vTup, vLst, fTup, fCons, fNil, fPure, fIf, fAnd, fOr, fNot, asB, asT, bAnd, bOr, bNot, fChain, fCall, fCW, gPos, gApp, R.of, R.of2, fM, pu4, tgT, tgCons, tgNil, unp, pureL, sPar, sPar3, fLstC, fFld, oFld, fMeth, insU, sFldS, setFld, fSl, oNone, oSome, tgSub, setU, fIter, fItN, fItS, sFor, getL, getT, VL.getD, keyD, tyB, lstC, oAdd, oSub, oMul, oFdiv, oMod, oPow, oNeg, oLt, oLe, oGt, oGe, oEq, oNe, oIsN, oNotN, oIn, oNotIn, oIx, oLen, oInt, oAbs, oMin, oMax, oStr, oList, oListC, oTuple, oAll, oAny, itemsU, lenN, truB, fJs, oFmt, List.map_cons, List.map_nil, List.length_cons, List.length_nil, List.replicate_succ, List.replicate_zero, List.cons_append, List.nil_append, List.append_nil, List.getElem?_cons_zero, List.getElem?_cons_succ, List.set_cons_zero, List.set_cons_succ, Nat.reduceAdd, Nat.reduceSub, Option.map_some, Option.map_none, if_true, if_false, ite_true, ite_false, Bool.false_eq_true, reduceCtorEq, true_and, and_true, and_self, Bool.not_true, Bool.not_false, Nat.zero_add, Option.bind_some, Option.bind_eq_bind, Option.pure_def, decide_true, decide_false, eq_self, Nat.reduceEqDiff, Nat.reduceLT, Nat.reduceLeDiff, Int.reduceLT, Int.reduceLE, Int.reduceEq, Bool.and_true, Bool.true_and, Bool.false_and, Bool.or_false, Bool.or_true, Bool.true_or, Bool.false_or, sz0, szl0, sz1, szl1, sz2, szl2, sz3, szl3, sz4, szl4, sz5, szl5, sz6, szl6, sz7, szl7, sz8, szl8, sz9, szl9, sz10, szl10, sz11, szl11, sz12, szl12, sz13, szl13, sz14, szl14, sz15, szl15, eb, e1]
  | .kept y i p v :: ls, s, k, row, q, n, x3, x4, x5, st, hn, hk, hl, e => by
    rw [List.length_cons] at hl
    obtain ⟨env', st', n', e1, e2, e3, e4, e5⟩ := ev_bloop2 (k0 := k0) (F := F) ls s (k + 1) row q n (some (.d (.int (k : Nat)))) (some (.d (.str "kept"))) (some (.d (.tup [.int i, .str p, v]))) st hn hk (by omega) e
    refine ⟨env', st', n', ?_, e2, e3, e4, e5⟩
    rw [show partsL s k (.kept y i p v :: ls) = .tup [.int (k : Nat), .str "kept", .tup [.int i, .str p, v]] :: partsL s (k + 1) ls from rfl, List.map_cons, loopL]
    have eb : b_SettingsFile_block_1 K a [some (.d F), some (.d (.str nm)), some (.ref n), some (.d (.int (k : Nat))), some (.d (.str "kept")), some (.d (.tup [.int i, .str p, v]))] st = .ok [some (.d F), some (.d (.str nm)), some (.ref n), some (.d (.int (k : Nat))), some (.d (.str "kept")), some (.d (.tup [.int i, .str p, v]))] .nx st := by
      unfold b_SettingsFile_block_1
      simp only [fnM, sSeq, sRet, sRetN, sExpr, sIf, sNil, sNo, sAsg, tgN, bndS, bnd, vVar, vC, f2, f1, fB, pu, fN, vTup, vLst, fTup, fCons, fNil, fPure, fIf, fAnd, fOr, fNot, asB, asT, bAnd, bOr, bNot, fChain, fCall, fCW, gPos, gApp, R.of, R.of2, fM, pu4, tgT, tgCons, tgNil, unp, pureL, sPar, sPar3, fLstC, fFld, oFld, fMeth, insU, sFldS, setFld, fSl, oNone, oSome, tgSub, setU, fIter, fItN, fItS, sFor, getL, getT, VL.getD, keyD, tyB, lstC, oAdd, oSub, oMul, oFdiv, oMod, oPow, oNeg, oLt, oLe, oGt, oGe, oEq, oNe, oIsN, oNotN, oIn, oNotIn, oIx, oLen, oInt, oAbs, oMin, oMax, oStr, oList, oListC, oTuple, oAll, oAny, itemsU, lenN, truB, fJs, oFmt, List.map_cons, List.map_nil, List.length_cons, List.length_nil, List.replicate_succ, List.replicate_zero, List.cons_append, List.nil_append, List.append_nil, List.getElem?_cons_zero, List.getElem?_cons_succ, List.set_cons_zero, List.set_cons_succ, Nat.reduceAdd, Nat.reduceSub, Option.map_some, Option.map_none, if_true, if_false, ite_true, ite_false, Bool.false_eq_true, reduceCtorEq, true_and, and_true, and_self, Bool.not_true, Bool.not_false, Nat.zero_add, Option.bind_some, Option.bind_eq_bind, Option.pure_def, decide_true, decide_false, eq_self, Nat.reduceEqDiff, Nat.reduceLT, Nat.reduceLeDiff, Int.reduceLT, Int.reduceLE, Int.reduceEq, Bool.and_true, Bool.true_and, Bool.false_and, Bool.or_false, Bool.or_true, Bool.true_or, Bool.false_or, sz0, szl0, sz1, szl1, sz2, szl2, sz3, szl3, sz4, szl4, sz5, szl5, sz6, szl6, sz7, szl7, sz8, szl8, sz9, szl9, sz10, szl10, sz11, szl11, sz12, szl12, sz13, szl13, sz14, szl14, sz15, szl15, eqB, decide_eq_false ne_rem1, decide_eq_false ne_sec1, decide_eq_false ne_pl2]
    simp only [fnM, sSeq, sRet, sRetN, sExpr, sIf, sNil, sNo, sAsg, tgN, bndS, bnd, vVar, vC, f2, f1, fB, pu, fN, vTup, vLst, fTup, fCons, fNil, fPure, fIf, fAnd, fOr, fNot, asB, asT, bAnd, bOr, bNot, fChain, fCall, fCW, gPos, gApp, R.of, R.of2, fM, pu4, tgT, tgCons, tgNil, unp, pureL, sPar, sPar3, fLstC, fFld, oFld, fMeth, insU, sFldS, setFld, fSl, oNone, oSome, tgSub, setU, fIter, fItN, fItS, sFor, getL, getT, VL.getD, keyD, tyB, lstC, oAdd, oSub, oMul, oFdiv, oMod, oPow, oNeg, oLt, oLe, oGt, oGe, oEq, oNe, oIsN, oNotN, oIn, oNotIn, oIx, oLen, oInt, oAbs, oMin, oMax, oStr, oList, oListC, oTuple, oAll, oAny, itemsU, lenN, truB, fJs, oFmt, List.map_cons, List.map_nil, List.length_cons, List.length_nil, List.replicate_succ, List.replicate_zero, List.cons_append, List.nil_append, List.append_nil, List.getElem?_cons_zero, List.getElem?_cons_succ, List.set_cons_zero, List.set_cons_succ, Nat.reduceAdd, Nat.reduceSub, Option.map_some, Option.map_none, if_true, if_false, ite_true, ite_false, Bool.false_eq_true, reduceCtorEq, true_and, and_true, and_self, Bool.not_true, Bool.not_false, Nat.zero_add, Option.bind_some, Option.bind_eq_bind, Option.pure_def, decide_true, decide_false, eq_self, Nat.reduceEqDiff, Nat.reduceLT, Nat.reduceLeDiff, Int.reduceLT, Int.reduceLE, Int.reduceEq, Bool.and_true, Bool.true_and, Bool.false_and, Bool.or_false, Bool.or_true, Bool.true_or, Bool.false_or, sz0, szl0, sz1, szl1, sz2, szl2, sz3, szl3, sz4, szl4, sz5, szl5, sz6, szl6, sz7, szl7, sz8, szl8, sz9, szl9, sz10, szl10, sz11, szl11, sz12, szl12, sz13, szl13, sz14, szl14, sz15, szl15, eb, e1]
  | .head y :: ls, s, k, row, q, n, x3, x4, x5, st, hn, hk, hl, e => by
    rw [List.length_cons] at hl
    rw [show partsL s k (.head y :: ls) = .tup [.int (k : Nat), .str "section", .str y] :: partsL (.str y) (k + 1) ls from rfl, List.map_cons, loopL]
    rw [show blockL nm s row (.head y :: ls) = if nm = y then some row else blockL nm (.str y) [] ls from rfl] at e
    by_cases hy : nm = y
    · rw [if_pos hy] at e
      subst e
      refine ⟨[some (.d F), some (.d (.str nm)), some (.ref n), some (.d (.int (k : Nat))), some (.d (.str "section")), some (.d (.str y))], st, n, ?_, fun r z => by cases z; exact hn, hk, fun _ _ => rfl, _, _, _, _, rfl⟩
      have eb : b_SettingsFile_block_1 K a [some (.d F), some (.d (.str nm)), some (.ref n), some (.d (.int (k : Nat))), some (.d (.str "section")), some (.d (.str y))] st = .ok [some (.d F), some (.d (.str nm)), some (.ref n), some (.d (.int (k : Nat))), some (.d (.str "section")), some (.d (.str y))] (.rt (.ref n)) st := by
        unfold b_SettingsFile_block_1
        simp only [fnM, sSeq, sRet, sRetN, sExpr, sIf, sNil, sNo, sAsg, tgN, bndS, bnd, vVar, vC, f2, f1, fB, pu, fN, vTup, vLst, fTup, fCons, fNil, fPure, fIf, fAnd, fOr, fNot, asB, asT, bAnd, bOr, bNot, fChain, fCall, fCW, gPos, gApp, R.of, R.of2, fM, pu4, tgT, tgCons, tgNil, unp, pureL, sPar, sPar3, fLstC, fFld, oFld, fMeth, insU, sFldS, setFld, fSl, oNone, oSome, tgSub, setU, fIter, fItN, fItS, sFor, getL, getT, VL.getD, keyD, tyB, lstC, oAdd, oSub, oMul, oFdiv, oMod, oPow, oNeg, oLt, oLe, oGt, oGe, oEq, oNe, oIsN, oNotN, oIn, oNotIn, oIx, oLen, oInt, oAbs, oMin, oMax, oStr, oList, oListC, oTuple, oAll, oAny, itemsU, lenN, truB, fJs, oFmt, List.map_cons, List.map_nil, List.length_cons, List.length_nil, List.replicate_succ, List.replicate_zero, List.cons_append, List.nil_append, List.append_nil, List.getElem?_cons_zero, List.getElem?_cons_succ, List.set_cons_zero, List.set_cons_succ, Nat.reduceAdd, Nat.reduceSub, Option.map_some, Option.map_none, if_true, if_false, ite_true, ite_false, Bool.false_eq_true, reduceCtorEq, true_and, and_true, and_self, Bool.not_true, Bool.not_false, Nat.zero_add, Option.bind_some, Option.bind_eq_bind, Option.pure_def, decide_true, decide_false, eq_self, Nat.reduceEqDiff, Nat.reduceLT, Nat.reduceLeDiff, Int.reduceLT, Int.reduceLE, Int.reduceEq, Bool.and_true, Bool.true_and, Bool.false_and, Bool.or_false, Bool.or_true, Bool.true_or, Bool.false_or, sz0, szl0, sz1, szl1, sz2, szl2, sz3, szl3, sz4, szl4, sz5, szl5, sz6, szl6, sz7, szl7, sz8, szl8, sz9, szl9, sz10, szl10, sz11, szl11, sz12, szl12, sz13, szl13, sz14, szl14, sz15, szl15, eqB, decide_eq_false ne_rem2, decide_eq_true hy]
      simp only [fnM, sSeq, sRet, sRetN, sExpr, sIf, sNil, sNo, sAsg, tgN, bndS, bnd, vVar, vC, f2, f1, fB, pu, fN, vTup, vLst, fTup, fCons, fNil, fPure, fIf, fAnd, fOr, fNot, asB, asT, bAnd, bOr, bNot, fChain, fCall, fCW, gPos, gApp, R.of, R.of2, fM, pu4, tgT, tgCons, tgNil, unp, pureL, sPar, sPar3, fLstC, fFld, oFld, fMeth, insU, sFldS, setFld, fSl, oNone, oSome, tgSub, setU, fIter, fItN, fItS, sFor, getL, getT, VL.getD, keyD, tyB, lstC, oAdd, oSub, oMul, oFdiv, oMod, oPow, oNeg, oLt, oLe, oGt, oGe, oEq, oNe, oIsN, oNotN, oIn, oNotIn, oIx, oLen, oInt, oAbs, oMin, oMax, oStr, oList, oListC, oTuple, oAll, oAny, itemsU, lenN, truB, fJs, oFmt, List.map_cons, List.map_nil, List.length_cons, List.length_nil, List.replicate_succ, List.replicate_zero, List.cons_append, List.nil_append, List.append_nil, List.getElem?_cons_zero, List.getElem?_cons_succ, List.set_cons_zero, List.set_cons_succ, Nat.reduceAdd, Nat.reduceSub, Option.map_some, Option.map_none, if_true, if_false, ite_true, ite_false, Bool.false_eq_true, reduceCtorEq, true_and, and_true, and_self, Bool.not_true, Bool.not_false, Nat.zero_add, Option.bind_some, Option.bind_eq_bind, Option.pure_def, decide_true, decide_false, eq_self, Nat.reduceEqDiff, Nat.reduceLT, Nat.reduceLeDiff, Int.reduceLT, Int.reduceLE, Int.reduceEq, Bool.and_true, Bool.true_and, Bool.false_and, Bool.or_false, Bool.or_true, Bool.true_or, Bool.false_or, sz0, szl0, sz1, szl1, sz2, szl2, sz3, szl3, sz4, szl4, sz5, szl5, sz6, szl6, sz7, szl7, sz8, szl8, sz9, szl9, sz10, szl10, sz11, szl11, sz12, szl12, sz13, szl13, sz14, szl14, sz15, szl15, eb, Option.isSome_some]
    · rw [if_neg hy] at e
      obtain ⟨env', st', n', e1, e2, e3, e4, e5⟩ := ev_bloop2 (k0 := k0) (F := F) ls (.str y) (k + 1) [] q st.length (some (.d (.int (k : Nat)))) (some (.d (.str "section"))) (some (.d (.str y))) (st ++ [.lst []]) new_at (by have := (List.getElem?_eq_some_iff.mp hn).1; omega) (by simp; omega) e
      refine ⟨env', st', n', ?_, e2, e3, fun m hm => by rw [e4 m hm, List.getElem?_append_left (by have := (List.getElem?_eq_some_iff.mp hn).1; omega)], e5⟩
      have eb : b_SettingsFile_block_1 K a [some (.d F), some (.d (.str nm)), some (.ref n), some (.d (.int (k : Nat))), some (.d (.str "section")), some (.d (.str y))] st = .ok [some (.d F), some (.d (.str nm)), some (.ref st.length), some (.d (.int (k : Nat))), some (.d (.str "section")), some (.d (.str y))] .nx (st ++ [.lst []]) := by
        unfold b_SettingsFile_block_1
        simp only [fnM, sSeq, sRet, sRetN, sExpr, sIf, sNil, sNo, sAsg, tgN, bndS, bnd, vVar, vC, f2, f1, fB, pu, fN, vTup, vLst, fTup, fCons, fNil, fPure, fIf, fAnd, fOr, fNot, asB, asT, bAnd, bOr, bNot, fChain, fCall, fCW, gPos, gApp, R.of, R.of2, fM, pu4, tgT, tgCons, tgNil, unp, pureL, sPar, sPar3, fLstC, fFld, oFld, fMeth, insU, sFldS, setFld, fSl, oNone, oSome, tgSub, setU, fIter, fItN, fItS, sFor, getL, getT, VL.getD, keyD, tyB, lstC, oAdd, oSub, oMul, oFdiv, oMod, oPow, oNeg, oLt, oLe, oGt, oGe, oEq, oNe, oIsN, oNotN, oIn, oNotIn, oIx, oLen, oInt, oAbs, oMin, oMax, oStr, oList, oListC, oTuple, oAll, oAny, itemsU, lenN, truB, fJs, oFmt, List.map_cons, List.map_nil, List.length_cons, List.length_nil, List.replicate_succ, List.replicate_zero, List.cons_append, List.nil_append, List.append_nil, List.getElem?_cons_zero, List.getElem?_cons_succ, List.set_cons_zero, List.set_cons_succ, Nat.reduceAdd, Nat.reduceSub, Option.map_some, Option.map_none, if_true, if_false, ite_true, ite_false, Bool.false_eq_true, reduceCtorEq, true_and, and_true, and_self, Bool.not_true, Bool.not_false, Nat.zero_add, Option.bind_some, Option.bind_eq_bind, Option.pure_def, decide_true, decide_false, eq_self, Nat.reduceEqDiff, Nat.reduceLT, Nat.reduceLeDiff, Int.reduceLT, Int.reduceLE, Int.reduceEq, Bool.and_true, Bool.true_and, Bool.false_and, Bool.or_false, Bool.or_true, Bool.true_or, Bool.false_or, sz0, szl0, sz1, szl1, sz2, szl2, sz3, szl3, sz4, szl4, sz5, szl5, sz6, szl6, sz7, szl7, sz8, szl8, sz9, szl9, sz10, szl10, sz11, szl11, sz12, szl12, sz13, szl13, sz14, szl14, sz15, szl15, eqB, decide_eq_false ne_rem2, decide_eq_false hy]
      simp only [fnM, sSeq, sRet, sRetN, sExpr, sIf, sNil, sNo, sAsg, tgN, bndS, bnd, vVar, vC, f2, f1, fB, pu, fN, vTup, vLst, fTup, fCons, fNil, fPure, fIf, fAnd, fOr, fNot, asB, asT, bAnd, bOr, bNot, fChain, fCall, fCW, gPos, gApp, R.of, R.of2, fM, pu4, tgT, tgCons, tgNil, unp, pureL, sPar, sPar3, fLstC, fFld, oFld, fMeth, insU, sFldS, setFld, fSl, oNone, oSome, tgSub, setU, fIter, fItN, fItS, sFor, getL, getT, VL.getD, keyD, tyB, lstC, oAdd, oSub, oMul, oFdiv, oMod, oPow, oNeg, oLt, oLe, oGt, oGe, oEq, oNe, oIsN, oNotN, oIn, oNotIn, oIx, oLen, oInt, oAbs, oMin, oMax, oStr, oList, oListC, oTuple, oAll, oAny, itemsU, lenN, truB, fJs, oFmt, List.map_cons, List.map_nil, List.length_cons, List.length_nil, List.replicate_succ, List.replicate_zero, List.cons_append, List.nil_append, List.append_nil, List.getElem?_cons_zero, List.getElem?_cons_succ, List.set_cons_zero, List.set_cons_succ, Nat.reduceAdd, Nat.reduceSub, Option.map_some, Option.map_none, if_true, if_false, ite_true, ite_false, Bool.false_eq_true, reduceCtorEq, true_and, and_true, and_self, Bool.not_true, Bool.not_false, Nat.zero_add, Option.bind_some, Option.bind_eq_bind, Option.pure_def, decide_true, decide_false, eq_self, Nat.reduceEqDiff, Nat.reduceLT, Nat.reduceLeDiff, Int.reduceLT, Int.reduceLE, Int.reduceEq, Bool.and_true, Bool.true_and, Bool.false_and, Bool.or_false, Bool.or_true, Bool.true_or, Bool.false_or, sz0, szl0, sz1, szl1, sz2, szl2, sz3, szl3, sz4, szl4, sz5, szl5, sz6, szl6, sz7, szl7, sz8, szl8, sz9, szl9, sz10, szl10, sz11, szl11, sz12, szl12, sz13, szl13, sz14, szl14, sz15, szl15, eb, e1]
  | .set y v :: ls, s, k, row, q, n, x3, x4, x5, st, hn, hk, hl, e => by
    rw [List.length_cons] at hl
    rw [show partsL s k (.set y v :: ls) = .tup [.int (k : Nat), .str "place", .tup [.str (pl s y), .str v]] :: partsL s (k + 1) ls from rfl, List.map_cons, loopL]
    rw [show blockL nm s row (.set y v :: ls) = if nm = pl s y then some row else blockL nm s [] ls from rfl] at e
    by_cases hy : nm = pl s y
    · rw [if_pos hy] at e
      subst e
      refine ⟨[some (.d F), some (.d (.str nm)), some (.ref n), some (.d (.int (k : Nat))), some (.d (.str "place")), some (.d (.tup [.str (pl s y), .str v]))], st, n, ?_, fun r z => by cases z; exact hn, hk, fun _ _ => rfl, _, _, _, _, rfl⟩
      have eb : b_SettingsFile_block_1 K a [some (.d F), some (.d (.str nm)), some (.ref n), some (.d (.int (k : Nat))), some (.d (.str "place")), some (.d (.tup [.str (pl s y), .str v]))] st = .ok [some (.d F), some (.d (.str nm)), some (.ref n), some (.d (.int (k : Nat))), some (.d (.str "place")), some (.d (.tup [.str (pl s y), .str v]))] (.rt (.ref n)) st := by
        unfold b_SettingsFile_block_1
        simp only [fnM, sSeq, sRet, sRetN, sExpr, sIf, sNil, sNo, sAsg, tgN, bndS, bnd, vVar, vC, f2, f1, fB, pu, fN, vTup, vLst, fTup, fCons, fNil, fPure, fIf, fAnd, fOr, fNot, asB, asT, bAnd, bOr, bNot, fChain, fCall, fCW, gPos, gApp, R.of, R.of2, fM, pu4, tgT, tgCons, tgNil, unp, pureL, sPar, sPar3, fLstC, fFld, oFld, fMeth, insU, sFldS, setFld, fSl, oNone, oSome, tgSub, setU, fIter, fItN, fItS, sFor, getL, getT, VL.getD, keyD, tyB, lstC, oAdd, oSub, oMul, oFdiv, oMod, oPow, oNeg, oLt, oLe, oGt, oGe, oEq, oNe, oIsN, oNotN, oIn, oNotIn, oIx, oLen, oInt, oAbs, oMin, oMax, oStr, oList, oListC, oTuple, oAll, oAny, itemsU, lenN, truB, fJs, oFmt, List.map_cons, List.map_nil, List.length_cons, List.length_nil, List.replicate_succ, List.replicate_zero, List.cons_append, List.nil_append, List.append_nil, List.getElem?_cons_zero, List.getElem?_cons_succ, List.set_cons_zero, List.set_cons_succ, Nat.reduceAdd, Nat.reduceSub, Option.map_some, Option.map_none, if_true, if_false, ite_true, ite_false, Bool.false_eq_true, reduceCtorEq, true_and, and_true, and_self, Bool.not_true, Bool.not_false, Nat.zero_add, Option.bind_some, Option.bind_eq_bind, Option.pure_def, decide_true, decide_false, eq_self, Nat.reduceEqDiff, Nat.reduceLT, Nat.reduceLeDiff, Int.reduceLT, Int.reduceLE, Int.reduceEq, Bool.and_true, Bool.true_and, Bool.false_and, Bool.or_false, Bool.or_true, Bool.true_or, Bool.false_or, sz0, szl0, sz1, szl1, sz2, szl2, sz3, szl3, sz4, szl4, sz5, szl5, sz6, szl6, sz7, szl7, sz8, szl8, sz9, szl9, sz10, szl10, sz11, szl11, sz12, szl12, sz13, szl13, sz14, szl14, sz15, szl15, eqB, decide_eq_false ne_rem3, decide_eq_false ne_sec2, at_0, decide_eq_true hy]
      simp only [fnM, sSeq, sRet, sRetN, sExpr, sIf, sNil, sNo, sAsg, tgN, bndS, bnd, vVar, vC, f2, f1, fB, pu, fN, vTup, vLst, fTup, fCons, fNil, fPure, fIf, fAnd, fOr, fNot, asB, asT, bAnd, bOr, bNot, fChain, fCall, fCW, gPos, gApp, R.of, R.of2, fM, pu4, tgT, tgCons, tgNil, unp, pureL, sPar, sPar3, fLstC, fFld, oFld, fMeth, insU, sFldS, setFld, fSl, oNone, oSome, tgSub, setU, fIter, fItN, fItS, sFor, getL, getT, VL.getD, keyD, tyB, lstC, oAdd, oSub, oMul, oFdiv, oMod, oPow, oNeg, oLt, oLe, oGt, oGe, oEq, oNe, oIsN, oNotN, oIn, oNotIn, oIx, oLen, oInt, oAbs, oMin, oMax, oStr, oList, oListC, oTuple, oAll, oAny, itemsU, lenN, truB, fJs, oFmt, List.map_cons, List.map_nil, List.length_cons, List.length_nil, List.replicate_succ, List.replicate_zero, List.cons_append, List.nil_append, List.append_nil, List.getElem?_cons_zero, List.getElem?_cons_succ, List.set_cons_zero, List.set_cons_succ, Nat.reduceAdd, Nat.reduceSub, Option.map_some, Option.map_none, if_true, if_false, ite_true, ite_false, Bool.false_eq_true, reduceCtorEq, true_and, and_true, and_self, Bool.not_true, Bool.not_false, Nat.zero_add, Option.bind_some, Option.bind_eq_bind, Option.pure_def, decide_true, decide_false, eq_self, Nat.reduceEqDiff, Nat.reduceLT, Nat.reduceLeDiff, Int.reduceLT, Int.reduceLE, Int.reduceEq, Bool.and_true, Bool.true_and, Bool.false_and, Bool.or_false, Bool.or_true, Bool.true_or, Bool.false_or, sz0, szl0, sz1, szl1, sz2, szl2, sz3, szl3, sz4, szl4, sz5, szl5, sz6, szl6, sz7, szl7, sz8, szl8, sz9, szl9, sz10, szl10, sz11, szl11, sz12, szl12, sz13, szl13, sz14, szl14, sz15, szl15, eb, Option.isSome_some]
    · rw [if_neg hy] at e
      obtain ⟨env', st', n', e1, e2, e3, e4, e5⟩ := ev_bloop2 (k0 := k0) (F := F) ls s (k + 1) [] q st.length (some (.d (.int (k : Nat)))) (some (.d (.str "place"))) (some (.d (.tup [.str (pl s y), .str v]))) (st ++ [.lst []]) new_at (by have := (List.getElem?_eq_some_iff.mp hn).1; omega) (by simp; omega) e
      refine ⟨env', st', n', ?_, e2, e3, fun m hm => by rw [e4 m hm, List.getElem?_append_left (by have := (List.getElem?_eq_some_iff.mp hn).1; omega)], e5⟩
      have eb : b_SettingsFile_block_1 K a [some (.d F), some (.d (.str nm)), some (.ref n), some (.d (.int (k : Nat))), some (.d (.str "place")), some (.d (.tup [.str (pl s y), .str v]))] st = .ok [some (.d F), some (.d (.str nm)), some (.ref st.length), some (.d (.int (k : Nat))), some (.d (.str "place")), some (.d (.tup [.str (pl s y), .str v]))] .nx (st ++ [.lst []]) := by
        unfold b_SettingsFile_block_1
        simp only [fnM, sSeq, sRet, sRetN, sExpr, sIf, sNil, sNo, sAsg, tgN, bndS, bnd, vVar, vC, f2, f1, fB, pu, fN, vTup, vLst, fTup, fCons, fNil, fPure, fIf, fAnd, fOr, fNot, asB, asT, bAnd, bOr, bNot, fChain, fCall, fCW, gPos, gApp, R.of, R.of2, fM, pu4, tgT, tgCons, tgNil, unp, pureL, sPar, sPar3, fLstC, fFld, oFld, fMeth, insU, sFldS, setFld, fSl, oNone, oSome, tgSub, setU, fIter, fItN, fItS, sFor, getL, getT, VL.getD, keyD, tyB, lstC, oAdd, oSub, oMul, oFdiv, oMod, oPow, oNeg, oLt, oLe, oGt, oGe, oEq, oNe, oIsN, oNotN, oIn, oNotIn, oIx, oLen, oInt, oAbs, oMin, oMax, oStr, oList, oListC, oTuple, oAll, oAny, itemsU, lenN, truB, fJs, oFmt, List.map_cons, List.map_nil, List.length_cons, List.length_nil, List.replicate_succ, List.replicate_zero, List.cons_append, List.nil_append, List.append_nil, List.getElem?_cons_zero, List.getElem?_cons_succ, List.set_cons_zero, List.set_cons_succ, Nat.reduceAdd, Nat.reduceSub, Option.map_some, Option.map_none, if_true, if_false, ite_true, ite_false, Bool.false_eq_true, reduceCtorEq, true_and, and_true, and_self, Bool.not_true, Bool.not_false, Nat.zero_add, Option.bind_some, Option.bind_eq_bind, Option.pure_def, decide_true, decide_false, eq_self, Nat.reduceEqDiff, Nat.reduceLT, Nat.reduceLeDiff, Int.reduceLT, Int.reduceLE, Int.reduceEq, Bool.and_true, Bool.true_and, Bool.false_and, Bool.or_false, Bool.or_true, Bool.true_or, Bool.false_or, sz0, szl0, sz1, szl1, sz2, szl2, sz3, szl3, sz4, szl4, sz5, szl5, sz6, szl6, sz7, szl7, sz8, szl8, sz9, szl9, sz10, szl10, sz11, szl11, sz12, szl12, sz13, szl13, sz14, szl14, sz15, szl15, eqB, decide_eq_false ne_rem3, decide_eq_false ne_sec2, at_0, decide_eq_false hy]
      simp only [fnM, sSeq, sRet, sRetN, sExpr, sIf, sNil, sNo, sAsg, tgN, bndS, bnd, vVar, vC, f2, f1, fB, pu, fN, vTup, vLst, fTup, fCons, fNil, fPure, fIf, fAnd, fOr, fNot, asB, asT, bAnd, bOr, bNot, fChain, fCall, fCW, gPos, gApp, R.of, R.of2, fM, pu4, tgT, tgCons, tgNil, unp, pureL, sPar, sPar3, fLstC, fFld, oFld, fMeth, insU, sFldS, setFld, fSl, oNone, oSome, tgSub, setU, fIter, fItN, fItS, sFor, getL, getT, VL.getD, keyD, tyB, lstC, oAdd, oSub, oMul, oFdiv, oMod, oPow, oNeg, oLt, oLe, oGt, oGe, oEq, oNe, oIsN, oNotN, oIn, oNotIn, oIx, oLen, oInt, oAbs, oMin, oMax, oStr, oList, oListC, oTuple, oAll, oAny, itemsU, lenN, truB, fJs, oFmt, List.map_cons, List.map_nil, List.length_cons, List.length_nil, List.replicate_succ, List.replicate_zero, List.cons_append, List.nil_append, List.append_nil, List.getElem?_cons_zero, List.getElem?_cons_succ, List.set_cons_zero, List.set_cons_succ, Nat.reduceAdd, Nat.reduceSub, Option.map_some, Option.map_none, if_true, if_false, ite_true, ite_false, Bool.false_eq_true, reduceCtorEq, true_and, and_true, and_self, Bool.not_true, Bool.not_false, Nat.zero_add, Option.bind_some, Option.bind_eq_bind, Option.pure_def, decide_true, decide_false, eq_self, Nat.reduceEqDiff, Nat.reduceLT, Nat.reduceLeDiff, Int.reduceLT, Int.reduceLE, Int.reduceEq, Bool.and_true, Bool.true_and, Bool.false_and, Bool.or_false, Bool.or_true, Bool.true_or, Bool.false_or, sz0, szl0, sz1, szl1, sz2, szl2, sz3, szl3, sz4, szl4, sz5, szl5, sz6, szl6, sz7, szl7, sz8, szl8, sz9, szl9, sz10, szl10, sz11, szl11, sz12, szl12, sz13, szl13, sz14, szl14, sz15, szl15, eb, e1]
theorem lu_whole (w x y z : U) : List.lookup ("whole" : Str) [(("whole" : Str), w), (("all_parts" : Str), x), (("parts" : Str), y), (("settings_read" : Str), z)] = some w := rfl
theorem lu_all (w x y z : U) : List.lookup ("all_parts" : Str) [(("whole" : Str), w), (("all_parts" : Str), x), (("parts" : Str), y), (("settings_read" : Str), z)] = some x := rfl
theorem lu_read (w x y z : U) : List.lookup ("settings_read" : Str) [(("whole" : Str), w), (("all_parts" : Str), x), (("parts" : Str), y), (("settings_read" : Str), z)] = some z := rfl
theorem lookK_kv : ∀ (ss : List (Str × Str)) (p : Str), lookK ((kvD ss).map fun kv => (kv.1, U.d kv.2)) (.inr p) = (ss.find? fun q => decide (q.1 = p)).map fun q => U.d (.str q.2)
  | [], _ => rfl
  | q :: ss, p => by
    have ih := lookK_kv ss p
    unfold lookK kvD at ih ⊢
    rw [List.map_cons, List.map_cons, List.find?_cons, List.find?_cons]
    by_cases e : q.1 = p
    · rw [decide_eq_true e, decide_eq_true (show (Sum.inr q.1 : Key) = .inr p from by rw [e])]
      rfl
    · rw [decide_eq_false e, decide_eq_false (show ¬ (Sum.inr q.1 : Key) = .inr p from fun z => e (Sum.inr.inj z))]
      exact ih
def hasP (ss : List (Str × Str)) (p : Str) : Bool := (ss.find? fun q => decide (q.1 = p)).isSome
theorem inDct_kv {ss : List (Str × Str)} {p : Str} : inDct st (.d (.str p)) (.d (.dct (kvD ss))) = some (hasP ss p) := by
  unfold inDct hasP
  rw [show VL.getD st (.d (.dct (kvD ss))) = some ((kvD ss).map fun kv => (kv.1, U.d kv.2)) from rfl]
  simp only [keyD, lookK_kv]
  cases ss.find? fun q => decide (q.1 = p) <;> rfl

def headsL : List Ln → List Str
  | [] => []
  | .head n :: ls => n :: headsL ls
  | .rem _ :: ls => headsL ls
  | .kept _ _ _ _ :: ls => headsL ls
  | .set _ _ :: ls => headsL ls
theorem blockL_some {nm : Str} : ∀ (ls : List Ln) (s : D) (row : List D), (blockL nm s row ls).isSome = ((headsL ls).any (fun n => decide (nm = n)) || hasP (setsL s ls) nm)
  | [], s, row => rfl
  | .rem x :: ls, s, row => blockL_some ls s _
  | .kept y i p v :: ls, s, row => blockL_some ls s row
  | .head y :: ls, s, row => by
    rw [show blockL nm s row (.head y :: ls) = if nm = y then some row else blockL nm (.str y) [] ls from rfl, show headsL (.head y :: ls) = y :: headsL ls from rfl, List.any_cons]
    by_cases h : nm = y
    · rw [if_pos h, decide_eq_true h]; rfl
    · rw [if_neg h, decide_eq_false h, Bool.false_or]; exact blockL_some ls _ _
  | .set y v :: ls, s, row => by
    rw [show blockL nm s row (.set y v :: ls) = if nm = pl s y then some row else blockL nm s [] ls from rfl, show headsL (.set y v :: ls) = headsL ls from rfl, show setsL s (.set y v :: ls) = (pl s y, v) :: setsL s ls from rfl]
    by_cases h : nm = pl s y
    · have e : hasP ((pl s y, v) :: setsL s ls) nm = true := by
        unfold hasP
        rw [List.find?_cons, decide_eq_true h.symm]; rfl
      rw [if_pos h, e, Bool.or_true]; rfl
    · have e : hasP ((pl s y, v) :: setsL s ls) nm = hasP (setsL s ls) nm := by
        unfold hasP
        rw [List.find?_cons, decide_eq_false (fun z => h z.symm)]
      rw [if_neg h, e]; exact blockL_some ls _ _

end VL.K06

namespace VL.K06
open PySem PySem.Spec PyProof.Rows L2 VL
variable {K : PySem.W.Frag} {a : Ad} {st : Store}
theorem lu_val (w x y z : U) : List.lookup ("value" : Str) [(("whole" : Str), w), (("all_parts" : Str), x), (("parts" : Str), y), (("settings_read" : Str), z)] = none := rfl
theorem lu_blk (w x y z : U) : List.lookup ("block" : Str) [(("whole" : Str), w), (("all_parts" : Str), x), (("parts" : Str), y), (("settings_read" : Str), z)] = none := rfl
/-! the objects -/
inductive Ob : D → Prop
  | str {s : Str} (h : Sg 40 s) : Ob (.str s)
  | tup {s : Str} (h : Sg 40 s) : Ob (.tup [.str s])
  | lst {s : Str} (h : Sg 40 s) : Ob (.lst [.str s])
  | non : Ob .non
  | zero : Ob (.int 0)
  | yes : Ob (.bl true)
def isS : D → Bool
  | .str _ => true
  | _ => false
def inW (ss : List (Str × Str)) : D → Bool
  | .str s => hasP ss s
  | _ => false
def inH (hs : List Str) : D → Bool
  | .str s => hs.any fun n => decide (s = n)
  | _ => false
theorem isi_n : PySem.W.kitOne K (.type "NoneType") (.type "str") = some false := rfl
theorem isi_b : PySem.W.kitOne K (.type "bool") (.type "str") = some false := rfl
theorem isi_i : PySem.W.kitOne K (.type "int") (.type "str") = some false := rfl
theorem isi_l : PySem.W.kitOne K (.type "list") (.type "str") = some false := rfl
theorem isi_t : PySem.W.kitOne K (.type "tuple") (.type "str") = some false := rfl
theorem isi_ll : PySem.W.kitOne K (.type "list") (.type "list") = some true := rfl
theorem ob_isi {x : D} (t : Ob x) : oIsi K a.own [.d x, .d (.ty "str")] st = some (.d (.bl (isS x))) := by
  unfold oIsi
  cases t <;> simp only [tyN, isi_str, isi_n, isi_b, isi_i, isi_l, isi_t, Option.map_some, isS]
/-- a file's settings -/
structure Fs (ls : List Ln) (ss : List (Str × Str)) : Prop where
  eq : ss = setsL .non ls
  pl : ∀ q ∈ ss, isPlace q.1 = true
  len : ls.length < sizeLine
section
variable {s : Str} {ls : List Ln} {ds : List D} {ss : List (Str × Str)}
theorem Fs.has (f : Fs ls ss) {p : Str} (h : hasP ss p = true) : isPlace p = true := by
  unfold hasP at h
  obtain ⟨q, hq⟩ := Option.isSome_iff_exists.mp h
  have h1 := List.mem_of_find?_eq_some hq
  have h2 := List.find?_some hq
  rw [decide_eq_true_eq] at h2
  rw [← h2]
  exact f.pl q h1
theorem cut_self (h : WF st) : cutS st.length st = some st := h.cut
theorem ev_place_no (h : WF st) {x : D} (t : Ob x) (hx : isS x = false) : m_is_place K a [.d x] st = .ok (.d (.bl false)) st := by
  have hi := ob_isi (K := K) (a := a) (st := st) t
  rw [hx] at hi
  unfold m_is_place g_is_place
  simp only [fnM, sSeq, sRet, sRetN, sExpr, sIf, sNil, sNo, sAsg, tgN, bndS, bnd, vVar, vC, f2, f1, fB, pu, fN, vTup, vLst, fTup, fCons, fNil, fPure, fIf, fAnd, fOr, fNot, asB, asT, bAnd, bOr, bNot, fChain, fCall, fCW, gPos, gApp, R.of, R.of2, fM, pu4, tgT, tgCons, tgNil, unp, pureL, sPar, sPar3, fLstC, fFld, oFld, fMeth, insU, sFldS, setFld, fSl, oNone, oSome, tgSub, setU, fIter, fItN, fItS, sFor, getL, getT, VL.getD, keyD, tyB, lstC, oAdd, oSub, oMul, oFdiv, oMod, oPow, oNeg, oLt, oLe, oGt, oGe, oEq, oNe, oIsN, oNotN, oIn, oNotIn, oIx, oLen, oInt, oAbs, oMin, oMax, oStr, oList, oListC, oTuple, oAll, oAny, itemsU, lenN, truB, fJs, oFmt, List.map_cons, List.map_nil, List.length_cons, List.length_nil, List.replicate_succ, List.replicate_zero, List.cons_append, List.nil_append, List.append_nil, List.getElem?_cons_zero, List.getElem?_cons_succ, List.set_cons_zero, List.set_cons_succ, Nat.reduceAdd, Nat.reduceSub, Option.map_some, Option.map_none, if_true, if_false, ite_true, ite_false, Bool.false_eq_true, reduceCtorEq, true_and, and_true, and_self, Bool.not_true, Bool.not_false, Nat.zero_add, Option.bind_some, Option.bind_eq_bind, Option.pure_def, decide_true, decide_false, eq_self, Nat.reduceEqDiff, Nat.reduceLT, Nat.reduceLeDiff, Int.reduceLT, Int.reduceLE, Int.reduceEq, Bool.and_true, Bool.true_and, Bool.false_and, Bool.or_false, Bool.or_true, Bool.true_or, Bool.false_or, sz0, szl0, sz1, szl1, sz2, szl2, sz3, szl3, sz4, szl4, sz5, szl5, sz6, szl6, sz7, szl7, sz8, szl8, sz9, szl9, sz10, szl10, sz11, szl11, sz12, szl12, sz13, szl13, sz14, szl14, sz15, szl15, hi, wFrz_d h]
theorem zip1 (x : D) : ((["place"] : List Str).zip [x]).reverse = [(("place" : Str), x)] := rfl
theorem ev_cont (h : WF st) (f : Fs ls ss) {x : D} (t : Ob x) : m_SettingsFile___contains__ K a [.d (fileD a s (partsL .non 0 ls) ds (kvD ss)), .d x] st = .ok (.d (.bl (inW ss x))) st := by
  cases t with
  | str t =>
    rename_i p
    have hp := t.sz (by decide)
    have e := inDct_kv (st := st) (ss := ss) (p := p)
    unfold m_SettingsFile___contains__ g_SettingsFile___contains__ fileD inW
    cases q : isPlace p with
    | false =>
      have hh : hasP ss p = false := Bool.eq_false_iff.mpr fun z => by rw [f.has z] at q; cases q
      simp only [fnM, sSeq, sRet, sRetN, sExpr, sIf, sNil, sNo, sAsg, tgN, bndS, bnd, vVar, vC, f2, f1, fB, pu, fN, vTup, vLst, fTup, fCons, fNil, fPure, fIf, fAnd, fOr, fNot, asB, asT, bAnd, bOr, bNot, fChain, fCall, fCW, gPos, gApp, R.of, R.of2, fM, pu4, tgT, tgCons, tgNil, unp, pureL, sPar, sPar3, fLstC, fFld, oFld, fMeth, insU, sFldS, setFld, fSl, oNone, oSome, tgSub, setU, fIter, fItN, fItS, sFor, getL, getT, VL.getD, keyD, tyB, lstC, oAdd, oSub, oMul, oFdiv, oMod, oPow, oNeg, oLt, oLe, oGt, oGe, oEq, oNe, oIsN, oNotN, oIn, oNotIn, oIx, oLen, oInt, oAbs, oMin, oMax, oStr, oList, oListC, oTuple, oAll, oAny, itemsU, lenN, truB, fJs, oFmt, List.map_cons, List.map_nil, List.length_cons, List.length_nil, List.replicate_succ, List.replicate_zero, List.cons_append, List.nil_append, List.append_nil, List.getElem?_cons_zero, List.getElem?_cons_succ, List.set_cons_zero, List.set_cons_succ, Nat.reduceAdd, Nat.reduceSub, Option.map_some, Option.map_none, if_true, if_false, ite_true, ite_false, Bool.false_eq_true, reduceCtorEq, true_and, and_true, and_self, Bool.not_true, Bool.not_false, Nat.zero_add, Option.bind_some, Option.bind_eq_bind, Option.pure_def, decide_true, decide_false, eq_self, Nat.reduceEqDiff, Nat.reduceLT, Nat.reduceLeDiff, Int.reduceLT, Int.reduceLE, Int.reduceEq, Bool.and_true, Bool.true_and, Bool.false_and, Bool.or_false, Bool.or_true, Bool.true_or, Bool.false_or, sz0, szl0, sz1, szl1, sz2, szl2, sz3, szl3, sz4, szl4, sz5, szl5, sz6, szl6, sz7, szl7, sz8, szl8, sz9, szl9, sz10, szl10, sz11, szl11, sz12, szl12, sz13, szl13, sz14, szl14, sz15, szl15, ev_place h p hp, q, hh, wFrz_d h]
    | true => simp only [fnM, sSeq, sRet, sRetN, sExpr, sIf, sNil, sNo, sAsg, tgN, bndS, bnd, vVar, vC, f2, f1, fB, pu, fN, vTup, vLst, fTup, fCons, fNil, fPure, fIf, fAnd, fOr, fNot, asB, asT, bAnd, bOr, bNot, fChain, fCall, fCW, gPos, gApp, R.of, R.of2, fM, pu4, tgT, tgCons, tgNil, unp, pureL, sPar, sPar3, fLstC, fFld, oFld, fMeth, insU, sFldS, setFld, fSl, oNone, oSome, tgSub, setU, fIter, fItN, fItS, sFor, getL, getT, VL.getD, keyD, tyB, lstC, oAdd, oSub, oMul, oFdiv, oMod, oPow, oNeg, oLt, oLe, oGt, oGe, oEq, oNe, oIsN, oNotN, oIn, oNotIn, oIx, oLen, oInt, oAbs, oMin, oMax, oStr, oList, oListC, oTuple, oAll, oAny, itemsU, lenN, truB, fJs, oFmt, List.map_cons, List.map_nil, List.length_cons, List.length_nil, List.replicate_succ, List.replicate_zero, List.cons_append, List.nil_append, List.append_nil, List.getElem?_cons_zero, List.getElem?_cons_succ, List.set_cons_zero, List.set_cons_succ, Nat.reduceAdd, Nat.reduceSub, Option.map_some, Option.map_none, if_true, if_false, ite_true, ite_false, Bool.false_eq_true, reduceCtorEq, true_and, and_true, and_self, Bool.not_true, Bool.not_false, Nat.zero_add, Option.bind_some, Option.bind_eq_bind, Option.pure_def, decide_true, decide_false, eq_self, Nat.reduceEqDiff, Nat.reduceLT, Nat.reduceLeDiff, Int.reduceLT, Int.reduceLE, Int.reduceEq, Bool.and_true, Bool.true_and, Bool.false_and, Bool.or_false, Bool.or_true, Bool.true_or, Bool.false_or, sz0, szl0, sz1, szl1, sz2, szl2, sz3, szl3, sz4, szl4, sz5, szl5, sz6, szl6, sz7, szl7, sz8, szl8, sz9, szl9, sz10, szl10, sz11, szl11, sz12, szl12, sz13, szl13, sz14, szl14, sz15, szl15, ev_place h p hp, q, List.mem_cons, List.not_mem_nil, or_false, lu_read, oInD, e, wFrz_d h]
  | tup t => unfold m_SettingsFile___contains__ g_SettingsFile___contains__ inW; simp only [fnM, sSeq, sRet, sRetN, sExpr, sIf, sNil, sNo, sAsg, tgN, bndS, bnd, vVar, vC, f2, f1, fB, pu, fN, vTup, vLst, fTup, fCons, fNil, fPure, fIf, fAnd, fOr, fNot, asB, asT, bAnd, bOr, bNot, fChain, fCall, fCW, gPos, gApp, R.of, R.of2, fM, pu4, tgT, tgCons, tgNil, unp, pureL, sPar, sPar3, fLstC, fFld, oFld, fMeth, insU, sFldS, setFld, fSl, oNone, oSome, tgSub, setU, fIter, fItN, fItS, sFor, getL, getT, VL.getD, keyD, tyB, lstC, oAdd, oSub, oMul, oFdiv, oMod, oPow, oNeg, oLt, oLe, oGt, oGe, oEq, oNe, oIsN, oNotN, oIn, oNotIn, oIx, oLen, oInt, oAbs, oMin, oMax, oStr, oList, oListC, oTuple, oAll, oAny, itemsU, lenN, truB, fJs, oFmt, List.map_cons, List.map_nil, List.length_cons, List.length_nil, List.replicate_succ, List.replicate_zero, List.cons_append, List.nil_append, List.append_nil, List.getElem?_cons_zero, List.getElem?_cons_succ, List.set_cons_zero, List.set_cons_succ, Nat.reduceAdd, Nat.reduceSub, Option.map_some, Option.map_none, if_true, if_false, ite_true, ite_false, Bool.false_eq_true, reduceCtorEq, true_and, and_true, and_self, Bool.not_true, Bool.not_false, Nat.zero_add, Option.bind_some, Option.bind_eq_bind, Option.pure_def, decide_true, decide_false, eq_self, Nat.reduceEqDiff, Nat.reduceLT, Nat.reduceLeDiff, Int.reduceLT, Int.reduceLE, Int.reduceEq, Bool.and_true, Bool.true_and, Bool.false_and, Bool.or_false, Bool.or_true, Bool.true_or, Bool.false_or, sz0, szl0, sz1, szl1, sz2, szl2, sz3, szl3, sz4, szl4, sz5, szl5, sz6, szl6, sz7, szl7, sz8, szl8, sz9, szl9, sz10, szl10, sz11, szl11, sz12, szl12, sz13, szl13, sz14, szl14, sz15, szl15, ev_place_no h (Ob.tup t) rfl, wFrz_d h]
  | lst t => unfold m_SettingsFile___contains__ g_SettingsFile___contains__ inW; simp only [fnM, sSeq, sRet, sRetN, sExpr, sIf, sNil, sNo, sAsg, tgN, bndS, bnd, vVar, vC, f2, f1, fB, pu, fN, vTup, vLst, fTup, fCons, fNil, fPure, fIf, fAnd, fOr, fNot, asB, asT, bAnd, bOr, bNot, fChain, fCall, fCW, gPos, gApp, R.of, R.of2, fM, pu4, tgT, tgCons, tgNil, unp, pureL, sPar, sPar3, fLstC, fFld, oFld, fMeth, insU, sFldS, setFld, fSl, oNone, oSome, tgSub, setU, fIter, fItN, fItS, sFor, getL, getT, VL.getD, keyD, tyB, lstC, oAdd, oSub, oMul, oFdiv, oMod, oPow, oNeg, oLt, oLe, oGt, oGe, oEq, oNe, oIsN, oNotN, oIn, oNotIn, oIx, oLen, oInt, oAbs, oMin, oMax, oStr, oList, oListC, oTuple, oAll, oAny, itemsU, lenN, truB, fJs, oFmt, List.map_cons, List.map_nil, List.length_cons, List.length_nil, List.replicate_succ, List.replicate_zero, List.cons_append, List.nil_append, List.append_nil, List.getElem?_cons_zero, List.getElem?_cons_succ, List.set_cons_zero, List.set_cons_succ, Nat.reduceAdd, Nat.reduceSub, Option.map_some, Option.map_none, if_true, if_false, ite_true, ite_false, Bool.false_eq_true, reduceCtorEq, true_and, and_true, and_self, Bool.not_true, Bool.not_false, Nat.zero_add, Option.bind_some, Option.bind_eq_bind, Option.pure_def, decide_true, decide_false, eq_self, Nat.reduceEqDiff, Nat.reduceLT, Nat.reduceLeDiff, Int.reduceLT, Int.reduceLE, Int.reduceEq, Bool.and_true, Bool.true_and, Bool.false_and, Bool.or_false, Bool.or_true, Bool.true_or, Bool.false_or, sz0, szl0, sz1, szl1, sz2, szl2, sz3, szl3, sz4, szl4, sz5, szl5, sz6, szl6, sz7, szl7, sz8, szl8, sz9, szl9, sz10, szl10, sz11, szl11, sz12, szl12, sz13, szl13, sz14, szl14, sz15, szl15, ev_place_no h (Ob.lst t) rfl, wFrz_d h]
  | non => unfold m_SettingsFile___contains__ g_SettingsFile___contains__ inW; simp only [fnM, sSeq, sRet, sRetN, sExpr, sIf, sNil, sNo, sAsg, tgN, bndS, bnd, vVar, vC, f2, f1, fB, pu, fN, vTup, vLst, fTup, fCons, fNil, fPure, fIf, fAnd, fOr, fNot, asB, asT, bAnd, bOr, bNot, fChain, fCall, fCW, gPos, gApp, R.of, R.of2, fM, pu4, tgT, tgCons, tgNil, unp, pureL, sPar, sPar3, fLstC, fFld, oFld, fMeth, insU, sFldS, setFld, fSl, oNone, oSome, tgSub, setU, fIter, fItN, fItS, sFor, getL, getT, VL.getD, keyD, tyB, lstC, oAdd, oSub, oMul, oFdiv, oMod, oPow, oNeg, oLt, oLe, oGt, oGe, oEq, oNe, oIsN, oNotN, oIn, oNotIn, oIx, oLen, oInt, oAbs, oMin, oMax, oStr, oList, oListC, oTuple, oAll, oAny, itemsU, lenN, truB, fJs, oFmt, List.map_cons, List.map_nil, List.length_cons, List.length_nil, List.replicate_succ, List.replicate_zero, List.cons_append, List.nil_append, List.append_nil, List.getElem?_cons_zero, List.getElem?_cons_succ, List.set_cons_zero, List.set_cons_succ, Nat.reduceAdd, Nat.reduceSub, Option.map_some, Option.map_none, if_true, if_false, ite_true, ite_false, Bool.false_eq_true, reduceCtorEq, true_and, and_true, and_self, Bool.not_true, Bool.not_false, Nat.zero_add, Option.bind_some, Option.bind_eq_bind, Option.pure_def, decide_true, decide_false, eq_self, Nat.reduceEqDiff, Nat.reduceLT, Nat.reduceLeDiff, Int.reduceLT, Int.reduceLE, Int.reduceEq, Bool.and_true, Bool.true_and, Bool.false_and, Bool.or_false, Bool.or_true, Bool.true_or, Bool.false_or, sz0, szl0, sz1, szl1, sz2, szl2, sz3, szl3, sz4, szl4, sz5, szl5, sz6, szl6, sz7, szl7, sz8, szl8, sz9, szl9, sz10, szl10, sz11, szl11, sz12, szl12, sz13, szl13, sz14, szl14, sz15, szl15, ev_place_no h Ob.non rfl, wFrz_d h]
  | zero => unfold m_SettingsFile___contains__ g_SettingsFile___contains__ inW; simp only [fnM, sSeq, sRet, sRetN, sExpr, sIf, sNil, sNo, sAsg, tgN, bndS, bnd, vVar, vC, f2, f1, fB, pu, fN, vTup, vLst, fTup, fCons, fNil, fPure, fIf, fAnd, fOr, fNot, asB, asT, bAnd, bOr, bNot, fChain, fCall, fCW, gPos, gApp, R.of, R.of2, fM, pu4, tgT, tgCons, tgNil, unp, pureL, sPar, sPar3, fLstC, fFld, oFld, fMeth, insU, sFldS, setFld, fSl, oNone, oSome, tgSub, setU, fIter, fItN, fItS, sFor, getL, getT, VL.getD, keyD, tyB, lstC, oAdd, oSub, oMul, oFdiv, oMod, oPow, oNeg, oLt, oLe, oGt, oGe, oEq, oNe, oIsN, oNotN, oIn, oNotIn, oIx, oLen, oInt, oAbs, oMin, oMax, oStr, oList, oListC, oTuple, oAll, oAny, itemsU, lenN, truB, fJs, oFmt, List.map_cons, List.map_nil, List.length_cons, List.length_nil, List.replicate_succ, List.replicate_zero, List.cons_append, List.nil_append, List.append_nil, List.getElem?_cons_zero, List.getElem?_cons_succ, List.set_cons_zero, List.set_cons_succ, Nat.reduceAdd, Nat.reduceSub, Option.map_some, Option.map_none, if_true, if_false, ite_true, ite_false, Bool.false_eq_true, reduceCtorEq, true_and, and_true, and_self, Bool.not_true, Bool.not_false, Nat.zero_add, Option.bind_some, Option.bind_eq_bind, Option.pure_def, decide_true, decide_false, eq_self, Nat.reduceEqDiff, Nat.reduceLT, Nat.reduceLeDiff, Int.reduceLT, Int.reduceLE, Int.reduceEq, Bool.and_true, Bool.true_and, Bool.false_and, Bool.or_false, Bool.or_true, Bool.true_or, Bool.false_or, sz0, szl0, sz1, szl1, sz2, szl2, sz3, szl3, sz4, szl4, sz5, szl5, sz6, szl6, sz7, szl7, sz8, szl8, sz9, szl9, sz10, szl10, sz11, szl11, sz12, szl12, sz13, szl13, sz14, szl14, sz15, szl15, ev_place_no h Ob.zero rfl, wFrz_d h]
  | yes => unfold m_SettingsFile___contains__ g_SettingsFile___contains__ inW; simp only [fnM, sSeq, sRet, sRetN, sExpr, sIf, sNil, sNo, sAsg, tgN, bndS, bnd, vVar, vC, f2, f1, fB, pu, fN, vTup, vLst, fTup, fCons, fNil, fPure, fIf, fAnd, fOr, fNot, asB, asT, bAnd, bOr, bNot, fChain, fCall, fCW, gPos, gApp, R.of, R.of2, fM, pu4, tgT, tgCons, tgNil, unp, pureL, sPar, sPar3, fLstC, fFld, oFld, fMeth, insU, sFldS, setFld, fSl, oNone, oSome, tgSub, setU, fIter, fItN, fItS, sFor, getL, getT, VL.getD, keyD, tyB, lstC, oAdd, oSub, oMul, oFdiv, oMod, oPow, oNeg, oLt, oLe, oGt, oGe, oEq, oNe, oIsN, oNotN, oIn, oNotIn, oIx, oLen, oInt, oAbs, oMin, oMax, oStr, oList, oListC, oTuple, oAll, oAny, itemsU, lenN, truB, fJs, oFmt, List.map_cons, List.map_nil, List.length_cons, List.length_nil, List.replicate_succ, List.replicate_zero, List.cons_append, List.nil_append, List.append_nil, List.getElem?_cons_zero, List.getElem?_cons_succ, List.set_cons_zero, List.set_cons_succ, Nat.reduceAdd, Nat.reduceSub, Option.map_some, Option.map_none, if_true, if_false, ite_true, ite_false, Bool.false_eq_true, reduceCtorEq, true_and, and_true, and_self, Bool.not_true, Bool.not_false, Nat.zero_add, Option.bind_some, Option.bind_eq_bind, Option.pure_def, decide_true, decide_false, eq_self, Nat.reduceEqDiff, Nat.reduceLT, Nat.reduceLeDiff, Int.reduceLT, Int.reduceLE, Int.reduceEq, Bool.and_true, Bool.true_and, Bool.false_and, Bool.or_false, Bool.or_true, Bool.true_or, Bool.false_or, sz0, szl0, sz1, szl1, sz2, szl2, sz3, szl3, sz4, szl4, sz5, szl5, sz6, szl6, sz7, szl7, sz8, szl8, sz9, szl9, sz10, szl10, sz11, szl11, sz12, szl12, sz13, szl13, sz14, szl14, sz15, szl15, ev_place_no h Ob.yes rfl, wFrz_d h]
theorem ev_value_ex (h : WF st) (f : Fs ls ss) {x : D} (t : Ob x) (hx : inW ss x = false) : m_SettingsFile_value K a [.d (fileD a s (partsL .non 0 ls) ds (kvD ss)), .d x] st = .ex (.ref a.C_NoPlace) (some [("place", x)]) st := by
  have hc := cut_self h
  cases t with
  | str t =>
    rename_i p
    have hp := t.sz (by decide)
    have e := inDct_kv (st := st) (ss := ss) (p := p)
    rw [show hasP ss p = false from hx] at e
    unfold m_SettingsFile_value g_SettingsFile_value fileD
    cases q : isPlace p with
    | false => simp only [fnM, sSeq, sRet, sRetN, sExpr, sIf, sNil, sNo, sAsg, tgN, bndS, bnd, vVar, vC, f2, f1, fB, pu, fN, vTup, vLst, fTup, fCons, fNil, fPure, fIf, fAnd, fOr, fNot, asB, asT, bAnd, bOr, bNot, fChain, fCall, fCW, gPos, gApp, R.of, R.of2, fM, pu4, tgT, tgCons, tgNil, unp, pureL, sPar, sPar3, fLstC, fFld, oFld, fMeth, insU, sFldS, setFld, fSl, oNone, oSome, tgSub, setU, fIter, fItN, fItS, sFor, getL, getT, VL.getD, keyD, tyB, lstC, oAdd, oSub, oMul, oFdiv, oMod, oPow, oNeg, oLt, oLe, oGt, oGe, oEq, oNe, oIsN, oNotN, oIn, oNotIn, oIx, oLen, oInt, oAbs, oMin, oMax, oStr, oList, oListC, oTuple, oAll, oAny, itemsU, lenN, truB, fJs, oFmt, List.map_cons, List.map_nil, List.length_cons, List.length_nil, List.replicate_succ, List.replicate_zero, List.cons_append, List.nil_append, List.append_nil, List.getElem?_cons_zero, List.getElem?_cons_succ, List.set_cons_zero, List.set_cons_succ, Nat.reduceAdd, Nat.reduceSub, Option.map_some, Option.map_none, if_true, if_false, ite_true, ite_false, Bool.false_eq_true, reduceCtorEq, true_and, and_true, and_self, Bool.not_true, Bool.not_false, Nat.zero_add, Option.bind_some, Option.bind_eq_bind, Option.pure_def, decide_true, decide_false, eq_self, Nat.reduceEqDiff, Nat.reduceLT, Nat.reduceLeDiff, Int.reduceLT, Int.reduceLE, Int.reduceEq, Bool.and_true, Bool.true_and, Bool.false_and, Bool.or_false, Bool.or_true, Bool.true_or, Bool.false_or, sz0, szl0, sz1, szl1, sz2, szl2, sz3, szl3, sz4, szl4, sz5, szl5, sz6, szl6, sz7, szl7, sz8, szl8, sz9, szl9, sz10, szl10, sz11, szl11, sz12, szl12, sz13, szl13, sz14, szl14, sz15, szl15, ev_place h p hp, q, sRaise, zip1, hc]
    | true => simp only [fnM, sSeq, sRet, sRetN, sExpr, sIf, sNil, sNo, sAsg, tgN, bndS, bnd, vVar, vC, f2, f1, fB, pu, fN, vTup, vLst, fTup, fCons, fNil, fPure, fIf, fAnd, fOr, fNot, asB, asT, bAnd, bOr, bNot, fChain, fCall, fCW, gPos, gApp, R.of, R.of2, fM, pu4, tgT, tgCons, tgNil, unp, pureL, sPar, sPar3, fLstC, fFld, oFld, fMeth, insU, sFldS, setFld, fSl, oNone, oSome, tgSub, setU, fIter, fItN, fItS, sFor, getL, getT, VL.getD, keyD, tyB, lstC, oAdd, oSub, oMul, oFdiv, oMod, oPow, oNeg, oLt, oLe, oGt, oGe, oEq, oNe, oIsN, oNotN, oIn, oNotIn, oIx, oLen, oInt, oAbs, oMin, oMax, oStr, oList, oListC, oTuple, oAll, oAny, itemsU, lenN, truB, fJs, oFmt, List.map_cons, List.map_nil, List.length_cons, List.length_nil, List.replicate_succ, List.replicate_zero, List.cons_append, List.nil_append, List.append_nil, List.getElem?_cons_zero, List.getElem?_cons_succ, List.set_cons_zero, List.set_cons_succ, Nat.reduceAdd, Nat.reduceSub, Option.map_some, Option.map_none, if_true, if_false, ite_true, ite_false, Bool.false_eq_true, reduceCtorEq, true_and, and_true, and_self, Bool.not_true, Bool.not_false, Nat.zero_add, Option.bind_some, Option.bind_eq_bind, Option.pure_def, decide_true, decide_false, eq_self, Nat.reduceEqDiff, Nat.reduceLT, Nat.reduceLeDiff, Int.reduceLT, Int.reduceLE, Int.reduceEq, Bool.and_true, Bool.true_and, Bool.false_and, Bool.or_false, Bool.or_true, Bool.true_or, Bool.false_or, sz0, szl0, sz1, szl1, sz2, szl2, sz3, szl3, sz4, szl4, sz5, szl5, sz6, szl6, sz7, szl7, sz8, szl8, sz9, szl9, sz10, szl10, sz11, szl11, sz12, szl12, sz13, szl13, sz14, szl14, sz15, szl15, ev_place h p hp, q, List.mem_cons, List.not_mem_nil, or_false, lu_read, oNotInD, e, sRaise, zip1, hc]
  | tup t => unfold m_SettingsFile_value g_SettingsFile_value; simp only [fnM, sSeq, sRet, sRetN, sExpr, sIf, sNil, sNo, sAsg, tgN, bndS, bnd, vVar, vC, f2, f1, fB, pu, fN, vTup, vLst, fTup, fCons, fNil, fPure, fIf, fAnd, fOr, fNot, asB, asT, bAnd, bOr, bNot, fChain, fCall, fCW, gPos, gApp, R.of, R.of2, fM, pu4, tgT, tgCons, tgNil, unp, pureL, sPar, sPar3, fLstC, fFld, oFld, fMeth, insU, sFldS, setFld, fSl, oNone, oSome, tgSub, setU, fIter, fItN, fItS, sFor, getL, getT, VL.getD, keyD, tyB, lstC, oAdd, oSub, oMul, oFdiv, oMod, oPow, oNeg, oLt, oLe, oGt, oGe, oEq, oNe, oIsN, oNotN, oIn, oNotIn, oIx, oLen, oInt, oAbs, oMin, oMax, oStr, oList, oListC, oTuple, oAll, oAny, itemsU, lenN, truB, fJs, oFmt, List.map_cons, List.map_nil, List.length_cons, List.length_nil, List.replicate_succ, List.replicate_zero, List.cons_append, List.nil_append, List.append_nil, List.getElem?_cons_zero, List.getElem?_cons_succ, List.set_cons_zero, List.set_cons_succ, Nat.reduceAdd, Nat.reduceSub, Option.map_some, Option.map_none, if_true, if_false, ite_true, ite_false, Bool.false_eq_true, reduceCtorEq, true_and, and_true, and_self, Bool.not_true, Bool.not_false, Nat.zero_add, Option.bind_some, Option.bind_eq_bind, Option.pure_def, decide_true, decide_false, eq_self, Nat.reduceEqDiff, Nat.reduceLT, Nat.reduceLeDiff, Int.reduceLT, Int.reduceLE, Int.reduceEq, Bool.and_true, Bool.true_and, Bool.false_and, Bool.or_false, Bool.or_true, Bool.true_or, Bool.false_or, sz0, szl0, sz1, szl1, sz2, szl2, sz3, szl3, sz4, szl4, sz5, szl5, sz6, szl6, sz7, szl7, sz8, szl8, sz9, szl9, sz10, szl10, sz11, szl11, sz12, szl12, sz13, szl13, sz14, szl14, sz15, szl15, ev_place_no h (Ob.tup t) rfl, sRaise, zip1, hc]
  | lst t => unfold m_SettingsFile_value g_SettingsFile_value; simp only [fnM, sSeq, sRet, sRetN, sExpr, sIf, sNil, sNo, sAsg, tgN, bndS, bnd, vVar, vC, f2, f1, fB, pu, fN, vTup, vLst, fTup, fCons, fNil, fPure, fIf, fAnd, fOr, fNot, asB, asT, bAnd, bOr, bNot, fChain, fCall, fCW, gPos, gApp, R.of, R.of2, fM, pu4, tgT, tgCons, tgNil, unp, pureL, sPar, sPar3, fLstC, fFld, oFld, fMeth, insU, sFldS, setFld, fSl, oNone, oSome, tgSub, setU, fIter, fItN, fItS, sFor, getL, getT, VL.getD, keyD, tyB, lstC, oAdd, oSub, oMul, oFdiv, oMod, oPow, oNeg, oLt, oLe, oGt, oGe, oEq, oNe, oIsN, oNotN, oIn, oNotIn, oIx, oLen, oInt, oAbs, oMin, oMax, oStr, oList, oListC, oTuple, oAll, oAny, itemsU, lenN, truB, fJs, oFmt, List.map_cons, List.map_nil, List.length_cons, List.length_nil, List.replicate_succ, List.replicate_zero, List.cons_append, List.nil_append, List.append_nil, List.getElem?_cons_zero, List.getElem?_cons_succ, List.set_cons_zero, List.set_cons_succ, Nat.reduceAdd, Nat.reduceSub, Option.map_some, Option.map_none, if_true, if_false, ite_true, ite_false, Bool.false_eq_true, reduceCtorEq, true_and, and_true, and_self, Bool.not_true, Bool.not_false, Nat.zero_add, Option.bind_some, Option.bind_eq_bind, Option.pure_def, decide_true, decide_false, eq_self, Nat.reduceEqDiff, Nat.reduceLT, Nat.reduceLeDiff, Int.reduceLT, Int.reduceLE, Int.reduceEq, Bool.and_true, Bool.true_and, Bool.false_and, Bool.or_false, Bool.or_true, Bool.true_or, Bool.false_or, sz0, szl0, sz1, szl1, sz2, szl2, sz3, szl3, sz4, szl4, sz5, szl5, sz6, szl6, sz7, szl7, sz8, szl8, sz9, szl9, sz10, szl10, sz11, szl11, sz12, szl12, sz13, szl13, sz14, szl14, sz15, szl15, ev_place_no h (Ob.lst t) rfl, sRaise, zip1, hc]
  | non => unfold m_SettingsFile_value g_SettingsFile_value; simp only [fnM, sSeq, sRet, sRetN, sExpr, sIf, sNil, sNo, sAsg, tgN, bndS, bnd, vVar, vC, f2, f1, fB, pu, fN, vTup, vLst, fTup, fCons, fNil, fPure, fIf, fAnd, fOr, fNot, asB, asT, bAnd, bOr, bNot, fChain, fCall, fCW, gPos, gApp, R.of, R.of2, fM, pu4, tgT, tgCons, tgNil, unp, pureL, sPar, sPar3, fLstC, fFld, oFld, fMeth, insU, sFldS, setFld, fSl, oNone, oSome, tgSub, setU, fIter, fItN, fItS, sFor, getL, getT, VL.getD, keyD, tyB, lstC, oAdd, oSub, oMul, oFdiv, oMod, oPow, oNeg, oLt, oLe, oGt, oGe, oEq, oNe, oIsN, oNotN, oIn, oNotIn, oIx, oLen, oInt, oAbs, oMin, oMax, oStr, oList, oListC, oTuple, oAll, oAny, itemsU, lenN, truB, fJs, oFmt, List.map_cons, List.map_nil, List.length_cons, List.length_nil, List.replicate_succ, List.replicate_zero, List.cons_append, List.nil_append, List.append_nil, List.getElem?_cons_zero, List.getElem?_cons_succ, List.set_cons_zero, List.set_cons_succ, Nat.reduceAdd, Nat.reduceSub, Option.map_some, Option.map_none, if_true, if_false, ite_true, ite_false, Bool.false_eq_true, reduceCtorEq, true_and, and_true, and_self, Bool.not_true, Bool.not_false, Nat.zero_add, Option.bind_some, Option.bind_eq_bind, Option.pure_def, decide_true, decide_false, eq_self, Nat.reduceEqDiff, Nat.reduceLT, Nat.reduceLeDiff, Int.reduceLT, Int.reduceLE, Int.reduceEq, Bool.and_true, Bool.true_and, Bool.false_and, Bool.or_false, Bool.or_true, Bool.true_or, Bool.false_or, sz0, szl0, sz1, szl1, sz2, szl2, sz3, szl3, sz4, szl4, sz5, szl5, sz6, szl6, sz7, szl7, sz8, szl8, sz9, szl9, sz10, szl10, sz11, szl11, sz12, szl12, sz13, szl13, sz14, szl14, sz15, szl15, ev_place_no h Ob.non rfl, sRaise, zip1, hc]
  | zero => unfold m_SettingsFile_value g_SettingsFile_value; simp only [fnM, sSeq, sRet, sRetN, sExpr, sIf, sNil, sNo, sAsg, tgN, bndS, bnd, vVar, vC, f2, f1, fB, pu, fN, vTup, vLst, fTup, fCons, fNil, fPure, fIf, fAnd, fOr, fNot, asB, asT, bAnd, bOr, bNot, fChain, fCall, fCW, gPos, gApp, R.of, R.of2, fM, pu4, tgT, tgCons, tgNil, unp, pureL, sPar, sPar3, fLstC, fFld, oFld, fMeth, insU, sFldS, setFld, fSl, oNone, oSome, tgSub, setU, fIter, fItN, fItS, sFor, getL, getT, VL.getD, keyD, tyB, lstC, oAdd, oSub, oMul, oFdiv, oMod, oPow, oNeg, oLt, oLe, oGt, oGe, oEq, oNe, oIsN, oNotN, oIn, oNotIn, oIx, oLen, oInt, oAbs, oMin, oMax, oStr, oList, oListC, oTuple, oAll, oAny, itemsU, lenN, truB, fJs, oFmt, List.map_cons, List.map_nil, List.length_cons, List.length_nil, List.replicate_succ, List.replicate_zero, List.cons_append, List.nil_append, List.append_nil, List.getElem?_cons_zero, List.getElem?_cons_succ, List.set_cons_zero, List.set_cons_succ, Nat.reduceAdd, Nat.reduceSub, Option.map_some, Option.map_none, if_true, if_false, ite_true, ite_false, Bool.false_eq_true, reduceCtorEq, true_and, and_true, and_self, Bool.not_true, Bool.not_false, Nat.zero_add, Option.bind_some, Option.bind_eq_bind, Option.pure_def, decide_true, decide_false, eq_self, Nat.reduceEqDiff, Nat.reduceLT, Nat.reduceLeDiff, Int.reduceLT, Int.reduceLE, Int.reduceEq, Bool.and_true, Bool.true_and, Bool.false_and, Bool.or_false, Bool.or_true, Bool.true_or, Bool.false_or, sz0, szl0, sz1, szl1, sz2, szl2, sz3, szl3, sz4, szl4, sz5, szl5, sz6, szl6, sz7, szl7, sz8, szl8, sz9, szl9, sz10, szl10, sz11, szl11, sz12, szl12, sz13, szl13, sz14, szl14, sz15, szl15, ev_place_no h Ob.zero rfl, sRaise, zip1, hc]
  | yes => unfold m_SettingsFile_value g_SettingsFile_value; simp only [fnM, sSeq, sRet, sRetN, sExpr, sIf, sNil, sNo, sAsg, tgN, bndS, bnd, vVar, vC, f2, f1, fB, pu, fN, vTup, vLst, fTup, fCons, fNil, fPure, fIf, fAnd, fOr, fNot, asB, asT, bAnd, bOr, bNot, fChain, fCall, fCW, gPos, gApp, R.of, R.of2, fM, pu4, tgT, tgCons, tgNil, unp, pureL, sPar, sPar3, fLstC, fFld, oFld, fMeth, insU, sFldS, setFld, fSl, oNone, oSome, tgSub, setU, fIter, fItN, fItS, sFor, getL, getT, VL.getD, keyD, tyB, lstC, oAdd, oSub, oMul, oFdiv, oMod, oPow, oNeg, oLt, oLe, oGt, oGe, oEq, oNe, oIsN, oNotN, oIn, oNotIn, oIx, oLen, oInt, oAbs, oMin, oMax, oStr, oList, oListC, oTuple, oAll, oAny, itemsU, lenN, truB, fJs, oFmt, List.map_cons, List.map_nil, List.length_cons, List.length_nil, List.replicate_succ, List.replicate_zero, List.cons_append, List.nil_append, List.append_nil, List.getElem?_cons_zero, List.getElem?_cons_succ, List.set_cons_zero, List.set_cons_succ, Nat.reduceAdd, Nat.reduceSub, Option.map_some, Option.map_none, if_true, if_false, ite_true, ite_false, Bool.false_eq_true, reduceCtorEq, true_and, and_true, and_self, Bool.not_true, Bool.not_false, Nat.zero_add, Option.bind_some, Option.bind_eq_bind, Option.pure_def, decide_true, decide_false, eq_self, Nat.reduceEqDiff, Nat.reduceLT, Nat.reduceLeDiff, Int.reduceLT, Int.reduceLE, Int.reduceEq, Bool.and_true, Bool.true_and, Bool.false_and, Bool.or_false, Bool.or_true, Bool.true_or, Bool.false_or, sz0, szl0, sz1, szl1, sz2, szl2, sz3, szl3, sz4, szl4, sz5, szl5, sz6, szl6, sz7, szl7, sz8, szl8, sz9, szl9, sz10, szl10, sz11, szl11, sz12, szl12, sz13, szl13, sz14, szl14, sz15, szl15, ev_place_no h Ob.yes rfl, sRaise, zip1, hc]
theorem has_find {p : Str} (h : hasP ss p = true) : ∃ v, (ss.find? fun q => decide (q.1 = p)) = some (p, v) := by
  unfold hasP at h
  obtain ⟨q, hq⟩ := Option.isSome_iff_exists.mp h
  have h2 := List.find?_some hq
  rw [decide_eq_true_eq] at h2
  exact ⟨q.2, by rw [hq, ← h2]⟩
theorem ev_value_ok (h : WF st) (f : Fs ls ss) {p v : Str} (t : Sg 40 p) (hf : (ss.find? fun q => decide (q.1 = p)) = some (p, v)) : m_SettingsFile_value K a [.d (fileD a s (partsL .non 0 ls) ds (kvD ss)), .d (.str p)] st = .ok (.d (.str v)) st := by
  have hp := t.sz (by decide)
  have e := inDct_kv (st := st) (ss := ss) (p := p)
  have hh : hasP ss p = true := by unfold hasP; rw [hf]; rfl
  have q := f.has hh
  have l := lookK_kv ss p
  rw [hf] at l
  have hx : oIx (.d (.dct (kvD ss))) (.d (.str p)) st = some (.d (.str v)) := by
    unfold oIx
    rw [show VL.getD st (.d (.dct (kvD ss))) = some ((kvD ss).map fun kv => (kv.1, U.d kv.2)) from rfl]
    simp only [keyD, l]
    rfl
  rw [hh] at e
  have hx' : f2 oIx (fFld [a.C_SettingsFile] "settings_read" (vVar 0)) (vVar 1) [some (.d (fileD a s (partsL .non 0 ls) ds (kvD ss))), some (.d (.str p))] st = .ok (.d (.str v)) st := by
    rw [f2_ok (x := .d (.dct (kvD ss))) (y := .d (.str p)) (st1 := st) (st2 := st) (by unfold fileD; simp only [fnM, sSeq, sRet, sRetN, sExpr, sIf, sNil, sNo, sAsg, tgN, bndS, bnd, vVar, vC, f2, f1, fB, pu, fN, vTup, vLst, fTup, fCons, fNil, fPure, fIf, fAnd, fOr, fNot, asB, asT, bAnd, bOr, bNot, fChain, fCall, fCW, gPos, gApp, R.of, R.of2, fM, pu4, tgT, tgCons, tgNil, unp, pureL, sPar, sPar3, fLstC, fFld, oFld, fMeth, insU, sFldS, setFld, fSl, oNone, oSome, tgSub, setU, fIter, fItN, fItS, sFor, getL, getT, VL.getD, keyD, tyB, lstC, oAdd, oSub, oMul, oFdiv, oMod, oPow, oNeg, oLt, oLe, oGt, oGe, oEq, oNe, oIsN, oNotN, oIn, oNotIn, oIx, oLen, oInt, oAbs, oMin, oMax, oStr, oList, oListC, oTuple, oAll, oAny, itemsU, lenN, truB, fJs, oFmt, List.map_cons, List.map_nil, List.length_cons, List.length_nil, List.replicate_succ, List.replicate_zero, List.cons_append, List.nil_append, List.append_nil, List.getElem?_cons_zero, List.getElem?_cons_succ, List.set_cons_zero, List.set_cons_succ, Nat.reduceAdd, Nat.reduceSub, Option.map_some, Option.map_none, if_true, if_false, ite_true, ite_false, Bool.false_eq_true, reduceCtorEq, true_and, and_true, and_self, Bool.not_true, Bool.not_false, Nat.zero_add, Option.bind_some, Option.bind_eq_bind, Option.pure_def, decide_true, decide_false, eq_self, Nat.reduceEqDiff, Nat.reduceLT, Nat.reduceLeDiff, Int.reduceLT, Int.reduceLE, Int.reduceEq, Bool.and_true, Bool.true_and, Bool.false_and, Bool.or_false, Bool.or_true, Bool.true_or, Bool.false_or, sz0, szl0, sz1, szl1, sz2, szl2, sz3, szl3, sz4, szl4, sz5, szl5, sz6, szl6, sz7, szl7, sz8, szl8, sz9, szl9, sz10, szl10, sz11, szl11, sz12, szl12, sz13, szl13, sz14, szl14, sz15, szl15, List.mem_cons, List.not_mem_nil, or_false, lu_read]) rfl, hx]
    rfl
  have hc : sIf (bOr (bNot (asT (fCall 1 0 gPos (m_is_place K a) (fCW (fCons (vVar 1) fNil) fNil)))) (asB (f2 oNotInD (vVar 1) (fFld [a.C_SettingsFile] "settings_read" (vVar 0))))) (sRaise a.C_NoPlace ["place"] (fCons (vVar 1) fNil)) sNil [some (.d (fileD a s (partsL .non 0 ls) ds (kvD ss))), some (.d (.str p))] st = .ok [some (.d (fileD a s (partsL .non 0 ls) ds (kvD ss))), some (.d (.str p))] .nx st := by
    unfold fileD
    simp only [fnM, sSeq, sRet, sRetN, sExpr, sIf, sNil, sNo, sAsg, tgN, bndS, bnd, vVar, vC, f2, f1, fB, pu, fN, vTup, vLst, fTup, fCons, fNil, fPure, fIf, fAnd, fOr, fNot, asB, asT, bAnd, bOr, bNot, fChain, fCall, fCW, gPos, gApp, R.of, R.of2, fM, pu4, tgT, tgCons, tgNil, unp, pureL, sPar, sPar3, fLstC, fFld, oFld, fMeth, insU, sFldS, setFld, fSl, oNone, oSome, tgSub, setU, fIter, fItN, fItS, sFor, getL, getT, VL.getD, keyD, tyB, lstC, oAdd, oSub, oMul, oFdiv, oMod, oPow, oNeg, oLt, oLe, oGt, oGe, oEq, oNe, oIsN, oNotN, oIn, oNotIn, oIx, oLen, oInt, oAbs, oMin, oMax, oStr, oList, oListC, oTuple, oAll, oAny, itemsU, lenN, truB, fJs, oFmt, List.map_cons, List.map_nil, List.length_cons, List.length_nil, List.replicate_succ, List.replicate_zero, List.cons_append, List.nil_append, List.append_nil, List.getElem?_cons_zero, List.getElem?_cons_succ, List.set_cons_zero, List.set_cons_succ, Nat.reduceAdd, Nat.reduceSub, Option.map_some, Option.map_none, if_true, if_false, ite_true, ite_false, Bool.false_eq_true, reduceCtorEq, true_and, and_true, and_self, Bool.not_true, Bool.not_false, Nat.zero_add, Option.bind_some, Option.bind_eq_bind, Option.pure_def, decide_true, decide_false, eq_self, Nat.reduceEqDiff, Nat.reduceLT, Nat.reduceLeDiff, Int.reduceLT, Int.reduceLE, Int.reduceEq, Bool.and_true, Bool.true_and, Bool.false_and, Bool.or_false, Bool.or_true, Bool.true_or, Bool.false_or, sz0, szl0, sz1, szl1, sz2, szl2, sz3, szl3, sz4, szl4, sz5, szl5, sz6, szl6, sz7, szl7, sz8, szl8, sz9, szl9, sz10, szl10, sz11, szl11, sz12, szl12, sz13, szl13, sz14, szl14, sz15, szl15, ev_place h p hp, q, List.mem_cons, List.not_mem_nil, or_false, lu_read, oNotInD, e]
  unfold m_SettingsFile_value g_SettingsFile_value
  simp only [fnM, sSeq, List.map_cons, List.map_nil, List.length_cons, List.length_nil, Nat.reduceAdd, Nat.reduceSub, List.replicate_zero, List.append_nil, hc, sRet, bndS, hx', wFrz_d h]
theorem ev_block_ok (h : WF st) (f : Fs ls ss) {p : Str} (hb : (inH (headsL ls) (.str p) || hasP ss p) = true) : ∃ r, m_SettingsFile_block K a [.d (fileD a s (partsL .non 0 ls) ds (kvD ss)), .d (.str p)] st = .ok (.d (.lst r)) st := by
  have hl := f.len
  obtain ⟨env', st', n', e1, e2, e3, e4, w2, w3, w4, w5, rfl⟩ := ev_bloop2 (K := K) (a := a) (nm := p) (F := fileD a s (partsL .non 0 ls) ds (kvD ss)) (k0 := st.length) ls .non 0 [] _ st.length none none none (st ++ [.lst []]) new_at (Nat.le_refl _) (by simpa using hl) rfl
  have hs := blockL_some (nm := p) ls .non []
  rw [← f.eq] at hs
  rw [show ((headsL ls).any fun n => decide (p = n)) = inH (headsL ls) (.str p) from rfl, hb] at hs
  obtain ⟨r, hr⟩ := Option.isSome_iff_exists.mp hs
  rw [hr] at e1 e2
  have e2 := e2 r rfl
  have ec : cutS st.length st' = some st := cut_same h fun m hm => by rw [e4 m hm, List.getElem?_append_left hm]
  have ef : frz st' st.length 4 (.ref n') = some (.lst r) := frz_lst (by omega) e2
  refine ⟨r, ?_⟩
  unfold m_SettingsFile_block g_SettingsFile_block
  unfold fileD at e1 ⊢
  simp only [Option.isSome_some, if_true] at e1
  simp only [fnM, sSeq, sRet, sRetN, sExpr, sIf, sNil, sNo, sAsg, tgN, bndS, bnd, vVar, vC, f2, f1, fB, pu, fN, vTup, vLst, fTup, fCons, fNil, fPure, fIf, fAnd, fOr, fNot, asB, asT, bAnd, bOr, bNot, fChain, fCall, fCW, gPos, gApp, R.of, R.of2, fM, pu4, tgT, tgCons, tgNil, unp, pureL, sPar, sPar3, fLstC, fFld, oFld, fMeth, insU, sFldS, setFld, fSl, oNone, oSome, tgSub, setU, fIter, fItN, fItS, sFor, getL, getT, VL.getD, keyD, tyB, lstC, oAdd, oSub, oMul, oFdiv, oMod, oPow, oNeg, oLt, oLe, oGt, oGe, oEq, oNe, oIsN, oNotN, oIn, oNotIn, oIx, oLen, oInt, oAbs, oMin, oMax, oStr, oList, oListC, oTuple, oAll, oAny, itemsU, lenN, truB, fJs, oFmt, List.map_cons, List.map_nil, List.length_cons, List.length_nil, List.replicate_succ, List.replicate_zero, List.cons_append, List.nil_append, List.append_nil, List.getElem?_cons_zero, List.getElem?_cons_succ, List.set_cons_zero, List.set_cons_succ, Nat.reduceAdd, Nat.reduceSub, Option.map_some, Option.map_none, if_true, if_false, ite_true, ite_false, Bool.false_eq_true, reduceCtorEq, true_and, and_true, and_self, Bool.not_true, Bool.not_false, Nat.zero_add, Option.bind_some, Option.bind_eq_bind, Option.pure_def, decide_true, decide_false, eq_self, Nat.reduceEqDiff, Nat.reduceLT, Nat.reduceLeDiff, Int.reduceLT, Int.reduceLE, Int.reduceEq, Bool.and_true, Bool.true_and, Bool.false_and, Bool.or_false, Bool.or_true, Bool.true_or, Bool.false_or, sz0, szl0, sz1, szl1, sz2, szl2, sz3, szl3, sz4, szl4, sz5, szl5, sz6, szl6, sz7, szl7, sz8, szl8, sz9, szl9, sz10, szl10, sz11, szl11, sz12, szl12, sz13, szl13, sz14, szl14, sz15, szl15, oIsi, tyN, isi_str, itV, List.mem_cons, List.not_mem_nil, or_false, lu_all, e1, wFrz, ef, ec]
theorem ev_block_ex (h : WF st) (f : Fs ls ss) {x : D} (t : Ob x) (hb : (inH (headsL ls) x || inW ss x) = false) : m_SettingsFile_block K a [.d (fileD a s (partsL .non 0 ls) ds (kvD ss)), .d x] st = .ex (.ref a.C_NoPlace) (some [("place", x)]) st := by
  have hi := ob_isi (K := K) (a := a) (st := st) t
  have hc := cut_self h
  cases t with
  | str t =>
    rename_i p
    have hl := f.len
    obtain ⟨env', st', n', e1, e2, e3, e4, w2, w3, w4, w5, rfl⟩ := ev_bloop2 (K := K) (a := a) (nm := p) (F := fileD a s (partsL .non 0 ls) ds (kvD ss)) (k0 := st.length) ls .non 0 [] _ st.length none none none (st ++ [.lst []]) new_at (Nat.le_refl _) (by simpa using hl) rfl
    have hs := blockL_some (nm := p) ls .non []
    rw [← f.eq] at hs
    rw [show ((headsL ls).any fun n => decide (p = n)) = inH (headsL ls) (.str p) from rfl, show hasP ss p = inW ss (.str p) from rfl, hb] at hs
    rw [hs] at e1
    have ec : cutS st.length st' = some st := cut_same h fun m hm => by rw [e4 m hm, List.getElem?_append_left hm]
    unfold m_SettingsFile_block g_SettingsFile_block
    unfold fileD at e1 ⊢
    simp only [Bool.false_eq_true, if_false] at e1
    simp only [fnM, sSeq, sRet, sRetN, sExpr, sIf, sNil, sNo, sAsg, tgN, bndS, bnd, vVar, vC, f2, f1, fB, pu, fN, vTup, vLst, fTup, fCons, fNil, fPure, fIf, fAnd, fOr, fNot, asB, asT, bAnd, bOr, bNot, fChain, fCall, fCW, gPos, gApp, R.of, R.of2, fM, pu4, tgT, tgCons, tgNil, unp, pureL, sPar, sPar3, fLstC, fFld, oFld, fMeth, insU, sFldS, setFld, fSl, oNone, oSome, tgSub, setU, fIter, fItN, fItS, sFor, getL, getT, VL.getD, keyD, tyB, lstC, oAdd, oSub, oMul, oFdiv, oMod, oPow, oNeg, oLt, oLe, oGt, oGe, oEq, oNe, oIsN, oNotN, oIn, oNotIn, oIx, oLen, oInt, oAbs, oMin, oMax, oStr, oList, oListC, oTuple, oAll, oAny, itemsU, lenN, truB, fJs, oFmt, List.map_cons, List.map_nil, List.length_cons, List.length_nil, List.replicate_succ, List.replicate_zero, List.cons_append, List.nil_append, List.append_nil, List.getElem?_cons_zero, List.getElem?_cons_succ, List.set_cons_zero, List.set_cons_succ, Nat.reduceAdd, Nat.reduceSub, Option.map_some, Option.map_none, if_true, if_false, ite_true, ite_false, Bool.false_eq_true, reduceCtorEq, true_and, and_true, and_self, Bool.not_true, Bool.not_false, Nat.zero_add, Option.bind_some, Option.bind_eq_bind, Option.pure_def, decide_true, decide_false, eq_self, Nat.reduceEqDiff, Nat.reduceLT, Nat.reduceLeDiff, Int.reduceLT, Int.reduceLE, Int.reduceEq, Bool.and_true, Bool.true_and, Bool.false_and, Bool.or_false, Bool.or_true, Bool.true_or, Bool.false_or, sz0, szl0, sz1, szl1, sz2, szl2, sz3, szl3, sz4, szl4, sz5, szl5, sz6, szl6, sz7, szl7, sz8, szl8, sz9, szl9, sz10, szl10, sz11, szl11, sz12, szl12, sz13, szl13, sz14, szl14, sz15, szl15, hi, isS, itV, List.mem_cons, List.not_mem_nil, or_false, lu_all, e1, sRaise, zip1, ec]
  | tup t => unfold m_SettingsFile_block g_SettingsFile_block; simp only [fnM, sSeq, sRet, sRetN, sExpr, sIf, sNil, sNo, sAsg, tgN, bndS, bnd, vVar, vC, f2, f1, fB, pu, fN, vTup, vLst, fTup, fCons, fNil, fPure, fIf, fAnd, fOr, fNot, asB, asT, bAnd, bOr, bNot, fChain, fCall, fCW, gPos, gApp, R.of, R.of2, fM, pu4, tgT, tgCons, tgNil, unp, pureL, sPar, sPar3, fLstC, fFld, oFld, fMeth, insU, sFldS, setFld, fSl, oNone, oSome, tgSub, setU, fIter, fItN, fItS, sFor, getL, getT, VL.getD, keyD, tyB, lstC, oAdd, oSub, oMul, oFdiv, oMod, oPow, oNeg, oLt, oLe, oGt, oGe, oEq, oNe, oIsN, oNotN, oIn, oNotIn, oIx, oLen, oInt, oAbs, oMin, oMax, oStr, oList, oListC, oTuple, oAll, oAny, itemsU, lenN, truB, fJs, oFmt, List.map_cons, List.map_nil, List.length_cons, List.length_nil, List.replicate_succ, List.replicate_zero, List.cons_append, List.nil_append, List.append_nil, List.getElem?_cons_zero, List.getElem?_cons_succ, List.set_cons_zero, List.set_cons_succ, Nat.reduceAdd, Nat.reduceSub, Option.map_some, Option.map_none, if_true, if_false, ite_true, ite_false, Bool.false_eq_true, reduceCtorEq, true_and, and_true, and_self, Bool.not_true, Bool.not_false, Nat.zero_add, Option.bind_some, Option.bind_eq_bind, Option.pure_def, decide_true, decide_false, eq_self, Nat.reduceEqDiff, Nat.reduceLT, Nat.reduceLeDiff, Int.reduceLT, Int.reduceLE, Int.reduceEq, Bool.and_true, Bool.true_and, Bool.false_and, Bool.or_false, Bool.or_true, Bool.true_or, Bool.false_or, sz0, szl0, sz1, szl1, sz2, szl2, sz3, szl3, sz4, szl4, sz5, szl5, sz6, szl6, sz7, szl7, sz8, szl8, sz9, szl9, sz10, szl10, sz11, szl11, sz12, szl12, sz13, szl13, sz14, szl14, sz15, szl15, hi, isS, sRaise, zip1, hc]
  | lst t => unfold m_SettingsFile_block g_SettingsFile_block; simp only [fnM, sSeq, sRet, sRetN, sExpr, sIf, sNil, sNo, sAsg, tgN, bndS, bnd, vVar, vC, f2, f1, fB, pu, fN, vTup, vLst, fTup, fCons, fNil, fPure, fIf, fAnd, fOr, fNot, asB, asT, bAnd, bOr, bNot, fChain, fCall, fCW, gPos, gApp, R.of, R.of2, fM, pu4, tgT, tgCons, tgNil, unp, pureL, sPar, sPar3, fLstC, fFld, oFld, fMeth, insU, sFldS, setFld, fSl, oNone, oSome, tgSub, setU, fIter, fItN, fItS, sFor, getL, getT, VL.getD, keyD, tyB, lstC, oAdd, oSub, oMul, oFdiv, oMod, oPow, oNeg, oLt, oLe, oGt, oGe, oEq, oNe, oIsN, oNotN, oIn, oNotIn, oIx, oLen, oInt, oAbs, oMin, oMax, oStr, oList, oListC, oTuple, oAll, oAny, itemsU, lenN, truB, fJs, oFmt, List.map_cons, List.map_nil, List.length_cons, List.length_nil, List.replicate_succ, List.replicate_zero, List.cons_append, List.nil_append, List.append_nil, List.getElem?_cons_zero, List.getElem?_cons_succ, List.set_cons_zero, List.set_cons_succ, Nat.reduceAdd, Nat.reduceSub, Option.map_some, Option.map_none, if_true, if_false, ite_true, ite_false, Bool.false_eq_true, reduceCtorEq, true_and, and_true, and_self, Bool.not_true, Bool.not_false, Nat.zero_add, Option.bind_some, Option.bind_eq_bind, Option.pure_def, decide_true, decide_false, eq_self, Nat.reduceEqDiff, Nat.reduceLT, Nat.reduceLeDiff, Int.reduceLT, Int.reduceLE, Int.reduceEq, Bool.and_true, Bool.true_and, Bool.false_and, Bool.or_false, Bool.or_true, Bool.true_or, Bool.false_or, sz0, szl0, sz1, szl1, sz2, szl2, sz3, szl3, sz4, szl4, sz5, szl5, sz6, szl6, sz7, szl7, sz8, szl8, sz9, szl9, sz10, szl10, sz11, szl11, sz12, szl12, sz13, szl13, sz14, szl14, sz15, szl15, hi, isS, sRaise, zip1, hc]
  | non => unfold m_SettingsFile_block g_SettingsFile_block; simp only [fnM, sSeq, sRet, sRetN, sExpr, sIf, sNil, sNo, sAsg, tgN, bndS, bnd, vVar, vC, f2, f1, fB, pu, fN, vTup, vLst, fTup, fCons, fNil, fPure, fIf, fAnd, fOr, fNot, asB, asT, bAnd, bOr, bNot, fChain, fCall, fCW, gPos, gApp, R.of, R.of2, fM, pu4, tgT, tgCons, tgNil, unp, pureL, sPar, sPar3, fLstC, fFld, oFld, fMeth, insU, sFldS, setFld, fSl, oNone, oSome, tgSub, setU, fIter, fItN, fItS, sFor, getL, getT, VL.getD, keyD, tyB, lstC, oAdd, oSub, oMul, oFdiv, oMod, oPow, oNeg, oLt, oLe, oGt, oGe, oEq, oNe, oIsN, oNotN, oIn, oNotIn, oIx, oLen, oInt, oAbs, oMin, oMax, oStr, oList, oListC, oTuple, oAll, oAny, itemsU, lenN, truB, fJs, oFmt, List.map_cons, List.map_nil, List.length_cons, List.length_nil, List.replicate_succ, List.replicate_zero, List.cons_append, List.nil_append, List.append_nil, List.getElem?_cons_zero, List.getElem?_cons_succ, List.set_cons_zero, List.set_cons_succ, Nat.reduceAdd, Nat.reduceSub, Option.map_some, Option.map_none, if_true, if_false, ite_true, ite_false, Bool.false_eq_true, reduceCtorEq, true_and, and_true, and_self, Bool.not_true, Bool.not_false, Nat.zero_add, Option.bind_some, Option.bind_eq_bind, Option.pure_def, decide_true, decide_false, eq_self, Nat.reduceEqDiff, Nat.reduceLT, Nat.reduceLeDiff, Int.reduceLT, Int.reduceLE, Int.reduceEq, Bool.and_true, Bool.true_and, Bool.false_and, Bool.or_false, Bool.or_true, Bool.true_or, Bool.false_or, sz0, szl0, sz1, szl1, sz2, szl2, sz3, szl3, sz4, szl4, sz5, szl5, sz6, szl6, sz7, szl7, sz8, szl8, sz9, szl9, sz10, szl10, sz11, szl11, sz12, szl12, sz13, szl13, sz14, szl14, sz15, szl15, hi, isS, sRaise, zip1, hc]
  | zero => unfold m_SettingsFile_block g_SettingsFile_block; simp only [fnM, sSeq, sRet, sRetN, sExpr, sIf, sNil, sNo, sAsg, tgN, bndS, bnd, vVar, vC, f2, f1, fB, pu, fN, vTup, vLst, fTup, fCons, fNil, fPure, fIf, fAnd, fOr, fNot, asB, asT, bAnd, bOr, bNot, fChain, fCall, fCW, gPos, gApp, R.of, R.of2, fM, pu4, tgT, tgCons, tgNil, unp, pureL, sPar, sPar3, fLstC, fFld, oFld, fMeth, insU, sFldS, setFld, fSl, oNone, oSome, tgSub, setU, fIter, fItN, fItS, sFor, getL, getT, VL.getD, keyD, tyB, lstC, oAdd, oSub, oMul, oFdiv, oMod, oPow, oNeg, oLt, oLe, oGt, oGe, oEq, oNe, oIsN, oNotN, oIn, oNotIn, oIx, oLen, oInt, oAbs, oMin, oMax, oStr, oList, oListC, oTuple, oAll, oAny, itemsU, lenN, truB, fJs, oFmt, List.map_cons, List.map_nil, List.length_cons, List.length_nil, List.replicate_succ, List.replicate_zero, List.cons_append, List.nil_append, List.append_nil, List.getElem?_cons_zero, List.getElem?_cons_succ, List.set_cons_zero, List.set_cons_succ, Nat.reduceAdd, Nat.reduceSub, Option.map_some, Option.map_none, if_true, if_false, ite_true, ite_false, Bool.false_eq_true, reduceCtorEq, true_and, and_true, and_self, Bool.not_true, Bool.not_false, Nat.zero_add, Option.bind_some, Option.bind_eq_bind, Option.pure_def, decide_true, decide_false, eq_self, Nat.reduceEqDiff, Nat.reduceLT, Nat.reduceLeDiff, Int.reduceLT, Int.reduceLE, Int.reduceEq, Bool.and_true, Bool.true_and, Bool.false_and, Bool.or_false, Bool.or_true, Bool.true_or, Bool.false_or, sz0, szl0, sz1, szl1, sz2, szl2, sz3, szl3, sz4, szl4, sz5, szl5, sz6, szl6, sz7, szl7, sz8, szl8, sz9, szl9, sz10, szl10, sz11, szl11, sz12, szl12, sz13, szl13, sz14, szl14, sz15, szl15, hi, isS, sRaise, zip1, hc]
  | yes => unfold m_SettingsFile_block g_SettingsFile_block; simp only [fnM, sSeq, sRet, sRetN, sExpr, sIf, sNil, sNo, sAsg, tgN, bndS, bnd, vVar, vC, f2, f1, fB, pu, fN, vTup, vLst, fTup, fCons, fNil, fPure, fIf, fAnd, fOr, fNot, asB, asT, bAnd, bOr, bNot, fChain, fCall, fCW, gPos, gApp, R.of, R.of2, fM, pu4, tgT, tgCons, tgNil, unp, pureL, sPar, sPar3, fLstC, fFld, oFld, fMeth, insU, sFldS, setFld, fSl, oNone, oSome, tgSub, setU, fIter, fItN, fItS, sFor, getL, getT, VL.getD, keyD, tyB, lstC, oAdd, oSub, oMul, oFdiv, oMod, oPow, oNeg, oLt, oLe, oGt, oGe, oEq, oNe, oIsN, oNotN, oIn, oNotIn, oIx, oLen, oInt, oAbs, oMin, oMax, oStr, oList, oListC, oTuple, oAll, oAny, itemsU, lenN, truB, fJs, oFmt, List.map_cons, List.map_nil, List.length_cons, List.length_nil, List.replicate_succ, List.replicate_zero, List.cons_append, List.nil_append, List.append_nil, List.getElem?_cons_zero, List.getElem?_cons_succ, List.set_cons_zero, List.set_cons_succ, Nat.reduceAdd, Nat.reduceSub, Option.map_some, Option.map_none, if_true, if_false, ite_true, ite_false, Bool.false_eq_true, reduceCtorEq, true_and, and_true, and_self, Bool.not_true, Bool.not_false, Nat.zero_add, Option.bind_some, Option.bind_eq_bind, Option.pure_def, decide_true, decide_false, eq_self, Nat.reduceEqDiff, Nat.reduceLT, Nat.reduceLeDiff, Int.reduceLT, Int.reduceLE, Int.reduceEq, Bool.and_true, Bool.true_and, Bool.false_and, Bool.or_false, Bool.or_true, Bool.true_or, Bool.false_or, sz0, szl0, sz1, szl1, sz2, szl2, sz3, szl3, sz4, szl4, sz5, szl5, sz6, szl6, sz7, szl7, sz8, szl8, sz9, szl9, sz10, szl10, sz11, szl11, sz12, szl12, sz13, szl13, sz14, szl14, sz15, szl15, hi, isS, sRaise, zip1, hc]
end

end VL.K06

namespace VL.K06
open PySem PySem.Spec PyProof.Rows L2 VL
variable {K : PySem.W.Frag} {a : Ad} {st : Store}
/-! tables stay -/
theorem tab_push {T : List (Addr × Str)} (h : TabIn T st) {o : O} (ho : ∀ P q, o ≠ .tbl P q) : TabIn T (st ++ [o]) := by
  refine ⟨fun j p hp => app_at (h.1 j p hp), fun n P q hn => ?_⟩
  rcases Nat.lt_or_ge n st.length with hl | hl
  · rw [List.getElem?_append_left hl] at hn
    exact h.2 n P q hn
  · rw [List.getElem?_append_right hl] at hn
    cases e : n - st.length with
    | zero => rw [e] at hn; exact (ho P q (Option.some.inj hn)).elim
    | succ k => rw [e] at hn; cases hn
theorem tab_set {T : List (Addr × Str)} (h : TabIn T st) {n : Nat} (hn : T.length ≤ n) {o : O} (ho : ∀ P q, o ≠ .tbl P q) : TabIn T (st.set n o) := by
  refine ⟨fun j p hp => ?_, fun i P q hi => ?_⟩
  · have hj := (List.getElem?_eq_some_iff.mp hp).1
    rw [List.getElem?_set_ne (by omega)]
    exact h.1 j p hp
  · by_cases e : n = i
    · subst e
      by_cases hl : n < st.length
      · rw [List.getElem?_set_self hl] at hi
        exact (ho P q (Option.some.inj hi)).elim
      · rw [List.getElem?_eq_none (by rw [List.length_set]; omega)] at hi
        cases hi
    · rw [List.getElem?_set_ne e] at hi
      exact h.2 i P q hi
theorem tab_fb {T : List (Addr × Str)} (h : TabIn T st) {st' : Store} {b : Nat} (hb : Bag st b) (f : Fb st st' b) : TabIn T st' := by
  obtain ⟨n, x, e⟩ := hb
  obtain ⟨n', x', e'⟩ := f.bag
  refine ⟨fun j p hp => ?_, fun i P q hi => ?_⟩
  · rw [f.fr j fun z => by subst z; have := h.1 j p hp; rw [e] at this; cases this]
    exact h.1 j p hp
  · rw [f.fr i fun z => by subst z; rw [e'] at hi; cases hi] at hi
    exact h.2 i P q hi
/-! told -/
theorem told_none {deed : M U} {u : U} {st1 : Store} (e : deed st = .ok u st1) : mt_L_law_raised K a deed st = .ok (.d .non) st1 := by
  unfold mt_L_law_raised mTold
  simp only [e]
theorem told_ex (kx : Kx K a) {deed : M U} {x : D} {st1 : Store} (e : deed st = .ex (.ref a.C_NoPlace) (some [("place", x)]) st1) : mt_L_law_raised K a deed st = .ok (.d (.tup [x])) st1 := by
  have k1 := kx.xka_NoPlace
  have k2 := kx.xko_NoPlace
  have k3 := kx.xem_NoPlace
  have hl : List.lookup ("place" : Str) [(("place" : Str), x)] = some x := rfl
  unfold mt_L_law_raised mTold
  simp only [fnM, sSeq, sRet, sRetN, sExpr, sIf, sNil, sNo, sAsg, tgN, bndS, bnd, vVar, vC, f2, f1, fB, pu, fN, vTup, vLst, fTup, fCons, fNil, fPure, fIf, fAnd, fOr, fNot, asB, asT, bAnd, bOr, bNot, fChain, fCall, fCW, gPos, gApp, R.of, R.of2, fM, pu4, tgT, tgCons, tgNil, unp, pureL, sPar, sPar3, fLstC, fFld, oFld, fMeth, insU, sFldS, setFld, fSl, oNone, oSome, tgSub, setU, fIter, fItN, fItS, sFor, getL, getT, VL.getD, keyD, tyB, lstC, oAdd, oSub, oMul, oFdiv, oMod, oPow, oNeg, oLt, oLe, oGt, oGe, oEq, oNe, oIsN, oNotN, oIn, oNotIn, oIx, oLen, oInt, oAbs, oMin, oMax, oStr, oList, oListC, oTuple, oAll, oAny, itemsU, lenN, truB, fJs, oFmt, List.map_cons, List.map_nil, List.length_cons, List.length_nil, List.replicate_succ, List.replicate_zero, List.cons_append, List.nil_append, List.append_nil, List.getElem?_cons_zero, List.getElem?_cons_succ, List.set_cons_zero, List.set_cons_succ, Nat.reduceAdd, Nat.reduceSub, Option.map_some, Option.map_none, if_true, if_false, ite_true, ite_false, Bool.false_eq_true, reduceCtorEq, true_and, and_true, and_self, Bool.not_true, Bool.not_false, Nat.zero_add, Option.bind_some, Option.bind_eq_bind, Option.pure_def, decide_true, decide_false, eq_self, Nat.reduceEqDiff, Nat.reduceLT, Nat.reduceLeDiff, Int.reduceLT, Int.reduceLE, Int.reduceEq, Bool.and_true, Bool.true_and, Bool.false_and, Bool.or_false, Bool.or_true, Bool.true_or, Bool.false_or, sz0, szl0, sz1, szl1, sz2, szl2, sz3, szl3, sz4, szl4, sz5, szl5, sz6, szl6, sz7, szl7, sz8, szl8, sz9, szl9, sz10, szl10, sz11, szl11, sz12, szl12, sz13, szl13, sz14, szl14, sz15, szl15, e, k3, Option.getD_some, oIsX, clsU, clsD, List.mapM_cons, List.mapM_nil, k1, k2, xFld, hl, dropE, common_c]
/-! shown -/
theorem rep_len {s : Str} (h : Sg 40 s) : (reprText s).length ≤ 402 := by
  have := StrLaws.reprText_len s fun c hc => Nat.lt_trans (h.2 c hc) (by decide)
  have := h.1
  omega
theorem ob_P {x : D} (t : Ob x) : ∃ p, toP x = some p ∧ PyData.showable p = true ∧ PyData.hasDict p = false ∧ PyData.depth p ≤ 5 ∧ (PyData.shown p).length ≤ 407 := by
  cases t with
  | @str s t => exact ⟨.str s, rfl, rfl, rfl, by simp [PyData.depth], by rw [PyData.shown]; exact Nat.le_trans (rep_len t) (by decide)⟩
  | @tup s t =>
    refine ⟨.tuple [.str s], rfl, rfl, rfl, by simp [PyData.depth, PyData.depthAll], ?_⟩
    have h1 := tupleText_len_le [reprText s]
    have h2 := rep_len t
    rw [show PyData.shown (.tuple [.str s]) = tupleText [reprText s] from by simp [PyData.shown, PyData.shownAll]]
    simp at h1
    omega
  | @lst s t =>
    refine ⟨.list [.str s], rfl, rfl, rfl, by simp [PyData.depth, PyData.depthAll], ?_⟩
    have h1 := listText_len_le [reprText s]
    have h2 := rep_len t
    rw [show PyData.shown (.list [.str s]) = listText [reprText s] from by simp [PyData.shown, PyData.shownAll]]
    simp at h1
    omega
  | non => exact ⟨.none, rfl, rfl, rfl, by simp [PyData.depth], by decide +kernel⟩
  | zero => exact ⟨.int 0, rfl, rfl, rfl, by simp [PyData.depth], by decide +kernel⟩
  | yes => exact ⟨.bool true, rfl, rfl, rfl, by simp [PyData.depth], by decide +kernel⟩
theorem ob_repr {x : D} (t : Ob x) : ∃ r, ∀ st : Store, oRepr [.d (.tup [x])] st = some (.d (.str r)) := by
  obtain ⟨p, e, h1, h2, h3, h4⟩ := ob_P t
  refine ⟨PyData.shown (.tuple [p]), fun st => ?_⟩
  have ea : asP st (.d (.tup [x])) = some (.tuple [p]) := by
    rw [asP_d]
    show (match VL.toP x, VL.toPs [] with
      | some p, some ps => some (p :: ps)
      | _, _ => none).map PyData.tuple = _
    rw [e]
    rfl
  have hz : PyData.showable (.tuple [p]) = true ∧ PyData.hasDict (.tuple [p]) = false ∧ PyData.depth (.tuple [p]) ≤ 64 ∧ (PyData.shown (.tuple [p])).length ≤ sizeLine := by
    refine ⟨by simp [PyData.showable, PyData.showableAll, h1], by simp [PyData.hasDict, PyData.hasDictAll, h2], by simp [PyData.depth, PyData.depthAll]; omega, ?_⟩
    have h5 := tupleText_len_le [PyData.shown p]
    rw [show PyData.shown (.tuple [p]) = tupleText [PyData.shown p] from by simp [PyData.shown, PyData.shownAll]]
    simp at h5
    refine Nat.le_trans (m := 500) (by omega) (by decide)
  unfold oRepr
  simp only [ea]
  rw [if_pos hz]
theorem eqB_strs {xs : List Str} (h : ∀ s ∈ xs, PyData.strOk s = true) : eqB st (.d (.lst (sD xs))) (.d (.lst (sD xs))) = some true := by
  have hs := shaped_strs xs h
  have hv : ∀ ys : List Str, PyData.eqvAll (ys.map .str) (ys.map .str) = true := fun ys => by
    induction ys with
    | nil => simp [PyData.eqvAll]
    | cons y ys ih => simp [PyData.eqvAll, PyData.eqv, ih]
  unfold eqB
  simp only [asP_d, toP_strs, hs, and_self, if_true, PyData.eqv, hv]
def pP (p : Str × Str) : PyData := .tuple [.str p.1, .str p.2]
theorem inB_strs {s : Str} {hs : List Str} (h1 : PyData.strOk s = true) (h : ∀ x ∈ hs, PyData.strOk x = true) : inB st (.d (.str s)) (.d (.lst (sD hs))) = some (inH hs (.str s)) := by
  have e1 := toP_strs hs
  have e2 : toP (.str s) = some (.str s) := rfl
  have e3 := shaped_strs hs h
  have e4 : SeqAt.shaped (.str s) = true := by unfold SeqAt.shaped; simp [PyData.canLay0, PyData.depth, h1]
  have e5 : ((hs.map PyData.str).any fun q => PyData.eqv q (.str s)) = inH hs (.str s) := by
    unfold inH
    rw [List.any_map]
    congr 1
    funext n
    show PyData.eqv (.str n) (.str s) = _
    rw [eqv_str, Bool.eq_iff_iff, beq_iff_eq, decide_eq_true_eq]
    exact ⟨fun z => z.symm, fun z => z.symm⟩
  unfold inB
  simp only [asP_d, e1, e2, e3, e4, and_self, if_true, e5]

end VL.K06

namespace VL.K06
open PySem PySem.Spec PyProof.Rows L2 VL
variable {K : PySem.W.Frag} {a : Ad} {st : Store}
/-! lookups of an object are as due -/
section
variable {s : Str} {ls : List Ln} {ds : List D} {ss : List (Str × Str)}
theorem lam_eq {T : List (Addr × Str)} {mT : M U → M U} {fb : F U} {env : VEnv} (h : TabIn T st) : fLam T mT fb env st = mT (fun st' => fb env st') st := by
  unfold fLam
  rw [if_pos h]
theorem ev_right (kx : Kx K a) (h : WF st) (ht : TabIn a.tabs st) (f : Fs ls ss) (hv : ∀ q ∈ ss, PyData.strOk q.2 = true) (hh : ∀ x ∈ headsL ls, PyData.strOk x = true) {x : D} (t : Ob x) {d : Nat} (hd : st[d]? = some (.dct ((kvD ss).map fun kv => (kv.1, U.d kv.2)))) :
    m_L_law_is_right K a [.d (fileD a s (partsL .non 0 ls) ds (kvD ss)), .d x, .ref d, .d (.lst (sD (headsL ls)))] st = .ok (.d (.bl true)) st := by
  have hi := ob_isi (K := K) (a := a) (st := st) t
  have ec := ev_cont (K := K) (a := a) (s := s) (ds := ds) h f t
  obtain ⟨r, hr⟩ := ob_repr t
  have hr := hr st
  have hg : VL.getD st (.ref d) = some ((kvD ss).map fun kv => (kv.1, U.d kv.2)) := by simp only [VL.getD, hd]
  have ht' : fAnd (fB (pu (oIsi K a.own)) (fCons (vVar 1) (fCons (vC (.ty "str")) fNil))) (f2 oInD (vVar 1) (vVar 2)) [some (.d (fileD a s (partsL .non 0 ls) ds (kvD ss))), some (.d x), some (.ref d), some (.d (.lst (sD (headsL ls)))), none, none, none] st = .ok (.d (.bl (inW ss x))) st := by
    cases t with
    | @str p t =>
      have e : inDct st (.d (.str p)) (.ref d) = some (hasP ss p) := by
        unfold inDct hasP
        rw [hg]
        simp only [keyD, lookK_kv]
        cases ss.find? fun q => decide (q.1 = p) <;> rfl
      simp only [fnM, sSeq, sRet, sRetN, sExpr, sIf, sNil, sNo, sAsg, tgN, bndS, bnd, vVar, vC, f2, f1, fB, pu, fN, vTup, vLst, fTup, fCons, fNil, fPure, fIf, fAnd, fOr, fNot, asB, asT, bAnd, bOr, bNot, fChain, fCall, fCW, gPos, gApp, R.of, R.of2, fM, pu4, tgT, tgCons, tgNil, unp, pureL, sPar, sPar3, fLstC, fFld, oFld, fMeth, insU, sFldS, setFld, fSl, oNone, oSome, tgSub, setU, fIter, fItN, fItS, sFor, getL, getT, VL.getD, keyD, tyB, lstC, oAdd, oSub, oMul, oFdiv, oMod, oPow, oNeg, oLt, oLe, oGt, oGe, oEq, oNe, oIsN, oNotN, oIn, oNotIn, oIx, oLen, oInt, oAbs, oMin, oMax, oStr, oList, oListC, oTuple, oAll, oAny, itemsU, lenN, truB, fJs, oFmt, List.map_cons, List.map_nil, List.length_cons, List.length_nil, List.replicate_succ, List.replicate_zero, List.cons_append, List.nil_append, List.append_nil, List.getElem?_cons_zero, List.getElem?_cons_succ, List.set_cons_zero, List.set_cons_succ, Nat.reduceAdd, Nat.reduceSub, Option.map_some, Option.map_none, if_true, if_false, ite_true, ite_false, Bool.false_eq_true, reduceCtorEq, true_and, and_true, and_self, Bool.not_true, Bool.not_false, Nat.zero_add, Option.bind_some, Option.bind_eq_bind, Option.pure_def, decide_true, decide_false, eq_self, Nat.reduceEqDiff, Nat.reduceLT, Nat.reduceLeDiff, Int.reduceLT, Int.reduceLE, Int.reduceEq, Bool.and_true, Bool.true_and, Bool.false_and, Bool.or_false, Bool.or_true, Bool.true_or, Bool.false_or, sz0, szl0, sz1, szl1, sz2, szl2, sz3, szl3, sz4, szl4, sz5, szl5, sz6, szl6, sz7, szl7, sz8, szl8, sz9, szl9, sz10, szl10, sz11, szl11, sz12, szl12, sz13, szl13, sz14, szl14, sz15, szl15, hi, isS, oInD, e, inW]
    | tup t => simp only [fnM, sSeq, sRet, sRetN, sExpr, sIf, sNil, sNo, sAsg, tgN, bndS, bnd, vVar, vC, f2, f1, fB, pu, fN, vTup, vLst, fTup, fCons, fNil, fPure, fIf, fAnd, fOr, fNot, asB, asT, bAnd, bOr, bNot, fChain, fCall, fCW, gPos, gApp, R.of, R.of2, fM, pu4, tgT, tgCons, tgNil, unp, pureL, sPar, sPar3, fLstC, fFld, oFld, fMeth, insU, sFldS, setFld, fSl, oNone, oSome, tgSub, setU, fIter, fItN, fItS, sFor, getL, getT, VL.getD, keyD, tyB, lstC, oAdd, oSub, oMul, oFdiv, oMod, oPow, oNeg, oLt, oLe, oGt, oGe, oEq, oNe, oIsN, oNotN, oIn, oNotIn, oIx, oLen, oInt, oAbs, oMin, oMax, oStr, oList, oListC, oTuple, oAll, oAny, itemsU, lenN, truB, fJs, oFmt, List.map_cons, List.map_nil, List.length_cons, List.length_nil, List.replicate_succ, List.replicate_zero, List.cons_append, List.nil_append, List.append_nil, List.getElem?_cons_zero, List.getElem?_cons_succ, List.set_cons_zero, List.set_cons_succ, Nat.reduceAdd, Nat.reduceSub, Option.map_some, Option.map_none, if_true, if_false, ite_true, ite_false, Bool.false_eq_true, reduceCtorEq, true_and, and_true, and_self, Bool.not_true, Bool.not_false, Nat.zero_add, Option.bind_some, Option.bind_eq_bind, Option.pure_def, decide_true, decide_false, eq_self, Nat.reduceEqDiff, Nat.reduceLT, Nat.reduceLeDiff, Int.reduceLT, Int.reduceLE, Int.reduceEq, Bool.and_true, Bool.true_and, Bool.false_and, Bool.or_false, Bool.or_true, Bool.true_or, Bool.false_or, sz0, szl0, sz1, szl1, sz2, szl2, sz3, szl3, sz4, szl4, sz5, szl5, sz6, szl6, sz7, szl7, sz8, szl8, sz9, szl9, sz10, szl10, sz11, szl11, sz12, szl12, sz13, szl13, sz14, szl14, sz15, szl15, hi, isS, inW]
    | lst t => simp only [fnM, sSeq, sRet, sRetN, sExpr, sIf, sNil, sNo, sAsg, tgN, bndS, bnd, vVar, vC, f2, f1, fB, pu, fN, vTup, vLst, fTup, fCons, fNil, fPure, fIf, fAnd, fOr, fNot, asB, asT, bAnd, bOr, bNot, fChain, fCall, fCW, gPos, gApp, R.of, R.of2, fM, pu4, tgT, tgCons, tgNil, unp, pureL, sPar, sPar3, fLstC, fFld, oFld, fMeth, insU, sFldS, setFld, fSl, oNone, oSome, tgSub, setU, fIter, fItN, fItS, sFor, getL, getT, VL.getD, keyD, tyB, lstC, oAdd, oSub, oMul, oFdiv, oMod, oPow, oNeg, oLt, oLe, oGt, oGe, oEq, oNe, oIsN, oNotN, oIn, oNotIn, oIx, oLen, oInt, oAbs, oMin, oMax, oStr, oList, oListC, oTuple, oAll, oAny, itemsU, lenN, truB, fJs, oFmt, List.map_cons, List.map_nil, List.length_cons, List.length_nil, List.replicate_succ, List.replicate_zero, List.cons_append, List.nil_append, List.append_nil, List.getElem?_cons_zero, List.getElem?_cons_succ, List.set_cons_zero, List.set_cons_succ, Nat.reduceAdd, Nat.reduceSub, Option.map_some, Option.map_none, if_true, if_false, ite_true, ite_false, Bool.false_eq_true, reduceCtorEq, true_and, and_true, and_self, Bool.not_true, Bool.not_false, Nat.zero_add, Option.bind_some, Option.bind_eq_bind, Option.pure_def, decide_true, decide_false, eq_self, Nat.reduceEqDiff, Nat.reduceLT, Nat.reduceLeDiff, Int.reduceLT, Int.reduceLE, Int.reduceEq, Bool.and_true, Bool.true_and, Bool.false_and, Bool.or_false, Bool.or_true, Bool.true_or, Bool.false_or, sz0, szl0, sz1, szl1, sz2, szl2, sz3, szl3, sz4, szl4, sz5, szl5, sz6, szl6, sz7, szl7, sz8, szl8, sz9, szl9, sz10, szl10, sz11, szl11, sz12, szl12, sz13, szl13, sz14, szl14, sz15, szl15, hi, isS, inW]
    | non => simp only [fnM, sSeq, sRet, sRetN, sExpr, sIf, sNil, sNo, sAsg, tgN, bndS, bnd, vVar, vC, f2, f1, fB, pu, fN, vTup, vLst, fTup, fCons, fNil, fPure, fIf, fAnd, fOr, fNot, asB, asT, bAnd, bOr, bNot, fChain, fCall, fCW, gPos, gApp, R.of, R.of2, fM, pu4, tgT, tgCons, tgNil, unp, pureL, sPar, sPar3, fLstC, fFld, oFld, fMeth, insU, sFldS, setFld, fSl, oNone, oSome, tgSub, setU, fIter, fItN, fItS, sFor, getL, getT, VL.getD, keyD, tyB, lstC, oAdd, oSub, oMul, oFdiv, oMod, oPow, oNeg, oLt, oLe, oGt, oGe, oEq, oNe, oIsN, oNotN, oIn, oNotIn, oIx, oLen, oInt, oAbs, oMin, oMax, oStr, oList, oListC, oTuple, oAll, oAny, itemsU, lenN, truB, fJs, oFmt, List.map_cons, List.map_nil, List.length_cons, List.length_nil, List.replicate_succ, List.replicate_zero, List.cons_append, List.nil_append, List.append_nil, List.getElem?_cons_zero, List.getElem?_cons_succ, List.set_cons_zero, List.set_cons_succ, Nat.reduceAdd, Nat.reduceSub, Option.map_some, Option.map_none, if_true, if_false, ite_true, ite_false, Bool.false_eq_true, reduceCtorEq, true_and, and_true, and_self, Bool.not_true, Bool.not_false, Nat.zero_add, Option.bind_some, Option.bind_eq_bind, Option.pure_def, decide_true, decide_false, eq_self, Nat.reduceEqDiff, Nat.reduceLT, Nat.reduceLeDiff, Int.reduceLT, Int.reduceLE, Int.reduceEq, Bool.and_true, Bool.true_and, Bool.false_and, Bool.or_false, Bool.or_true, Bool.true_or, Bool.false_or, sz0, szl0, sz1, szl1, sz2, szl2, sz3, szl3, sz4, szl4, sz5, szl5, sz6, szl6, sz7, szl7, sz8, szl8, sz9, szl9, sz10, szl10, sz11, szl11, sz12, szl12, sz13, szl13, sz14, szl14, sz15, szl15, hi, isS, inW]
    | zero => simp only [fnM, sSeq, sRet, sRetN, sExpr, sIf, sNil, sNo, sAsg, tgN, bndS, bnd, vVar, vC, f2, f1, fB, pu, fN, vTup, vLst, fTup, fCons, fNil, fPure, fIf, fAnd, fOr, fNot, asB, asT, bAnd, bOr, bNot, fChain, fCall, fCW, gPos, gApp, R.of, R.of2, fM, pu4, tgT, tgCons, tgNil, unp, pureL, sPar, sPar3, fLstC, fFld, oFld, fMeth, insU, sFldS, setFld, fSl, oNone, oSome, tgSub, setU, fIter, fItN, fItS, sFor, getL, getT, VL.getD, keyD, tyB, lstC, oAdd, oSub, oMul, oFdiv, oMod, oPow, oNeg, oLt, oLe, oGt, oGe, oEq, oNe, oIsN, oNotN, oIn, oNotIn, oIx, oLen, oInt, oAbs, oMin, oMax, oStr, oList, oListC, oTuple, oAll, oAny, itemsU, lenN, truB, fJs, oFmt, List.map_cons, List.map_nil, List.length_cons, List.length_nil, List.replicate_succ, List.replicate_zero, List.cons_append, List.nil_append, List.append_nil, List.getElem?_cons_zero, List.getElem?_cons_succ, List.set_cons_zero, List.set_cons_succ, Nat.reduceAdd, Nat.reduceSub, Option.map_some, Option.map_none, if_true, if_false, ite_true, ite_false, Bool.false_eq_true, reduceCtorEq, true_and, and_true, and_self, Bool.not_true, Bool.not_false, Nat.zero_add, Option.bind_some, Option.bind_eq_bind, Option.pure_def, decide_true, decide_false, eq_self, Nat.reduceEqDiff, Nat.reduceLT, Nat.reduceLeDiff, Int.reduceLT, Int.reduceLE, Int.reduceEq, Bool.and_true, Bool.true_and, Bool.false_and, Bool.or_false, Bool.or_true, Bool.true_or, Bool.false_or, sz0, szl0, sz1, szl1, sz2, szl2, sz3, szl3, sz4, szl4, sz5, szl5, sz6, szl6, sz7, szl7, sz8, szl8, sz9, szl9, sz10, szl10, sz11, szl11, sz12, szl12, sz13, szl13, sz14, szl14, sz15, szl15, hi, isS, inW]
    | yes => simp only [fnM, sSeq, sRet, sRetN, sExpr, sIf, sNil, sNo, sAsg, tgN, bndS, bnd, vVar, vC, f2, f1, fB, pu, fN, vTup, vLst, fTup, fCons, fNil, fPure, fIf, fAnd, fOr, fNot, asB, asT, bAnd, bOr, bNot, fChain, fCall, fCW, gPos, gApp, R.of, R.of2, fM, pu4, tgT, tgCons, tgNil, unp, pureL, sPar, sPar3, fLstC, fFld, oFld, fMeth, insU, sFldS, setFld, fSl, oNone, oSome, tgSub, setU, fIter, fItN, fItS, sFor, getL, getT, VL.getD, keyD, tyB, lstC, oAdd, oSub, oMul, oFdiv, oMod, oPow, oNeg, oLt, oLe, oGt, oGe, oEq, oNe, oIsN, oNotN, oIn, oNotIn, oIx, oLen, oInt, oAbs, oMin, oMax, oStr, oList, oListC, oTuple, oAll, oAny, itemsU, lenN, truB, fJs, oFmt, List.map_cons, List.map_nil, List.length_cons, List.length_nil, List.replicate_succ, List.replicate_zero, List.cons_append, List.nil_append, List.append_nil, List.getElem?_cons_zero, List.getElem?_cons_succ, List.set_cons_zero, List.set_cons_succ, Nat.reduceAdd, Nat.reduceSub, Option.map_some, Option.map_none, if_true, if_false, ite_true, ite_false, Bool.false_eq_true, reduceCtorEq, true_and, and_true, and_self, Bool.not_true, Bool.not_false, Nat.zero_add, Option.bind_some, Option.bind_eq_bind, Option.pure_def, decide_true, decide_false, eq_self, Nat.reduceEqDiff, Nat.reduceLT, Nat.reduceLeDiff, Int.reduceLT, Int.reduceLE, Int.reduceEq, Bool.and_true, Bool.true_and, Bool.false_and, Bool.or_false, Bool.or_true, Bool.true_or, Bool.false_or, sz0, szl0, sz1, szl1, sz2, szl2, sz3, szl3, sz4, szl4, sz5, szl5, sz6, szl6, sz7, szl7, sz8, szl8, sz9, szl9, sz10, szl10, sz11, szl11, sz12, szl12, sz13, szl13, sz14, szl14, sz15, szl15, hi, isS, inW]
  have eA : ∀ (x4 x5 x6 : Option U), x4 = none → x5 = none → x6 = none → sAsg (fAnd (fB (pu (oIsi K a.own)) (fCons (vVar 1) (fCons (vC (.ty "str")) fNil))) (f2 oInD (vVar 1) (vVar 2))) (tgN 4) [some (.d (fileD a s (partsL .non 0 ls) ds (kvD ss))), some (.d x), some (.ref d), some (.d (.lst (sD (headsL ls)))), x4, x5, x6] st = .ok [some (.d (fileD a s (partsL .non 0 ls) ds (kvD ss))), some (.d x), some (.ref d), some (.d (.lst (sD (headsL ls)))), some (.d (.bl (inW ss x))), none, none] .nx st := fun x4 x5 x6 h4 h5 h6 => by
    subst h4; subst h5; subst h6
    unfold sAsg
    rw [show bndS _ _ _ _ = _ from by unfold bndS; rw [ht']]
    rfl
  have eV : ∀ (x4 x5 x6 : Option U), fLam a.tabs (mt_L_law_raised K a) (fMeth a.C_SettingsFile "value" 1 0 gPos (m_SettingsFile_value K a) (vVar 0) (fCW (fCons (vVar 1) fNil) fNil)) [some (.d (fileD a s (partsL .non 0 ls) ds (kvD ss))), some (.d x), some (.ref d), some (.d (.lst (sD (headsL ls)))), x4, x5, x6] st = .ok (.d (if inW ss x = true then .non else .tup [x])) st := fun x4 x5 x6 => by
    rw [lam_eq ht]
    cases q : inW ss x with
    | true =>
      cases t with
      | @str p t =>
        obtain ⟨v, hf⟩ := has_find (show hasP ss p = true from q)
        have ev := ev_value_ok (K := K) (a := a) (s := s) (ds := ds) h f t hf
        exact told_none (u := .d (.str v)) (by unfold fileD at ev ⊢; simp only [fnM, sSeq, sRet, sRetN, sExpr, sIf, sNil, sNo, sAsg, tgN, bndS, bnd, vVar, vC, f2, f1, fB, pu, fN, vTup, vLst, fTup, fCons, fNil, fPure, fIf, fAnd, fOr, fNot, asB, asT, bAnd, bOr, bNot, fChain, fCall, fCW, gPos, gApp, R.of, R.of2, fM, pu4, tgT, tgCons, tgNil, unp, pureL, sPar, sPar3, fLstC, fFld, oFld, fMeth, insU, sFldS, setFld, fSl, oNone, oSome, tgSub, setU, fIter, fItN, fItS, sFor, getL, getT, VL.getD, keyD, tyB, lstC, oAdd, oSub, oMul, oFdiv, oMod, oPow, oNeg, oLt, oLe, oGt, oGe, oEq, oNe, oIsN, oNotN, oIn, oNotIn, oIx, oLen, oInt, oAbs, oMin, oMax, oStr, oList, oListC, oTuple, oAll, oAny, itemsU, lenN, truB, fJs, oFmt, List.map_cons, List.map_nil, List.length_cons, List.length_nil, List.replicate_succ, List.replicate_zero, List.cons_append, List.nil_append, List.append_nil, List.getElem?_cons_zero, List.getElem?_cons_succ, List.set_cons_zero, List.set_cons_succ, Nat.reduceAdd, Nat.reduceSub, Option.map_some, Option.map_none, if_true, if_false, ite_true, ite_false, Bool.false_eq_true, reduceCtorEq, true_and, and_true, and_self, Bool.not_true, Bool.not_false, Nat.zero_add, Option.bind_some, Option.bind_eq_bind, Option.pure_def, decide_true, decide_false, eq_self, Nat.reduceEqDiff, Nat.reduceLT, Nat.reduceLeDiff, Int.reduceLT, Int.reduceLE, Int.reduceEq, Bool.and_true, Bool.true_and, Bool.false_and, Bool.or_false, Bool.or_true, Bool.true_or, Bool.false_or, sz0, szl0, sz1, szl1, sz2, szl2, sz3, szl3, sz4, szl4, sz5, szl5, sz6, szl6, sz7, szl7, sz8, szl8, sz9, szl9, sz10, szl10, sz11, szl11, sz12, szl12, sz13, szl13, sz14, szl14, sz15, szl15, lu_val, ev])
      | tup t => cases q
      | lst t => cases q
      | non => cases q
      | zero => cases q
      | yes => cases q
    | false =>
      have ev := ev_value_ex (K := K) (a := a) (s := s) (ds := ds) h f t q
      rw [if_neg Bool.false_ne_true]
      exact told_ex kx (by unfold fileD at ev ⊢; simp only [fnM, sSeq, sRet, sRetN, sExpr, sIf, sNil, sNo, sAsg, tgN, bndS, bnd, vVar, vC, f2, f1, fB, pu, fN, vTup, vLst, fTup, fCons, fNil, fPure, fIf, fAnd, fOr, fNot, asB, asT, bAnd, bOr, bNot, fChain, fCall, fCW, gPos, gApp, R.of, R.of2, fM, pu4, tgT, tgCons, tgNil, unp, pureL, sPar, sPar3, fLstC, fFld, oFld, fMeth, insU, sFldS, setFld, fSl, oNone, oSome, tgSub, setU, fIter, fItN, fItS, sFor, getL, getT, VL.getD, keyD, tyB, lstC, oAdd, oSub, oMul, oFdiv, oMod, oPow, oNeg, oLt, oLe, oGt, oGe, oEq, oNe, oIsN, oNotN, oIn, oNotIn, oIx, oLen, oInt, oAbs, oMin, oMax, oStr, oList, oListC, oTuple, oAll, oAny, itemsU, lenN, truB, fJs, oFmt, List.map_cons, List.map_nil, List.length_cons, List.length_nil, List.replicate_succ, List.replicate_zero, List.cons_append, List.nil_append, List.append_nil, List.getElem?_cons_zero, List.getElem?_cons_succ, List.set_cons_zero, List.set_cons_succ, Nat.reduceAdd, Nat.reduceSub, Option.map_some, Option.map_none, if_true, if_false, ite_true, ite_false, Bool.false_eq_true, reduceCtorEq, true_and, and_true, and_self, Bool.not_true, Bool.not_false, Nat.zero_add, Option.bind_some, Option.bind_eq_bind, Option.pure_def, decide_true, decide_false, eq_self, Nat.reduceEqDiff, Nat.reduceLT, Nat.reduceLeDiff, Int.reduceLT, Int.reduceLE, Int.reduceEq, Bool.and_true, Bool.true_and, Bool.false_and, Bool.or_false, Bool.or_true, Bool.true_or, Bool.false_or, sz0, szl0, sz1, szl1, sz2, szl2, sz3, szl3, sz4, szl4, sz5, szl5, sz6, szl6, sz7, szl7, sz8, szl8, sz9, szl9, sz10, szl10, sz11, szl11, sz12, szl12, sz13, szl13, sz14, szl14, sz15, szl15, lu_val, ev])
  have eB : ∀ (x4 x5 x6 : Option U), fLam a.tabs (mt_L_law_raised K a) (fMeth a.C_SettingsFile "block" 1 0 gPos (m_SettingsFile_block K a) (vVar 0) (fCW (fCons (vVar 1) fNil) fNil)) [some (.d (fileD a s (partsL .non 0 ls) ds (kvD ss))), some (.d x), some (.ref d), some (.d (.lst (sD (headsL ls)))), x4, x5, x6] st = .ok (.d (if (inH (headsL ls) x || inW ss x) = true then .non else .tup [x])) st := fun x4 x5 x6 => by
    rw [lam_eq ht]
    cases q : (inH (headsL ls) x || inW ss x) with
    | true =>
      cases t with
      | @str p t =>
        obtain ⟨r, ev⟩ := ev_block_ok (K := K) (a := a) (s := s) (ds := ds) h f q
        exact told_none (u := .d (.lst r)) (by unfold fileD at ev ⊢; simp only [fnM, sSeq, sRet, sRetN, sExpr, sIf, sNil, sNo, sAsg, tgN, bndS, bnd, vVar, vC, f2, f1, fB, pu, fN, vTup, vLst, fTup, fCons, fNil, fPure, fIf, fAnd, fOr, fNot, asB, asT, bAnd, bOr, bNot, fChain, fCall, fCW, gPos, gApp, R.of, R.of2, fM, pu4, tgT, tgCons, tgNil, unp, pureL, sPar, sPar3, fLstC, fFld, oFld, fMeth, insU, sFldS, setFld, fSl, oNone, oSome, tgSub, setU, fIter, fItN, fItS, sFor, getL, getT, VL.getD, keyD, tyB, lstC, oAdd, oSub, oMul, oFdiv, oMod, oPow, oNeg, oLt, oLe, oGt, oGe, oEq, oNe, oIsN, oNotN, oIn, oNotIn, oIx, oLen, oInt, oAbs, oMin, oMax, oStr, oList, oListC, oTuple, oAll, oAny, itemsU, lenN, truB, fJs, oFmt, List.map_cons, List.map_nil, List.length_cons, List.length_nil, List.replicate_succ, List.replicate_zero, List.cons_append, List.nil_append, List.append_nil, List.getElem?_cons_zero, List.getElem?_cons_succ, List.set_cons_zero, List.set_cons_succ, Nat.reduceAdd, Nat.reduceSub, Option.map_some, Option.map_none, if_true, if_false, ite_true, ite_false, Bool.false_eq_true, reduceCtorEq, true_and, and_true, and_self, Bool.not_true, Bool.not_false, Nat.zero_add, Option.bind_some, Option.bind_eq_bind, Option.pure_def, decide_true, decide_false, eq_self, Nat.reduceEqDiff, Nat.reduceLT, Nat.reduceLeDiff, Int.reduceLT, Int.reduceLE, Int.reduceEq, Bool.and_true, Bool.true_and, Bool.false_and, Bool.or_false, Bool.or_true, Bool.true_or, Bool.false_or, sz0, szl0, sz1, szl1, sz2, szl2, sz3, szl3, sz4, szl4, sz5, szl5, sz6, szl6, sz7, szl7, sz8, szl8, sz9, szl9, sz10, szl10, sz11, szl11, sz12, szl12, sz13, szl13, sz14, szl14, sz15, szl15, lu_blk, ev])
      | tup t => cases q
      | lst t => cases q
      | non => cases q
      | zero => cases q
      | yes => cases q
    | false =>
      have ev := ev_block_ex (K := K) (a := a) (s := s) (ds := ds) h f t q
      rw [if_neg Bool.false_ne_true]
      exact told_ex kx (by unfold fileD at ev ⊢; simp only [fnM, sSeq, sRet, sRetN, sExpr, sIf, sNil, sNo, sAsg, tgN, bndS, bnd, vVar, vC, f2, f1, fB, pu, fN, vTup, vLst, fTup, fCons, fNil, fPure, fIf, fAnd, fOr, fNot, asB, asT, bAnd, bOr, bNot, fChain, fCall, fCW, gPos, gApp, R.of, R.of2, fM, pu4, tgT, tgCons, tgNil, unp, pureL, sPar, sPar3, fLstC, fFld, oFld, fMeth, insU, sFldS, setFld, fSl, oNone, oSome, tgSub, setU, fIter, fItN, fItS, sFor, getL, getT, VL.getD, keyD, tyB, lstC, oAdd, oSub, oMul, oFdiv, oMod, oPow, oNeg, oLt, oLe, oGt, oGe, oEq, oNe, oIsN, oNotN, oIn, oNotIn, oIx, oLen, oInt, oAbs, oMin, oMax, oStr, oList, oListC, oTuple, oAll, oAny, itemsU, lenN, truB, fJs, oFmt, List.map_cons, List.map_nil, List.length_cons, List.length_nil, List.replicate_succ, List.replicate_zero, List.cons_append, List.nil_append, List.append_nil, List.getElem?_cons_zero, List.getElem?_cons_succ, List.set_cons_zero, List.set_cons_succ, Nat.reduceAdd, Nat.reduceSub, Option.map_some, Option.map_none, if_true, if_false, ite_true, ite_false, Bool.false_eq_true, reduceCtorEq, true_and, and_true, and_self, Bool.not_true, Bool.not_false, Nat.zero_add, Option.bind_some, Option.bind_eq_bind, Option.pure_def, decide_true, decide_false, eq_self, Nat.reduceEqDiff, Nat.reduceLT, Nat.reduceLeDiff, Int.reduceLT, Int.reduceLE, Int.reduceEq, Bool.and_true, Bool.true_and, Bool.false_and, Bool.or_false, Bool.or_true, Bool.true_or, Bool.false_or, sz0, szl0, sz1, szl1, sz2, szl2, sz3, szl3, sz4, szl4, sz5, szl5, sz6, szl6, sz7, szl7, sz8, szl8, sz9, szl9, sz10, szl10, sz11, szl11, sz12, szl12, sz13, szl13, sz14, szl14, sz15, szl15, lu_blk, ev])
  have eC : f2s (inO (fun k => k) a.C_SettingsFile (m_SettingsFile___contains__ K a)) (vVar 1) (vVar 0) = f2s (inO (fun k => k) a.C_SettingsFile (m_SettingsFile___contains__ K a)) (vVar 1) (vVar 0) := rfl
  have hH : ∀ {p : Str}, Sg 40 p → inB st (.d (.str p)) (.d (.lst (sD (headsL ls)))) = some (inH (headsL ls) (.str p)) := fun t => inB_strs (strOk_of t) hh
  unfold m_L_law_is_right g_L_law_is_right
  generalize hLV : fLam a.tabs (mt_L_law_raised K a) (fMeth a.C_SettingsFile "value" 1 0 gPos (m_SettingsFile_value K a) (vVar 0) (fCW (fCons (vVar 1) fNil) fNil)) = LV at eV ⊢
  generalize hLB : fLam a.tabs (mt_L_law_raised K a) (fMeth a.C_SettingsFile "block" 1 0 gPos (m_SettingsFile_block K a) (vVar 0) (fCW (fCons (vVar 1) fNil) fNil)) = LB at eB ⊢
  clear hLV hLB
  cases q : inW ss x with
  | true =>
    rw [q, if_pos rfl] at eV
    have q2 : (inH (headsL ls) x || inW ss x) = true := by rw [q, Bool.or_true]
    rw [q2, if_pos rfl] at eB
    rw [q] at ec eA
    cases t with
    | @str p t =>
      obtain ⟨v, hf⟩ := has_find (show hasP ss p = true from q)
      have ev := ev_value_ok (K := K) (a := a) (s := s) (ds := ds) h f t hf
      obtain ⟨rr, eb⟩ := ev_block_ok (K := K) (a := a) (s := s) (ds := ds) h f q2
      have l := lookK_kv ss p
      rw [hf, Option.map_some] at l
      have eT : eqB st (.d (.bl true)) (.d (.bl true)) = some true := by simp [eqB]
      have hvv : PyData.strOk v = true := hv (p, v) (List.mem_of_find?_eq_some hf)
      have ee := eqB_strs (st := st) (xs := [v, v]) fun z hz => by
        rcases List.mem_cons.mp hz with rfl | hz
        · exact hvv
        · rw [List.mem_singleton] at hz; subst hz; exact hvv
      rw [show sD [v, v] = [D.str v, D.str v] from rfl] at ee
      have eA := eA none none none rfl rfl rfl
      simp only [fnM, List.map_cons, List.map_nil, List.length_cons, List.length_nil, Nat.reduceAdd, Nat.reduceSub, List.replicate_succ, List.replicate_zero, List.cons_append, List.nil_append]
      rw [sSeq, eA]
      unfold fileD at ec ev eb eV eB ⊢
      simp only [fnM, sSeq, sRet, sRetN, sExpr, sIf, sNil, sNo, sAsg, tgN, bndS, bnd, vVar, vC, f2, f1, fB, pu, fN, vTup, vLst, fTup, fCons, fNil, fPure, fIf, fAnd, fOr, fNot, asB, asT, bAnd, bOr, bNot, fChain, fCall, fCW, gPos, gApp, R.of, R.of2, fM, pu4, tgT, tgCons, tgNil, unp, pureL, sPar, sPar3, fLstC, fFld, oFld, fMeth, insU, sFldS, setFld, fSl, oNone, oSome, tgSub, setU, fIter, fItN, fItS, sFor, getL, getT, VL.getD, keyD, tyB, lstC, oAdd, oSub, oMul, oFdiv, oMod, oPow, oNeg, oLt, oLe, oGt, oGe, oEq, oNe, oIsN, oNotN, oIn, oNotIn, oIx, oLen, oInt, oAbs, oMin, oMax, oStr, oList, oListC, oTuple, oAll, oAny, itemsU, lenN, truB, fJs, oFmt, List.map_cons, List.map_nil, List.length_cons, List.length_nil, List.replicate_succ, List.replicate_zero, List.cons_append, List.nil_append, List.append_nil, List.getElem?_cons_zero, List.getElem?_cons_succ, List.set_cons_zero, List.set_cons_succ, Nat.reduceAdd, Nat.reduceSub, Option.map_some, Option.map_none, if_true, if_false, ite_true, ite_false, Bool.false_eq_true, reduceCtorEq, true_and, and_true, and_self, Bool.not_true, Bool.not_false, Nat.zero_add, Option.bind_some, Option.bind_eq_bind, Option.pure_def, decide_true, decide_false, eq_self, Nat.reduceEqDiff, Nat.reduceLT, Nat.reduceLeDiff, Int.reduceLT, Int.reduceLE, Int.reduceEq, Bool.and_true, Bool.true_and, Bool.false_and, Bool.or_false, Bool.or_true, Bool.true_or, Bool.false_or, sz0, szl0, sz1, szl1, sz2, szl2, sz3, szl3, sz4, szl4, sz5, szl5, sz6, szl6, sz7, szl7, sz8, szl8, sz9, szl9, sz10, szl10, sz11, szl11, sz12, szl12, sz13, szl13, sz14, szl14, sz15, szl15, eV, f2s, inO, ec, lu_val, lu_blk, ev, eb, hd, l, ee, eB, eT, oIsi, tyN, isi_ll, wFrz_d h]
    | tup t => cases q
    | lst t => cases q
    | non => cases q
    | zero => cases q
    | yes => cases q
  | false =>
    rw [q, if_neg Bool.false_ne_true] at eV
    rw [q, Bool.or_false] at eB
    rw [q] at ec eA
    have eA := eA none none none rfl rfl rfl
    simp only [fnM, List.map_cons, List.map_nil, List.length_cons, List.length_nil, Nat.reduceAdd, Nat.reduceSub, List.replicate_succ, List.replicate_zero, List.cons_append, List.nil_append]
    rw [sSeq, eA]
    cases q2 : inH (headsL ls) x with
    | true =>
      rw [q2, if_pos rfl] at eB
      cases t with
      | @str p t =>
        have hp := hH t
        rw [q2] at hp
        obtain ⟨rr, eb⟩ := ev_block_ok (K := K) (a := a) (s := s) (ds := ds) h f (p := p) (by rw [q2]; rfl)
        unfold fileD at ec eb eV eB ⊢
        simp only [fnM, sSeq, sRet, sRetN, sExpr, sIf, sNil, sNo, sAsg, tgN, bndS, bnd, vVar, vC, f2, f1, fB, pu, fN, vTup, vLst, fTup, fCons, fNil, fPure, fIf, fAnd, fOr, fNot, asB, asT, bAnd, bOr, bNot, fChain, fCall, fCW, gPos, gApp, R.of, R.of2, fM, pu4, tgT, tgCons, tgNil, unp, pureL, sPar, sPar3, fLstC, fFld, oFld, fMeth, insU, sFldS, setFld, fSl, oNone, oSome, tgSub, setU, fIter, fItN, fItS, sFor, getL, getT, VL.getD, keyD, tyB, lstC, oAdd, oSub, oMul, oFdiv, oMod, oPow, oNeg, oLt, oLe, oGt, oGe, oEq, oNe, oIsN, oNotN, oIn, oNotIn, oIx, oLen, oInt, oAbs, oMin, oMax, oStr, oList, oListC, oTuple, oAll, oAny, itemsU, lenN, truB, fJs, oFmt, List.map_cons, List.map_nil, List.length_cons, List.length_nil, List.replicate_succ, List.replicate_zero, List.cons_append, List.nil_append, List.append_nil, List.getElem?_cons_zero, List.getElem?_cons_succ, List.set_cons_zero, List.set_cons_succ, Nat.reduceAdd, Nat.reduceSub, Option.map_some, Option.map_none, if_true, if_false, ite_true, ite_false, Bool.false_eq_true, reduceCtorEq, true_and, and_true, and_self, Bool.not_true, Bool.not_false, Nat.zero_add, Option.bind_some, Option.bind_eq_bind, Option.pure_def, decide_true, decide_false, eq_self, Nat.reduceEqDiff, Nat.reduceLT, Nat.reduceLeDiff, Int.reduceLT, Int.reduceLE, Int.reduceEq, Bool.and_true, Bool.true_and, Bool.false_and, Bool.or_false, Bool.or_true, Bool.true_or, Bool.false_or, sz0, szl0, sz1, szl1, sz2, szl2, sz3, szl3, sz4, szl4, sz5, szl5, sz6, szl6, sz7, szl7, sz8, szl8, sz9, szl9, sz10, szl10, sz11, szl11, sz12, szl12, sz13, szl13, sz14, szl14, sz15, szl15, eV, f2s, inO, ec, lu_val, lu_blk, eb, eB, hr, hi, isS, hp, eqB, oIsi, tyN, isi_ll, isi_str, wFrz_d h]
      | tup t => cases q2
      | lst t => cases q2
      | non => cases q2
      | zero => cases q2
      | yes => cases q2
    | false =>
      rw [q2, if_neg Bool.false_ne_true] at eB
      cases t with
      | @str p t =>
        have hp := hH t
        rw [q2] at hp
        unfold fileD at ec eV eB ⊢
        simp only [fnM, sSeq, sRet, sRetN, sExpr, sIf, sNil, sNo, sAsg, tgN, bndS, bnd, vVar, vC, f2, f1, fB, pu, fN, vTup, vLst, fTup, fCons, fNil, fPure, fIf, fAnd, fOr, fNot, asB, asT, bAnd, bOr, bNot, fChain, fCall, fCW, gPos, gApp, R.of, R.of2, fM, pu4, tgT, tgCons, tgNil, unp, pureL, sPar, sPar3, fLstC, fFld, oFld, fMeth, insU, sFldS, setFld, fSl, oNone, oSome, tgSub, setU, fIter, fItN, fItS, sFor, getL, getT, VL.getD, keyD, tyB, lstC, oAdd, oSub, oMul, oFdiv, oMod, oPow, oNeg, oLt, oLe, oGt, oGe, oEq, oNe, oIsN, oNotN, oIn, oNotIn, oIx, oLen, oInt, oAbs, oMin, oMax, oStr, oList, oListC, oTuple, oAll, oAny, itemsU, lenN, truB, fJs, oFmt, List.map_cons, List.map_nil, List.length_cons, List.length_nil, List.replicate_succ, List.replicate_zero, List.cons_append, List.nil_append, List.append_nil, List.getElem?_cons_zero, List.getElem?_cons_succ, List.set_cons_zero, List.set_cons_succ, Nat.reduceAdd, Nat.reduceSub, Option.map_some, Option.map_none, if_true, if_false, ite_true, ite_false, Bool.false_eq_true, reduceCtorEq, true_and, and_true, and_self, Bool.not_true, Bool.not_false, Nat.zero_add, Option.bind_some, Option.bind_eq_bind, Option.pure_def, decide_true, decide_false, eq_self, Nat.reduceEqDiff, Nat.reduceLT, Nat.reduceLeDiff, Int.reduceLT, Int.reduceLE, Int.reduceEq, Bool.and_true, Bool.true_and, Bool.false_and, Bool.or_false, Bool.or_true, Bool.true_or, Bool.false_or, sz0, szl0, sz1, szl1, sz2, szl2, sz3, szl3, sz4, szl4, sz5, szl5, sz6, szl6, sz7, szl7, sz8, szl8, sz9, szl9, sz10, szl10, sz11, szl11, sz12, szl12, sz13, szl13, sz14, szl14, sz15, szl15, eV, f2s, inO, ec, lu_val, lu_blk, eB, hr, hi, isS, hp, eqB, wFrz_d h]
      | tup t => unfold fileD at ec eV eB ⊢; simp only [fnM, sSeq, sRet, sRetN, sExpr, sIf, sNil, sNo, sAsg, tgN, bndS, bnd, vVar, vC, f2, f1, fB, pu, fN, vTup, vLst, fTup, fCons, fNil, fPure, fIf, fAnd, fOr, fNot, asB, asT, bAnd, bOr, bNot, fChain, fCall, fCW, gPos, gApp, R.of, R.of2, fM, pu4, tgT, tgCons, tgNil, unp, pureL, sPar, sPar3, fLstC, fFld, oFld, fMeth, insU, sFldS, setFld, fSl, oNone, oSome, tgSub, setU, fIter, fItN, fItS, sFor, getL, getT, VL.getD, keyD, tyB, lstC, oAdd, oSub, oMul, oFdiv, oMod, oPow, oNeg, oLt, oLe, oGt, oGe, oEq, oNe, oIsN, oNotN, oIn, oNotIn, oIx, oLen, oInt, oAbs, oMin, oMax, oStr, oList, oListC, oTuple, oAll, oAny, itemsU, lenN, truB, fJs, oFmt, List.map_cons, List.map_nil, List.length_cons, List.length_nil, List.replicate_succ, List.replicate_zero, List.cons_append, List.nil_append, List.append_nil, List.getElem?_cons_zero, List.getElem?_cons_succ, List.set_cons_zero, List.set_cons_succ, Nat.reduceAdd, Nat.reduceSub, Option.map_some, Option.map_none, if_true, if_false, ite_true, ite_false, Bool.false_eq_true, reduceCtorEq, true_and, and_true, and_self, Bool.not_true, Bool.not_false, Nat.zero_add, Option.bind_some, Option.bind_eq_bind, Option.pure_def, decide_true, decide_false, eq_self, Nat.reduceEqDiff, Nat.reduceLT, Nat.reduceLeDiff, Int.reduceLT, Int.reduceLE, Int.reduceEq, Bool.and_true, Bool.true_and, Bool.false_and, Bool.or_false, Bool.or_true, Bool.true_or, Bool.false_or, sz0, szl0, sz1, szl1, sz2, szl2, sz3, szl3, sz4, szl4, sz5, szl5, sz6, szl6, sz7, szl7, sz8, szl8, sz9, szl9, sz10, szl10, sz11, szl11, sz12, szl12, sz13, szl13, sz14, szl14, sz15, szl15, eV, f2s, inO, ec, lu_val, lu_blk, eB, hr, hi, isS, eqB, wFrz_d h]
      | lst t => unfold fileD at ec eV eB ⊢; simp only [fnM, sSeq, sRet, sRetN, sExpr, sIf, sNil, sNo, sAsg, tgN, bndS, bnd, vVar, vC, f2, f1, fB, pu, fN, vTup, vLst, fTup, fCons, fNil, fPure, fIf, fAnd, fOr, fNot, asB, asT, bAnd, bOr, bNot, fChain, fCall, fCW, gPos, gApp, R.of, R.of2, fM, pu4, tgT, tgCons, tgNil, unp, pureL, sPar, sPar3, fLstC, fFld, oFld, fMeth, insU, sFldS, setFld, fSl, oNone, oSome, tgSub, setU, fIter, fItN, fItS, sFor, getL, getT, VL.getD, keyD, tyB, lstC, oAdd, oSub, oMul, oFdiv, oMod, oPow, oNeg, oLt, oLe, oGt, oGe, oEq, oNe, oIsN, oNotN, oIn, oNotIn, oIx, oLen, oInt, oAbs, oMin, oMax, oStr, oList, oListC, oTuple, oAll, oAny, itemsU, lenN, truB, fJs, oFmt, List.map_cons, List.map_nil, List.length_cons, List.length_nil, List.replicate_succ, List.replicate_zero, List.cons_append, List.nil_append, List.append_nil, List.getElem?_cons_zero, List.getElem?_cons_succ, List.set_cons_zero, List.set_cons_succ, Nat.reduceAdd, Nat.reduceSub, Option.map_some, Option.map_none, if_true, if_false, ite_true, ite_false, Bool.false_eq_true, reduceCtorEq, true_and, and_true, and_self, Bool.not_true, Bool.not_false, Nat.zero_add, Option.bind_some, Option.bind_eq_bind, Option.pure_def, decide_true, decide_false, eq_self, Nat.reduceEqDiff, Nat.reduceLT, Nat.reduceLeDiff, Int.reduceLT, Int.reduceLE, Int.reduceEq, Bool.and_true, Bool.true_and, Bool.false_and, Bool.or_false, Bool.or_true, Bool.true_or, Bool.false_or, sz0, szl0, sz1, szl1, sz2, szl2, sz3, szl3, sz4, szl4, sz5, szl5, sz6, szl6, sz7, szl7, sz8, szl8, sz9, szl9, sz10, szl10, sz11, szl11, sz12, szl12, sz13, szl13, sz14, szl14, sz15, szl15, eV, f2s, inO, ec, lu_val, lu_blk, eB, hr, hi, isS, eqB, wFrz_d h]
      | non => unfold fileD at ec eV eB ⊢; simp only [fnM, sSeq, sRet, sRetN, sExpr, sIf, sNil, sNo, sAsg, tgN, bndS, bnd, vVar, vC, f2, f1, fB, pu, fN, vTup, vLst, fTup, fCons, fNil, fPure, fIf, fAnd, fOr, fNot, asB, asT, bAnd, bOr, bNot, fChain, fCall, fCW, gPos, gApp, R.of, R.of2, fM, pu4, tgT, tgCons, tgNil, unp, pureL, sPar, sPar3, fLstC, fFld, oFld, fMeth, insU, sFldS, setFld, fSl, oNone, oSome, tgSub, setU, fIter, fItN, fItS, sFor, getL, getT, VL.getD, keyD, tyB, lstC, oAdd, oSub, oMul, oFdiv, oMod, oPow, oNeg, oLt, oLe, oGt, oGe, oEq, oNe, oIsN, oNotN, oIn, oNotIn, oIx, oLen, oInt, oAbs, oMin, oMax, oStr, oList, oListC, oTuple, oAll, oAny, itemsU, lenN, truB, fJs, oFmt, List.map_cons, List.map_nil, List.length_cons, List.length_nil, List.replicate_succ, List.replicate_zero, List.cons_append, List.nil_append, List.append_nil, List.getElem?_cons_zero, List.getElem?_cons_succ, List.set_cons_zero, List.set_cons_succ, Nat.reduceAdd, Nat.reduceSub, Option.map_some, Option.map_none, if_true, if_false, ite_true, ite_false, Bool.false_eq_true, reduceCtorEq, true_and, and_true, and_self, Bool.not_true, Bool.not_false, Nat.zero_add, Option.bind_some, Option.bind_eq_bind, Option.pure_def, decide_true, decide_false, eq_self, Nat.reduceEqDiff, Nat.reduceLT, Nat.reduceLeDiff, Int.reduceLT, Int.reduceLE, Int.reduceEq, Bool.and_true, Bool.true_and, Bool.false_and, Bool.or_false, Bool.or_true, Bool.true_or, Bool.false_or, sz0, szl0, sz1, szl1, sz2, szl2, sz3, szl3, sz4, szl4, sz5, szl5, sz6, szl6, sz7, szl7, sz8, szl8, sz9, szl9, sz10, szl10, sz11, szl11, sz12, szl12, sz13, szl13, sz14, szl14, sz15, szl15, eV, f2s, inO, ec, lu_val, lu_blk, eB, hr, hi, isS, eqB, wFrz_d h]
      | zero => unfold fileD at ec eV eB ⊢; simp only [fnM, sSeq, sRet, sRetN, sExpr, sIf, sNil, sNo, sAsg, tgN, bndS, bnd, vVar, vC, f2, f1, fB, pu, fN, vTup, vLst, fTup, fCons, fNil, fPure, fIf, fAnd, fOr, fNot, asB, asT, bAnd, bOr, bNot, fChain, fCall, fCW, gPos, gApp, R.of, R.of2, fM, pu4, tgT, tgCons, tgNil, unp, pureL, sPar, sPar3, fLstC, fFld, oFld, fMeth, insU, sFldS, setFld, fSl, oNone, oSome, tgSub, setU, fIter, fItN, fItS, sFor, getL, getT, VL.getD, keyD, tyB, lstC, oAdd, oSub, oMul, oFdiv, oMod, oPow, oNeg, oLt, oLe, oGt, oGe, oEq, oNe, oIsN, oNotN, oIn, oNotIn, oIx, oLen, oInt, oAbs, oMin, oMax, oStr, oList, oListC, oTuple, oAll, oAny, itemsU, lenN, truB, fJs, oFmt, List.map_cons, List.map_nil, List.length_cons, List.length_nil, List.replicate_succ, List.replicate_zero, List.cons_append, List.nil_append, List.append_nil, List.getElem?_cons_zero, List.getElem?_cons_succ, List.set_cons_zero, List.set_cons_succ, Nat.reduceAdd, Nat.reduceSub, Option.map_some, Option.map_none, if_true, if_false, ite_true, ite_false, Bool.false_eq_true, reduceCtorEq, true_and, and_true, and_self, Bool.not_true, Bool.not_false, Nat.zero_add, Option.bind_some, Option.bind_eq_bind, Option.pure_def, decide_true, decide_false, eq_self, Nat.reduceEqDiff, Nat.reduceLT, Nat.reduceLeDiff, Int.reduceLT, Int.reduceLE, Int.reduceEq, Bool.and_true, Bool.true_and, Bool.false_and, Bool.or_false, Bool.or_true, Bool.true_or, Bool.false_or, sz0, szl0, sz1, szl1, sz2, szl2, sz3, szl3, sz4, szl4, sz5, szl5, sz6, szl6, sz7, szl7, sz8, szl8, sz9, szl9, sz10, szl10, sz11, szl11, sz12, szl12, sz13, szl13, sz14, szl14, sz15, szl15, eV, f2s, inO, ec, lu_val, lu_blk, eB, hr, hi, isS, eqB, wFrz_d h]
      | yes => unfold fileD at ec eV eB ⊢; simp only [fnM, sSeq, sRet, sRetN, sExpr, sIf, sNil, sNo, sAsg, tgN, bndS, bnd, vVar, vC, f2, f1, fB, pu, fN, vTup, vLst, fTup, fCons, fNil, fPure, fIf, fAnd, fOr, fNot, asB, asT, bAnd, bOr, bNot, fChain, fCall, fCW, gPos, gApp, R.of, R.of2, fM, pu4, tgT, tgCons, tgNil, unp, pureL, sPar, sPar3, fLstC, fFld, oFld, fMeth, insU, sFldS, setFld, fSl, oNone, oSome, tgSub, setU, fIter, fItN, fItS, sFor, getL, getT, VL.getD, keyD, tyB, lstC, oAdd, oSub, oMul, oFdiv, oMod, oPow, oNeg, oLt, oLe, oGt, oGe, oEq, oNe, oIsN, oNotN, oIn, oNotIn, oIx, oLen, oInt, oAbs, oMin, oMax, oStr, oList, oListC, oTuple, oAll, oAny, itemsU, lenN, truB, fJs, oFmt, List.map_cons, List.map_nil, List.length_cons, List.length_nil, List.replicate_succ, List.replicate_zero, List.cons_append, List.nil_append, List.append_nil, List.getElem?_cons_zero, List.getElem?_cons_succ, List.set_cons_zero, List.set_cons_succ, Nat.reduceAdd, Nat.reduceSub, Option.map_some, Option.map_none, if_true, if_false, ite_true, ite_false, Bool.false_eq_true, reduceCtorEq, true_and, and_true, and_self, Bool.not_true, Bool.not_false, Nat.zero_add, Option.bind_some, Option.bind_eq_bind, Option.pure_def, decide_true, decide_false, eq_self, Nat.reduceEqDiff, Nat.reduceLT, Nat.reduceLeDiff, Int.reduceLT, Int.reduceLE, Int.reduceEq, Bool.and_true, Bool.true_and, Bool.false_and, Bool.or_false, Bool.or_true, Bool.true_or, Bool.false_or, sz0, szl0, sz1, szl1, sz2, szl2, sz3, szl3, sz4, szl4, sz5, szl5, sz6, szl6, sz7, szl7, sz8, szl8, sz9, szl9, sz10, szl10, sz11, szl11, sz12, szl12, sz13, szl13, sz14, szl14, sz15, szl15, eV, f2s, inO, ec, lu_val, lu_blk, eB, hr, hi, isS, eqB, wFrz_d h]
end

end VL.K06

namespace VL.K06
open PySem PySem.Spec PyProof.Rows L2 VL
variable {K : PySem.W.Frag} {a : Ad} {st : Store}
/-! the lines that are drawn -/
def HDS : List Str := ["net", "a", "zz"]
def KYS : List Str := ["a", "net", "port"]
def VS : List Str := ["a", "net", "1"]
def l1 : Ln := .kept "#~ 3 ui.b = 1" 3 "ui.b" (.str "1")
def l2 : Ln := .kept "#~ 4 net.a" 4 "net.a" .non
def plS (p : Str × Str) : Str := p.1 ++ ("." : Str) ++ p.2
theorem sz60 {n : Nat} (h : n ≤ 40) : n ≤ sizeLine := Nat.le_trans h (by decide)
def plainB (s : Str) : Bool := !Txt.startswith s "#~" && !decide (s = ("" : Str)) && !Txt.startswith s "#"
theorem plain_ok {s : Str} (h : plainB s = true) : Plain s := by
  unfold plainB at h
  simp only [Bool.and_eq_true, Bool.not_eq_true', decide_eq_false_iff_not] at h
  exact ⟨h.1.1, h.1.2, h.2⟩
def secI (s : Str) : Bool := decide (L2.cutS s none (some 1) = ("[" : Str)) && decide (L2.cutS s (some (-1)) none = ("]" : Str)) && isName (L2.cutS s (some 1) (some (-1)))
def setI (s : Str) : Bool := isName (Txt.partition s " = ").1 && isValue (Txt.partition s " = ").2.2
theorem sec_no {s : Str} (h : secI s = false) : sectionIn s = .non := by
  show (if secI s = true then _ else D.non) = _
  rw [h]
  rfl
theorem sec_yes {s n : Str} (h : secI s = true) (e : L2.cutS s (some 1) (some (-1)) = n) : sectionIn s = .str n := by
  show (if secI s = true then D.str (L2.cutS s (some 1) (some (-1))) else D.non) = _
  rw [h, e]
  rfl
theorem set_yes {s k v : Str} (h : setI s = true) (e1 : (Txt.partition s " = ").1 = k) (e2 : (Txt.partition s " = ").2.2 = v) : settingIn s = .tup [.str k, .str v] := by
  show (if setI s = true then D.tup [.str (Txt.partition s " = ").1, .str (Txt.partition s " = ").2.2] else D.non) = _
  rw [h, e1, e2]
  rfl
def sgB (s : Str) : Bool := decide (s.length ≤ 40) && s.cps.toList.all fun c => decide (c < 128) && !decide (c = 10)
theorem sg_ok {s : Str} (h : sgB s = true) : Sg 40 s ∧ ¬ (10 ∈ TL.tl s) := by
  unfold sgB at h
  rw [Bool.and_eq_true, List.all_eq_true] at h
  refine ⟨⟨of_decide_eq_true h.1, fun c hc => ?_⟩, fun z => ?_⟩
  · have := h.2 c hc
    rw [Bool.and_eq_true] at this
    exact of_decide_eq_true this.1
  · have := h.2 10 z
    simp at this
theorem tab_head : ∀ n ∈ HDS, sgB (Ln.text (.head n)) = true ∧ plainB (Ln.text (.head n)) = true ∧ secI (Ln.text (.head n)) = true ∧ L2.cutS (Ln.text (.head n)) (some 1) (some (-1)) = n := by decide +kernel
theorem tab_kv : ∀ k ∈ KYS, ∀ v ∈ VS, sgB (Ln.text (.set k v)) = true ∧ plainB (Ln.text (.set k v)) = true ∧ secI (Ln.text (.set k v)) = false ∧ setI (Ln.text (.set k v)) = true ∧ (Txt.partition (Ln.text (.set k v)) " = ").1 = k ∧ (Txt.partition (Ln.text (.set k v)) " = ").2.2 = v ∧ k.length ≤ 40 := by decide +kernel
theorem tab_len : ∀ h ∈ HDS, ∀ k ∈ KYS, h.length ≤ 40 ∧ (h ++ ("." : Str)).length ≤ 40 ∧ sgB (h ++ ("." : Str) ++ k) = true ∧ isPlace (h ++ ("." : Str) ++ k) = true := by decide +kernel
theorem tab_pl : ∀ h ∈ HDS, ∀ k ∈ KYS, ∀ h' ∈ HDS, ∀ k' ∈ KYS, h ++ ("." : Str) ++ k = h' ++ ("." : Str) ++ k' → h = h' ∧ k = k' := by decide +kernel
theorem tab_v : ∀ v ∈ VS, PyData.strOk v = true := by decide +kernel
theorem tab_h : ∀ h ∈ HDS, PyData.strOk h = true := by decide +kernel
theorem head_ok {n : Str} (h : n ∈ HDS) : (Ln.head n).Ok := by
  obtain ⟨t1, t2, t3, t4⟩ := tab_head n h
  exact ⟨(sg_ok t1).1.sz (by decide), plain_ok t2, sec_yes t3 t4⟩
theorem set_ok {k v : Str} (hk : k ∈ KYS) (hv : v ∈ VS) : (Ln.set k v).Ok := by
  obtain ⟨t1, t2, t3, t4, t5, t6, t7⟩ := tab_kv k hk v hv
  exact ⟨(sg_ok t1).1.sz (by decide), plain_ok t2, sec_no t3, set_yes t4 t5 t6, sz60 t7⟩
theorem k1_tab : sgB ("#~ 3 ui.b = 1" : Str) = true ∧ Txt.startswith ("#~ 3 ui.b = 1" : Str) "#~" = true ∧ Txt.split ("#~ 3 ui.b = 1" : Str) " " = [("#~" : Str), "3", "ui.b", "=", "1"] ∧ isNumber "3" = true ∧ intText? "3" = some 3 ∧ ("3" : Str).length ≤ 640 ∧ isValue "1" = true ∧ ("1" : Str).length ≤ 40 ∧ isPlace "ui.b" = true ∧ ("ui.b" : Str).length ≤ 40 := by decide +kernel
theorem k2_tab : sgB ("#~ 4 net.a" : Str) = true ∧ Txt.startswith ("#~ 4 net.a" : Str) "#~" = true ∧ Txt.split ("#~ 4 net.a" : Str) " " = [("#~" : Str), "4", "net.a"] ∧ isNumber "4" = true ∧ intText? "4" = some 4 ∧ ("4" : Str).length ≤ 640 ∧ isPlace "net.a" = true ∧ ("net.a" : Str).length ≤ 40 := by decide +kernel
theorem k1_ok : l1.Ok := by
  obtain ⟨t1, t2, t3, t4, t5, t6, t7, t8, t9, t10⟩ := k1_tab
  have t := (sg_ok t1).1
  exact ⟨t.sz (by decide), t2, ⟨Nat.le_trans (Nat.add_le_add_right t.1 2) (by decide), .inr ⟨_, _, t3, t4, t5, t6, t7, sz60 t8, rfl⟩, t9, sz60 t10⟩⟩
theorem k2_ok : l2.Ok := by
  obtain ⟨t1, t2, t3, t4, t5, t6, t9, t10⟩ := k2_tab
  have t := (sg_ok t1).1
  exact ⟨t.sz (by decide), t2, ⟨Nat.le_trans (Nat.add_le_add_right t.1 2) (by decide), .inl ⟨_, t3, t4, t5, t6, rfl⟩, t9, sz60 t10⟩⟩
theorem emp_tab : sgB ("" : Str) = true ∧ Txt.startswith ("" : Str) "#~" = false := by decide +kernel
theorem rem_ok : (Ln.rem "").Ok := ⟨(sg_ok emp_tab.1).1.sz (by decide), emp_tab.2, .inl rfl⟩
/-! what the reader meets -/
def Ln.ens (s : D) : Ln → List En
  | .rem _ => []
  | .kept _ n p _ => [.kp n p]
  | .head n => [.sec n]
  | .set k _ => [.plc (pl s k)]
def Ln.sets (s : D) : Ln → List (Str × Str)
  | .set k v => [(pl s k, v)]
  | _ => []
def Ln.heads : Ln → List Str
  | .head n => [n]
  | _ => []
theorem met_en (s : D) (l : Ln) : l.met s = (l.ens s).map En.D := by cases l <;> rfl
def ensL : D → List Ln → List En
  | _, [] => []
  | s, l :: ls => l.ens s ++ ensL (l.sec s) ls
theorem ensL_snoc (l : Ln) : ∀ (ls : List Ln) (s : D), ensL s (ls ++ [l]) = ensL s ls ++ l.ens (secL s ls)
  | [], s => by show l.ens s ++ [] = _; rw [List.append_nil]; rfl
  | x :: ls, s => by
    show x.ens s ++ ensL (x.sec s) (ls ++ [l]) = x.ens s ++ ensL (x.sec s) ls ++ l.ens (secL (x.sec s) ls)
    rw [ensL_snoc l ls, List.append_assoc]
theorem secL_snoc (l : Ln) : ∀ (ls : List Ln) (s : D), secL s (ls ++ [l]) = l.sec (secL s ls)
  | [], s => rfl
  | x :: ls, s => secL_snoc l ls _
theorem setsL_snoc (l : Ln) : ∀ (ls : List Ln) (s : D), setsL s (ls ++ [l]) = setsL s ls ++ l.sets (secL s ls)
  | [], s => by cases l <;> rfl
  | .rem _ :: ls, s => setsL_snoc l ls _
  | .kept _ _ _ _ :: ls, s => setsL_snoc l ls _
  | .head _ :: ls, s => setsL_snoc l ls _
  | .set k v :: ls, s => by
    show (pl s k, v) :: setsL s (ls ++ [l]) = (pl s k, v) :: setsL s ls ++ _
    rw [setsL_snoc l ls]; rfl
theorem headsL_snoc (l : Ln) : ∀ (ls : List Ln), headsL (ls ++ [l]) = headsL ls ++ l.heads
  | [] => by cases l <;> rfl
  | .rem _ :: ls => headsL_snoc l ls
  | .kept _ _ _ _ :: ls => headsL_snoc l ls
  | .set _ _ :: ls => headsL_snoc l ls
  | .head n :: ls => by
    show n :: headsL (ls ++ [l]) = n :: headsL ls ++ _
    rw [headsL_snoc l ls]; rfl
theorem vd_snoc (l : Ln) : ∀ (ls : List Ln) (s : D) (es : List En), Vd s (es.map En.D) ls → l.Ok → l.In (secL s ls) → (∀ x ∈ l.met (secL s ls), NewIn ((es ++ ensL s ls).map En.D) x) → Vd s (es.map En.D) (ls ++ [l])
  | [], s, es, _, h1, h2, h3 => ⟨h1, h2, by rw [show es ++ ensL s [] = es from List.append_nil _] at h3; exact h3, trivial⟩
  | x :: ls, s, es, ⟨v1, v2, v3, v4⟩, h1, h2, h3 => by
    refine ⟨v1, v2, v3, ?_⟩
    rw [met_en, ← List.map_append] at v4 ⊢
    exact vd_snoc l ls (x.sec s) (es ++ x.ens s) v4 h1 h2 (by
      rw [List.append_assoc]
      exact h3)
/-- the lines so far: their section, their headers, their places -/
structure Gd (ls : List Ln) (hd : D) (H : List Str) (P : List (Str × Str)) : Prop where
  vd : Vd .non [] ls
  sec : secL .non ls = hd
  eok : ∀ e ∈ ensL .non ls, e.ok
  esec : ∀ n, En.sec n ∈ ensL .non ls → n ∈ H
  epl : ∀ x, En.plc x ∈ ensL .non ls → ∃ p ∈ P, x = plS p
  sg : ∀ l ∈ ls, Sg 40 l.text ∧ ¬ (10 ∈ TL.tl l.text)
  hs : headsL ls = H
  st : ∀ q ∈ setsL .non ls, q.2 ∈ VS ∧ ∃ p ∈ P, q.1 = plS p
  nd : ((setsL .non ls).map fun q => q.1).Nodup
  hH : ∀ h ∈ H, h ∈ HDS
  hP : ∀ p ∈ P, p.1 ∈ HDS ∧ p.2 ∈ KYS
theorem Gd.snoc {ls : List Ln} {hd : D} {H : List Str} {P : List (Str × Str)} (g : Gd ls hd H P) {l : Ln} (h1 : l.Ok) (h2 : l.In hd) (hn : ∀ e ∈ l.ens hd, e.ok ∧ e ∉ ensL .non ls) : Vd .non [] (ls ++ [l]) := by
  refine vd_snoc l ls .non [] g.vd h1 (by rw [g.sec]; exact h2) fun x hx => ?_
  rw [g.sec, met_en] at hx
  obtain ⟨e, he, rfl⟩ := List.mem_map.mp hx
  rw [List.nil_append]
  exact En.new g.eok (hn e he).1 (hn e he).2
theorem mem_snoc {α : Type} {p : α → Prop} {xs : List α} {x : α} (h : ∀ y ∈ xs, p y) (hx : p x) : ∀ y ∈ xs ++ [x], p y := fun y hy => by
  rcases List.mem_append.mp hy with z | z
  · exact h y z
  · rw [List.mem_singleton] at z; subst z; exact hx
theorem gd_nil : Gd [] .non [] [] := by
  refine ⟨trivial, rfl, ?_, ?_, ?_, ?_, rfl, ?_, List.nodup_nil, ?_, ?_⟩
  all_goals (intro x hx; first | exact nomatch hx | skip)
theorem Gd.kept {ls : List Ln} {hd : D} {H : List Str} {P : List (Str × Str)} (g : Gd ls hd H P) {s p : Str} {n : Int} {v : D} (h1 : (Ln.kept s n p v).Ok) (hs : sgB s = true) (hp : PyData.strOk p = true) (hn : En.kp n p ∉ ensL .non ls) : Gd (ls ++ [.kept s n p v]) hd H P := by
  have e := ensL_snoc (.kept s n p v) ls .non
  rw [show Ln.ens (secL .non ls) (.kept s n p v) = [En.kp n p] from rfl] at e
  refine ⟨g.snoc h1 trivial fun e he => ?_, by rw [secL_snoc]; exact g.sec, ?_, ?_, ?_, mem_snoc g.sg (sg_ok hs), ?_, ?_, ?_, g.hH, g.hP⟩
  · have : e = En.kp n p := List.mem_singleton.mp he
    subst this; exact ⟨hp, hn⟩
  · rw [e]; exact mem_snoc g.eok hp
  · rw [e]; intro x hx
    rcases List.mem_append.mp hx with z | z
    · exact g.esec x z
    · cases List.mem_singleton.mp z
  · rw [e]; intro x hx
    rcases List.mem_append.mp hx with z | z
    · exact g.epl x z
    · cases List.mem_singleton.mp z
  · rw [headsL_snoc, g.hs]; exact List.append_nil _
  · rw [setsL_snoc, show Ln.sets (secL .non ls) (.kept s n p v) = [] from rfl, List.append_nil]; exact g.st
  · rw [setsL_snoc, show Ln.sets (secL .non ls) (.kept s n p v) = [] from rfl, List.append_nil]; exact g.nd
theorem Gd.blank {ls : List Ln} {hd : D} {H : List Str} {P : List (Str × Str)} (g : Gd ls hd H P) : Gd (ls ++ [.rem ""]) hd H P := by
  have e := ensL_snoc (.rem "") ls .non
  rw [show Ln.ens (secL .non ls) (.rem "") = [] from rfl, List.append_nil] at e
  refine ⟨g.snoc rem_ok trivial fun e he => (nomatch he), by rw [secL_snoc]; exact g.sec, ?_, ?_, ?_, mem_snoc g.sg (sg_ok emp_tab.1), ?_, ?_, ?_, g.hH, g.hP⟩
  · rw [e]; exact g.eok
  · rw [e]; exact g.esec
  · rw [e]; exact g.epl
  · rw [headsL_snoc, g.hs]; exact List.append_nil _
  · rw [setsL_snoc, show Ln.sets (secL .non ls) (.rem "") = [] from rfl, List.append_nil]; exact g.st
  · rw [setsL_snoc, show Ln.sets (secL .non ls) (.rem "") = [] from rfl, List.append_nil]; exact g.nd
theorem Gd.head {ls : List Ln} {hd : D} {H : List Str} {P : List (Str × Str)} (g : Gd ls hd H P) {h : Str} (hh : h ∈ HDS) (hn : h ∉ H) : Gd (ls ++ [.head h]) (.str h) (H ++ [h]) P := by
  have e := ensL_snoc (.head h) ls .non
  rw [show Ln.ens (secL .non ls) (.head h) = [En.sec h] from rfl] at e
  refine ⟨g.snoc (head_ok hh) trivial fun e he => ?_, by rw [secL_snoc]; rfl, ?_, ?_, ?_, mem_snoc g.sg (sg_ok (tab_head h hh).1), ?_, ?_, ?_, mem_snoc g.hH hh, g.hP⟩
  · have : e = En.sec h := List.mem_singleton.mp he
    subst this; exact ⟨tab_h h hh, fun z => hn (g.esec h z)⟩
  · rw [e]; exact mem_snoc g.eok (tab_h h hh)
  · rw [e]; intro x hx
    rcases List.mem_append.mp hx with z | z
    · exact List.mem_append_left _ (g.esec x z)
    · cases List.mem_singleton.mp z; exact List.mem_append_right _ (List.mem_singleton.mpr rfl)
  · rw [e]; intro x hx
    rcases List.mem_append.mp hx with z | z
    · exact g.epl x z
    · cases List.mem_singleton.mp z
  · rw [headsL_snoc, g.hs]; rfl
  · rw [setsL_snoc, show Ln.sets (secL .non ls) (.head h) = [] from rfl, List.append_nil]; exact g.st
  · rw [setsL_snoc, show Ln.sets (secL .non ls) (.head h) = [] from rfl, List.append_nil]; exact g.nd
theorem Gd.sets {ls : List Ln} {h : Str} {H : List Str} {P : List (Str × Str)} (g : Gd ls (.str h) H P) {k v : Str} : setsL .non (ls ++ [.set k v]) = setsL .non ls ++ [(plS (h, k), v)] := by
  rw [setsL_snoc, g.sec]; rfl
theorem Gd.fresh {ls : List Ln} {hd : D} {h : Str} {H : List Str} {P : List (Str × Str)} (g : Gd ls hd H P) {k : Str} (hh : h ∈ HDS) (hk : k ∈ KYS) (hn : (h, k) ∉ P) : ∀ q ∈ setsL .non ls, q.1 ≠ plS (h, k) := fun q hq z => by
  obtain ⟨-, p, hp, e⟩ := g.st q hq
  rw [e] at z
  obtain ⟨a1, a2⟩ := g.hP p hp
  obtain ⟨b1, b2⟩ := tab_pl p.1 a1 p.2 a2 h hh k hk z
  exact hn (by rw [← b1, ← b2]; exact hp)
theorem Gd.set {ls : List Ln} {h : Str} {H : List Str} {P : List (Str × Str)} (g : Gd ls (.str h) H P) {k v : Str} (hh : h ∈ HDS) (hk : k ∈ KYS) (hv : v ∈ VS) (hn : (h, k) ∉ P) : Gd (ls ++ [.set k v]) (.str h) H (P ++ [(h, k)]) := by
  obtain ⟨q1, q2, q3, q4⟩ := tab_len h hh k hk
  have e := ensL_snoc (.set k v) ls .non
  rw [g.sec, show Ln.ens (.str h) (.set k v) = [En.plc (plS (h, k))] from rfl] at e
  have ho : PyData.strOk (plS (h, k)) = true := strOk_of (sg_ok q3).1
  have hnew : En.plc (plS (h, k)) ∉ ensL .non ls := fun z => by
    obtain ⟨p, hp, e⟩ := g.epl _ z
    obtain ⟨a1, a2⟩ := g.hP p hp
    obtain ⟨b1, b2⟩ := tab_pl h hh k hk p.1 a1 p.2 a2 e
    exact hn (by rw [b1, b2]; exact hp)
  have hm : (h, k) ∈ P ++ [(h, k)] := List.mem_append_right _ (List.mem_singleton.mpr rfl)
  refine ⟨g.snoc (set_ok hk hv) ⟨h, rfl, sz60 q1, sz60 q2, sz60 (sg_ok q3).1.1⟩ fun e he => ?_, by rw [secL_snoc]; exact g.sec, ?_, ?_, ?_, mem_snoc g.sg (sg_ok (tab_kv k hk v hv).1), ?_, ?_, ?_, g.hH, mem_snoc g.hP ⟨hh, hk⟩⟩
  · have : e = En.plc (plS (h, k)) := List.mem_singleton.mp he
    subst this; exact ⟨ho, hnew⟩
  · rw [e]; exact mem_snoc g.eok ho
  · rw [e]; intro x hx
    rcases List.mem_append.mp hx with z | z
    · exact g.esec x z
    · cases List.mem_singleton.mp z
  · rw [e]; intro x hx
    rcases List.mem_append.mp hx with z | z
    · obtain ⟨p, hp, e⟩ := g.epl x z
      exact ⟨p, List.mem_append_left _ hp, e⟩
    · cases List.mem_singleton.mp z
      exact ⟨_, hm, rfl⟩
  · rw [headsL_snoc, g.hs]; exact List.append_nil _
  · rw [g.sets]
    intro q hq
    rcases List.mem_append.mp hq with z | z
    · obtain ⟨h1, p, hp, e⟩ := g.st q z
      exact ⟨h1, p, List.mem_append_left _ hp, e⟩
    · rw [List.mem_singleton] at z; subst z; exact ⟨hv, _, hm, rfl⟩
  · rw [g.sets, List.map_append, List.nodup_append]
    refine ⟨g.nd, by simp, fun x hx y hy => ?_⟩
    obtain ⟨q, hq, rfl⟩ := List.mem_map.mp hx
    have : y = plS (h, k) := List.mem_singleton.mp hy
    subst this
    exact g.fresh hh hk hn q hq
theorem so_p : PyData.strOk "ui.b" = true ∧ PyData.strOk "net.a" = true := by decide +kernel
theorem gd_top : Gd [l1, l2] .non [] [] := (gd_nil.kept k1_ok k1_tab.1 so_p.1 (fun h => nomatch h)).kept k2_ok k2_tab.1 so_p.2 (by
  show En.kp 4 "net.a" ∉ [En.kp 3 "ui.b"]
  rw [List.mem_singleton]
  intro z
  have := (En.kp.inj z).1
  omega)
theorem Gd.fs {ls : List Ln} {hd : D} {H : List Str} {P : List (Str × Str)} (g : Gd ls hd H P) (hl : ls.length < sizeLine) : Fs ls (setsL .non ls) := ⟨rfl, fun q hq => by
  obtain ⟨-, p, hp, e⟩ := g.st q hq
  obtain ⟨a1, a2⟩ := g.hP p hp
  rw [e]
  exact (tab_len p.1 a1 p.2 a2).2.2.2, hl⟩

end VL.K06

namespace VL.K06
open PySem PySem.Spec PyProof.Rows L2 VL
variable {K : PySem.W.Frag} {a : Ad} {st : Store}
/-! the cells of the law -/
theorem sU_app (xs ys : List Str) : sU xs ++ sU ys = sU (xs ++ ys) := by unfold sU sD; rw [List.map_append, List.map_append]
def tx (ls : List Ln) : List Str := ls.map Ln.text
def kvU (ss : List (Str × Str)) : List (Key × U) := (kvD ss).map fun kv => (kv.1, U.d kv.2)
theorem okO_kv (k : Nat) (ss : List (Str × Str)) : okO k (.dct (kvU ss)) = true := by
  show (kvU ss).all _ = true
  rw [List.all_eq_true]
  intro x hx
  unfold kvU at hx
  obtain ⟨y, hy, rfl⟩ := List.mem_map.mp hx
  rfl
structure Ls (T : List (Addr × Str)) (st : Store) (b c d : Nat) (ls : List Ln) : Prop where
  wf : WF st
  bag : Bag st b
  lines : st[c]? = some (.lst (sU (tx ls)))
  dict : st[d]? = some (.dct (kvU (setsL .non ls)))
  tab : TabIn T st
  bc : c ≠ b
  bd : d ≠ b
  cd : c ≠ d
theorem tab_ge {T : List (Addr × Str)} (h : TabIn T st) {n : Nat} {o : O} (e : st[n]? = some o) (ho : ∀ P q, o ≠ .tbl P q) : T.length ≤ n := by
  rcases Nat.lt_or_ge n T.length with q | q
  · have := h.1 n T[n] (List.getElem?_eq_getElem q)
    rw [e] at this
    exact (ho _ _ (Option.some.inj this)).elim
  · exact q
theorem nt_lst (us : List U) : ∀ P q, O.lst us ≠ .tbl P q := fun _ _ z => nomatch z
theorem nt_dct (us : List (Key × U)) : ∀ P q, O.dct us ≠ .tbl P q := fun _ _ z => nomatch z
section
variable {T : List (Addr × Str)} {b c d : Nat} {ls : List Ln}
theorem Ls.fb (x : Ls T st b c d ls) {st' : Store} (f : Fb st st' b) : Ls T st' b c d ls := ⟨f.wf, f.bag, by rw [f.fr c x.bc]; exact x.lines, by rw [f.fr d x.bd]; exact x.dict, tab_fb x.tab x.bag f, x.bc, x.bd, x.cd⟩
theorem setsL_len : ∀ (ls : List Ln) (s : D), (setsL s ls).length ≤ ls.length
  | [], _ => Nat.le_refl _
  | .rem _ :: ls, s => Nat.le_succ_of_le (setsL_len ls s)
  | .kept _ _ _ _ :: ls, s => Nat.le_succ_of_le (setsL_len ls s)
  | .head n :: ls, s => Nat.le_succ_of_le (setsL_len ls (.str n))
  | .set _ _ :: ls, s => Nat.succ_le_succ (setsL_len ls s)
theorem kvU_len (ss : List (Str × Str)) : (kvU ss).length = ss.length := by unfold kvU kvD; rw [List.length_map, List.length_map]
theorem putU_new {ss : List (Str × Str)} {p v : Str} (h : ∀ q ∈ ss, q.1 ≠ p) : putU (kvU ss) (.inr p) (.d (.str v)) = kvU (ss ++ [(p, v)]) := by
  have hno : ((kvU ss).any fun kv => decide (kv.1 = (.inr p : Key))) = false := by
    rw [List.any_eq_false]
    intro q hq
    unfold kvU kvD at hq
    rw [List.map_map] at hq
    obtain ⟨x, hx, rfl⟩ := List.mem_map.mp hq
    rw [decide_eq_true_eq]
    exact fun z => h x hx (Sum.inr.inj z)
  unfold putU
  rw [hno, if_neg Bool.false_ne_true]
  unfold kvU kvD
  rw [List.map_append, List.map_append]
  rfl
theorem lits_pl : ∀ h ∈ HDS, ∀ k ∈ KYS, h.length + ("." : Str).length ≤ sizeLine ∧ (h ++ ("." : Str)).length + k.length ≤ sizeLine := by decide +kernel
theorem lits_kv : ∀ k ∈ KYS, ∀ v ∈ VS, k.length + (" = " : Str).length ≤ sizeLine ∧ (k ++ (" = " : Str)).length + v.length ≤ sizeLine := by decide +kernel
theorem lits_h : ∀ h ∈ HDS, ("[" : Str).length + h.length ≤ sizeLine ∧ (("[" : Str) ++ h).length + ("]" : Str).length ≤ sizeLine := by decide +kernel
theorem ev_key {h k : Str} {H : List Str} {P : List (Str × Str)} {u0 u1 u5 u8 u9 u10 : Option U} (x : Ls T st b c d ls) (g : Gd ls (.str h) H P) (hh : h ∈ HDS) (hk : k ∈ KYS) (hn : (h, k) ∉ P) (hl : ls.length ≤ 100) :
    ∃ v st', b_law_1 K a [u0, u1, some (.ref b), some (.ref c), some (.ref d), u5, some (.d (.str h)), some (.d (.str k)), u8, u9, u10] st = .ok [u0, u1, some (.ref b), some (.ref c), some (.ref d), u5, some (.d (.str h)), some (.d (.str k)), u8, u9, u10] .nx st' ∧ Ls T st' b c d (ls ++ [.set k v]) ∧ Gd (ls ++ [.set k v]) (.str h) H (P ++ [(h, k)]) := by
  obtain ⟨y, s1, e1, hy, k1⟩ := ev_lof (K := K) (a := a) x.wf x.bag (ds := sD VS) (by decide) (by decide)
  have x1 := x.fb k1
  obtain ⟨v, hv, rfl⟩ := List.mem_map.mp hy
  obtain ⟨z1, z2⟩ := lits_pl h hh k hk
  obtain ⟨z3, z4⟩ := lits_kv k hk v hv
  have e1' : m_L_law_of K a [.ref b, .d (.lst [.str "a", .str "net", .str "1"])] st = .ok (.d (.str v)) s1 := e1
  have hf := g.fresh hh hk hn
  have hp := putU_new (v := v) hf
  rw [← g.sets, show plS (h, k) = h ++ ("." : Str) ++ k from rfl] at hp
  have hsl : (kvU (setsL .non ls)).length < sizeLine := by rw [kvU_len]; exact Nat.lt_of_le_of_lt (Nat.le_trans (setsL_len _ _) hl) (by decide)
  have hll : (sU (tx ls)).length < sizeLine := by rw [sU_len]; unfold tx; rw [List.length_map]; exact Nat.lt_of_le_of_lt hl (by decide)
  have hsn : sU (tx ls) ++ [U.d (.str (k ++ (" = " : Str) ++ v))] = sU (tx (ls ++ [.set k v])) := by unfold tx; rw [List.map_append]; exact sU_app _ [_]
  let o1 : O := .dct (kvU (setsL .non (ls ++ [.set k v])))
  have d1 : (s1.set d o1)[d]? = some o1 := set_at x1.dict
  have c1 : (s1.set d o1)[c]? = some (.lst (sU (tx ls))) := by rw [List.getElem?_set_ne x.cd.symm]; exact x1.lines
  have hlk : lookK (kvU (setsL .non (ls ++ [.set k v]))) (.inr (h ++ ("." : Str) ++ k)) = some (.d (.str v)) := by
    have e := lookK_kv (setsL .non (ls ++ [.set k v])) (h ++ ("." : Str) ++ k)
    unfold kvU
    rw [e, g.sets, List.find?_append]
    have : (setsL .non ls).find? (fun q => decide (q.1 = h ++ ("." : Str) ++ k)) = none := by
      rw [List.find?_eq_none]
      intro q hq
      rw [decide_eq_true_eq]
      exact hf q hq
    rw [this, Option.none_or, List.find?_cons, show plS (h, k) = h ++ ("." : Str) ++ k from rfl, decide_eq_true (rfl : (h ++ ("." : Str) ++ k, v).1 = h ++ ("." : Str) ++ k)]
    rfl
  have w1 : WF (s1.set d o1) := x1.wf.set (okO_kv _ _)
  have td := tab_ge x1.tab x1.dict (nt_dct _)
  have tc := tab_ge x1.tab x1.lines (nt_lst _)
  refine ⟨v, (s1.set d o1).set c (.lst (sU (tx (ls ++ [.set k v])))), ?_, ⟨w1.setL _ _, (x1.bag.set x.bd.symm _).set x.bc.symm _, set_at c1, by rw [List.getElem?_set_ne x.cd]; exact d1, tab_set (tab_set x1.tab td (nt_dct _)) tc (nt_lst _), x.bc, x.bd, x.cd⟩, g.set hh hk hv hn⟩
  have eA : sAsg (fCall 2 0 gPos (m_L_law_of K a) (fCW (fCons (vVar 2) (fCons (fN vLst (fCons (vC (.str "a")) (fCons (vC (.str "net")) (fCons (vC (.str "1")) fNil)))) fNil)) fNil)) (tgSub (vVar 4) (f2 oAdd (f2 oAdd (vVar 6) (vC (.str "."))) (vVar 7))) [u0, u1, some (.ref b), some (.ref c), some (.ref d), u5, some (.d (.str h)), some (.d (.str k)), u8, u9, u10] st = .ok [u0, u1, some (.ref b), some (.ref c), some (.ref d), u5, some (.d (.str h)), some (.d (.str k)), u8, u9, u10] .nx (s1.set d o1) := by
    simp only [fnM, sSeq, sRet, sRetN, sExpr, sIf, sNil, sNo, sAsg, tgN, bndS, bnd, vVar, vC, f2, f1, fB, pu, fN, vTup, vLst, fTup, fCons, fNil, fPure, fIf, fAnd, fOr, fNot, asB, asT, bAnd, bOr, bNot, fChain, fCall, fCW, gPos, gApp, R.of, R.of2, fM, pu4, tgT, tgCons, tgNil, unp, pureL, sPar, sPar3, fLstC, fFld, oFld, fMeth, insU, sFldS, setFld, fSl, oNone, oSome, tgSub, setU, fIter, fItN, fItS, sFor, getL, getT, VL.getD, keyD, tyB, lstC, oAdd, oSub, oMul, oFdiv, oMod, oPow, oNeg, oLt, oLe, oGt, oGe, oEq, oNe, oIsN, oNotN, oIn, oNotIn, oIx, oLen, oInt, oAbs, oMin, oMax, oStr, oList, oListC, oTuple, oAll, oAny, itemsU, lenN, truB, fJs, oFmt, List.map_cons, List.map_nil, List.length_cons, List.length_nil, List.replicate_succ, List.replicate_zero, List.cons_append, List.nil_append, List.append_nil, List.getElem?_cons_zero, List.getElem?_cons_succ, List.set_cons_zero, List.set_cons_succ, Nat.reduceAdd, Nat.reduceSub, Option.map_some, Option.map_none, if_true, if_false, ite_true, ite_false, Bool.false_eq_true, reduceCtorEq, true_and, and_true, and_self, Bool.not_true, Bool.not_false, Nat.zero_add, Option.bind_some, Option.bind_eq_bind, Option.pure_def, decide_true, decide_false, eq_self, Nat.reduceEqDiff, Nat.reduceLT, Nat.reduceLeDiff, Int.reduceLT, Int.reduceLE, Int.reduceEq, Bool.and_true, Bool.true_and, Bool.false_and, Bool.or_false, Bool.or_true, Bool.true_or, Bool.false_or, sz0, szl0, sz1, szl1, sz2, szl2, sz3, szl3, sz4, szl4, sz5, szl5, sz6, szl6, sz7, szl7, sz8, szl8, sz9, szl9, sz10, szl10, sz11, szl11, sz12, szl12, sz13, szl13, sz14, szl14, sz15, szl15, e1', z1, z2, x1.dict, hsl, hp, o1]
  have eB : sExpr (fM "list" mAppend (vVar 3) (fCons (f2 oAdd (f2 oAdd (vVar 7) (vC (.str " = "))) (f2 oIx (vVar 4) (f2 oAdd (f2 oAdd (vVar 6) (vC (.str "."))) (vVar 7)))) fNil)) [u0, u1, some (.ref b), some (.ref c), some (.ref d), u5, some (.d (.str h)), some (.d (.str k)), u8, u9, u10] (s1.set d o1) = .ok [u0, u1, some (.ref b), some (.ref c), some (.ref d), u5, some (.d (.str h)), some (.d (.str k)), u8, u9, u10] .nx ((s1.set d o1).set c (.lst (sU (tx (ls ++ [.set k v]))))) := by
    simp only [o1] at d1 c1 ⊢
    simp only [fnM, sSeq, sRet, sRetN, sExpr, sIf, sNil, sNo, sAsg, tgN, bndS, bnd, vVar, vC, f2, f1, fB, pu, fN, vTup, vLst, fTup, fCons, fNil, fPure, fIf, fAnd, fOr, fNot, asB, asT, bAnd, bOr, bNot, fChain, fCall, fCW, gPos, gApp, R.of, R.of2, fM, pu4, tgT, tgCons, tgNil, unp, pureL, sPar, sPar3, fLstC, fFld, oFld, fMeth, insU, sFldS, setFld, fSl, oNone, oSome, tgSub, setU, fIter, fItN, fItS, sFor, getL, getT, VL.getD, keyD, tyB, lstC, oAdd, oSub, oMul, oFdiv, oMod, oPow, oNeg, oLt, oLe, oGt, oGe, oEq, oNe, oIsN, oNotN, oIn, oNotIn, oIx, oLen, oInt, oAbs, oMin, oMax, oStr, oList, oListC, oTuple, oAll, oAny, itemsU, lenN, truB, fJs, oFmt, List.map_cons, List.map_nil, List.length_cons, List.length_nil, List.replicate_succ, List.replicate_zero, List.cons_append, List.nil_append, List.append_nil, List.getElem?_cons_zero, List.getElem?_cons_succ, List.set_cons_zero, List.set_cons_succ, Nat.reduceAdd, Nat.reduceSub, Option.map_some, Option.map_none, if_true, if_false, ite_true, ite_false, Bool.false_eq_true, reduceCtorEq, true_and, and_true, and_self, Bool.not_true, Bool.not_false, Nat.zero_add, Option.bind_some, Option.bind_eq_bind, Option.pure_def, decide_true, decide_false, eq_self, Nat.reduceEqDiff, Nat.reduceLT, Nat.reduceLeDiff, Int.reduceLT, Int.reduceLE, Int.reduceEq, Bool.and_true, Bool.true_and, Bool.false_and, Bool.or_false, Bool.or_true, Bool.true_or, Bool.false_or, sz0, szl0, sz1, szl1, sz2, szl2, sz3, szl3, sz4, szl4, sz5, szl5, sz6, szl6, sz7, szl7, sz8, szl8, sz9, szl9, sz10, szl10, sz11, szl11, sz12, szl12, sz13, szl13, sz14, szl14, sz15, szl15, z1, z2, z3, z4, d1, c1, hlk, mAppend, lstC, hll, hsn]
  unfold b_law_1
  simp only [sSeq, eA, eB]
theorem ev_keys {h : Str} {H : List Str} {u0 u1 u5 u8 u9 u10 : Option U} (hh : h ∈ HDS) : ∀ (kl : List Str) (ls : List Ln) (P : List (Str × Str)) (x7 : Option U) (st : Store), (∀ k ∈ kl, k ∈ KYS) → kl.Nodup → (∀ k ∈ kl, (h, k) ∉ P) → ls.length + kl.length ≤ 100 → Ls T st b c d ls → Gd ls (.str h) H P →
    ∃ ls' y7 st' P', loopL (tgN 7) (b_law_1 K a) ((sD kl).map U.d) [u0, u1, some (.ref b), some (.ref c), some (.ref d), u5, some (.d (.str h)), x7, u8, u9, u10] st = .ok [u0, u1, some (.ref b), some (.ref c), some (.ref d), u5, some (.d (.str h)), y7, u8, u9, u10] .nx st' ∧ Ls T st' b c d ls' ∧ Gd ls' (.str h) H P' ∧ ls'.length = ls.length + kl.length ∧ ∀ p ∈ P', p ∈ P ∨ p.1 = h
  | [], ls, P, x7, st, _, _, _, _, x, g => ⟨ls, x7, st, P, rfl, x, g, rfl, fun _ h => .inl h⟩
  | k :: kl, ls, P, x7, st, h1, h2, h3, hl, x, g => by
    rw [List.length_cons] at hl
    have h2' := List.nodup_cons.mp h2
    obtain ⟨v, s1, e1, x1, g1⟩ := ev_key (K := K) (a := a) (u0 := u0) (u1 := u1) (u5 := u5) (u8 := u8) (u9 := u9) (u10 := u10) x g hh (h1 k (List.mem_cons_self ..)) (h3 k (List.mem_cons_self ..)) (by omega)
    obtain ⟨ls', y7, st', P', e2, x2, g2, l2, p2⟩ := ev_keys (u0 := u0) (u1 := u1) (u5 := u5) (u8 := u8) (u9 := u9) (u10 := u10) hh kl (ls ++ [.set k v]) (P ++ [(h, k)]) (some (.d (.str k))) s1 (fun q hq => h1 q (List.mem_cons_of_mem _ hq)) h2'.2 (fun q hq z => by
      rcases List.mem_append.mp z with z | z
      · exact h3 q (List.mem_cons_of_mem _ hq) z
      · have := (Prod.mk.inj (List.mem_singleton.mp z)).2
        subst this
        exact h2'.1 hq) (by rw [List.length_append, List.length_singleton]; omega) x1 g1
    refine ⟨ls', y7, st', P', ?_, x2, g2, by rw [l2, List.length_append, List.length_singleton, List.length_cons]; omega, fun p hp => ?_⟩
    · rw [show (sD (k :: kl)).map U.d = U.d (.str k) :: (sD kl).map U.d from rfl, loopL]
      simp only [tgN, List.set_cons_zero, List.set_cons_succ, e1, e2]
    · rcases p2 p hp with q | q
      · rcases List.mem_append.mp q with q | q
        · exact .inl q
        · rw [List.mem_singleton] at q; subst q; exact .inr rfl
      · exact .inr q
theorem slTake (ss : List Str) (d : Nat) : oSl (.d (.lst (sD ss))) none (some (d : Int)) st = some (.d (.lst (sD (ss.take d)))) := by
  show (match pureL (cutG ((sD ss).map U.d) none (some (d : Int))) with
      | some ds => some (U.d (.lst ds))
      | none => none) = _
  have : cutG ((sD ss).map U.d) none (some (d : Int)) = sU (ss.take d) := by
    rw [cutG_map U.d (sD ss), cutTake]
    rfl
  rw [this, show pureL (sU (ss.take d)) = some (sD (ss.take d)) from pureL_map _]
theorem addC_cell {xs ys : List Str} (hc : st[c]? = some (.lst (sU xs))) (hl : xs.length + ys.length ≤ 200) : vAddC (.ref c) (.d (.lst (sD ys))) st = .ok (.ref st.length) (st ++ [.lst (sU (xs ++ ys))]) := by
  have hz : (sU xs).length + (sU ys).length ≤ sizeLine := by rw [sU_len, sU_len]; exact Nat.le_trans hl (by decide)
  unfold vAddC
  simp only [lstG, hc]
  rw [if_pos (show (sU xs).length + ((sD ys).map U.d).length ≤ sizeLine from hz)]
  rw [show sU xs ++ (sD ys).map U.d = sU (xs ++ ys) from sU_app xs ys]
theorem ev_head {h : Str} {hd : D} {H : List Str} {P : List (Str × Str)} {u0 u1 u5 x7 u8 u9 u10 : Option U} (x : Ls T st b c d ls) (g : Gd ls hd H P) (hh : h ∈ HDS) (hn : h ∉ H) (hP : ∀ p ∈ P, p.1 ∈ H) (hl : ls.length ≤ 90) :
    ∃ ls' c' y7 st' P', b_law_2 K a [u0, u1, some (.ref b), some (.ref c), some (.ref d), u5, some (.d (.str h)), x7, u8, u9, u10] st = .ok [u0, u1, some (.ref b), some (.ref c'), some (.ref d), u5, some (.d (.str h)), y7, u8, u9, u10] .nx st' ∧ Ls T st' b c' d ls' ∧ Gd ls' (.str h) (H ++ [h]) P' ∧ ls'.length ≤ ls.length + 5 ∧ ls.length ≤ ls'.length ∧ ∀ p ∈ P', p.1 ∈ H ++ [h] := by
  obtain ⟨z1, z2⟩ := lits_h h hh
  have g1 := g.blank.head hh hn
  have hb := addC_cell (st := st) x.lines (ys := [("" : Str), ("[" : Str) ++ h ++ ("]" : Str)]) (by unfold tx; rw [List.length_map]; simp; omega)
  have hnm : tx ls ++ [("" : Str), ("[" : Str) ++ h ++ ("]" : Str)] = tx (ls ++ [Ln.rem ""] ++ [Ln.head h]) := by unfold tx; rw [List.map_append, List.map_append, List.append_assoc]; rfl
  have hss : setsL .non (ls ++ [Ln.rem ""] ++ [Ln.head h]) = setsL .non ls := by
    rw [setsL_snoc, setsL_snoc]
    show setsL .non ls ++ [] ++ [] = _
    rw [List.append_nil, List.append_nil]
  rw [hnm, show sD [("" : Str), ("[" : Str) ++ h ++ ("]" : Str)] = [D.str "", D.str (("[" : Str) ++ h ++ ("]" : Str))] from rfl] at hb
  have hbl := x.bag.lt
  have hdl := (List.getElem?_eq_some_iff.mp x.dict).1
  have x1 : Ls T (st ++ [.lst (sU (tx (ls ++ [Ln.rem ""] ++ [Ln.head h])))]) b st.length d (ls ++ [Ln.rem ""] ++ [Ln.head h]) := ⟨x.wf.pushL _, by obtain ⟨n, y, e⟩ := x.bag; exact ⟨n, y, app_at e⟩, new_at, by rw [hss]; exact app_at x.dict, tab_push x.tab (nt_lst _), by omega, x.bd, by omega⟩
  obtain ⟨m, s1, e1, hd1, k1⟩ := ev_ltake (K := K) (a := a) x1.wf x1.bag (m := 4) (by decide) (by decide)
  have x2 := x1.fb k1
  have hkl : (KYS.take m).length ≤ 3 := by rw [List.length_take]; exact Nat.min_le_right _ _
  have hln : (ls ++ [Ln.rem ""] ++ [Ln.head h]).length = ls.length + 2 := by rw [List.length_append, List.length_append]; rfl
  obtain ⟨ls', y7, s2, P', e2, x3, g3, l3, p3⟩ := ev_keys (K := K) (a := a) (H := H ++ [h]) (u0 := u0) (u1 := u1) (u5 := u5) (u8 := u8) (u9 := u9) (u10 := u10) hh (KYS.take m) _ P x7 s1 (fun k hk => List.mem_of_mem_take hk) ((by decide +kernel : KYS.Nodup).sublist (List.take_sublist _ _)) (fun k _ z => hn (hP _ z)) (by rw [hln]; omega) x2 g1
  have eF : sFor (fIter (fSl (fN vLst (fCons (vC (.str "a")) (fCons (vC (.str "net")) (fCons (vC (.str "port")) fNil)))) oNone (oSome (fCall 2 0 gPos (m_L_law_take K a) (fCW (fCons (vVar 2) (fCons (vC (.int 4)) fNil)) fNil))))) (tgN 7) (b_law_1 K a) [u0, u1, some (.ref b), some (.ref st.length), some (.ref d), u5, some (.d (.str h)), x7, u8, u9, u10] (st ++ [.lst (sU (tx (ls ++ [Ln.rem ""] ++ [Ln.head h])))]) = loopL (tgN 7) (b_law_1 K a) ((sD (KYS.take m)).map U.d) [u0, u1, some (.ref b), some (.ref st.length), some (.ref d), u5, some (.d (.str h)), x7, u8, u9, u10] s1 := sFor_lst (fIter_ok (by
    have hsl := slTake (st := s1) KYS m
    rw [show sD KYS = [D.str "a", .str "net", .str "port"] from rfl] at hsl
    simp only [fnM, sSeq, sRet, sRetN, sExpr, sIf, sNil, sNo, sAsg, tgN, bndS, bnd, vVar, vC, f2, f1, fB, pu, fN, vTup, vLst, fTup, fCons, fNil, fPure, fIf, fAnd, fOr, fNot, asB, asT, bAnd, bOr, bNot, fChain, fCall, fCW, gPos, gApp, R.of, R.of2, fM, pu4, tgT, tgCons, tgNil, unp, pureL, sPar, sPar3, fLstC, fFld, oFld, fMeth, insU, sFldS, setFld, fSl, oNone, oSome, tgSub, setU, fIter, fItN, fItS, sFor, getL, getT, VL.getD, keyD, tyB, lstC, oAdd, oSub, oMul, oFdiv, oMod, oPow, oNeg, oLt, oLe, oGt, oGe, oEq, oNe, oIsN, oNotN, oIn, oNotIn, oIx, oLen, oInt, oAbs, oMin, oMax, oStr, oList, oListC, oTuple, oAll, oAny, itemsU, lenN, truB, fJs, oFmt, List.map_cons, List.map_nil, List.length_cons, List.length_nil, List.replicate_succ, List.replicate_zero, List.cons_append, List.nil_append, List.append_nil, List.getElem?_cons_zero, List.getElem?_cons_succ, List.set_cons_zero, List.set_cons_succ, Nat.reduceAdd, Nat.reduceSub, Option.map_some, Option.map_none, if_true, if_false, ite_true, ite_false, Bool.false_eq_true, reduceCtorEq, true_and, and_true, and_self, Bool.not_true, Bool.not_false, Nat.zero_add, Option.bind_some, Option.bind_eq_bind, Option.pure_def, decide_true, decide_false, eq_self, Nat.reduceEqDiff, Nat.reduceLT, Nat.reduceLeDiff, Int.reduceLT, Int.reduceLE, Int.reduceEq, Bool.and_true, Bool.true_and, Bool.false_and, Bool.or_false, Bool.or_true, Bool.true_or, Bool.false_or, sz0, szl0, sz1, szl1, sz2, szl2, sz3, szl3, sz4, szl4, sz5, szl5, sz6, szl6, sz7, szl7, sz8, szl8, sz9, szl9, sz10, szl10, sz11, szl11, sz12, szl12, sz13, szl13, sz14, szl14, sz15, szl15, e1, hsl]))
  refine ⟨ls', st.length, y7, s2, P', ?_, x3, g3, by omega, by omega, fun p hp => ?_⟩
  · have eA : sAsg (f2s vAddC (vVar 3) (fN vLst (fCons (vC (.str "")) (fCons (f2 oAdd (f2 oAdd (vC (.str "[")) (vVar 6)) (vC (.str "]"))) fNil)))) (tgN 3) [u0, u1, some (.ref b), some (.ref c), some (.ref d), u5, some (.d (.str h)), x7, u8, u9, u10] st = .ok [u0, u1, some (.ref b), some (.ref st.length), some (.ref d), u5, some (.d (.str h)), x7, u8, u9, u10] .nx (st ++ [.lst (sU (tx (ls ++ [Ln.rem ""] ++ [Ln.head h])))]) := by
      simp only [fnM, sSeq, sRet, sRetN, sExpr, sIf, sNil, sNo, sAsg, tgN, bndS, bnd, vVar, vC, f2, f1, fB, pu, fN, vTup, vLst, fTup, fCons, fNil, fPure, fIf, fAnd, fOr, fNot, asB, asT, bAnd, bOr, bNot, fChain, fCall, fCW, gPos, gApp, R.of, R.of2, fM, pu4, tgT, tgCons, tgNil, unp, pureL, sPar, sPar3, fLstC, fFld, oFld, fMeth, insU, sFldS, setFld, fSl, oNone, oSome, tgSub, setU, fIter, fItN, fItS, sFor, getL, getT, VL.getD, keyD, tyB, lstC, oAdd, oSub, oMul, oFdiv, oMod, oPow, oNeg, oLt, oLe, oGt, oGe, oEq, oNe, oIsN, oNotN, oIn, oNotIn, oIx, oLen, oInt, oAbs, oMin, oMax, oStr, oList, oListC, oTuple, oAll, oAny, itemsU, lenN, truB, fJs, oFmt, List.map_cons, List.map_nil, List.length_cons, List.length_nil, List.replicate_succ, List.replicate_zero, List.cons_append, List.nil_append, List.append_nil, List.getElem?_cons_zero, List.getElem?_cons_succ, List.set_cons_zero, List.set_cons_succ, Nat.reduceAdd, Nat.reduceSub, Option.map_some, Option.map_none, if_true, if_false, ite_true, ite_false, Bool.false_eq_true, reduceCtorEq, true_and, and_true, and_self, Bool.not_true, Bool.not_false, Nat.zero_add, Option.bind_some, Option.bind_eq_bind, Option.pure_def, decide_true, decide_false, eq_self, Nat.reduceEqDiff, Nat.reduceLT, Nat.reduceLeDiff, Int.reduceLT, Int.reduceLE, Int.reduceEq, Bool.and_true, Bool.true_and, Bool.false_and, Bool.or_false, Bool.or_true, Bool.true_or, Bool.false_or, sz0, szl0, sz1, szl1, sz2, szl2, sz3, szl3, sz4, szl4, sz5, szl5, sz6, szl6, sz7, szl7, sz8, szl8, sz9, szl9, sz10, szl10, sz11, szl11, sz12, szl12, sz13, szl13, sz14, szl14, sz15, szl15, f2s, z1, z2, hb]
    unfold b_law_2
    simp only [sSeq, eA, eF, e2]
  · rcases p3 p hp with q | q
    · exact List.mem_append_left _ (hP p q)
    · rw [q]; exact List.mem_append_right _ (List.mem_singleton.mpr rfl)
theorem ev_heads {u0 u1 u5 u8 u9 u10 : Option U} : ∀ (hl : List Str) (ls : List Ln) (hd : D) (H : List Str) (P : List (Str × Str)) (c : Nat) (x6 x7 : Option U) (st : Store), (∀ h ∈ hl, h ∈ HDS) → hl.Nodup → (∀ h ∈ hl, h ∉ H) → (∀ p ∈ P, p.1 ∈ H) → ls.length + 5 * hl.length ≤ 60 → Ls T st b c d ls → Gd ls hd H P →
    ∃ ls' c' y6 y7 st' hd' P', loopL (tgN 6) (b_law_2 K a) ((sD hl).map U.d) [u0, u1, some (.ref b), some (.ref c), some (.ref d), u5, x6, x7, u8, u9, u10] st = .ok [u0, u1, some (.ref b), some (.ref c'), some (.ref d), u5, y6, y7, u8, u9, u10] .nx st' ∧ Ls T st' b c' d ls' ∧ Gd ls' hd' (H ++ hl) P' ∧ ls'.length ≤ 60 ∧ ls.length ≤ ls'.length
  | [], ls, hd, H, P, c, x6, x7, st, _, _, _, _, hl, x, g => ⟨ls, c, x6, x7, st, hd, P, rfl, x, by rw [List.append_nil]; exact g, by simpa using hl, Nat.le_refl _⟩
  | h :: hl, ls, hd, H, P, c, x6, x7, st, h1, h2, h3, h4, hz, x, g => by
    rw [List.length_cons] at hz
    have h2' := List.nodup_cons.mp h2
    obtain ⟨ls1, c1, y7, s1, P1, e1, x1, g1, l1, l1', p1⟩ := ev_head (K := K) (a := a) (u0 := u0) (u1 := u1) (u5 := u5) (x7 := x7) (u8 := u8) (u9 := u9) (u10 := u10) x g (h1 h (List.mem_cons_self ..)) (h3 h (List.mem_cons_self ..)) h4 (by omega)
    obtain ⟨ls', c', y6, y7', st', hd', P', e2, x2, g2, l2, l2'⟩ := ev_heads (u0 := u0) (u1 := u1) (u5 := u5) (u8 := u8) (u9 := u9) (u10 := u10) hl ls1 (.str h) (H ++ [h]) P1 c1 (some (.d (.str h))) y7 s1 (fun q hq => h1 q (List.mem_cons_of_mem _ hq)) h2'.2 (fun q hq z => by
      rcases List.mem_append.mp z with z | z
      · exact h3 q (List.mem_cons_of_mem _ hq) z
      · rw [List.mem_singleton] at z; subst z; exact h2'.1 hq) p1 (by omega) x1 g1
    refine ⟨ls', c', y6, y7', st', hd', P', ?_, x2, by rw [List.append_assoc] at g2; exact g2, l2, by omega⟩
    rw [show (sD (h :: hl)).map U.d = U.d (.str h) :: (sD hl).map U.d from rfl, loopL]
    simp only [tgN, List.set_cons_zero, List.set_cons_succ, e1, e2]
end

end VL.K06

namespace VL.K06
open PySem PySem.Spec PyProof.Rows L2 VL
variable {K : PySem.W.Frag} {a : Ad} {st : Store}
/-! the objects that are drawn -/
def PLS : List Str := HDS.flatMap fun h => KYS.map fun k => h ++ ("." : Str) ++ k
def LIT : List Str := ["net", "a", "a.a", "net.port", "port", "ui.b", "ui", "zz.net"]
def NMS : List Str := HDS ++ PLS ++ LIT
def sgU (s : Str) : Bool := decide (s.length ≤ 12) && s.cps.toList.all fun c => decide (c < 128)
theorem sgu_ok {s : Str} (h : sgU s = true) : Sg 12 s := by
  unfold sgU at h
  rw [Bool.and_eq_true, List.all_eq_true] at h
  exact ⟨of_decide_eq_true h.1, fun c hc => of_decide_eq_true (h.2 c hc)⟩
theorem nms_sg : ∀ s ∈ NMS, sgU s = true := by decide +kernel
theorem nms_up : ∀ s ∈ NMS, sgU (Txt.upper s) = true := by decide +kernel
def SGN : List Str := ["a", ".", " ", "z", "]"]
theorem sgn_sg : ∀ s ∈ SGN, sgU s = true := by decide +kernel
theorem lit_sg : sgU "\n" = true ∧ sgU "[" = true ∧ sgU "]" = true ∧ sgU "" = true := by decide +kernel
theorem Sg.add {n m : Nat} {x y : Str} (h : Sg n x) (k : Sg m y) (q : n + m ≤ 300) : x.length + y.length ≤ sizeLine := Nat.le_trans (Nat.add_le_add h.1 k.1) (Nat.le_trans q (by decide))
theorem ev_object {b : Nat} (h : WF st) (hb : Bag st b) {nms : List Str} (hn : ∀ s ∈ nms, s ∈ NMS) (h0 : 0 < nms.length) (h1 : nms.length ≤ 100) :
    ∃ x st', m_L_law_object K a [.ref b, .d (.lst (sD nms))] st = .ok (.d x) st' ∧ Ob x ∧ Fb st st' b := by
  obtain ⟨y, s1, e1, hy, k1⟩ := ev_lof (K := K) (a := a) h hb (ds := sD nms) (by rw [sD_len]; exact h0) (by rw [sD_len]; omega)
  obtain ⟨s, hs, rfl⟩ := List.mem_map.mp hy
  have t := sgu_ok (nms_sg s (hn s hs))
  have tu := sgu_ok (nms_up s (hn s hs))
  have tl := t.1
  obtain ⟨d, s2, e2, hd, k2⟩ := ev_ltake (K := K) (a := a) k1.wf k1.bag (m := (s.length : Nat) + 1) (by omega) (by omega)
  obtain ⟨z, s3, e3, hz, k3⟩ := ev_lof (K := K) (a := a) k2.wf k2.bag (ds := sD SGN) (by decide) (by decide)
  obtain ⟨g, hg, rfl⟩ := List.mem_map.mp hz
  have e3' : m_L_law_of K a [.ref b, .d (.lst [.str "a", .str ".", .str " ", .str "z", .str "]"])] s2 = .ok (.d (.str g)) s3 := e3
  have tg := sgu_ok (sgn_sg g hg)
  obtain ⟨n1, n2, n3, n4⟩ := lit_sg
  have n1 := sgu_ok n1
  have n2 := sgu_ok n2
  have n3 := sgu_ok n3
  have n4 := sgu_ok n4
  have c1 := t.cut none (some (d : Int))
  have c2 := t.cut (some (d : Int)) none
  have c3 := t.cut (some ((d : Int) + 1)) none
  have hl : s.length ≤ sizeLine := t.sz (by decide)
  have hu : s.length ≤ 5592405 := by omega
  obtain ⟨x, s4, e4, hx, k4⟩ := ev_lof (K := K) (a := a) k3.wf k3.bag (ds := [.str s, .str s, .str (L2.cutS s none (some (d : Int)) ++ g ++ L2.cutS s (some (d : Int)) none), .str (L2.cutS s none (some (d : Int)) ++ L2.cutS s (some ((d : Int) + 1)) none), .str (Txt.upper s), .str (s ++ ("\n" : Str)), .str (("[" : Str) ++ s ++ ("]" : Str)), .tup [.str s], .lst [.str s], .non, .int 0, .bl true, .str ""]) (by simp only [List.length_cons, List.length_nil]; omega) (by simp only [List.length_cons, List.length_nil]; omega)
  refine ⟨x, s4, ?_, ?_, ((k1.trans k2).trans k3).trans k4⟩
  · have a1 := c1.add tg (by decide)
    have a2 := (c1.app tg).add c2 (by decide)
    have a3 := c1.add c3 (by decide)
    have a4 := t.add n1 (by decide)
    have a5 := n2.add t (by decide)
    have a6 := (n2.app t).add n3 (by decide)
    have wl : wFrz st.length (.d x) s4 = .ok (.d x) s4 := by
      have hln : s4.length = st.length := (((k1.trans k2).trans k3).trans k4).len
      rw [← hln]; exact wFrz_d (((k1.trans k2).trans k3).trans k4).wf x
    unfold m_L_law_object g_L_law_object
    simp only [fnM, sSeq, sRet, sRetN, sExpr, sIf, sNil, sNo, sAsg, tgN, bndS, bnd, vVar, vC, f2, f1, fB, pu, fN, vTup, vLst, fTup, fCons, fNil, fPure, fIf, fAnd, fOr, fNot, asB, asT, bAnd, bOr, bNot, fChain, fCall, fCW, gPos, gApp, R.of, R.of2, fM, pu4, tgT, tgCons, tgNil, unp, pureL, sPar, sPar3, fLstC, fFld, oFld, fMeth, insU, sFldS, setFld, fSl, oNone, oSome, tgSub, setU, fIter, fItN, fItS, sFor, getL, getT, VL.getD, keyD, tyB, lstC, oAdd, oSub, oMul, oFdiv, oMod, oPow, oNeg, oLt, oLe, oGt, oGe, oEq, oNe, oIsN, oNotN, oIn, oNotIn, oIx, oLen, oInt, oAbs, oMin, oMax, oStr, oList, oListC, oTuple, oAll, oAny, itemsU, lenN, truB, fJs, oFmt, List.map_cons, List.map_nil, List.length_cons, List.length_nil, List.replicate_succ, List.replicate_zero, List.cons_append, List.nil_append, List.append_nil, List.getElem?_cons_zero, List.getElem?_cons_succ, List.set_cons_zero, List.set_cons_succ, Nat.reduceAdd, Nat.reduceSub, Option.map_some, Option.map_none, if_true, if_false, ite_true, ite_false, Bool.false_eq_true, reduceCtorEq, true_and, and_true, and_self, Bool.not_true, Bool.not_false, Nat.zero_add, Option.bind_some, Option.bind_eq_bind, Option.pure_def, decide_true, decide_false, eq_self, Nat.reduceEqDiff, Nat.reduceLT, Nat.reduceLeDiff, Int.reduceLT, Int.reduceLE, Int.reduceEq, Bool.and_true, Bool.true_and, Bool.false_and, Bool.or_false, Bool.or_true, Bool.true_or, Bool.false_or, sz0, szl0, sz1, szl1, sz2, szl2, sz3, szl3, sz4, szl4, sz5, szl5, sz6, szl6, sz7, szl7, sz8, szl8, sz9, szl9, sz10, szl10, sz11, szl11, sz12, szl12, sz13, szl13, sz14, szl14, sz15, szl15, e1, e2, e3', oSl, hl, a1, a2, a3, a4, a5, a6, mUpper, hu, e4, wl]
  · simp only [List.mem_cons, List.not_mem_nil, or_false] at hx
    have w : ∀ {n : Nat} {y : Str}, Sg n y → n ≤ 40 → Ob (.str y) := fun t q => .str (t.mono q)
    rcases hx with rfl | rfl | rfl | rfl | rfl | rfl | rfl | rfl | rfl | rfl | rfl | rfl | rfl
    · exact w t (by decide)
    · exact w t (by decide)
    · exact w ((c1.app tg).app c2) (by decide)
    · exact w (c1.app c3) (by decide)
    · exact w tu (by decide)
    · exact w (t.app n1) (by decide)
    · exact w ((n2.app t).app n3) (by decide)
    · exact .tup (t.mono (by decide))
    · exact .lst (t.mono (by decide))
    · exact .non
    · exact .zero
    · exact .yes
    · exact w n4 (by decide)
section
variable {T : List (Addr × Str)} {b c d : Nat} {ls : List Ln}
theorem ev_turns (kx : Kx K a) {s : Str} {ds : List D} {hd : D} {H : List Str} {P : List (Str × Str)} (g : Gd ls hd H P) (hl : ls.length ≤ 60) {nms : List Str} (hn : ∀ s ∈ nms, s ∈ NMS) (h0 : 0 < nms.length) (h1 : nms.length ≤ 100) {u0 u1 u6 u7 : Option U} : ∀ (us : List U) (x10 : Option U) (st : Store), Ls a.tabs st b c d ls →
    ∃ y10 st', loopL (tgN 10) (b_law_3 K a) us [u0, u1, some (.ref b), some (.ref c), some (.ref d), some (.d (.lst (sD H))), u6, u7, some (.d (fileD a s (partsL .non 0 ls) ds (kvD (setsL .non ls)))), some (.d (.lst (sD nms))), x10] st = .ok [u0, u1, some (.ref b), some (.ref c), some (.ref d), some (.d (.lst (sD H))), u6, u7, some (.d (fileD a s (partsL .non 0 ls) ds (kvD (setsL .non ls)))), some (.d (.lst (sD nms))), y10] .nx st' ∧ Ls a.tabs st' b c d ls
  | [], x10, st, x => ⟨x10, st, rfl, x⟩
  | u :: us, x10, st, x => by
    obtain ⟨o, s1, e1, ho, k1⟩ := ev_object (K := K) (a := a) x.wf x.bag hn h0 h1
    have x1 := x.fb k1
    have fs := g.fs (Nat.lt_of_le_of_lt hl (by decide))
    have er := ev_right (K := K) (a := a) (s := s) (ds := ds) kx x1.wf x1.tab fs (fun q hq => tab_v _ (g.st q hq).1) (fun y hy => tab_h y (g.hH y (by rw [← g.hs]; exact hy))) ho x1.dict
    rw [g.hs] at er
    obtain ⟨y10, st', e2, x2⟩ := ev_turns kx (s := s) (ds := ds) g hl hn h0 h1 (u0 := u0) (u1 := u1) (u6 := u6) (u7 := u7) us (some u) s1 x1
    refine ⟨y10, st', ?_, x2⟩
    rw [← e2, loopL]
    have eb : b_law_3 K a [u0, u1, some (.ref b), some (.ref c), some (.ref d), some (.d (.lst (sD H))), u6, u7, some (.d (fileD a s (partsL .non 0 ls) ds (kvD (setsL .non ls)))), some (.d (.lst (sD nms))), some u] st = .ok [u0, u1, some (.ref b), some (.ref c), some (.ref d), some (.d (.lst (sD H))), u6, u7, some (.d (fileD a s (partsL .non 0 ls) ds (kvD (setsL .non ls)))), some (.d (.lst (sD nms))), some u] .nx s1 := by
      unfold b_law_3
      simp only [fnM, sSeq, sRet, sRetN, sExpr, sIf, sNil, sNo, sAsg, tgN, bndS, bnd, vVar, vC, f2, f1, fB, pu, fN, vTup, vLst, fTup, fCons, fNil, fPure, fIf, fAnd, fOr, fNot, asB, asT, bAnd, bOr, bNot, fChain, fCall, fCW, gPos, gApp, R.of, R.of2, fM, pu4, tgT, tgCons, tgNil, unp, pureL, sPar, sPar3, fLstC, fFld, oFld, fMeth, insU, sFldS, setFld, fSl, oNone, oSome, tgSub, setU, fIter, fItN, fItS, sFor, getL, getT, VL.getD, keyD, tyB, lstC, oAdd, oSub, oMul, oFdiv, oMod, oPow, oNeg, oLt, oLe, oGt, oGe, oEq, oNe, oIsN, oNotN, oIn, oNotIn, oIx, oLen, oInt, oAbs, oMin, oMax, oStr, oList, oListC, oTuple, oAll, oAny, itemsU, lenN, truB, fJs, oFmt, List.map_cons, List.map_nil, List.length_cons, List.length_nil, List.replicate_succ, List.replicate_zero, List.cons_append, List.nil_append, List.append_nil, List.getElem?_cons_zero, List.getElem?_cons_succ, List.set_cons_zero, List.set_cons_succ, Nat.reduceAdd, Nat.reduceSub, Option.map_some, Option.map_none, if_true, if_false, ite_true, ite_false, Bool.false_eq_true, reduceCtorEq, true_and, and_true, and_self, Bool.not_true, Bool.not_false, Nat.zero_add, Option.bind_some, Option.bind_eq_bind, Option.pure_def, decide_true, decide_false, eq_self, Nat.reduceEqDiff, Nat.reduceLT, Nat.reduceLeDiff, Int.reduceLT, Int.reduceLE, Int.reduceEq, Bool.and_true, Bool.true_and, Bool.false_and, Bool.or_false, Bool.or_true, Bool.true_or, Bool.false_or, sz0, szl0, sz1, szl1, sz2, szl2, sz3, szl3, sz4, szl4, sz5, szl5, sz6, szl6, sz7, szl7, sz8, szl8, sz9, szl9, sz10, szl10, sz11, szl11, sz12, szl12, sz13, szl13, sz14, szl14, sz15, szl15, e1, er]
    simp only [tgN, List.set_cons_zero, List.set_cons_succ, eb]
end

end VL.K06

namespace VL.K06
open PySem PySem.Spec PyProof.Rows L2 VL
variable {K : PySem.W.Frag} {a : Ad} {st : Store}
/-! the law -/
theorem split_nl {parts : List Str} (h0 : parts ≠ []) (h : ∀ p ∈ parts, ¬ (10 ∈ TL.tl p)) : Txt.split (Txt.join ("\n" : Str) parts) ("\n" : Str) = parts :=
  TL.split_join (y := ("\n" : Str)) (s := 10) (S := []) rfl (by decide +kernel) h0 h
theorem split_e : Txt.split ("" : Str) ("\n" : Str) = [("" : Str)] := by decide +kernel
def joined (ls : List Ln) : Str := Txt.join ("\n" : Str) (tx ls)
section
variable {ls : List Ln} {hd : D} {H : List Str} {P : List (Str × Str)}
theorem Gd.nl (g : Gd ls hd H P) : ∀ p ∈ tx ls, ¬ (10 ∈ TL.tl p) := fun p hp => by
  obtain ⟨l, h, rfl⟩ := List.mem_map.mp hp
  exact (g.sg l h).2
theorem tx_len (ls : List Ln) : (tx ls).length = ls.length := List.length_map ..
theorem Gd.sum (g : Gd ls hd H P) (hl : ls.length ≤ 60) : ((tx ls).map fun x => x.length).sum + (tx ls).length * ("\n" : Str).length ≤ 61 * 60 :=
  join_len (tx ls) 60 (fun p hp => by
    obtain ⟨l, h, rfl⟩ := List.mem_map.mp hp
    exact Nat.le_trans (g.sg l h).1.1 (by decide)) (by rw [tx_len]; exact hl)
theorem Gd.text (g : Gd ls hd H P) (hl : ls.length ≤ 60) (h2 : 2 ≤ ls.length) : TextOk (joined ls) ls := by
  have hj := g.sum hl
  refine ⟨?_, g.vd, ?_, Nat.lt_of_le_of_lt hl (by decide)⟩
  · have hs := split_nl (parts := tx ls) (fun z => by have := tx_len ls; rw [z] at this; simp at this; omega) g.nl
    unfold linesOf joined
    by_cases e : Txt.join ("\n" : Str) (tx ls) = ("" : Str)
    · rw [e, split_e] at hs
      have := tx_len ls
      rw [← hs] at this
      simp at this
      omega
    · rw [if_neg e, hs]; rfl
  · have hsz : (joined ls).length ≤ ((tx ls).map fun x => x.length).sum + (tx ls).length * ("\n" : Str).length := by
      show (Builtin.Str.glued _ _).length ≤ _
      rw [size_glued]
      exact Nat.add_le_add_left (Nat.mul_le_mul_right _ (Nat.sub_le _ _)) _
    exact Nat.le_trans (Nat.add_le_add_right (Nat.le_trans hsz hj) 2) (by decide)
theorem Gd.join (g : Gd ls hd H P) (hl : ls.length ≤ 60) {c : Nat} (hc : st[c]? = some (.lst (sU (tx ls)))) : mJoin (.d (.str "\n")) [.ref c] st = some (.d (.str (joined ls))) := by
  have hj := g.sum hl
  have hi : itemsU st (.ref c) = some (sU (tx ls)) := by simp only [itemsU, getL, hc]
  unfold mJoin
  simp only [hi, show strsU (sU (tx ls)) = some (tx ls) from strs_u _]
  exact if_pos (Nat.le_trans hj (by decide))
theorem addD (xs ys : List Str) (h : xs.length + ys.length ≤ 100) : oAdd (.d (.lst (sD xs))) (.d (.lst (sD ys))) st = some (.d (.lst (sD (xs ++ ys)))) := by
  unfold oAdd
  have hz : (sD xs).length + (sD ys).length ≤ sizeLine := by rw [sD_len, sD_len]; exact Nat.le_trans h (by decide)
  simp only
  rw [if_pos hz]
  unfold sD
  rw [List.map_append]
theorem keys_kv {d : Nat} {ss : List (Str × Str)} (hd : st[d]? = some (.dct (kvU ss))) : oListK [.ref d] st = some (.d (.lst (sD (ss.map fun q => q.1)))) := by
  unfold oListK
  have hg : VL.getD st (.ref d) = some (kvU ss) := by simp only [VL.getD, hd]
  simp only [hg, Option.map_some]
  congr 3
  unfold kvU kvD sD
  rw [List.map_map, List.map_map, List.map_map]
  rfl
theorem pls_mem : ∀ h ∈ HDS, ∀ k ∈ KYS, plS (h, k) ∈ PLS := by decide +kernel
theorem Gd.nms (g : Gd ls hd H P) : ∀ s ∈ H ++ ((setsL .non ls).map fun q => q.1) ++ LIT, s ∈ NMS := fun s hs => by
  unfold NMS
  rcases List.mem_append.mp hs with q | q
  · rcases List.mem_append.mp q with q | q
    · exact List.mem_append_left _ (List.mem_append_left _ (g.hH s q))
    · obtain ⟨x, hx, rfl⟩ := List.mem_map.mp q
      obtain ⟨-, p, hp, e⟩ := g.st x hx
      obtain ⟨a1, a2⟩ := g.hP p hp
      rw [e]
      exact List.mem_append_left _ (List.mem_append_right _ (pls_mem p.1 a1 p.2 a2))
  · exact List.mem_append_right _ q
end
theorem itR30 : itR [.d (.int 30)] = some (.lst ((List.range 30).map fun i => .d (.int (0 + (i : Nat))))) := itR_eq (w := 30) (by decide)
theorem ev_at (kx : Kx K a) {ns : List Int} (hn : ns.length ≤ 63) {t : Nat} (ht : t < 64) {x2 x3 x4 x5 x6 x7 x8 x9 x10 : Option U} (h : WF st) (tb : TabIn a.tabs st) :
    ∃ y2 y3 y4 y5 y6 y7 y8 y9 y10 st', b_law_4 K a [some (.d (.scr ns)), some (.d (.int (t : Nat))), x2, x3, x4, x5, x6, x7, x8, x9, x10] st = .ok [some (.d (.scr ns)), some (.d (.int (t : Nat))), y2, y3, y4, y5, y6, y7, y8, y9, y10] .nx st' ∧ WF st' ∧ TabIn a.tabs st' := by
  obtain ⟨n, x, e1⟩ := ev_lbag (K := K) (a := a) h ns hn t ht
  let S1 : Store := st ++ [.lst [.d (.int n), .d (.int x)]]
  let S2 : Store := S1 ++ [.lst (sU (tx [l1, l2]))]
  let S3 : Store := S2 ++ [.dct []]
  have L1 : S1.length = st.length + 1 := by simp [S1]
  have L2' : S2.length = st.length + 2 := by simp [S2, S1]
  have x0 : Ls a.tabs S3 st.length (st.length + 1) (st.length + 2) [l1, l2] := by
    refine ⟨((h.pushL [.int n, .int x]).pushL _).push rfl, ⟨n, x, app_at (app_at new_at)⟩, ?_, ?_, tab_push (tab_push (tab_push tb (nt_lst _)) (nt_lst _)) (nt_dct _), by omega, by omega, by omega⟩
    · rw [← L1]; exact app_at new_at
    · rw [← L2']; exact new_at
  obtain ⟨m, s1, e2, hm, k1⟩ := ev_ltake (K := K) (a := a) x0.wf x0.bag (m := 4) (by decide) (by decide)
  have x1 := x0.fb k1
  have hsl := slTake (st := s1) HDS m
  have hh3 : (HDS.take m).length ≤ 3 := by rw [List.length_take]; exact Nat.min_le_right _ _
  obtain ⟨ls, c', y6, y7, s2, hd, P, e3, x2', g, hl, h2⟩ := ev_heads (K := K) (a := a) (u0 := some (.d (.scr ns))) (u1 := some (.d (.int (t : Nat)))) (u5 := some (.d (.lst (sD (HDS.take m))))) (u8 := x8) (u9 := x9) (u10 := x10) (HDS.take m) [l1, l2] .non [] [] _ x6 x7 s1 (fun q hq => List.mem_of_mem_take hq) ((by decide +kernel : HDS.Nodup).sublist (List.take_sublist _ _)) (fun _ _ z => nomatch z) (fun _ z => nomatch z) (by show 2 + _ ≤ 60; omega) x1 gd_top
  rw [List.nil_append] at g
  have tk := g.text hl h2
  have hj := g.join hl x2'.lines
  obtain ⟨ds, e4⟩ := ev_make (K := K) (a := a) (st := s2) x2'.wf tk (fc := fCW (fCons (fM "str" (pu4 mJoin) (vC (.str "\n")) (fCons (vVar 3) fNil)) fNil) fNil) (env := [some (.d (.scr ns)), some (.d (.int (t : Nat))), some (.ref st.length), some (.ref c'), some (.ref (st.length + 2)), some (.d (.lst (sD (HDS.take m)))), y6, y7, x8, x9, x10]) (by simp only [fnM, sSeq, sRet, sRetN, sExpr, sIf, sNil, sNo, sAsg, tgN, bndS, bnd, vVar, vC, f2, f1, fB, pu, fN, vTup, vLst, fTup, fCons, fNil, fPure, fIf, fAnd, fOr, fNot, asB, asT, bAnd, bOr, bNot, fChain, fCall, fCW, gPos, gApp, R.of, R.of2, fM, pu4, tgT, tgCons, tgNil, unp, pureL, sPar, sPar3, fLstC, fFld, oFld, fMeth, insU, sFldS, setFld, fSl, oNone, oSome, tgSub, setU, fIter, fItN, fItS, sFor, getL, getT, VL.getD, keyD, tyB, lstC, oAdd, oSub, oMul, oFdiv, oMod, oPow, oNeg, oLt, oLe, oGt, oGe, oEq, oNe, oIsN, oNotN, oIn, oNotIn, oIx, oLen, oInt, oAbs, oMin, oMax, oStr, oList, oListC, oTuple, oAll, oAny, itemsU, lenN, truB, fJs, oFmt, List.map_cons, List.map_nil, List.length_cons, List.length_nil, List.replicate_succ, List.replicate_zero, List.cons_append, List.nil_append, List.append_nil, List.getElem?_cons_zero, List.getElem?_cons_succ, List.set_cons_zero, List.set_cons_succ, Nat.reduceAdd, Nat.reduceSub, Option.map_some, Option.map_none, if_true, if_false, ite_true, ite_false, Bool.false_eq_true, reduceCtorEq, true_and, and_true, and_self, Bool.not_true, Bool.not_false, Nat.zero_add, Option.bind_some, Option.bind_eq_bind, Option.pure_def, decide_true, decide_false, eq_self, Nat.reduceEqDiff, Nat.reduceLT, Nat.reduceLeDiff, Int.reduceLT, Int.reduceLE, Int.reduceEq, Bool.and_true, Bool.true_and, Bool.false_and, Bool.or_false, Bool.or_true, Bool.true_or, Bool.false_or, sz0, szl0, sz1, szl1, sz2, szl2, sz3, szl3, sz4, szl4, sz5, szl5, sz6, szl6, sz7, szl7, sz8, szl8, sz9, szl9, sz10, szl10, sz11, szl11, sz12, szl12, sz13, szl13, sz14, szl14, sz15, szl15, hj])
  rw [merge_nodup g.nd] at e4
  have ek := keys_kv x2'.dict
  have hsn : ((setsL .non ls).map fun q => q.1).length ≤ 60 := by rw [List.length_map]; exact Nat.le_trans (setsL_len _ _) hl
  have a1 := addD (st := s2) (HDS.take m) ((setsL .non ls).map fun q => q.1) (by omega)
  have a2 := addD (st := s2) (HDS.take m ++ (setsL .non ls).map fun q => q.1) LIT (by rw [List.length_append, show LIT.length = 8 from rfl]; omega)
  obtain ⟨y10, s3, e5, x3'⟩ := ev_turns (K := K) (a := a) (b := st.length) (c := c') (d := st.length + 2) kx (s := joined ls) (ds := ds) g hl (nms := HDS.take m ++ ((setsL .non ls).map fun q => q.1) ++ LIT) g.nms (by rw [List.length_append, show LIT.length = 8 from rfl]; omega) (by rw [List.length_append, List.length_append, show LIT.length = 8 from rfl]; omega) (u0 := some (.d (.scr ns))) (u1 := some (.d (.int (t : Nat)))) (u6 := y6) (u7 := y7) ((List.range 30).map fun i => .d (.int (0 + (i : Nat)))) x10 s2 x2'
  refine ⟨some (.ref st.length), some (.ref c'), some (.ref (st.length + 2)), some (.d (.lst (sD (HDS.take m)))), y6, y7, some (.d (fileD a (joined ls) (partsL .non 0 ls) ds (kvD (setsL .non ls)))), some (.d (.lst (sD (HDS.take m ++ ((setsL .non ls).map fun q => q.1) ++ LIT)))), y10, s3, ?_, x3'.wf, x3'.tab⟩
  have eA : sPar3 2 3 4 (fCons (fCall 2 0 gPos (m_L_law_bag K a) (fCW (fCons (vVar 0) (fCons (vVar 1) fNil)) fNil)) (fCons (fLstC (fCons (vC (.str "#~ 3 ui.b = 1")) (fCons (vC (.str "#~ 4 net.a")) fNil))) (fCons fDnew fNil))) [some (.d (.scr ns)), some (.d (.int (t : Nat))), x2, x3, x4, x5, x6, x7, x8, x9, x10] st = .ok [some (.d (.scr ns)), some (.d (.int (t : Nat))), some (.ref st.length), some (.ref (st.length + 1)), some (.ref (st.length + 2)), x5, x6, x7, x8, x9, x10] .nx S3 := by
    have q1 : (st ++ [O.lst [U.d (.int n), U.d (.int x)]]).length = st.length + 1 := L1
    have q2 : ((st ++ [O.lst [U.d (.int n), U.d (.int x)]]) ++ [O.lst [U.d (.str "#~ 3 ui.b = 1"), U.d (.str "#~ 4 net.a")]]).length = st.length + 2 := L2'
    simp only [fnM, sSeq, sRet, sRetN, sExpr, sIf, sNil, sNo, sAsg, tgN, bndS, bnd, vVar, vC, f2, f1, fB, pu, fN, vTup, vLst, fTup, fCons, fNil, fPure, fIf, fAnd, fOr, fNot, asB, asT, bAnd, bOr, bNot, fChain, fCall, fCW, gPos, gApp, R.of, R.of2, fM, pu4, tgT, tgCons, tgNil, unp, pureL, sPar, sPar3, fLstC, fFld, oFld, fMeth, insU, sFldS, setFld, fSl, oNone, oSome, tgSub, setU, fIter, fItN, fItS, sFor, getL, getT, VL.getD, keyD, tyB, lstC, oAdd, oSub, oMul, oFdiv, oMod, oPow, oNeg, oLt, oLe, oGt, oGe, oEq, oNe, oIsN, oNotN, oIn, oNotIn, oIx, oLen, oInt, oAbs, oMin, oMax, oStr, oList, oListC, oTuple, oAll, oAny, itemsU, lenN, truB, fJs, oFmt, List.map_cons, List.map_nil, List.length_cons, List.length_nil, List.replicate_succ, List.replicate_zero, List.cons_append, List.nil_append, List.append_nil, List.getElem?_cons_zero, List.getElem?_cons_succ, List.set_cons_zero, List.set_cons_succ, Nat.reduceAdd, Nat.reduceSub, Option.map_some, Option.map_none, if_true, if_false, ite_true, ite_false, Bool.false_eq_true, reduceCtorEq, true_and, and_true, and_self, Bool.not_true, Bool.not_false, Nat.zero_add, Option.bind_some, Option.bind_eq_bind, Option.pure_def, decide_true, decide_false, eq_self, Nat.reduceEqDiff, Nat.reduceLT, Nat.reduceLeDiff, Int.reduceLT, Int.reduceLE, Int.reduceEq, Bool.and_true, Bool.true_and, Bool.false_and, Bool.or_false, Bool.or_true, Bool.true_or, Bool.false_or, sz0, szl0, sz1, szl1, sz2, szl2, sz3, szl3, sz4, szl4, sz5, szl5, sz6, szl6, sz7, szl7, sz8, szl8, sz9, szl9, sz10, szl10, sz11, szl11, sz12, szl12, sz13, szl13, sz14, szl14, sz15, szl15, e1, sPar3, fDnew, q1, q2]
    rfl
  have eB : sAsg (fSl (fN vLst (fCons (vC (.str "net")) (fCons (vC (.str "a")) (fCons (vC (.str "zz")) fNil)))) oNone (oSome (fCall 2 0 gPos (m_L_law_take K a) (fCW (fCons (vVar 2) (fCons (vC (.int 4)) fNil)) fNil)))) (tgN 5) [some (.d (.scr ns)), some (.d (.int (t : Nat))), some (.ref st.length), some (.ref (st.length + 1)), some (.ref (st.length + 2)), x5, x6, x7, x8, x9, x10] S3 = .ok [some (.d (.scr ns)), some (.d (.int (t : Nat))), some (.ref st.length), some (.ref (st.length + 1)), some (.ref (st.length + 2)), some (.d (.lst (sD (HDS.take m)))), x6, x7, x8, x9, x10] .nx s1 := by
    rw [show sD HDS = [D.str "net", .str "a", .str "zz"] from rfl] at hsl
    simp only [fnM, sSeq, sRet, sRetN, sExpr, sIf, sNil, sNo, sAsg, tgN, bndS, bnd, vVar, vC, f2, f1, fB, pu, fN, vTup, vLst, fTup, fCons, fNil, fPure, fIf, fAnd, fOr, fNot, asB, asT, bAnd, bOr, bNot, fChain, fCall, fCW, gPos, gApp, R.of, R.of2, fM, pu4, tgT, tgCons, tgNil, unp, pureL, sPar, sPar3, fLstC, fFld, oFld, fMeth, insU, sFldS, setFld, fSl, oNone, oSome, tgSub, setU, fIter, fItN, fItS, sFor, getL, getT, VL.getD, keyD, tyB, lstC, oAdd, oSub, oMul, oFdiv, oMod, oPow, oNeg, oLt, oLe, oGt, oGe, oEq, oNe, oIsN, oNotN, oIn, oNotIn, oIx, oLen, oInt, oAbs, oMin, oMax, oStr, oList, oListC, oTuple, oAll, oAny, itemsU, lenN, truB, fJs, oFmt, List.map_cons, List.map_nil, List.length_cons, List.length_nil, List.replicate_succ, List.replicate_zero, List.cons_append, List.nil_append, List.append_nil, List.getElem?_cons_zero, List.getElem?_cons_succ, List.set_cons_zero, List.set_cons_succ, Nat.reduceAdd, Nat.reduceSub, Option.map_some, Option.map_none, if_true, if_false, ite_true, ite_false, Bool.false_eq_true, reduceCtorEq, true_and, and_true, and_self, Bool.not_true, Bool.not_false, Nat.zero_add, Option.bind_some, Option.bind_eq_bind, Option.pure_def, decide_true, decide_false, eq_self, Nat.reduceEqDiff, Nat.reduceLT, Nat.reduceLeDiff, Int.reduceLT, Int.reduceLE, Int.reduceEq, Bool.and_true, Bool.true_and, Bool.false_and, Bool.or_false, Bool.or_true, Bool.true_or, Bool.false_or, sz0, szl0, sz1, szl1, sz2, szl2, sz3, szl3, sz4, szl4, sz5, szl5, sz6, szl6, sz7, szl7, sz8, szl8, sz9, szl9, sz10, szl10, sz11, szl11, sz12, szl12, sz13, szl13, sz14, szl14, sz15, szl15, e2, hsl]
  have eC : sFor (fIter (vVar 5)) (tgN 6) (b_law_2 K a) [some (.d (.scr ns)), some (.d (.int (t : Nat))), some (.ref st.length), some (.ref (st.length + 1)), some (.ref (st.length + 2)), some (.d (.lst (sD (HDS.take m)))), x6, x7, x8, x9, x10] s1 = loopL (tgN 6) (b_law_2 K a) ((sD (HDS.take m)).map U.d) [some (.d (.scr ns)), some (.d (.int (t : Nat))), some (.ref st.length), some (.ref (st.length + 1)), some (.ref (st.length + 2)), some (.d (.lst (sD (HDS.take m)))), x6, x7, x8, x9, x10] s1 := sFor_lst (fIter_ok (by simp only [fnM, sSeq, sRet, sRetN, sExpr, sIf, sNil, sNo, sAsg, tgN, bndS, bnd, vVar, vC, f2, f1, fB, pu, fN, vTup, vLst, fTup, fCons, fNil, fPure, fIf, fAnd, fOr, fNot, asB, asT, bAnd, bOr, bNot, fChain, fCall, fCW, gPos, gApp, R.of, R.of2, fM, pu4, tgT, tgCons, tgNil, unp, pureL, sPar, sPar3, fLstC, fFld, oFld, fMeth, insU, sFldS, setFld, fSl, oNone, oSome, tgSub, setU, fIter, fItN, fItS, sFor, getL, getT, VL.getD, keyD, tyB, lstC, oAdd, oSub, oMul, oFdiv, oMod, oPow, oNeg, oLt, oLe, oGt, oGe, oEq, oNe, oIsN, oNotN, oIn, oNotIn, oIx, oLen, oInt, oAbs, oMin, oMax, oStr, oList, oListC, oTuple, oAll, oAny, itemsU, lenN, truB, fJs, oFmt, List.map_cons, List.map_nil, List.length_cons, List.length_nil, List.replicate_succ, List.replicate_zero, List.cons_append, List.nil_append, List.append_nil, List.getElem?_cons_zero, List.getElem?_cons_succ, List.set_cons_zero, List.set_cons_succ, Nat.reduceAdd, Nat.reduceSub, Option.map_some, Option.map_none, if_true, if_false, ite_true, ite_false, Bool.false_eq_true, reduceCtorEq, true_and, and_true, and_self, Bool.not_true, Bool.not_false, Nat.zero_add, Option.bind_some, Option.bind_eq_bind, Option.pure_def, decide_true, decide_false, eq_self, Nat.reduceEqDiff, Nat.reduceLT, Nat.reduceLeDiff, Int.reduceLT, Int.reduceLE, Int.reduceEq, Bool.and_true, Bool.true_and, Bool.false_and, Bool.or_false, Bool.or_true, Bool.true_or, Bool.false_or, sz0, szl0, sz1, szl1, sz2, szl2, sz3, szl3, sz4, szl4, sz5, szl5, sz6, szl6, sz7, szl7, sz8, szl8, sz9, szl9, sz10, szl10, sz11, szl11, sz12, szl12, sz13, szl13, sz14, szl14, sz15, szl15]))
  have eD : sAsg (fWr wFrz (fMake a.C_SettingsFile 1 0 gPos (m_SettingsFile_init K a) (fCW (fCons (fM "str" (pu4 mJoin) (vC (.str "\n")) (fCons (vVar 3) fNil)) fNil) fNil))) (tgN 8) [some (.d (.scr ns)), some (.d (.int (t : Nat))), some (.ref st.length), some (.ref c'), some (.ref (st.length + 2)), some (.d (.lst (sD (HDS.take m)))), y6, y7, x8, x9, x10] s2 = .ok [some (.d (.scr ns)), some (.d (.int (t : Nat))), some (.ref st.length), some (.ref c'), some (.ref (st.length + 2)), some (.d (.lst (sD (HDS.take m)))), y6, y7, some (.d (fileD a (joined ls) (partsL .non 0 ls) ds (kvD (setsL .non ls)))), x9, x10] .nx s2 := by
    unfold sAsg bndS
    rw [e4]
    rfl
  have eE : sAsg (f2 oAdd (f2 oAdd (vVar 5) (fB (pu oListK) (fCons (vVar 4) fNil))) (fN vLst (fCons (vC (.str "net")) (fCons (vC (.str "a")) (fCons (vC (.str "a.a")) (fCons (vC (.str "net.port")) (fCons (vC (.str "port")) (fCons (vC (.str "ui.b")) (fCons (vC (.str "ui")) (fCons (vC (.str "zz.net")) fNil)))))))))) (tgN 9) [some (.d (.scr ns)), some (.d (.int (t : Nat))), some (.ref st.length), some (.ref c'), some (.ref (st.length + 2)), some (.d (.lst (sD (HDS.take m)))), y6, y7, some (.d (fileD a (joined ls) (partsL .non 0 ls) ds (kvD (setsL .non ls)))), x9, x10] s2 = .ok [some (.d (.scr ns)), some (.d (.int (t : Nat))), some (.ref st.length), some (.ref c'), some (.ref (st.length + 2)), some (.d (.lst (sD (HDS.take m)))), y6, y7, some (.d (fileD a (joined ls) (partsL .non 0 ls) ds (kvD (setsL .non ls)))), some (.d (.lst (sD (HDS.take m ++ ((setsL .non ls).map fun q => q.1) ++ LIT)))), x10] .nx s2 := by
    rw [show sD LIT = [D.str "net", .str "a", .str "a.a", .str "net.port", .str "port", .str "ui.b", .str "ui", .str "zz.net"] from rfl] at a2
    generalize fileD a (joined ls) (partsL .non 0 ls) ds (kvD (setsL .non ls)) = F
    have f1 : fB (pu oListK) (fCons (vVar 4) fNil) [some (.d (.scr ns)), some (.d (.int (t : Nat))), some (.ref st.length), some (.ref c'), some (.ref (st.length + 2)), some (.d (.lst (sD (HDS.take m)))), y6, y7, some (.d F), x9, x10] s2 = .ok (.d (.lst (sD ((setsL .non ls).map fun q => q.1)))) s2 := by
      simp only [fnM, sSeq, sRet, sRetN, sExpr, sIf, sNil, sNo, sAsg, tgN, bndS, bnd, vVar, vC, f2, f1, fB, pu, fN, vTup, vLst, fTup, fCons, fNil, fPure, fIf, fAnd, fOr, fNot, asB, asT, bAnd, bOr, bNot, fChain, fCall, fCW, gPos, gApp, R.of, R.of2, fM, pu4, tgT, tgCons, tgNil, unp, pureL, sPar, sPar3, fLstC, fFld, oFld, fMeth, insU, sFldS, setFld, fSl, oNone, oSome, tgSub, setU, fIter, fItN, fItS, sFor, getL, getT, VL.getD, keyD, tyB, lstC, oAdd, oSub, oMul, oFdiv, oMod, oPow, oNeg, oLt, oLe, oGt, oGe, oEq, oNe, oIsN, oNotN, oIn, oNotIn, oIx, oLen, oInt, oAbs, oMin, oMax, oStr, oList, oListC, oTuple, oAll, oAny, itemsU, lenN, truB, fJs, oFmt, List.map_cons, List.map_nil, List.length_cons, List.length_nil, List.replicate_succ, List.replicate_zero, List.cons_append, List.nil_append, List.append_nil, List.getElem?_cons_zero, List.getElem?_cons_succ, List.set_cons_zero, List.set_cons_succ, Nat.reduceAdd, Nat.reduceSub, Option.map_some, Option.map_none, if_true, if_false, ite_true, ite_false, Bool.false_eq_true, reduceCtorEq, true_and, and_true, and_self, Bool.not_true, Bool.not_false, Nat.zero_add, Option.bind_some, Option.bind_eq_bind, Option.pure_def, decide_true, decide_false, eq_self, Nat.reduceEqDiff, Nat.reduceLT, Nat.reduceLeDiff, Int.reduceLT, Int.reduceLE, Int.reduceEq, Bool.and_true, Bool.true_and, Bool.false_and, Bool.or_false, Bool.or_true, Bool.true_or, Bool.false_or, sz0, szl0, sz1, szl1, sz2, szl2, sz3, szl3, sz4, szl4, sz5, szl5, sz6, szl6, sz7, szl7, sz8, szl8, sz9, szl9, sz10, szl10, sz11, szl11, sz12, szl12, sz13, szl13, sz14, szl14, sz15, szl15, ek]
    have f2' : f2 oAdd (vVar 5) (fB (pu oListK) (fCons (vVar 4) fNil)) [some (.d (.scr ns)), some (.d (.int (t : Nat))), some (.ref st.length), some (.ref c'), some (.ref (st.length + 2)), some (.d (.lst (sD (HDS.take m)))), y6, y7, some (.d F), x9, x10] s2 = .ok (.d (.lst (sD (HDS.take m ++ (setsL .non ls).map fun q => q.1)))) s2 := by
      rw [f2_ok (x := .d (.lst (sD (HDS.take m)))) (st1 := s2) rfl f1, a1]; rfl
    have f3 : f2 oAdd (f2 oAdd (vVar 5) (fB (pu oListK) (fCons (vVar 4) fNil))) (fN vLst (fCons (vC (.str "net")) (fCons (vC (.str "a")) (fCons (vC (.str "a.a")) (fCons (vC (.str "net.port")) (fCons (vC (.str "port")) (fCons (vC (.str "ui.b")) (fCons (vC (.str "ui")) (fCons (vC (.str "zz.net")) fNil))))))))) [some (.d (.scr ns)), some (.d (.int (t : Nat))), some (.ref st.length), some (.ref c'), some (.ref (st.length + 2)), some (.d (.lst (sD (HDS.take m)))), y6, y7, some (.d F), x9, x10] s2 = .ok (.d (.lst (sD (HDS.take m ++ ((setsL .non ls).map fun q => q.1) ++ LIT)))) s2 := by
      rw [f2_ok (y := .d (.lst [.str "net", .str "a", .str "a.a", .str "net.port", .str "port", .str "ui.b", .str "ui", .str "zz.net"])) (st1 := s2) (st2 := s2) f2' (by simp only [fnM, sSeq, sRet, sRetN, sExpr, sIf, sNil, sNo, sAsg, tgN, bndS, bnd, vVar, vC, f2, f1, fB, pu, fN, vTup, vLst, fTup, fCons, fNil, fPure, fIf, fAnd, fOr, fNot, asB, asT, bAnd, bOr, bNot, fChain, fCall, fCW, gPos, gApp, R.of, R.of2, fM, pu4, tgT, tgCons, tgNil, unp, pureL, sPar, sPar3, fLstC, fFld, oFld, fMeth, insU, sFldS, setFld, fSl, oNone, oSome, tgSub, setU, fIter, fItN, fItS, sFor, getL, getT, VL.getD, keyD, tyB, lstC, oAdd, oSub, oMul, oFdiv, oMod, oPow, oNeg, oLt, oLe, oGt, oGe, oEq, oNe, oIsN, oNotN, oIn, oNotIn, oIx, oLen, oInt, oAbs, oMin, oMax, oStr, oList, oListC, oTuple, oAll, oAny, itemsU, lenN, truB, fJs, oFmt, List.map_cons, List.map_nil, List.length_cons, List.length_nil, List.replicate_succ, List.replicate_zero, List.cons_append, List.nil_append, List.append_nil, List.getElem?_cons_zero, List.getElem?_cons_succ, List.set_cons_zero, List.set_cons_succ, Nat.reduceAdd, Nat.reduceSub, Option.map_some, Option.map_none, if_true, if_false, ite_true, ite_false, Bool.false_eq_true, reduceCtorEq, true_and, and_true, and_self, Bool.not_true, Bool.not_false, Nat.zero_add, Option.bind_some, Option.bind_eq_bind, Option.pure_def, decide_true, decide_false, eq_self, Nat.reduceEqDiff, Nat.reduceLT, Nat.reduceLeDiff, Int.reduceLT, Int.reduceLE, Int.reduceEq, Bool.and_true, Bool.true_and, Bool.false_and, Bool.or_false, Bool.or_true, Bool.true_or, Bool.false_or, sz0, szl0, sz1, szl1, sz2, szl2, sz3, szl3, sz4, szl4, sz5, szl5, sz6, szl6, sz7, szl7, sz8, szl8, sz9, szl9, sz10, szl10, sz11, szl11, sz12, szl12, sz13, szl13, sz14, szl14, sz15, szl15]), a2]; rfl
    unfold sAsg bndS
    rw [f3]
    rfl
  have eG : sFor (fItN itR (fCons (vC (.int 30)) fNil)) (tgN 10) (b_law_3 K a) [some (.d (.scr ns)), some (.d (.int (t : Nat))), some (.ref st.length), some (.ref c'), some (.ref (st.length + 2)), some (.d (.lst (sD (HDS.take m)))), y6, y7, some (.d (fileD a (joined ls) (partsL .non 0 ls) ds (kvD (setsL .non ls)))), some (.d (.lst (sD (HDS.take m ++ ((setsL .non ls).map fun q => q.1) ++ LIT)))), x10] s2 = loopL (tgN 10) (b_law_3 K a) ((List.range 30).map fun i => .d (.int (0 + (i : Nat)))) [some (.d (.scr ns)), some (.d (.int (t : Nat))), some (.ref st.length), some (.ref c'), some (.ref (st.length + 2)), some (.d (.lst (sD (HDS.take m)))), y6, y7, some (.d (fileD a (joined ls) (partsL .non 0 ls) ds (kvD (setsL .non ls)))), some (.d (.lst (sD (HDS.take m ++ ((setsL .non ls).map fun q => q.1) ++ LIT)))), x10] s2 :=
    sFor_lst (fItN_ok (us := [.d (.int 30)]) (by simp only [fnM, sSeq, sRet, sRetN, sExpr, sIf, sNil, sNo, sAsg, tgN, bndS, bnd, vVar, vC, f2, f1, fB, pu, fN, vTup, vLst, fTup, fCons, fNil, fPure, fIf, fAnd, fOr, fNot, asB, asT, bAnd, bOr, bNot, fChain, fCall, fCW, gPos, gApp, R.of, R.of2, fM, pu4, tgT, tgCons, tgNil, unp, pureL, sPar, sPar3, fLstC, fFld, oFld, fMeth, insU, sFldS, setFld, fSl, oNone, oSome, tgSub, setU, fIter, fItN, fItS, sFor, getL, getT, VL.getD, keyD, tyB, lstC, oAdd, oSub, oMul, oFdiv, oMod, oPow, oNeg, oLt, oLe, oGt, oGe, oEq, oNe, oIsN, oNotN, oIn, oNotIn, oIx, oLen, oInt, oAbs, oMin, oMax, oStr, oList, oListC, oTuple, oAll, oAny, itemsU, lenN, truB, fJs, oFmt, List.map_cons, List.map_nil, List.length_cons, List.length_nil, List.replicate_succ, List.replicate_zero, List.cons_append, List.nil_append, List.append_nil, List.getElem?_cons_zero, List.getElem?_cons_succ, List.set_cons_zero, List.set_cons_succ, Nat.reduceAdd, Nat.reduceSub, Option.map_some, Option.map_none, if_true, if_false, ite_true, ite_false, Bool.false_eq_true, reduceCtorEq, true_and, and_true, and_self, Bool.not_true, Bool.not_false, Nat.zero_add, Option.bind_some, Option.bind_eq_bind, Option.pure_def, decide_true, decide_false, eq_self, Nat.reduceEqDiff, Nat.reduceLT, Nat.reduceLeDiff, Int.reduceLT, Int.reduceLE, Int.reduceEq, Bool.and_true, Bool.true_and, Bool.false_and, Bool.or_false, Bool.or_true, Bool.true_or, Bool.false_or, sz0, szl0, sz1, szl1, sz2, szl2, sz3, szl3, sz4, szl4, sz5, szl5, sz6, szl6, sz7, szl7, sz8, szl8, sz9, szl9, sz10, szl10, sz11, szl11, sz12, szl12, sz13, szl13, sz14, szl14, sz15, szl15]) itR30)
  unfold b_law_4
  rw [sSeq, eA]; dsimp only
  rw [sSeq, eB]; dsimp only
  rw [sSeq, eC, e3]; dsimp only
  rw [sSeq, eD]; dsimp only
  rw [sSeq, eE]; dsimp only
  rw [eG, e5]
theorem ev_ats (kx : Kx K a) {ns : List Int} (hn : ns.length ≤ 63) : ∀ (is : List Nat) (x1 x2 x3 x4 x5 x6 x7 x8 x9 x10 : Option U) (st : Store), (∀ i ∈ is, i < 64) → WF st → TabIn a.tabs st → ∃ env' st', loopL (tgN 1) (b_law_4 K a) (is.map fun i => .d (.int (0 + (i : Nat)))) [some (.d (.scr ns)), x1, x2, x3, x4, x5, x6, x7, x8, x9, x10] st = .ok env' .nx st' ∧ WF st' ∧ TabIn a.tabs st'
  | [], x1, x2, x3, x4, x5, x6, x7, x8, x9, x10, st, _, h, tb => ⟨_, st, rfl, h, tb⟩
  | i :: is, x1, x2, x3, x4, x5, x6, x7, x8, x9, x10, st, hi, h, tb => by
    obtain ⟨z2, z3, z4, z5, z6, z7, z8, z9, z10, s1, e1, w1, t1⟩ := ev_at (K := K) (a := a) kx hn (hi i (List.mem_cons_self ..)) (x2 := x2) (x3 := x3) (x4 := x4) (x5 := x5) (x6 := x6) (x7 := x7) (x8 := x8) (x9 := x9) (x10 := x10) h tb
    obtain ⟨env', s2, e2, w2, t2⟩ := ev_ats kx hn is (some (.d (.int (i : Nat)))) z2 z3 z4 z5 z6 z7 z8 z9 z10 s1 (fun j hj => hi j (List.mem_cons_of_mem _ hj)) w1 t1
    refine ⟨env', s2, ?_, w2, t2⟩
    rw [List.map_cons]
    unfold loopL
    simp only [tgN, List.set_cons_zero, List.set_cons_succ, Int.zero_add, e1]
    simp only [Int.zero_add] at e2
    exact e2
theorem minmax4 (L : Nat) : (if (if ((L : Nat) : Int) < 4 then ((L : Nat) : Int) else 4) > 1 then (if ((L : Nat) : Int) < 4 then ((L : Nat) : Int) else 4) else 1) = ((max 1 (min 4 L) : Nat) : Int) := by
  split <;> split <;> omega
theorem tab_start (a : Ad) : WF (tbls a.tabs) ∧ TabIn a.tabs (tbls a.tabs) := by
  refine ⟨rfl, fun j p hp => ?_, fun n P q hn => ?_⟩
  · unfold tbls
    rw [List.getElem?_map, hp]; rfl
  · have := (List.getElem?_eq_some_iff.mp hn).1
    unfold tbls at this
    rw [List.length_map] at this
    exact this
theorem tab_cut {st : Store} (t : TabIn a.tabs st) : ∃ s, cutS (tbls a.tabs).length st = some s := by
  have h := t.1 0 _ rfl
  cases st with
  | nil => cases h
  | cons o r =>
    have : o = _ := Option.some.inj h
    subst this
    exact ⟨_, rfl⟩
theorem law_ok : LawOk := by
  intro K a kx ns hn
  obtain ⟨w0, t0⟩ := tab_start a
  obtain ⟨env', st1, e1, w1, t1⟩ := ev_ats (K := K) (a := a) kx hn (List.range (max 1 (min 4 ns.length))) none none none none none none none none none none (tbls a.tabs) (fun i hi => by rw [List.mem_range] at hi; omega) w0 t0
  obtain ⟨s, ec⟩ := tab_cut t1
  have eA : sFor (fItN itR (fCons (fB (pu oMax) (fCons (vC (.int 1)) (fCons (fB (pu oMin) (fCons (vC (.int 4)) (fCons (fB (pu oLen) (fCons (vVar 0) fNil)) fNil))) fNil))) fNil)) (tgN 1) (b_law_4 K a) [some (.d (.scr ns)), none, none, none, none, none, none, none, none, none, none] (tbls a.tabs) = loopL (tgN 1) (b_law_4 K a) ((List.range (max 1 (min 4 ns.length))).map fun i => .d (.int (0 + (i : Nat)))) [some (.d (.scr ns)), none, none, none, none, none, none, none, none, none, none] (tbls a.tabs) :=
    sFor_lst (fItN_ok (us := [.d (.int ((max 1 (min 4 ns.length) : Nat) : Int))]) (by
      have := minmax4 ns.length
      simp only [fnM, sSeq, sRet, sRetN, sExpr, sIf, sNil, sNo, sAsg, tgN, bndS, bnd, vVar, vC, f2, f1, fB, pu, fN, vTup, vLst, fTup, fCons, fNil, fPure, fIf, fAnd, fOr, fNot, asB, asT, bAnd, bOr, bNot, fChain, fCall, fCW, gPos, gApp, R.of, R.of2, fM, pu4, tgT, tgCons, tgNil, unp, pureL, sPar, sPar3, fLstC, fFld, oFld, fMeth, insU, sFldS, setFld, fSl, oNone, oSome, tgSub, setU, fIter, fItN, fItS, sFor, getL, getT, VL.getD, keyD, tyB, lstC, oAdd, oSub, oMul, oFdiv, oMod, oPow, oNeg, oLt, oLe, oGt, oGe, oEq, oNe, oIsN, oNotN, oIn, oNotIn, oIx, oLen, oInt, oAbs, oMin, oMax, oStr, oList, oListC, oTuple, oAll, oAny, itemsU, lenN, truB, fJs, oFmt, List.map_cons, List.map_nil, List.length_cons, List.length_nil, List.replicate_succ, List.replicate_zero, List.cons_append, List.nil_append, List.append_nil, List.getElem?_cons_zero, List.getElem?_cons_succ, List.set_cons_zero, List.set_cons_succ, Nat.reduceAdd, Nat.reduceSub, Option.map_some, Option.map_none, if_true, if_false, ite_true, ite_false, Bool.false_eq_true, reduceCtorEq, true_and, and_true, and_self, Bool.not_true, Bool.not_false, Nat.zero_add, Option.bind_some, Option.bind_eq_bind, Option.pure_def, decide_true, decide_false, eq_self, Nat.reduceEqDiff, Nat.reduceLT, Nat.reduceLeDiff, Int.reduceLT, Int.reduceLE, Int.reduceEq, Bool.and_true, Bool.true_and, Bool.false_and, Bool.or_false, Bool.or_true, Bool.true_or, Bool.false_or, sz0, szl0, sz1, szl1, sz2, szl2, sz3, szl3, sz4, szl4, sz5, szl5, sz6, szl6, sz7, szl7, sz8, szl8, sz9, szl9, sz10, szl10, sz11, szl11, sz12, szl12, sz13, szl13, sz14, szl14, sz15, szl15, List.length_map, this]) (itR_eq (by omega)))
  refine ⟨s, ?_⟩
  unfold m_law g_law
  simp only [fnM, sSeq, List.map_cons, List.map_nil, List.length_cons, List.length_nil, List.replicate_succ, List.replicate_zero, List.cons_append, List.nil_append, Nat.reduceAdd, Nat.reduceSub, eA, e1, sRet, bndS, vC, wFrz, frz, ec]

end VL.K06


open PySem PySem.W PyProof.Rows in
set_option maxRecDepth 100000 in
set_option maxHeartbeats 0 in
theorem PySem.Challenge.cw_settingsmerge_k06_lookups_of_any_object_holds : PySem.Challenge.rw_settingsmerge_k06_lookups_of_any_object.Holds := by
  w_on; o_law; k_head; (case hw => w_witness2)
  k_fill
  refine VL.walk_ofT (l := PySem.Challenge.rw_settingsmerge_k06_lookups_of_any_object) (n := 63) (k := 8) (x := "_law_script") rfl (by decide) rfl ⟨⟨rfl, by decide, by decide⟩, rfl⟩ (fun w h Y => ⟨PySem.W.km_in_of Y, PySem.W.km_tabs_of Y⟩) ?F
  case F =>
    intro w mg fa h KX G hmg hTab
    refine' VL.K06.all_mk KX G hmg hTab VL.K06.law_ok ?a1 ?l1 ?c1 ?k1 ?a2 ?l2 ?c2 ?k2 ?a3 ?l3 ?c3 ?k3 ?a4 ?i4 ?l4 ?c4 ?k4 ?a5 ?l5 ?c5 ?k5 ?a6 ?l6 ?c6 ?k6 ?a7 ?l7 ?c7 ?k7 ?a8 ?l8 ?c8 ?k8 ?a9 ?l9 ?c9 ?k9 ?a10 ?l10 ?c10 ?k10 ?a11 ?l11 ?c11 ?k11 ?a12 ?i12 ?l12 ?c12 ?k12 ?a13 ?i13 ?l13 ?c13 ?k13 ?a14 ?l14 ?c14 ?k14 ?a15 ?l15 ?c15 ?k15 ?a16 ?i16 ?l16 ?c16 ?k16 ?a17 ?i17 ?l17 ?c17 ?k17 ?a18 ?l18 ?c18 ?k18 ?a19 ?i19 ?l19 ?c19 ?k19 ?a20 ?l20 ?c20 ?k20 ?a21 ?i21 ?l21 ?c21 ?k21 ?a22 ?i22 ?l22 ?c22 ?k22 ?a23 ?i23 ?l23 ?c23 ?k23 ?a24 ?l24 ?c24 ?lc_L_law_is_right ?lp_L_law_is_right ?ln_L_law_is_right ?lr_L_law_is_right ?lt_L_law_is_right ?k24 ?a25 ?l25 ?c25 ?k25 ?a26 ?l26 ?c26 ?k26 ?xL_NoPlace ?xs_NoPlace ?xg_NoPlace ?xgg_NoPlace ?xa_NoPlace ?xty_NoPlace ?xno_NoPlace_place ?xe_NoPlace ?xtc_NoPlace ?xk_NoPlace ?xh_NoPlace ?xl_NoPlace ?xc_NoPlace ?xkf_NoPlace ?z_LookupError ?z_abs ?z_all ?z_dict ?z_enumerate ?z_int ?z_isinstance ?z_len ?z_list ?z_max ?z_min ?z_range ?z_repr ?z_str ?g_DIGITS ?g_KEPT ?g_LETTERS ?g_MOST_LETTERS ?g_MOST_SIGNS ?g_PLACE ?g_REMARK ?g_SECTION ?aC_Reader ?pg_Reader ?hd_Reader ?po_Reader ?sa_Reader ?aC_SettingsFile ?pg_SettingsFile ?hd_SettingsFile ?po_SettingsFile ?sa_SettingsFile ?mk_Reader ?kc_Reader ?mk_SettingsFile ?kc_SettingsFile ?nf_all_parts_SettingsFile ?nf_met_Reader ?nf_parts_Reader ?nf_parts_SettingsFile ?nf_section_Reader ?nf_settings_read_SettingsFile ?nf_whole_SettingsFile ?aC_BadText ?aC_NoChain ?aC_NoPlace ?aC_NoSlot ?xca_NoPlace ?xcn ?xct ?xcm_NoPlace ?xka_NoPlace ?xko_NoPlace ?xem_NoPlace ?hND
    (case aC_Reader => k_is)
    (case aC_SettingsFile => k_is)
    (case aC_BadText => k_is)
    (case aC_NoChain => k_is)
    (case aC_NoPlace => k_is)
    (case aC_NoSlot => k_is)
    (case a1 => k_is)
    (case l1 => k_is)
    (case c1 => k_is)
    (case k1 => k_is)
    (case a2 => k_is)
    (case l2 => k_is)
    (case c2 => k_is)
    (case k2 => k_is)
    (case a3 => k_is)
    (case l3 => k_is)
    (case c3 => k_is)
    (case k3 => k_is)
    (case a4 => k_is)
    (case i4 => k_is)
    (case l4 => k_is)
    (case c4 => k_is)
    (case k4 => k_is)
    (case a5 => k_is)
    (case l5 => k_is)
    (case c5 => k_is)
    (case k5 => k_is)
    (case a6 => k_is)
    (case l6 => k_is)
    (case c6 => k_is)
    (case k6 => k_is)
    (case a7 => k_is)
    (case l7 => k_is)
    (case c7 => k_is)
    (case k7 => k_is)
    (case a8 => k_is)
    (case l8 => k_is)
    (case c8 => k_is)
    (case k8 => k_is)
    (case a9 => k_is)
    (case l9 => k_is)
    (case c9 => k_is)
    (case k9 => k_is)
    (case a10 => k_is)
    (case l10 => k_is)
    (case c10 => k_is)
    (case k10 => k_is)
    (case a11 => k_is)
    (case l11 => k_is)
    (case c11 => k_is)
    (case k11 => k_is)
    (case a12 => k_is)
    (case i12 => k_is)
    (case l12 => k_is)
    (case c12 => k_is)
    (case k12 => k_is)
    (case a13 => k_is)
    (case i13 => k_is)
    (case l13 => k_is)
    (case c13 => k_is)
    (case k13 => k_is)
    (case a14 => k_is)
    (case l14 => k_is)
    (case c14 => k_is)
    (case k14 => k_is)
    (case a15 => k_is)
    (case l15 => k_is)
    (case c15 => k_is)
    (case k15 => k_is)
    (case a16 => k_is)
    (case i16 => k_is)
    (case l16 => k_is)
    (case c16 => k_is)
    (case k16 => k_is)
    (case a17 => k_is)
    (case i17 => k_is)
    (case l17 => k_is)
    (case c17 => k_is)
    (case k17 => k_is)
    (case a18 => k_is)
    (case l18 => k_is)
    (case c18 => k_is)
    (case k18 => k_is)
    (case a19 => k_is)
    (case i19 => k_is)
    (case l19 => k_is)
    (case c19 => k_is)
    (case k19 => k_is)
    (case a20 => k_is)
    (case l20 => k_is)
    (case c20 => k_is)
    (case k20 => k_is)
    (case a21 => k_is)
    (case i21 => k_is)
    (case l21 => k_is)
    (case c21 => k_is)
    (case k21 => k_is)
    (case a22 => k_is)
    (case i22 => k_is)
    (case l22 => k_is)
    (case c22 => k_is)
    (case k22 => k_is)
    (case a23 => k_is)
    (case i23 => k_is)
    (case l23 => k_is)
    (case c23 => k_is)
    (case k23 => k_is)
    (case a24 => k_is)
    (case l24 => k_is)
    (case c24 => k_is)
    (case lc_L_law_is_right => k_is)
    (case lp_L_law_is_right => rfl)
    (case ln_L_law_is_right => kernel_rfl)
    (case lr_L_law_is_right => kernel_rfl)
    (case lt_L_law_is_right => first | k_mem | decide)
    (case k24 => k_is)
    (case a25 => k_is)
    (case l25 => k_is)
    (case c25 => k_is)
    (case k25 => k_is)
    (case a26 => k_is)
    (case l26 => k_is)
    (case c26 => k_is)
    (case k26 => k_is)
    (case xL_NoPlace => k_is)
    (case xs_NoPlace => k_is)
    (case xg_NoPlace => k_is)
    (case xgg_NoPlace => k_is)
    (case xa_NoPlace => k_is)
    (case xty_NoPlace => k_is)
    (case xno_NoPlace_place => k_is)
    (case xe_NoPlace => k_is)
    (case xtc_NoPlace => k_is)
    (case xk_NoPlace => k_is)
    (case xh_NoPlace => k_is)
    (case xl_NoPlace => k_is)
    (case xc_NoPlace => k_is)
    (case xkf_NoPlace => k_is)
    (case z_LookupError => k_is)
    (case z_abs => k_is)
    (case z_all => k_is)
    (case z_dict => k_is)
    (case z_enumerate => k_is)
    (case z_int => k_is)
    (case z_isinstance => k_is)
    (case z_len => k_is)
    (case z_list => k_is)
    (case z_max => k_is)
    (case z_min => k_is)
    (case z_range => k_is)
    (case z_repr => k_is)
    (case z_str => k_is)
    (case g_DIGITS => k_is)
    (case g_KEPT => k_is)
    (case g_LETTERS => k_is)
    (case g_MOST_LETTERS => k_is)
    (case g_MOST_SIGNS => k_is)
    (case g_PLACE => k_is)
    (case g_REMARK => k_is)
    (case g_SECTION => k_is)
    (case pg_Reader => k_is)
    (case hd_Reader => k_is)
    (case po_Reader => k_is)
    (case sa_Reader => k_is)
    (case pg_SettingsFile => k_is)
    (case hd_SettingsFile => k_is)
    (case po_SettingsFile => k_is)
    (case sa_SettingsFile => k_is)
    (case mk_Reader => k_is)
    (case kc_Reader => k_is)
    (case mk_SettingsFile => k_is)
    (case kc_SettingsFile => k_is)
    (case nf_all_parts_SettingsFile => k_is)
    (case nf_met_Reader => k_is)
    (case nf_parts_Reader => k_is)
    (case nf_parts_SettingsFile => k_is)
    (case nf_section_Reader => k_is)
    (case nf_settings_read_SettingsFile => k_is)
    (case nf_whole_SettingsFile => k_is)
    (case xca_NoPlace => k_is)
    (case xcn => k_is)
    (case xct => k_is)
    (case xcm_NoPlace => k_is)
    (case xka_NoPlace => kit_is)
    (case xko_NoPlace => kit_is)
    (case xem_NoPlace => kts_exm)
    (case hND => decide)
