import PyProof.Rows.All
import Wide.All
import OpenK.AllK
import Wide.FinOn
import HandS.ForMost
import HandS.Exc
import HandS.Lambda
import KE.KDictKeyed
import KE.KeyNested
import HandS.IsInst
import HandS.TupAny
import HandS.Flow
import HandS.Deep
import HandS.More
import HandS.TryOnly
import HandS.Walk
import HandS.WordsExc
import HandS.SetKeys
import HandS.SortInts
import HandS.FStr
import HandS.Small
import HandS.StrMore
import HandS.MakeKwOnly
import HandS.Style
import HandS.ExcInit
import HandS.ExcField
import HandS.ExcIs
import KE.KExcIs
import KE.KExcInit
import HandS.GenList
import HandS.Ends
import HandS.Property
import KE.KCallOwn
import HandS.RaiseMore
import HandS.OwnEq
import HandS.EndTab
import KE.KNestM
import HandS.Star
import HandS.ClsMeth
import HandS.Iter
import KE.KDictList
import KE.GoesEnum
import HandS.Set
import HandS.SetFor
import HandS.Strs
import HandS.NoneIn
import HandS.ListItems
import HandS.Conv
import KE.KStateDown
import HandS.Head0
import HandS.Head1
import HandS.Head2
import HandS.HeadHook1
import KE.DataMinMax
import HandS.TupSets
import HandS.SetBool
import KE.SortData
import KE.DataCmp
import HandS.Zip
import KE.DataEq
import PySem.Challenge.RW_settingsmerge_k45_whole_covers_and_match
set_option Elab.async false
set_option linter.all false
set_option maxRecDepth 100000
set_option autoImplicit false
namespace VL
open PySem PySem.Spec PyProof.Rows L2
/-- data that does not change -/
inductive D where
 | non | bl (b : Bool) | int (i : Int) | str (x : Str) | ty (n : String) | obj (a : Addr)
 | tup (ds : List D) | lst (ds : List D) | dct (kvs : List (Key × D)) | ins (C : Addr) (fs : List (Str × D))
 | scr (ns : List Int)
 | exc (a : Addr) (d : Option Addr) (c : Value) (fs : List (Str × D))
 | kdc (w : World) (kvs : List (D × D))
/-- a value: data,or a cell -/
inductive U where
 | d (x : D) | ref (n : Nat)
/-- what a cell holds -/
inductive O where
 | lst (us : List U) | tup (us : List U) | dct (kvs : List (Key × U)) | ins (C : Addr) (fs : List (Str × U))
 | tbl (P : Addr) (q : Str)
 | lck (kvs : List (Key × U))
 | kdc (w : World) (kvs : List (D × U))
noncomputable abbrev Store:=List O
noncomputable abbrev VEnv:=List (Option U)
mutual
noncomputable def keyE : D → Option NestedKey
 | .non=>some .none
 | .int i=>some (.num i)
 | .str x=>some (.text x)
 | .tup ds=>(keyEs ds).map .tup
 | _=>none
noncomputable def keyEs : List D → Option (List NestedKey)
 | []=>some []
 | d :: ds=>match keyE d,keyEs ds with
  | some k,some ks=>some (k :: ks)
  | _,_=>none
end
noncomputable def keyN (d : D) : Option NestedKey:=match d with
 | .tup _=>match keyE d with
  | some k=>if k.depth ≤ 8 then some k else none
  | none=>none
 | _=>none
/-- an object that is known to the bit -/
noncomputable abbrev PinO (b : Addr) (o : Obj) : HO:=.ext fun h=>h.get? b = some o
/-- a dict with such keys -/
noncomputable def KdOk (w : World) (b : Addr) (o : Obj) (es : List (NestedKey × Addr × V)) : Prop:=es.length ≤ sizeLine ∧ (b == sysModules) = false ∧ ∃ xs : List (NestedKey × Addr × Value),
 Paired (fun (p : NestedKey × Addr × V) (q : NestedKey × Addr × Value)=>p.1 = q.1 ∧ p.2.1 = q.2.1 ∧ RelV p.2.2 q.2.2) es xs ∧ (xs.map (·.1)).Nodup ∧
 ∃ ents ep,o.ExactDict ∧ o.data = .dict ents ep ∧ ents.toList = xs.map fun x=>(⟨x.1.hash w,.ref x.2.1,x.2.2⟩ : DictEntry)
/-- a heap of one thing alone -/
noncomputable def oneH (o : Obj) : Nat → Heap
 | 0=>{}
 | n + 1=>(oneH o n).push o
theorem oneH_size (o : Obj) : ∀ n,(oneH o n).objs.size = n
 | 0=>rfl
 | n + 1=>by
  unfold oneH
  rw [Heap.size_push,oneH_size o n]
theorem oneH_get {o u : Obj} {es : Array DictEntry} {ep : Nat} (hc : o.data = .dict es ep) {a : Addr} : ∀ n,(oneH o n).get? a = some u → u = o
 | 0,h=>by
  have lt:=Heap.lt_size h
  rw [oneH_size] at lt
  exact absurd lt (Nat.not_lt_zero _)
 | n + 1,h=>by
  unfold oneH at h
  by_cases e : a = (oneH o n).objs.size
  ·rw [e] at h
   have:=Heap.get?_push_size (oneH o n) (o:=o) (by obtain ⟨_,_,od,_⟩:=o; cases hc; rfl)
   rw [this] at h
   exact (Option.some.inj h).symm
  ·rw [Heap.get?_push_ne _ _ _ e] at h
   exact oneH_get hc n h
theorem oneH_at {o : Obj} {es : Array DictEntry} {ep : Nat} (hc : o.data = .dict es ep) (n : Nat) : (oneH o (n + 1)).get? n = some o:=by
 have h:=Heap.get?_push_size (oneH o n) (o:=o) (by obtain ⟨_,_,od,_⟩:=o; cases hc; rfl)
 rw [oneH_size] at h
 exact h
noncomputable def LsV (m : List Addr) (H : Hp) (a : Addr) (vs : List V) : Prop:=a ∉ m ∧ H a = some (.lst vs)
/-- the script -/
noncomputable def ScV (K : PySem.W.Frag) (m : List Addr) (H : Hp) (a : Addr) (vs : List V) : Prop:=(a ∉ m ∧ ∃ ob,H a = some (.frz ob (.lst vs))) ∨ SqL K (fun _=>none) a vs
noncomputable def TpV (K : PySem.W.Frag) (m : List Addr) (H : Hp) (a : Addr) (vs : List V) : Prop:=(a ∉ m ∧ H a = some (.tup vs)) ∨ SqT K (fun _=>none) a vs
mutual
noncomputable def RpD (K : PySem.W.Frag) (m : List Addr) (H : Hp) : D → V → Prop
 | .non,v=>v = .non
 | .bl b,v=>v = .bl b
 | .int i,v=>v = .int i
 | .str x,v=>v = .str x
 | .ty n,v=>v = .ty n
 | .obj a,v=>v = .ref a
 | .tup ds,v=>∃ a vs,v = .ref a ∧ TpV K m H a vs ∧ RpDs K m H ds vs
 | .lst ds,v=>∃ a vs,v = .ref a ∧ LsV m H a vs ∧ RpDs K m H ds vs
 | .dct kvs,v=>∃ a vs,v = .ref a ∧ (a ∉ m ∧ Rd H a (.dK vs)) ∧ RpK K m H kvs vs
 | .ins C fs,v=>∃ a dx vs,v = .ref a ∧ (a ∉ m ∧ H a = some (.ins C dx vs)) ∧ RpF K m H fs vs
 | .scr ns,v=>∃ a,v = .ref a ∧ ScV K m H a (ns.map V.int)
 | .exc a d _ fs,v=>v = .ref a ∧ (fs = [] ∨ ∃ dd vs,d = some dd ∧ (dd ∉ m ∧ H dd = some (.xd vs)) ∧ RpF K m H fs vs)
 | .kdc w kvs,v=>∃ a o es,v = .ref a ∧ (a ∉ m ∧ H a = some (PinO a o)) ∧ KdOk w a o es ∧ RpKd K m H kvs es
noncomputable def RpDs (K : PySem.W.Frag) (m : List Addr) (H : Hp) : List D → List V → Prop
 | [],vs=>vs = []
 | d :: ds,vs=>∃ v r,vs = v :: r ∧ RpD K m H d v ∧ RpDs K m H ds r
noncomputable def RpKd (K : PySem.W.Frag) (m : List Addr) (H : Hp) : List (D × D) → List (NestedKey × Addr × V) → Prop
 | [],es=>es = []
 | (k,d) :: ds,es=>∃ n b v r,es = (n,b,v) :: r ∧ keyN k = some n ∧ RpD K m H k (.ref b) ∧ RpD K m H d v ∧ RpKd K m H ds r
noncomputable def RpK (K : PySem.W.Frag) (m : List Addr) (H : Hp) : List (Key × D) → List (Key × V) → Prop
 | [],vs=>vs = []
 | (k,d) :: ds,vs=>∃ v r,vs = (k,v) :: r ∧ RpD K m H d v ∧ RpK K m H ds r
noncomputable def RpF (K : PySem.W.Frag) (m : List Addr) (H : Hp) : List (Str × D) → List (Str × V) → Prop
 | [],vs=>vs = []
 | (k,d) :: ds,vs=>∃ v r,vs = (k,v) :: r ∧ RpD K m H d v ∧ RpF K m H ds r
end
/-- what is data stays: all but dicts exactly,dicts readable -/
structure Stay (m : List Addr) (H : Hp) (m' : List Addr) (H' : Hp) : Prop where
 ex : ∀ (a : Addr) (o : HO),a ∉ m → H a = some o → (∀ kvs,o ≠ .dK kvs) → (∀ ps,o ≠ .tbl ps) → H' a = some o ∧ a ∉ m'
 dk : ∀ (a : Addr) (kvs : List (Key × V)),a ∉ m → Rd H a (.dK kvs) → Rd H' a (.dK kvs) ∧ a ∉ m'
 fz : ∀ (a : Addr) (o : Obj) (u : HO),H a = some (.frz o u) → H' a = some (.frz o u)
theorem Stay.of {m m' : List Addr} {H H' : Hp} (f : ∀ a o,a ∉ m → H a = some o → (∀ ps,o ≠ .tbl ps) → H' a = some o ∧ a ∉ m') (g : ∀ (a : Addr) (o : Obj) (u : HO),H a = some (.frz o u) → H' a = some (.frz o u)) : Stay m H m' H':=⟨fun a o n r _ nt=>f a o n r nt,fun a u n r=>by
 rcases r with r | ⟨o,r⟩
 ·exact ⟨.inl (f a _ n r fun _ z=>nomatch z).1,(f a _ n r fun _ z=>nomatch z).2⟩
 ·exact ⟨.inr ⟨o,(f a _ n r fun _ z=>nomatch z).1⟩,(f a _ n r fun _ z=>nomatch z).2⟩,g⟩
theorem Stay.trans {m m1 m2 : List Addr} {H H1 H2 : Hp} (a : Stay m H m1 H1) (b : Stay m1 H1 m2 H2) : Stay m H m2 H2 :=
 ⟨fun x o n h nd nt=>let ⟨h1,n1⟩:=a.ex x o n h nd nt; b.ex x o n1 h1 nd nt,fun x u n h=>let ⟨h1,n1⟩:=a.dk x u n h; b.dk x u n1 h1,fun x o u h=>b.fz x o u (a.fz x o u h)⟩
theorem Stay.less {m m1 m2 : List Addr} {H H1 : Hp} (a : Stay m H m1 H1) (h : ∀ b,b ∈ m2 → b ∈ m1) : Stay m H m2 H1 :=
 ⟨fun x o n q nd nt=>let ⟨h1,n1⟩:=a.ex x o n q nd nt; ⟨h1,fun z=>n1 (h x z)⟩,fun x u n q=>let ⟨h1,n1⟩:=a.dk x u n q; ⟨h1,fun z=>n1 (h x z)⟩,a.fz⟩
/-- exactly,but that a dict may be locked -/
structure Ext (m : List Addr) (H : Hp) (m' : List Addr) (H' : Hp) : Prop where
 pre : m <+: m'
 toStay : Stay m H m' H'
theorem Ext.of {m m' : List Addr} {H H' : Hp} (p : m <+: m') (f : ∀ a o,a ∉ m → H a = some o → (∀ ps,o ≠ .tbl ps) → H' a = some o ∧ a ∉ m') (g : ∀ (a : Addr) (o : Obj) (u : HO),H a = some (.frz o u) → H' a = some (.frz o u)) : Ext m H m' H':=⟨p,Stay.of f g⟩
theorem Ext.refl (m : List Addr) (H : Hp) : Ext m H m H:=.of (List.prefix_refl m) (fun _ _ n h _=>⟨h,n⟩) fun _ _ _ h=>h
theorem Ext.trans {m m1 m2 : List Addr} {H H1 H2 : Hp} (a : Ext m H m1 H1) (b : Ext m1 H1 m2 H2) : Ext m H m2 H2 :=
 ⟨a.pre.trans b.pre,a.toStay.trans b.toStay⟩
section
variable {K : PySem.W.Frag} {m m' : List Addr} {H H' : Hp}
theorem LsV.stay {a : Addr} {vs : List V} (s : Stay m H m' H') (h : LsV m H a vs) : LsV m' H' a vs:=⟨(s.ex a _ h.1 h.2 (fun _ z=>nomatch z) fun _ z=>nomatch z).2,(s.ex a _ h.1 h.2 (fun _ z=>nomatch z) fun _ z=>nomatch z).1⟩
theorem ScV.stay {a : Addr} {vs : List V} (s : Stay m H m' H') (h : ScV K m H a vs) : ScV K m' H' a vs:=by
 rcases h with ⟨n,ob,r⟩ | h
 ·exact .inl ⟨(s.ex a _ n r (fun _ z=>nomatch z) fun _ z=>nomatch z).2,ob,(s.ex a _ n r (fun _ z=>nomatch z) fun _ z=>nomatch z).1⟩
 ·exact .inr h
theorem TpV.stay {a : Addr} {vs : List V} (s : Stay m H m' H') (h : TpV K m H a vs) : TpV K m' H' a vs:=by
 rcases h with ⟨n,r⟩ | h
 ·exact .inl ⟨(s.ex a _ n r (fun _ z=>nomatch z) fun _ z=>nomatch z).2,(s.ex a _ n r (fun _ z=>nomatch z) fun _ z=>nomatch z).1⟩
 ·exact .inr h
theorem LsV.sq {a : Addr} {vs : List V} (h : LsV m H a vs) : SqL K H a vs:=.inl (.inl h.2)
theorem ScV.sq {a : Addr} {vs : List V} (h : ScV K m H a vs) : SqL K H a vs:=by
 rcases h with ⟨_,r⟩ | (r | ⟨_,r⟩) | r
 ·exact .inl (.inr r)
 ·cases r
 ·cases r
 ·exact .inr r
theorem TpV.sq {a : Addr} {vs : List V} (h : TpV K m H a vs) : SqT K H a vs:=by
 rcases h with ⟨_,r⟩ | (r | ⟨_,r⟩) | r
 ·exact .inl (.inl r)
 ·cases r
 ·cases r
 ·exact .inr r
mutual
theorem RpD.stay (s : Stay m H m' H') : ∀ (d : D) (v : V),RpD K m H d v → RpD K m' H' d v
 | .non,_,h=>h
 | .bl _,_,h=>h
 | .int _,_,h=>h
 | .str _,_,h=>h
 | .ty _,_,h=>h
 | .obj _,_,h=>h
 | .tup ds,_,⟨a,vs,e,t,r⟩=>⟨a,vs,e,t.stay s,RpDs.stay s ds vs r⟩
 | .lst ds,_,⟨a,vs,e,t,r⟩=>⟨a,vs,e,t.stay s,RpDs.stay s ds vs r⟩
 | .dct ks,_,⟨a,vs,e,t,r⟩=>⟨a,vs,e,⟨(s.dk a _ t.1 t.2).2,(s.dk a _ t.1 t.2).1⟩,RpK.stay s ks vs r⟩
 | .ins C fs,_,⟨a,dx,vs,e,t,r⟩=>⟨a,dx,vs,e,⟨(s.ex a _ t.1 t.2 (fun _ z=>nomatch z) fun _ z=>nomatch z).2,(s.ex a _ t.1 t.2 (fun _ z=>nomatch z) fun _ z=>nomatch z).1⟩,RpF.stay s fs vs r⟩
 | .scr ns,_,⟨a,e,t⟩=>⟨a,e,t.stay s⟩
 | .kdc w ks,_,⟨a,o,vs,e,t,z,r⟩=>⟨a,o,vs,e,⟨(s.ex a _ t.1 t.2 (fun _ z=>nomatch z) fun _ z=>nomatch z).2,(s.ex a _ t.1 t.2 (fun _ z=>nomatch z) fun _ z=>nomatch z).1⟩,z,RpKd.stay s ks vs r⟩
 | .exc _ _ _ fs,_,⟨e,.inl h⟩=>⟨e,.inl h⟩
 | .exc _ _ _ fs,_,⟨e,.inr ⟨dd,vs,q,t,r⟩⟩=>⟨e,.inr ⟨dd,vs,q,⟨(s.ex dd _ t.1 t.2 (fun _ z=>nomatch z) fun _ z=>nomatch z).2,(s.ex dd _ t.1 t.2 (fun _ z=>nomatch z) fun _ z=>nomatch z).1⟩,RpF.stay s fs vs r⟩⟩
theorem RpDs.stay (s : Stay m H m' H') : ∀ (ds : List D) (vs : List V),RpDs K m H ds vs → RpDs K m' H' ds vs
 | [],_,h=>h
 | d :: ds,_,⟨v,r,e,h1,h2⟩=>⟨v,r,e,RpD.stay s d v h1,RpDs.stay s ds r h2⟩
theorem RpKd.stay (s : Stay m H m' H') : ∀ (ds : List (D × D)) (vs : List (NestedKey × Addr × V)),RpKd K m H ds vs → RpKd K m' H' ds vs
 | [],_,h=>h
 | (k,d) :: ds,_,⟨n,b,v,r,e,q,h0,h1,h2⟩=>⟨n,b,v,r,e,q,RpD.stay s k _ h0,RpD.stay s d v h1,RpKd.stay s ds r h2⟩
theorem RpK.stay (s : Stay m H m' H') : ∀ (ds : List (Key × D)) (vs : List (Key × V)),RpK K m H ds vs → RpK K m' H' ds vs
 | [],_,h=>h
 | (_,d) :: ds,_,⟨v,r,e,h1,h2⟩=>⟨v,r,e,RpD.stay s d v h1,RpK.stay s ds r h2⟩
theorem RpF.stay (s : Stay m H m' H') : ∀ (ds : List (Str × D)) (vs : List (Str × V)),RpF K m H ds vs → RpF K m' H' ds vs
 | [],_,h=>h
 | (_,d) :: ds,_,⟨v,r,e,h1,h2⟩=>⟨v,r,e,RpD.stay s d v h1,RpF.stay s ds r h2⟩
end
theorem RpD.ext (e : Ext m H m' H') {d : D} {v : V} (h : RpD K m H d v) : RpD K m' H' d v:=RpD.stay e.toStay d v h
theorem RpDs.ext (e : Ext m H m' H') {d : List D} {v : List V} (h : RpDs K m H d v) : RpDs K m' H' d v:=RpDs.stay e.toStay d v h
theorem RpF.ext (e : Ext m H m' H') {d : List (Str × D)} {v : List (Str × V)} (h : RpF K m H d v) : RpF K m' H' d v:=RpF.stay e.toStay d v h
theorem RpKd.ext (e : Ext m H m' H') {d : List (D × D)} {v : List (NestedKey × Addr × V)} (h : RpKd K m H d v) : RpKd K m' H' d v:=RpKd.stay e.toStay d v h
theorem RpK.ext (e : Ext m H m' H') {d : List (Key × D)} {v : List (Key × V)} (h : RpK K m H d v) : RpK K m' H' d v:=RpK.stay e.toStay d v h
end
noncomputable def RpU (K : PySem.W.Frag) (m : List Addr) (H : Hp) : U → V → Prop
 | .d x,v=>RpD K m H x v
 | .ref n,v=>∃ a,m[n]? = some a ∧ v = .ref a
noncomputable def RpUs (K : PySem.W.Frag) (m : List Addr) (H : Hp) : List U → List V → Prop
 | [],vs=>vs = []
 | u :: us,vs=>∃ v r,vs = v :: r ∧ RpU K m H u v ∧ RpUs K m H us r
noncomputable def RpUK (K : PySem.W.Frag) (m : List Addr) (H : Hp) : List (Key × U) → List (Key × V) → Prop
 | [],vs=>vs = []
 | (k,u) :: us,vs=>∃ v r,vs = (k,v) :: r ∧ RpU K m H u v ∧ RpUK K m H us r
noncomputable def RpUKd (K : PySem.W.Frag) (m : List Addr) (H : Hp) : List (D × U) → List (NestedKey × Addr × V) → Prop
 | [],es=>es = []
 | (k,u) :: us,es=>∃ n b v r,es = (n,b,v) :: r ∧ keyN k = some n ∧ RpD K m H k (.ref b) ∧ RpU K m H u v ∧ RpUKd K m H us r
noncomputable def RpUF (K : PySem.W.Frag) (m : List Addr) (H : Hp) : List (Str × U) → List (Str × V) → Prop
 | [],vs=>vs = []
 | (k,u) :: us,vs=>∃ v r,vs = (k,v) :: r ∧ RpU K m H u v ∧ RpUF K m H us r
noncomputable def RpO (K : PySem.W.Frag) (m : List Addr) (H : Hp) (b : Addr) : O → HO → Prop
 | .lst us,o=>∃ vs,o = .lst vs ∧ RpUs K m H us vs
 | .tup us,o=>∃ vs,o = .tup vs ∧ RpUs K m H us vs
 | .dct us,o=>∃ vs,o = .dK vs ∧ RpUK K m H us vs
 | .ins C us,o=>∃ dx vs,o = .ins C dx vs ∧ RpUF K m H us vs
 | .lck us,o=>∃ ob vs,o = .frz ob (.dK vs) ∧ RpUK K m H us vs
 | .kdc w us,o=>∃ ob es,o = PinO b ob ∧ KdOk w b ob es ∧ RpUKd K m H us es
 | .tbl P q,o=>b = P ∧ ∃ ps : Array Value,o = .tbl ps ∧ TriplesOk ps.toList ∧ ∀ (pos : Pos) (cv : Value),codeAmong pos ps.toList = some cv → ∃ c,cv = .ref c ∧ c ∉ m ∧ H c = some (LamX.CodeO c q)
structure Rep (K : PySem.W.Frag) (m : List Addr) (st : Store) (H : Hp) : Prop where
 len : m.length = st.length
 nd : m.Nodup
 cell : ∀ (n : Nat) (o : O) (a : Addr),st[n]? = some o → m[n]? = some a → ∃ ho,H a = some ho ∧ RpO K m H a o ho
/-- the frame's names -/
structure RpEnv (K : PySem.W.Frag) (m : List Addr) (H : Hp) (env : VEnv) (σ : L2.St) : Prop where
 len : env.length = σ.length
 at' : ∀ (i : Nat) (u : U),env[i]? = some (some u) → ∃ v,σ[i]? = some (some v) ∧ RpU K m H u v
section
variable {K : PySem.W.Frag} {m m' : List Addr} {H H' : Hp} {st : Store}
theorem RpU.stay (p : m <+: m') (s : Stay m H m' H') : ∀ (u : U) (v : V),RpU K m H u v → RpU K m' H' u v
 | .d x,v,h=>RpD.stay s x v h
 | .ref n,v,⟨a,e,h⟩=>⟨a,by
  obtain ⟨t,rfl⟩:=p
  rw [List.getElem?_append_left (List.getElem?_eq_some_iff.mp e).1]; exact e,h⟩
theorem RpUs.stay (p : m <+: m') (s : Stay m H m' H') : ∀ (us : List U) (vs : List V),RpUs K m H us vs → RpUs K m' H' us vs
 | [],_,h=>h
 | u :: us,_,⟨v,r,e,h1,h2⟩=>⟨v,r,e,RpU.stay p s u v h1,RpUs.stay p s us r h2⟩
theorem RpUK.stay (p : m <+: m') (s : Stay m H m' H') : ∀ (us : List (Key × U)) (vs : List (Key × V)),RpUK K m H us vs → RpUK K m' H' us vs
 | [],_,h=>h
 | (_,u) :: us,_,⟨v,r,e,h1,h2⟩=>⟨v,r,e,RpU.stay p s u v h1,RpUK.stay p s us r h2⟩
theorem RpUKd.stay (p : m <+: m') (s : Stay m H m' H') : ∀ (us : List (D × U)) (vs : List (NestedKey × Addr × V)),RpUKd K m H us vs → RpUKd K m' H' us vs
 | [],_,h=>h
 | (k,u) :: us,_,⟨n,b,v,r,e,q,h0,h1,h2⟩=>⟨n,b,v,r,e,q,RpD.stay s k _ h0,RpU.stay p s u v h1,RpUKd.stay p s us r h2⟩
theorem RpUF.stay (p : m <+: m') (s : Stay m H m' H') : ∀ (us : List (Str × U)) (vs : List (Str × V)),RpUF K m H us vs → RpUF K m' H' us vs
 | [],_,h=>h
 | (_,u) :: us,_,⟨v,r,e,h1,h2⟩=>⟨v,r,e,RpU.stay p s u v h1,RpUF.stay p s us r h2⟩
theorem RpO.stay (p : m <+: m') (s : Stay m H m' H') {b : Addr} : ∀ (o : O) (ho : HO),RpO K m H b o ho → RpO K m' H' b o ho
 | .lst us,_,⟨vs,e,r⟩=>⟨vs,e,RpUs.stay p s us vs r⟩
 | .tup us,_,⟨vs,e,r⟩=>⟨vs,e,RpUs.stay p s us vs r⟩
 | .dct us,_,⟨vs,e,r⟩=>⟨vs,e,RpUK.stay p s us vs r⟩
 | .lck us,_,⟨ob,vs,e,r⟩=>⟨ob,vs,e,RpUK.stay p s us vs r⟩
 | .kdc w us,_,⟨o,vs,e,z,r⟩=>⟨o,vs,e,z,RpUKd.stay p s us vs r⟩
 | .ins C us,_,⟨dx,vs,e,r⟩=>⟨dx,vs,e,RpUF.stay p s us vs r⟩
 | .tbl P q,_,⟨e,ps,e1,e2,h⟩=>⟨e,ps,e1,e2,fun pos cv hc=>let ⟨c,g1,g2,g3⟩:=h pos cv hc; ⟨c,g1,(s.ex c _ g2 g3 (fun _ z=>by cases z) fun _ z=>by cases z).2,(s.ex c _ g2 g3 (fun _ z=>by cases z) fun _ z=>by cases z).1⟩⟩
theorem RpU.ext (e : Ext m H m' H') {u : U} {v : V} (h : RpU K m H u v) : RpU K m' H' u v:=RpU.stay e.pre e.toStay u v h
theorem RpUs.ext (e : Ext m H m' H') {u : List U} {v : List V} (h : RpUs K m H u v) : RpUs K m' H' u v:=RpUs.stay e.pre e.toStay u v h
theorem RpUK.ext (e : Ext m H m' H') {u : List (Key × U)} {v : List (Key × V)} (h : RpUK K m H u v) : RpUK K m' H' u v:=RpUK.stay e.pre e.toStay u v h
theorem RpUKd.ext (e : Ext m H m' H') {u : List (D × U)} {v : List (NestedKey × Addr × V)} (h : RpUKd K m H u v) : RpUKd K m' H' u v:=RpUKd.stay e.pre e.toStay u v h
theorem RpUF.ext (e : Ext m H m' H') {u : List (Str × U)} {v : List (Str × V)} (h : RpUF K m H u v) : RpUF K m' H' u v:=RpUF.stay e.pre e.toStay u v h
theorem RpO.ext (e : Ext m H m' H') {b : Addr} {o : O} {ho : HO} (h : RpO K m H b o ho) : RpO K m' H' b o ho:=RpO.stay e.pre e.toStay o ho h
theorem RpEnv.ext (e : Ext m H m' H') {env : VEnv} {σ : L2.St} (h : RpEnv K m H env σ) : RpEnv K m' H' env σ :=
 ⟨h.len,fun i u hi=>let ⟨v,h1,h2⟩:=h.at' i u hi; ⟨v,h1,h2.ext e⟩⟩
theorem RpEnv.set {env : VEnv} {σ : L2.St} (h : RpEnv K m H env σ) (i : Nat) {u : U} {v : V} (r : RpU K m H u v) : RpEnv K m H (env.set i (some u)) (σ.set i (some v)):=by
 refine ⟨by rw [List.length_set,List.length_set]; exact h.len,fun j w hj=>?_⟩
 by_cases e : i = j
 ·subst e
  by_cases hi : i < env.length
  ·rw [List.getElem?_set_self hi] at hj
   cases hj
   exact ⟨v,by rw [List.getElem?_set_self (by rw [← h.len]; exact hi)],r⟩
  ·rw [List.getElem?_eq_none (by rw [List.length_set]; omega)] at hj
   cases hj
 ·rw [List.getElem?_set_ne e] at hj
  obtain ⟨x,h1,h2⟩:=h.at' j w hj
  exact ⟨x,by rw [List.getElem?_set_ne e]; exact h1,h2⟩
theorem Rep.live (r : Rep K m st H) {a : Addr} (h : a ∈ m) : ∃ ho,H a = some ho:=by
 obtain ⟨n,hn,e⟩:=List.mem_iff_getElem.mp h
 have hs : n < st.length:=by rw [← r.len]; exact hn
 obtain ⟨ho,e1,_⟩:=r.cell n st[n] a (List.getElem?_eq_getElem hs) (by rw [List.getElem?_eq_getElem hn,e])
 exact ⟨ho,e1⟩
theorem Rep.fresh (r : Rep K m st H) {a : Addr} (h : H a = none) : a ∉ m:=fun q=>by
 obtain ⟨ho,e⟩:=r.live q
 rw [h] at e; cases e
/-- a new object that is data -/
theorem ext_new (r : Rep K m st H) {p : Addr} (np : H p = none) (o : HO) : Ext m H m (upd H p o) :=
 .of (List.prefix_refl m) (fun a u n h _=>⟨by rw [upd_ne (ne_of_none h np)]; exact h,n⟩) fun a ob u h=>by rw [upd_ne (ne_of_none h np)]; exact h
theorem Rep.new (r : Rep K m st H) {p : Addr} (np : H p = none) (o : HO) : Rep K m st (upd H p o) :=
 ⟨r.len,r.nd,fun n c a h1 h2=>by
  obtain ⟨ho,e,q⟩:=r.cell n c a h1 h2
  exact ⟨ho,by rw [upd_ne (ne_of_none e np)]; exact e,q.ext (ext_new r np o)⟩⟩
/-- a new cell -/
theorem ext_push (r : Rep K m st H) {p : Addr} (np : H p = none) (o : HO) : Ext m H (m ++ [p]) (upd H p o) :=
 .of (List.prefix_append m [p]) (fun a u n h _=>⟨by rw [upd_ne (ne_of_none h np)]; exact h,fun q=>by
  rcases List.mem_append.mp q with q | q
  ·exact n q
  ·rw [List.mem_singleton] at q
   subst q
   rw [np] at h; cases h⟩) fun a ob u h=>by rw [upd_ne (ne_of_none h np)]; exact h
theorem Rep.push (r : Rep K m st H) {p : Addr} (np : H p = none) {c : O} {o : HO} (q : RpO K (m ++ [p]) (upd H p o) p c o) : Rep K (m ++ [p]) (st ++ [c]) (upd H p o):=by
 refine ⟨by rw [List.length_append,List.length_append,r.len]; rfl,?_,fun n c' a h1 h2=>?_⟩
 ·rw [List.nodup_append]
  refine ⟨r.nd,by simp,fun x hx y hy=>?_⟩
  rw [List.mem_singleton] at hy
  subst hy
  exact fun e=>r.fresh np (by rw [← e]; exact hx)
 ·by_cases hn : n < st.length
  ·rw [List.getElem?_append_left hn] at h1
   rw [List.getElem?_append_left (by rw [r.len]; exact hn)] at h2
   obtain ⟨ho,e,q'⟩:=r.cell n c' a h1 h2
   exact ⟨ho,by rw [upd_ne (ne_of_none e np)]; exact e,q'.ext (ext_push r np o)⟩
  ·have hn2 : n = st.length:=by
    have:=(List.getElem?_eq_some_iff.mp h1).1
    rw [List.length_append] at this
    simp at this; omega
   subst hn2
   rw [List.getElem?_append_right (Nat.le_refl _),Nat.sub_self] at h1
   rw [← r.len,List.getElem?_append_right (Nat.le_refl _),Nat.sub_self] at h2
   cases h1; cases h2
   exact ⟨o,upd_same,q⟩
/-- what lies there is not locked -/
noncomputable def NF (H : Hp) (a : Addr) : Prop:=∀ (o : Obj) (u : HO),H a ≠ some (.frz o u)
theorem nf_l {a : Addr} {vs : List V} (h : H a = some (.lst vs)) : NF H a:=fun o u z=>by rw [h] at z; cases z
theorem nf_d {a : Addr} {vs : List (Key × V)} (h : H a = some (.dK vs)) : NF H a:=fun o u z=>by rw [h] at z; cases z
theorem ext_write {a : Addr} (ha : a ∈ m) (o : HO) (nf : NF H a) : Ext m H m (upd H a o) :=
 .of (List.prefix_refl m) (fun b u n h _=>⟨by rw [upd_ne (fun e=>n (by rw [e]; exact ha))]; exact h,n⟩) fun b ob u h=>by rw [upd_ne (fun e=>nf ob u (by rw [← e]; exact h))]; exact h
theorem Rep.write (r : Rep K m st H) {n : Nat} {a : Addr} {c : O} {o : HO} (hn : m[n]? = some a) (q : RpO K m (upd H a o) a c o) (nf : NF H a) : Rep K m (st.set n c) (upd H a o):=by
 have ha : a ∈ m:=List.mem_of_getElem? hn
 refine ⟨by rw [List.length_set]; exact r.len,r.nd,fun k c' b h1 h2=>?_⟩
 by_cases e : n = k
 ·subst e
  rw [hn] at h2; cases h2
  have hl : n < st.length:=by rw [← r.len]; exact (List.getElem?_eq_some_iff.mp hn).1
  rw [List.getElem?_set_self hl] at h1; cases h1
  exact ⟨o,upd_same,q⟩
 ·rw [List.getElem?_set_ne e] at h1
  obtain ⟨ho,e1,q1⟩:=r.cell k c' b h1 h2
  have hb : b ≠ a:=fun z=>by
   subst z
   obtain ⟨l1,g1⟩:=List.getElem?_eq_some_iff.mp hn
   obtain ⟨l2,g2⟩:=List.getElem?_eq_some_iff.mp h2
   exact e ((List.getElem_inj r.nd).mp (g1.trans g2.symm))
  exact ⟨ho,by rw [upd_ne hb]; exact e1,q1.ext (ext_write ha o nf)⟩
end
inductive R (α : Type) where
 | ok (a : α) (st : Store)
 | ex (c : Value) (fs : Option (List (Str × D))) (st : Store)
 | bad
noncomputable abbrev M (α : Type):=Store → R α
noncomputable abbrev F (α : Type):=VEnv → M α
inductive Fl where
 | nx | rt (u : U) | bk | ct
inductive RS where
 | ok (env : VEnv) (f : Fl) (st : Store)
 | ex (c : Value) (fs : Option (List (Str × D))) (env : VEnv) (st : Store)
 | bad
noncomputable abbrev G:=VEnv → Store → RS
noncomputable def RpX (K : PySem.W.Frag) (m : List Addr) (H : Hp) : Option (List (Str × D)) → Option Addr → Prop
 | none,none=>True
 | some fs,some d=>∃ vs,H d = some (.xd vs) ∧ d ∉ m ∧ RpF K m H fs vs
 | _,_=>False
/-- what is wanted of a value's way -/
noncomputable def PO' {α β : Type} (K : PySem.W.Frag) (m : List Addr) (H : Hp) (rel : List Addr → Hp → α → β → Prop) (Q : β → Hp → Prop) (E : XK) : R α → Prop
 | .ok u st'=>∀ v m' H',rel m' H' u v → Rep K m' st' H' → Ext m H m' H' → Q v H'
 | .ex c fs st'=>∀ d m' H',Rep K m' st' H' → Ext m H m' H' → RpX K m' H' fs d → E c d H'
 | .bad=>False
noncomputable abbrev PU (K : PySem.W.Frag) (m : List Addr) (H : Hp) (Q : VK) (E : XK) : R U → Prop:=PO' K m H (RpU K) Q E
noncomputable abbrev PUs (K : PySem.W.Frag) (m : List Addr) (H : Hp) (Q : List V → Hp → Prop) (E : XK) : R (List U) → Prop:=PO' K m H (RpUs K) Q E
noncomputable abbrev PB (K : PySem.W.Frag) (m : List Addr) (H : Hp) (Q : Bool → Hp → Prop) (E : XK) : R Bool → Prop:=PO' K m H (fun _ _ a b=>b = a) Q E
noncomputable def PS' (K : PySem.W.Frag) (m : List Addr) (H : Hp) (D : Ends) (W : WX) : RS → Prop
 | .ok env .nx st'=>∀ σ' m' H',RpEnv K m' H' env σ' → Rep K m' st' H' → Ext m H m' H' → D.nx σ' H'
 | .ok env (.rt u) st'=>∀ v m' H',RpU K m' H' u v → Rep K m' st' H' → Ext m H m' H' → D.rt v H'
 | .ok env .bk st'=>∀ σ' m' H',RpEnv K m' H' env σ' → Rep K m' st' H' → Ext m H m' H' → D.bk σ' H'
 | .ok env .ct st'=>∀ σ' m' H',RpEnv K m' H' env σ' → Rep K m' st' H' → Ext m H m' H' → D.ct σ' H'
 | .ex c fs env st'=>∀ d σ' m' H',RpEnv K m' H' env σ' → Rep K m' st' H' → Ext m H m' H' → RpX K m' H' fs d → W c d σ' H'
 | .bad=>False
theorem PO'.from {α β : Type} {K : PySem.W.Frag} {m m1 : List Addr} {H H1 : Hp} {rel : List Addr → Hp → α → β → Prop} {Q : β → Hp → Prop} {E : XK} (e : Ext m H m1 H1) : ∀ {r : R α},PO' K m H rel Q E r → PO' K m1 H1 rel Q E r
 | .ok u st',h=>fun v m' H' a b c=>h v m' H' a b (e.trans c)
 | .ex c fs st',h=>fun d m' H' a b x=>h d m' H' a (e.trans b) x
 | .bad,h=>h
theorem PO'.imp {α β : Type} {K : PySem.W.Frag} {m : List Addr} {H : Hp} {rel : List Addr → Hp → α → β → Prop} {Q Q' : β → Hp → Prop} {E : XK} (hq : ∀ v H,Q v H → Q' v H) : ∀ {r : R α},PO' K m H rel Q E r → PO' K m H rel Q' E r
 | .ok u st',h=>fun v m' H' a b c=>hq _ _ (h v m' H' a b c)
 | .ex c fs st',h=>h
 | .bad,h=>h
theorem PS'.from {K : PySem.W.Frag} {m m1 : List Addr} {H H1 : Hp} {D : Ends} {W : WX} (e : Ext m H m1 H1) : ∀ {r : RS},PS' K m H D W r → PS' K m1 H1 D W r
 | .ok env .nx st',h=>fun v m' H' a b c=>h v m' H' a b (e.trans c)
 | .ok env (.rt u) st',h=>fun v m' H' a b c=>h v m' H' a b (e.trans c)
 | .ok env .bk st',h=>fun v m' H' a b c=>h v m' H' a b (e.trans c)
 | .ok env .ct st',h=>fun v m' H' a b c=>h v m' H' a b (e.trans c)
 | .ex c fs env st',h=>fun d σ' m' H' a b x y=>h d σ' m' H' a b (e.trans x) y
 | .bad,h=>h
noncomputable def tF (K : PySem.W.Frag) (W : WX) (f : F U) : TE:=fun σ H Q=>∃ m env st,Rep K m st H ∧ RpEnv K m H env σ ∧ PU K m H Q (fun c d H'=>W c d σ H') (f env st)
noncomputable def tFB (K : PySem.W.Frag) (W : WX) (f : F Bool) : TT:=fun σ H Q=>∃ m env st,Rep K m st H ∧ RpEnv K m H env σ ∧ PB K m H Q (fun c d H'=>W c d σ H') (f env st)
noncomputable def tFs (K : PySem.W.Frag) (W : WX) (f : F (List U)) : TA:=fun σ H Q=>∃ m env st,Rep K m st H ∧ RpEnv K m H env σ ∧ PUs K m H Q (fun c d H'=>W c d σ H') (f env st)
noncomputable def tG (K : PySem.W.Frag) (W : WX) (g : G) : TS:=fun D σ H=>∃ m env st,Rep K m st H ∧ RpEnv K m H env σ ∧ PS' K m H D W (g env st)
structure DE (X : Cx) (W : WX) (e : Expr) (f : F U) : Prop where
 pe : PE X e (tF X.K W f)
structure DT (X : Cx) (W : WX) (e : Expr) (f : F Bool) : Prop where
 pt : PT X e (tFB X.K W f)
structure DW (X : Cx) (W : WX) (e : Expr) (f : F Bool) : Prop where
 pw : PW X e (tFB X.K W f)
structure DA (X : Cx) (W : WX) (es : List Expr) (f : F (List U)) : Prop where
 pa : PA X es (tFs X.K W f)
structure DS (X : Cx) (W : WX) (s : Stmt) (g : G) : Prop where
 ps : PS X s (tG X.K W g)
structure DB (X : Cx) (W : WX) (s : List Stmt) (g : G) : Prop where
 pss : PSs X s (tG X.K W g)
theorem PE.imp {X : Cx} {e : Expr} {t t' : TE} (h : PE X e t) (i : ∀ σ H Q,t' σ H Q → t σ H Q) : PE X e t':=⟨fun pins s σ H Q I q=>h.run pins s σ H Q I (i σ H Q q)⟩
theorem PT.imp {X : Cx} {e : Expr} {t t' : TT} (h : PT X e t) (i : ∀ σ H Q,t' σ H Q → t σ H Q) : PT X e t':=⟨fun pins s σ H Q I q=>h.run pins s σ H Q I (i σ H Q q)⟩
theorem PW.imp {X : Cx} {e : Expr} {t t' : TT} (h : PW X e t) (i : ∀ σ H Q,t' σ H Q → t σ H Q) : PW X e t':=⟨fun w pins s σ H Q I q=>h.run w pins s σ H Q I (i σ H Q q)⟩
theorem PA.imp {X : Cx} {e : List Expr} {t t' : TA} (h : PA X e t) (i : ∀ σ H Q,t' σ H Q → t σ H Q) : PA X e t':=⟨fun pos pins s σ H Q I q=>h.run pos pins s σ H Q I (i σ H Q q)⟩
theorem PS.imp {X : Cx} {e : Stmt} {t t' : TS} (h : PS X e t) (i : ∀ D σ H,t' D σ H → t D σ H) : PS X e t':=⟨fun pins s σ H Q I q=>h.run pins s σ H Q I (i Q σ H q)⟩
theorem PSs.imp {X : Cx} {e : List Stmt} {t t' : TS} (h : PSs X e t) (i : ∀ D σ H,t' D σ H → t D σ H) : PSs X e t':=⟨fun pins s σ H Q I q=>h.run pins s σ H Q I (i Q σ H q)⟩
end VL
namespace VL
open PySem PySem.Spec PyProof.Rows L2
noncomputable def bnd {α β : Type} (f : F α) (g : α → F β) : F β:=fun env st=>match f env st with
 | .ok a st1=>g a env st1
 | .ex c fs st1=>.ex c fs st1
 | .bad=>.bad
noncomputable def bndS {α : Type} (f : F α) (g : α → G) : G:=fun env st=>match f env st with
 | .ok a st1=>g a env st1
 | .ex c fs st1=>.ex c fs env st1
 | .bad=>.bad
/-- an operation that leaves the cells -/
noncomputable def R.of {α : Type} (st : Store) : Option α → R α
 | some a=>.ok a st
 | none=>.bad
/-- an operation that may write them -/
noncomputable def R.of2 {α : Type} : Option (α × Store) → R α
 | some (a,st)=>.ok a st
 | none=>.bad
noncomputable def fPure {α : Type} (a : α) : F α:=fun _ st=>.ok a st
section
variable {K : PySem.W.Frag} {W : WX} {m : List Addr} {env : VEnv} {st : Store} {H : Hp} {σ : L2.St} {γ δ : Type} {rel : List Addr → Hp → γ → δ → Prop} {Q : δ → Hp → Prop}
theorem tF_step {f : F U} {g : U → F γ} {Z : VK} (r : Rep K m st H) (re : RpEnv K m H env σ) (p : PO' K m H rel Q (fun c d H'=>W c d σ H') (bnd f g env st))
  (h : ∀ a st1 v m1 H1,RpU K m1 H1 a v → Rep K m1 st1 H1 → RpEnv K m1 H1 env σ → Ext m H m1 H1 → PO' K m1 H1 rel Q (fun c d H'=>W c d σ H') (g a env st1) → Z v H1) : tF K W f σ H Z :=
 ⟨m,env,st,r,re,by
  unfold bnd at p
  cases e : f env st with
  | ok a st1=>rw [e] at p; exact fun v m1 H1 h1 h2 h3=>h a st1 v m1 H1 h1 h2 (re.ext h3) h3 (p.from h3)
  | ex c fs st1=>rw [e] at p; exact p
  | bad=>rw [e] at p; exact p.elim⟩
theorem tFs_step {f : F (List U)} {g : List U → F γ} {Z : List V → Hp → Prop} (r : Rep K m st H) (re : RpEnv K m H env σ) (p : PO' K m H rel Q (fun c d H'=>W c d σ H') (bnd f g env st))
  (h : ∀ a st1 v m1 H1,RpUs K m1 H1 a v → Rep K m1 st1 H1 → RpEnv K m1 H1 env σ → Ext m H m1 H1 → PO' K m1 H1 rel Q (fun c d H'=>W c d σ H') (g a env st1) → Z v H1) : tFs K W f σ H Z :=
 ⟨m,env,st,r,re,by
  unfold bnd at p
  cases e : f env st with
  | ok a st1=>rw [e] at p; exact fun v m1 H1 h1 h2 h3=>h a st1 v m1 H1 h1 h2 (re.ext h3) h3 (p.from h3)
  | ex c fs st1=>rw [e] at p; exact p
  | bad=>rw [e] at p; exact p.elim⟩
theorem tFB_step {f : F Bool} {g : Bool → F γ} {Z : Bool → Hp → Prop} (r : Rep K m st H) (re : RpEnv K m H env σ) (p : PO' K m H rel Q (fun c d H'=>W c d σ H') (bnd f g env st))
  (h : ∀ a st1 m1 H1,Rep K m1 st1 H1 → RpEnv K m1 H1 env σ → Ext m H m1 H1 → PO' K m1 H1 rel Q (fun c d H'=>W c d σ H') (g a env st1) → Z a H1) : tFB K W f σ H Z :=
 ⟨m,env,st,r,re,by
  unfold bnd at p
  cases e : f env st with
  | ok a st1=>rw [e] at p; exact fun v m1 H1 h1 h2 h3=>by subst h1; exact h _ st1 m1 H1 h2 (re.ext h3) h3 (p.from h3)
  | ex c fs st1=>rw [e] at p; exact p
  | bad=>rw [e] at p; exact p.elim⟩
variable {Dn : Ends}
theorem sF_step {f : F U} {g : U → G} {Z : VK} (r : Rep K m st H) (re : RpEnv K m H env σ) (p : PS' K m H Dn W (bndS f g env st))
  (h : ∀ a st1 v m1 H1,RpU K m1 H1 a v → Rep K m1 st1 H1 → RpEnv K m1 H1 env σ → Ext m H m1 H1 → PS' K m1 H1 Dn W (g a env st1) → Z v H1) : tF K W f σ H Z :=
 ⟨m,env,st,r,re,by
  unfold bndS at p
  cases e : f env st with
  | ok a st1=>rw [e] at p; exact fun v m1 H1 h1 h2 h3=>h a st1 v m1 H1 h1 h2 (re.ext h3) h3 (p.from h3)
  | ex c fs st1=>rw [e] at p; exact fun d m' H' h1 h2 h3=>p d σ m' H' (re.ext h2) h1 h2 h3
  | bad=>rw [e] at p; exact p.elim⟩
theorem sFB_step {f : F Bool} {g : Bool → G} {Z : Bool → Hp → Prop} (r : Rep K m st H) (re : RpEnv K m H env σ) (p : PS' K m H Dn W (bndS f g env st))
  (h : ∀ a st1 m1 H1,Rep K m1 st1 H1 → RpEnv K m1 H1 env σ → Ext m H m1 H1 → PS' K m1 H1 Dn W (g a env st1) → Z a H1) : tFB K W f σ H Z :=
 ⟨m,env,st,r,re,by
  unfold bndS at p
  cases e : f env st with
  | ok a st1=>rw [e] at p; exact fun v m1 H1 h1 h2 h3=>by subst h1; exact h _ st1 m1 H1 h2 (re.ext h3) h3 (p.from h3)
  | ex c fs st1=>rw [e] at p; exact fun d m' H' h1 h2 h3=>p d σ m' H' (re.ext h2) h1 h2 h3
  | bad=>rw [e] at p; exact p.elim⟩
theorem sFs_step {f : F (List U)} {g : List U → G} {Z : List V → Hp → Prop} (r : Rep K m st H) (re : RpEnv K m H env σ) (p : PS' K m H Dn W (bndS f g env st))
  (h : ∀ a st1 v m1 H1,RpUs K m1 H1 a v → Rep K m1 st1 H1 → RpEnv K m1 H1 env σ → Ext m H m1 H1 → PS' K m1 H1 Dn W (g a env st1) → Z v H1) : tFs K W f σ H Z :=
 ⟨m,env,st,r,re,by
  unfold bndS at p
  cases e : f env st with
  | ok a st1=>rw [e] at p; exact fun v m1 H1 h1 h2 h3=>h a st1 v m1 H1 h1 h2 (re.ext h3) h3 (p.from h3)
  | ex c fs st1=>rw [e] at p; exact fun d m' H' h1 h2 h3=>p d σ m' H' (re.ext h2) h1 h2 h3
  | bad=>rw [e] at p; exact p.elim⟩
end
noncomputable def vVar (i : Nat) : F U:=fun env st=>match env[i]? with
 | some (some u)=>.ok u st
 | _=>.bad
noncomputable def vC (x : D) : F U:=fun _ st=>.ok (.d x) st
section
variable {X : Cx} {W : WX}
theorem d_var (i : Nat) {x : Str} {pos : Pos} (hN : X.N[i]? = some x:=by rfl) (hv : Vis X.env.scope x:=by first | exact Or.inl rfl | exact Or.inr (Or.inl rfl) | exact Or.inr (Or.inr rfl)) (hd : (x == ("__debug__" : Str)) = false:=by decide)
  (hcd : (x == ("__classdict__" : Str)) = false:=by decide) : DE X W (.Name x pos) (vVar i):=⟨PE.imp (pv i hN hv hd hcd) fun σ H Q ⟨m,env,st,r,re,p⟩=>by
 unfold vVar at p
 split at p
 ·rename_i u hu
  obtain ⟨v,h1,h2⟩:=re.at' i u hu
  exact ⟨v,h1,p v m H h2 r (Ext.refl _ _)⟩
 ·exact p.elim⟩
theorem d_con {e : Expr} {v : V} {x : D} (h : PE X e (tC v)) (hx : ∀ m H,RpD X.K m H x v) : DE X W e (vC x):=⟨PE.imp h fun σ H Q ⟨m,env,st,r,re,p⟩=>p v m H (hx m H) r (Ext.refl _ _)⟩
theorem d_int {i : Int} {j : Nat} {pos : Pos} : DE X W (.Constant (.int i) j pos) (vC (.int i)):=d_con pe_int fun _ _=>rfl
theorem d_bl {i : Bool} {j : Nat} {pos : Pos} : DE X W (.Constant (.bool i) j pos) (vC (.bl i)):=d_con pe_bl fun _ _=>rfl
theorem d_str {x : Str} {j : Nat} {pos : Pos} : DE X W (.Constant (.str x) j pos) (vC (.str x)):=d_con pe_str fun _ _=>rfl
/-- a constant of the module that is a number,a text -/
theorem d_glob {x : Str} {v : V} {d : D} {u : Value} {pos : Pos} (hm : X.mg x = some u) (r : RelV v u) (hx : ∀ m H,RpD X.K m H d v) (hg : Gl X x:=by rfl) (hd : (x == ("__debug__" : Str)) = false:=by decide) : DE X W (.Name x pos) (vC d) :=
 d_con (pe_glob hg hm r hd) hx
/-- a built-in class as a value -/
theorem d_ty {x : Str} {n : String} {pos : Pos} (hm : X.mg x = none) (hv : bootBuiltins x = some (.type n)) (hg : Gl X x:=by rfl) (hn : x ≠ "__name__":=by decide) (hd : (x == ("__debug__" : Str)) = false:=by decide) : DE X W (.Name x pos) (vC (.ty n)) :=
 d_con (v:=.ty n) (pe_bltn hg hm hv rfl hn hd) fun _ _=>rfl
end
noncomputable def getL (st : Store) : U → Option (List U)
 | .d (.lst ds)=>some (ds.map .d)
 | .d (.scr ns)=>some (ns.map fun i=>.d (.int i))
 | .ref n=>match st[n]? with
  | some (.lst us)=>some us
  | _=>none
 | _=>none
noncomputable def getT : U → Option (List D)
 | .d (.tup ds)=>some ds
 | _=>none
noncomputable def pureL : List U → Option (List D)
 | []=>some []
 | .d x :: r=>(pureL r).map (x :: ·)
 | _=>none
theorem pureL_map : ∀ ds : List D,pureL (ds.map .d) = some ds
 | []=>rfl
 | d :: ds=>by rw [List.map_cons,pureL,pureL_map ds]; rfl
section
variable {K : PySem.W.Frag} {m : List Addr} {H : Hp} {st : Store}
theorem RpUs.ofD : ∀ {ds : List D} {vs : List V},RpDs K m H ds vs → RpUs K m H (ds.map .d) vs
 | [],_,h=>h
 | d :: ds,_,⟨v,r,e,h1,h2⟩=>⟨v,r,e,h1,RpUs.ofD h2⟩
theorem pureL_rp : ∀ {us : List U} {vs : List V} {ds : List D},RpUs K m H us vs → pureL us = some ds → RpDs K m H ds vs
 | [],vs,ds,h,e=>by cases e; exact h
 | .d x :: r,vs,ds,⟨v,t,ev,h1,h2⟩,e=>by
  unfold pureL at e
  cases q : pureL r with
  | none=>rw [q] at e; cases e
  | some zs =>
   rw [q] at e
   cases e
   exact ⟨v,t,ev,h1,pureL_rp h2 q⟩
 | .ref n :: r,vs,ds,h,e=>by cases e
theorem RpUs.ints : ∀ (ns : List Int),RpUs K m H (ns.map fun i=>.d (.int i)) (ns.map V.int)
 | []=>rfl
 | n :: ns=>⟨.int n,_,rfl,rfl,RpUs.ints ns⟩
theorem getL_rp (r : Rep K m st H) : ∀ {u : U} {v : V} {us : List U},RpU K m H u v → getL st u = some us → ∃ a vs,v = .ref a ∧ SqL K H a vs ∧ RpUs K m H us vs
 | .d (.lst ds),v,us,⟨a,vs,e,h1,h2⟩,q=>by
  cases q
  exact ⟨a,vs,e,h1.sq,RpUs.ofD h2⟩
 | .d (.scr ns),v,us,⟨a,e,h1⟩,q=>by
  cases q
  exact ⟨a,_,e,h1.sq,RpUs.ints ns⟩
 | .ref n,v,us,⟨a,ha,e⟩,q=>by
  simp only [getL] at q
  split at q
  ·rename_i zs hs
   cases q
   obtain ⟨ho,h1,vs,e2,h2⟩:=r.cell n _ a hs ha
   rw [e2] at h1
   exact ⟨a,vs,e,.inl (.inl h1),h2⟩
  ·cases q
 | .d .non,_,_,_,q=>by cases q
 | .d (.bl _),_,_,_,q=>by cases q
 | .d (.int _),_,_,_,q=>by cases q
 | .d (.str _),_,_,_,q=>by cases q
 | .d (.ty _),_,_,_,q=>by cases q
 | .d (.obj _),_,_,_,q=>by cases q
 | .d (.tup _),_,_,_,q=>by cases q
 | .d (.dct _),_,_,_,q=>by cases q
 | .d (.ins _ _),_,_,_,q=>by cases q
 | .d (.exc _ _ _ _),_,_,_,q=>by cases q
 | .d (.kdc _ _),_,_,_,q=>by cases q
theorem getT_rp : ∀ {u : U} {v : V} {us : List D},RpU K m H u v → getT u = some us → ∃ a vs,v = .ref a ∧ TpV K m H a vs ∧ RpDs K m H us vs
 | .d (.tup ds),v,us,⟨a,vs,e,h1,h2⟩,q=>by
  cases q
  exact ⟨a,vs,e,h1,h2⟩
 | .ref n,_,_,_,q=>by cases q
 | .d .non,_,_,_,q=>by cases q
 | .d (.bl _),_,_,_,q=>by cases q
 | .d (.int _),_,_,_,q=>by cases q
 | .d (.str _),_,_,_,q=>by cases q
 | .d (.ty _),_,_,_,q=>by cases q
 | .d (.obj _),_,_,_,q=>by cases q
 | .d (.lst _),_,_,_,q=>by cases q
 | .d (.scr _),_,_,_,q=>by cases q
 | .d (.dct _),_,_,_,q=>by cases q
 | .d (.ins _ _),_,_,_,q=>by cases q
 | .d (.exc _ _ _ _),_,_,_,q=>by cases q
 | .d (.kdc _ _),_,_,_,q=>by cases q
theorem RpUs.length : ∀ {us : List U} {vs : List V},RpUs K m H us vs → vs.length = us.length
 | [],_,h=>by rw [show _ = [] from h]; rfl
 | u :: us,_,⟨v,r,e,h1,h2⟩=>by rw [e,List.length_cons,List.length_cons,RpUs.length h2]
theorem RpDs.length {us : List D} {vs : List V} (h : RpDs K m H us vs) : vs.length = us.length:=by
 have:=(RpUs.ofD h).length
 rwa [List.length_map] at this
theorem RpUs.append : ∀ {us ws : List U} {vs xs : List V},RpUs K m H us vs → RpUs K m H ws xs → RpUs K m H (us ++ ws) (vs ++ xs)
 | [],_,_,_,h,k=>by rw [show _ = [] from h]; exact k
 | u :: us,_,_,_,⟨v,r,e,h1,h2⟩,k=>by subst e; exact ⟨v,_,rfl,h1,RpUs.append h2 k⟩
theorem RpDs.append : ∀ {us ws : List D} {vs xs : List V},RpDs K m H us vs → RpDs K m H ws xs → RpDs K m H (us ++ ws) (vs ++ xs)
 | [],_,_,_,h,k=>by rw [show _ = [] from h]; exact k
 | u :: us,_,_,_,⟨v,r,e,h1,h2⟩,k=>by subst e; exact ⟨v,_,rfl,h1,RpDs.append h2 k⟩
theorem RpUs.get : ∀ {us : List U} {vs : List V} {i : Nat} {u : U},RpUs K m H us vs → us[i]? = some u → ∃ v,vs[i]? = some v ∧ RpU K m H u v
 | [],_,_,_,h,q=>by simp at q
 | u :: us,_,0,w,⟨v,r,e,h1,h2⟩,q=>by subst e; simp at q; subst q; exact ⟨v,rfl,h1⟩
 | u :: us,_,i + 1,w,⟨v,r,e,h1,h2⟩,q=>by
  subst e
  obtain ⟨x,g1,g2⟩:=RpUs.get (i:=i) h2 (by simpa using q)
  exact ⟨x,by simpa using g1,g2⟩
theorem RpUs.set : ∀ {us : List U} {vs : List V} (i : Nat) {u : U} {v : V},RpUs K m H us vs → RpU K m H u v → RpUs K m H (us.set i u) (vs.set i v)
 | [],_,_,_,_,h,_=>by rw [show _ = [] from h]; rfl
 | w :: us,_,0,u,v,⟨x,r,e,h1,h2⟩,k=>by subst e; exact ⟨v,r,rfl,k,h2⟩
 | w :: us,_,i + 1,u,v,⟨x,r,e,h1,h2⟩,k=>by subst e; exact ⟨x,r.set i v,rfl,h1,RpUs.set i h2 k⟩
theorem RpUs.take : ∀ {us : List U} {vs : List V} (n : Nat),RpUs K m H us vs → RpUs K m H (us.take n) (vs.take n)
 | _,_,0,_=>rfl
 | [],_,n + 1,h=>by rw [show _ = [] from h]; rfl
 | u :: us,_,n + 1,⟨x,r,e,h1,h2⟩=>by subst e; exact ⟨x,r.take n,rfl,h1,RpUs.take n h2⟩
theorem RpUs.drop : ∀ {us : List U} {vs : List V} (n : Nat),RpUs K m H us vs → RpUs K m H (us.drop n) (vs.drop n)
 | _,_,0,h=>h
 | [],_,n + 1,h=>by rw [show _ = [] from h]; rfl
 | u :: us,_,n + 1,⟨x,r,e,h1,h2⟩=>by subst e; exact RpUs.drop n h2
theorem RpDs.get {us : List D} {vs : List V} {i : Nat} {u : D} (h : RpDs K m H us vs) (q : us[i]? = some u) : ∃ v,vs[i]? = some v ∧ RpD K m H u v:=by
 obtain ⟨v,h1,h2⟩:=RpUs.get (RpUs.ofD h) (i:=i) (u:=.d u) (by rw [List.getElem?_map,q]; rfl)
 exact ⟨v,h1,h2⟩
theorem RpDs.toD {us : List D} {vs : List V} (h : RpUs K m H (us.map .d) vs) : RpDs K m H us vs:=pureL_rp h (pureL_map us)
/-- new data -/
theorem new_lst (r : Rep K m st H) {p : Addr} (np : H p = none) {ds : List D} {vs : List V} (h : RpDs K m H ds vs) : RpU K m (upd H p (.lst vs)) (.d (.lst ds)) (.ref p) :=
 ⟨p,vs,rfl,⟨r.fresh np,upd_same⟩,h.ext (ext_new r np _)⟩
theorem new_tup (r : Rep K m st H) {p : Addr} (np : H p = none) {ds : List D} {vs : List V} (h : RpDs K m H ds vs) : RpU K m (upd H p (.tup vs)) (.d (.tup ds)) (.ref p) :=
 ⟨p,vs,rfl,.inl ⟨r.fresh np,upd_same⟩,h.ext (ext_new r np _)⟩
end
/-- what an operation that leaves the cells gives -/
noncomputable def PV (K : PySem.W.Frag) (m : List Addr) (st : Store) (H : Hp) (Q : VK) : Option U → Prop
 | some u=>∀ v H',RpU K m H' u v → Rep K m st H' → Ext m H m H' → Q v H'
 | none=>False
theorem PV.of {K : PySem.W.Frag} {m : List Addr} {st : Store} {H : Hp} {Q : VK} {E : XK} : ∀ {o : Option U},PU K m H Q E (R.of st o) → PV K m st H Q o
 | some u,h=>fun v H' a b c=>h v m H' a b c
 | none,h=>h
noncomputable abbrev P1:=U → Store → Option U
noncomputable abbrev P2:=U → U → Store → Option U
noncomputable def rG (K : PySem.W.Frag) (g : P2) : R2:=fun x y H Q=>∃ m st a b,Rep K m st H ∧ RpU K m H a x ∧ RpU K m H b y ∧ PV K m st H Q (g a b st)
noncomputable def rG1 (K : PySem.W.Frag) (g : P1) : V → Hp → VK → Prop:=fun x H Q=>∃ m st a,Rep K m st H ∧ RpU K m H a x ∧ PV K m st H Q (g a st)
noncomputable def f2 (g : P2) (fa fb : F U) : F U:=bnd fa fun a=>bnd fb fun b=>fun _ st=>.of st (g a b st)
noncomputable def f1 (g : P1) (fa : F U) : F U:=bnd fa fun a=>fun _ st=>.of st (g a st)
section
variable {X : Cx} {W : WX} {a b : Expr} {fa fb : F U} {pos : Pos} {g : P2}
theorem t_op2 {σ : L2.St} {H : Hp} {Q : VK} (h : tF X.K W (f2 g fa fb) σ H Q) : tOp (rG X.K g) (tF X.K W fa) (tF X.K W fb) σ H Q:=by
 obtain ⟨m,env,st,r,re,p⟩:=h
 refine tF_step r re p fun a st1 v m1 H1 h1 r1 re1 e1 p1=>?_
 refine tF_step r1 re1 p1 fun b st2 w m2 H2 h2 r2 re2 e2 p2=>?_
 exact ⟨m2,st2,a,b,r2,h1.ext e2,h2,PV.of p2⟩
theorem d_op {op : Operator} (ho : OpR X (binaryOp op) (rG X.K g)) (ha : DE X W a fa) (hb : DE X W b fb) : DE X W (.BinOp a op b pos) (f2 g fa fb) :=
 ⟨PE.imp (pe_op ho ha.pe hb.pe) fun _ _ _ h=>t_op2 h⟩
theorem d_un {op : UnaryOp} {g : P1} (ho : UnR X (unaryOp op) (rG1 X.K g)) (ha : DE X W a fa) : DE X W (.UnaryOp op a pos) (f1 g fa) :=
 ⟨PE.imp (pe_un ho ha.pe) fun σ H Q ⟨m,env,st,r,re,p⟩=>tF_step r re p fun a st1 v m1 H1 h1 r1 re1 e1 p1=>⟨m1,st1,a,r1,h1,PV.of p1⟩⟩
theorem d_cmp {op : CmpOp} (ho : OpR X (compareOp op) (rG X.K g)) (ha : DE X W a fa) (hb : DE X W b fb) (hm : behindInMarks op b = false:=by first | exact nomark _ | rfl) : DE X W (.Compare a [op] [b] pos) (f2 g fa fb) :=
 ⟨PE.imp (pe_cmpR ho ha.pe hb.pe hm) fun _ _ _ h=>t_op2 h⟩
/-- a bool as a test -/
noncomputable def asB (f : F U) : F Bool:=bnd f fun u=>fun _ st=>match u with
 | .d (.bl k)=>.ok k st
 | _=>.bad
theorem PO'.imp' {K : PySem.W.Frag} {m : List Addr} {H : Hp} {Q : Bool → Hp → Prop} {E : XK} {k : Bool} {st : Store} (p : PB K m H Q E (.ok k st)) (r : Rep K m st H) : Q k H:=p k m H rfl r (Ext.refl _ _)
theorem t_asB {f : F U} {σ : L2.St} {H : Hp} {Q : Bool → Hp → Prop} (h : tFB X.K W (asB f) σ H Q) : tF X.K W f σ H (fun x H'=>∃ k,x = .bl k ∧ Q k H'):=by
 obtain ⟨m,env,st,r,re,p⟩:=h
 refine tF_step r re p fun a st1 v m1 H1 h1 r1 re1 e1 p1=>?_
 cases a with
 | ref n=>exact False.elim p1
 | d x =>
  cases x with
  | bl k=>exact ⟨k,h1,PO'.imp' p1 r1⟩
  | _=>exact False.elim p1
theorem dt_cmp {op : CmpOp} (ho : OpR X (compareOp op) (rG X.K g)) (ha : DE X W a fa) (hb : DE X W b fb) (hm : behindInMarks op b = false:=by first | exact nomark _ | rfl) : DT X W (.Compare a [op] [b] pos) (asB (f2 g fa fb)) :=
 ⟨PT.imp (pt_cmpR ho ha.pe hb.pe hm) fun _ _ _ h=>by
  have h2:=t_asB h
  exact t_op2 h2⟩
/-- a < b < c -/
noncomputable def fChain (g g' : P2) (fa fb fc : F U) : F U:=bnd fa fun a=>bnd fb fun b=>fun env st=>match g a b st with
 | some (.d (.bl true))=>bnd fc (fun c=>fun _ st=>.of st (g' b c st)) env st
 | some (.d (.bl false))=>.ok (.d (.bl false)) st
 | _=>.bad
end
end VL
namespace VL
open PySem PySem.Spec PyProof.Rows L2
mutual
noncomputable def toP : D → Option PyData
 | .non=>some .none
 | .bl b=>some (.bool b)
 | .int i=>some (.int i)
 | .str x=>some (.str x)
 | .tup ds=>(toPs ds).map .tuple
 | .lst ds=>(toPs ds).map .list
 | .scr ns=>some (.list (ns.map .int))
 | _=>none
noncomputable def toPs : List D → Option (List PyData)
 | []=>some []
 | d :: ds=>match toP d,toPs ds with
  | some p,some ps=>some (p :: ps)
  | _,_=>none
end
/-- all answers,or none -/
noncomputable def allM {α β : Type} (g : α → Option β) : List α → Option (List β)
 | []=>some []
 | a :: r=>match g a,allM g r with
  | some b,some bs=>some (b :: bs)
  | _,_=>none
/-- a value with its cells written out -/
noncomputable def deep : Nat → Store → U → Option D
 | _,_,.d x=>some x
 | 0,_,.ref _=>none
 | k + 1,st,.ref n=>match st[n]? with
  | some (.lst us)=>(allM (deep k st) us).map .lst
  | _=>none
noncomputable def asP (st : Store) (u : U) : Option PyData:=(deep 4 st u).bind toP
theorem allM_d {st : Store} {k : Nat} : ∀ ds : List D,allM (deep k st) (ds.map .d) = some ds
 | []=>rfl
 | d :: ds=>by
  rw [List.map_cons,allM,allM_d ds]
  cases k <;> rfl
section
variable {K : PySem.W.Frag} {m : List Addr} {H : Hp} {st : Store}
theorem DpAll.ints : ∀ ns : List Int,DpAll K H (ns.map V.int) (ns.map PyData.int)
 | []=>.nil
 | n :: ns=>.cons (.int n) (DpAll.ints ns)
mutual
theorem toP_dp : ∀ (d : D) (v : V) (p : PyData),RpD K m H d v → toP d = some p → Dp K H v p
 | .non,_,_,h,e=>by cases h; cases e; exact .non
 | .bl b,_,_,h,e=>by cases h; cases e; exact .bl b
 | .int i,_,_,h,e=>by cases h; cases e; exact .int i
 | .str x,_,_,h,e=>by cases h; cases e; exact .str x
 | .tup ds,_,_,h,e=>by
  obtain ⟨a,vs,e1,t,r⟩:=h
  unfold toP at e
  cases q : toPs ds with
  | none=>rw [q] at e; cases e
  | some ps=>rw [q] at e; cases e; subst e1; exact .tup t.sq (toPs_dp ds vs ps r q)
 | .lst ds,_,_,h,e=>by
  obtain ⟨a,vs,e1,t,r⟩:=h
  unfold toP at e
  cases q : toPs ds with
  | none=>rw [q] at e; cases e
  | some ps=>rw [q] at e; cases e; subst e1; exact .lst t.sq (toPs_dp ds vs ps r q)
 | .scr ns,_,_,h,e=>by
  obtain ⟨a,e1,t⟩:=h
  cases e; subst e1; exact .lst t.sq (DpAll.ints ns)
 | .ty _,_,_,_,e=>by cases e
 | .obj _,_,_,_,e=>by cases e
 | .dct _,_,_,_,e=>by cases e
 | .ins _ _,_,_,_,e=>by cases e
 | .exc ..,_,_,_,e=>by cases e
 | .kdc ..,_,_,_,e=>by cases e
theorem toPs_dp : ∀ (ds : List D) (vs : List V) (ps : List PyData),RpDs K m H ds vs → toPs ds = some ps → DpAll K H vs ps
 | [],_,_,h,e=>by cases h; cases e; exact .nil
 | d :: ds,_,_,h,e=>by
  obtain ⟨v,r,e1,h1,h2⟩:=h
  unfold toPs at e
  cases q1 : toP d with
  | none=>rw [q1] at e; cases e
  | some p =>
   cases q2 : toPs ds with
   | none=>rw [q1,q2] at e; cases e
   | some ps =>
    rw [q1,q2] at e; cases e
    subst e1
    exact .cons (toP_dp d v p h1 q1) (toPs_dp ds r ps h2 q2)
end
/-- a weaker way of lying there: cells among it -/
inductive WD (K : PySem.W.Frag) (m : List Addr) (H : Hp) : D → V → Prop
 | ofD {d : D} {v : V} (h : RpD K m H d v) : WD K m H d v
 | lst {a : Addr} {ds : List D} {vs : List V} (h : SqL K H a vs) (hl : vs.length = ds.length) (hs : ∀ (i : Nat) (d : D) (v : V),ds[i]? = some d → vs[i]? = some v → WD K m H d v) : WD K m H (.lst ds) (.ref a)
theorem allM_get {α β : Type} {g : α → Option β} : ∀ {l : List α} {r : List β},allM g l = some r → r.length = l.length ∧ ∀ (i : Nat) (b : β),r[i]? = some b → ∃ a,l[i]? = some a ∧ g a = some b
 | [],r,e=>by cases e; exact ⟨rfl,fun i b h=>by simp at h⟩
 | a :: l,r,e=>by
  unfold allM at e
  cases q1 : g a with
  | none=>rw [q1] at e; cases e
  | some b =>
   cases q2 : allM g l with
   | none=>rw [q1,q2] at e; cases e
   | some bs =>
    rw [q1,q2] at e; cases e
    obtain ⟨h1,h2⟩:=allM_get q2
    refine ⟨by rw [List.length_cons,List.length_cons,h1],fun i c h=>?_⟩
    cases i with
    | zero=>simp at h; subst h; exact ⟨a,rfl,q1⟩
    | succ i=>exact h2 i c (by simpa using h)
theorem deep_wd (r : Rep K m st H) : ∀ (k : Nat) (u : U) (v : V) (d : D),RpU K m H u v → deep k st u = some d → WD K m H d v
 | 0,.d x,v,d,h,e=>by cases e; exact .ofD h
 | k + 1,.d x,v,d,h,e=>by cases e; exact .ofD h
 | 0,.ref n,v,d,h,e=>by cases e
 | k + 1,.ref n,v,d,⟨a,ha,ev⟩,e=>by
  simp only [deep] at e
  split at e
  ·rename_i us hs
   cases q : allM (deep k st) us with
   | none=>rw [q] at e; cases e
   | some ds =>
    rw [q] at e
    cases e
    obtain ⟨ho,h1,vs,e2,h2⟩:=r.cell n _ a hs ha
    subst e2 ev
    obtain ⟨hl,hg⟩:=allM_get q
    refine .lst (.inl (.inl h1)) (by rw [h2.length,hl]) fun i d v hd hv=>?_
    obtain ⟨u,hu,e3⟩:=hg i d hd
    obtain ⟨v',hv',ru⟩:=h2.get hu
    rw [hv] at hv'; cases hv'
    exact deep_wd r k u v d ru e3
  ·cases e
theorem dpAll_of : ∀ {vs : List V} {ps : List PyData},vs.length = ps.length → (∀ (i : Nat) (v : V) (p : PyData),vs[i]? = some v → ps[i]? = some p → Dp K H v p) → DpAll K H vs ps
 | [],[],_,_=>.nil
 | v :: vs,p :: ps,hl,h=>.cons (h 0 v p rfl rfl) (dpAll_of (by simpa using hl) fun i w q hw hq=>h (i + 1) w q (by simpa using hw) (by simpa using hq))
 | [],_ :: _,hl,_=>by simp at hl
 | _ :: _,[],hl,_=>by simp at hl
theorem toPs_get : ∀ {ds : List D} {ps : List PyData},toPs ds = some ps → ps.length = ds.length ∧ ∀ (i : Nat) (p : PyData),ps[i]? = some p → ∃ d,ds[i]? = some d ∧ toP d = some p
 | [],r,e=>by cases e; exact ⟨rfl,fun i b h=>by simp at h⟩
 | d :: l,r,e=>by
  unfold toPs at e
  cases q1 : toP d with
  | none=>rw [q1] at e; cases e
  | some b =>
   cases q2 : toPs l with
   | none=>rw [q1,q2] at e; cases e
   | some bs =>
    rw [q1,q2] at e; cases e
    obtain ⟨h1,h2⟩:=toPs_get q2
    refine ⟨by rw [List.length_cons,List.length_cons,h1],fun i c h=>?_⟩
    cases i with
    | zero=>simp at h; subst h; exact ⟨d,rfl,q1⟩
    | succ i=>exact h2 i c (by simpa using h)
theorem wd_dp {d : D} {v : V} (h : WD K m H d v) : ∀ {p : PyData},toP d = some p → Dp K H v p:=by
 induction h with
 | ofD h=>exact fun e=>toP_dp _ _ _ h e
 | lst hq hl hs ih =>
  rename_i a ds vs
  intro p e
  unfold toP at e
  cases q : toPs ds with
  | none=>rw [q] at e; cases e
  | some ps =>
   rw [q] at e; cases e
   obtain ⟨h1,h2⟩:=toPs_get q
   refine .lst hq (dpAll_of (by rw [hl,h1]) fun i w p hw hp=>?_)
   obtain ⟨d,hd,e2⟩:=h2 i p hp
   exact ih i d w hd hw e2
theorem asP_dp (r : Rep K m st H) {u : U} {v : V} {p : PyData} (h : RpU K m H u v) (e : asP st u = some p) : Dp K H v p:=by
 unfold asP at e
 cases q : deep 4 st u with
 | none=>rw [q] at e; cases e
 | some d=>rw [q] at e; exact wd_dp (deep_wd r 4 u v d h q) e
end
noncomputable def oAdd : P2:=fun a b st=>match a,b with
 | .d (.int i),.d (.int j)=>some (.d (.int (i + j)))
 | .d (.str x),.d (.str y)=>if x.length + y.length ≤ sizeLine then some (.d (.str (x ++ y))) else none
 | .d (.tup xs),.d (.tup ys)=>if xs.length + ys.length ≤ sizeLine then some (.d (.tup (xs ++ ys))) else none
 | .d (.lst xs),.d (.lst ys)=>if xs.length + ys.length ≤ sizeLine then some (.d (.lst (xs ++ ys))) else none
 | _,_=>none
noncomputable def oSub : P2:=fun a b _=>match a,b with
 | .d (.int i),.d (.int j)=>some (.d (.int (i - j)))
 | _,_=>none
noncomputable def oMul : P2:=fun a b _=>match a,b with
 | .d (.int i),.d (.int j)=>if (-(2 ^ 64) < i ∧ i < 2 ^ 64) ∨ (-(2 ^ 64) < j ∧ j < 2 ^ 64) then some (.d (.int (i * j))) else none
 | _,_=>none
noncomputable def oFdiv : P2:=fun a b _=>match a,b with
 | .d (.int i),.d (.int j)=>if 0 < j ∧ j < 1073741824 then some (.d (.int (i / j))) else none
 | _,_=>none
noncomputable def oMod : P2:=fun a b _=>match a,b with
 | .d (.int i),.d (.int j)=>if 0 < j then some (.d (.int (i % j))) else none
 | _,_=>none
noncomputable def oPow : P2:=fun a b _=>match a,b with
 | .d (.int i),.d (.int j)=>if 0 ≤ j ∧ j ≤ 1000000 ∧ i.natAbs < 2 ^ 64 then some (.d (.int (i ^ j.toNat))) else none
 | _,_=>none
noncomputable def oNeg : P1:=fun a _=>match a with
 | .d (.int i)=>some (.d (.int (-i)))
 | _=>none
noncomputable def oLt : P2:=fun a b _=>match a,b with
 | .d (.int i),.d (.int j)=>some (.d (.bl (decide (i < j))))
 | _,_=>none
noncomputable def oLe : P2:=fun a b _=>match a,b with
 | .d (.int i),.d (.int j)=>some (.d (.bl (decide (i ≤ j))))
 | _,_=>none
noncomputable def oGt : P2:=fun a b _=>match a,b with
 | .d (.int i),.d (.int j)=>some (.d (.bl (decide (j < i))))
 | _,_=>none
noncomputable def oGe : P2:=fun a b _=>match a,b with
 | .d (.int i),.d (.int j)=>some (.d (.bl (decide (j ≤ i))))
 | _,_=>none
/-- scalars of one kind,or data -/
noncomputable def eqB (st : Store) (a b : U) : Option Bool:=match a,b with
 | .d (.int i),.d (.int j)=>some (decide (i = j))
 | .d (.str i),.d (.str j)=>some (decide (i = j))
 | .d (.bl i),.d (.bl j)=>some (decide (i = j))
 | .d .non,.d .non=>some true
 | .d (.str _),.d .non=>some false
 | .d .non,.d (.str _)=>some false
 | .d (.int _),.d .non=>some false
 | .d .non,.d (.int _)=>some false
 | a,b=>match asP st a,asP st b with
  | some p,some q=>if SeqAt.shaped p = true ∧ SeqAt.shaped q = true then some (PyData.eqv p q) else none
  | _,_=>none
noncomputable def oEq : P2:=fun a b st=>(eqB st a b).map fun k=>.d (.bl k)
noncomputable def oNe : P2:=fun a b st=>(eqB st a b).map fun k=>.d (.bl (!k))
noncomputable def oIsN : P2:=fun a b _=>match a,b with
 | .d .non,.d .non=>some (.d (.bl true))
 | _,.d .non=>some (.d (.bl false))
 | _,_=>none
noncomputable def oNotN : P2:=fun a b _=>match a,b with
 | .d .non,.d .non=>some (.d (.bl false))
 | _,.d .non=>some (.d (.bl true))
 | _,_=>none
/-- flat data -/
noncomputable def flatD : D → Option PyData
 | .non=>some .none
 | .bl b=>some (.bool b)
 | .int i=>some (.int i)
 | .str x=>some (.str x)
 | _=>none
noncomputable def inB (st : Store) (a b : U) : Option Bool:=match a,b with
 | .d (.str x),.d (.str y)=>some (!(Builtin.Str.occurrences y x 0 y.length 1).isEmpty)
 | .d x,.d (.tup ds)=>match flatD x,allM flatD ds with
  | some p,some qs=>some (qs.any fun q=>PyData.eqv q p)
  | _,_=>none
 | a,b=>match asP st a,asP st b with
  | some p,some (.list qs)=>if SeqAt.shaped p = true ∧ SeqAt.shaped (.list qs) = true then some (qs.any fun q=>PyData.eqv q p) else none
  | _,_=>none
noncomputable def oIn : P2:=fun a b st=>(inB st a b).map fun k=>.d (.bl k)
noncomputable def oNotIn : P2:=fun a b st=>(inB st a b).map fun k=>.d (.bl (!k))
section
variable {X : Cx}
theorem pv_flat {K : PySem.W.Frag} {m : List Addr} {st : Store} {H : Hp} {Q : VK} {u : U} {v : V} (r : Rep K m st H) (p : PV K m st H Q (some u)) (h : RpU K m H u v) : Q v H:=p v H h r (Ext.refl _ _)
theorem opg_i {f : Value → Value → Sem Value} {g : P2} {C : Int → Int → Prop} {z : Int → Int → D} (rule : ∀ (pins : List (Addr × Obj)) (s : Shared) (σ : L2.St) (H : Hp) (i j : Int) (v u : Value) (Q : VK),Inv X pins σ H s → RelV (.int i) v → RelV (.int j) u → C i j → (∀ w,RpD X.K [] H (z i j) w → Q w H) →
  wpAny (model X.prog X.w) X.A (f v u) (EP X pins σ Q) X.xe s) (hz : ∀ i j m H w,RpD X.K [] H (z i j) w → RpD X.K m H (z i j) w)
  (hg : ∀ a b st u,g a b st = some u → ∃ i j,a = .d (.int i) ∧ b = .d (.int j) ∧ C i j ∧ u = .d (z i j)) : OpR X f (rG X.K g):=by
 intro pins s σ H x y v u Q I rx ry h
 obtain ⟨m,st,a,b,r,ha,hb,p⟩:=h
 cases e : g a b st with
 | none=>rw [e] at p; exact p.elim
 | some c =>
  rw [e] at p
  obtain ⟨i,j,rfl,rfl,hc,rfl⟩:=hg a b st c e
  obtain rfl : x = .int i:=ha
  obtain rfl : y = .int j:=hb
  exact rule pins s σ H i j v u Q I rx ry hc fun w hw=>pv_flat r p (hz i j m H w hw)
theorem op_sub' : OpR X (binaryOp .Sub) (rG X.K oSub):=opg_i (C:=fun _ _=>True) (z:=fun i j=>.int (i - j))
 (fun pins s σ H i j v u Q I rx ry _ q=>op_sub pins s σ H _ _ v u Q I rx ry ⟨i,j,rfl,rfl,q _ rfl⟩) (fun _ _ _ _ _ h=>h) fun a b st u e=>by
  unfold oSub at e
  split at e
  ·cases e; exact ⟨_,_,rfl,rfl,trivial,rfl⟩
  ·cases e
theorem op_mul' : OpR X (binaryOp .Mult) (rG X.K oMul):=opg_i (C:=CMul) (z:=fun i j=>.int (i * j))
 (fun pins s σ H i j v u Q I rx ry c q=>op_mul pins s σ H _ _ v u Q I rx ry ⟨i,j,rfl,rfl,c,q _ rfl⟩) (fun _ _ _ _ _ h=>h) fun a b st u e=>by
  unfold oMul at e
  split at e
  ·split at e
   ·rename_i h; cases e; exact ⟨_,_,rfl,rfl,h,rfl⟩
   ·cases e
  ·cases e
theorem op_fdiv' : OpR X (binaryOp .FloorDiv) (rG X.K oFdiv):=opg_i (C:=CDiv) (z:=fun i j=>.int (i / j))
 (fun pins s σ H i j v u Q I rx ry c q=>op_fdiv pins s σ H _ _ v u Q I rx ry ⟨i,j,rfl,rfl,c,q _ rfl⟩) (fun _ _ _ _ _ h=>h) fun a b st u e=>by
  unfold oFdiv at e
  split at e
  ·split at e
   ·rename_i h; cases e; exact ⟨_,_,rfl,rfl,h,rfl⟩
   ·cases e
  ·cases e
theorem op_mod' : OpR X (binaryOp .Mod) (rG X.K oMod):=opg_i (C:=fun _ j=>0 < j) (z:=fun i j=>.int (i % j))
 (fun pins s σ H i j v u Q I rx ry c q=>op_mod pins s σ H _ _ v u Q I rx ry ⟨i,j,rfl,rfl,c,q _ rfl⟩) (fun _ _ _ _ _ h=>h) fun a b st u e=>by
  unfold oMod at e
  split at e
  ·split at e
   ·rename_i h; cases e; exact ⟨_,_,rfl,rfl,h,rfl⟩
   ·cases e
  ·cases e
theorem op_pow' : OpR X (binaryOp .Pow) (rG X.K oPow):=opg_i (C:=CPow) (z:=fun i j=>.int (i ^ j.toNat))
 (fun pins s σ H i j v u Q I rx ry c q=>op_pow pins s σ H _ _ v u Q I rx ry ⟨i,j,rfl,rfl,c,q _ rfl⟩) (fun _ _ _ _ _ h=>h) fun a b st u e=>by
  unfold oPow at e
  split at e
  ·split at e
   ·rename_i h; cases e; exact ⟨_,_,rfl,rfl,h,rfl⟩
   ·cases e
  ·cases e
theorem op_lt' : OpR X (compareOp .Lt) (rG X.K oLt):=opg_i (C:=fun _ _=>True) (z:=fun i j=>.bl (decide (i < j)))
 (fun pins s σ H i j v u Q I rx ry _ q=>op_lt pins s σ H _ _ v u Q I rx ry ⟨i,j,rfl,rfl,q _ rfl⟩) (fun _ _ _ _ _ h=>h) fun a b st u e=>by
  unfold oLt at e
  split at e
  ·cases e; exact ⟨_,_,rfl,rfl,trivial,rfl⟩
  ·cases e
theorem op_gt' : OpR X (compareOp .Gt) (rG X.K oGt):=opg_i (C:=fun _ _=>True) (z:=fun i j=>.bl (decide (j < i)))
 (fun pins s σ H i j v u Q I rx ry _ q=>op_gt pins s σ H _ _ v u Q I rx ry ⟨i,j,rfl,rfl,q _ rfl⟩) (fun _ _ _ _ _ h=>h) fun a b st u e=>by
  unfold oGt at e
  split at e
  ·cases e; exact ⟨_,_,rfl,rfl,trivial,rfl⟩
  ·cases e
theorem op_ge' : OpR X (compareOp .GtE) (rG X.K oGe):=opg_i (C:=fun _ _=>True) (z:=fun i j=>.bl (decide (j ≤ i)))
 (fun pins s σ H i j v u Q I rx ry _ q=>op_ge pins s σ H _ _ v u Q I rx ry ⟨i,j,rfl,rfl,q _ rfl⟩) (fun _ _ _ _ _ h=>h) fun a b st u e=>by
  unfold oGe at e
  split at e
  ·cases e; exact ⟨_,_,rfl,rfl,trivial,rfl⟩
  ·cases e
theorem un_neg' : UnR X (unaryOp .USub) (rG1 X.K oNeg):=by
 intro pins s σ H x v Q I rx h
 obtain ⟨m,st,a,r,ha,p⟩:=h
 unfold oNeg at p
 split at p
 ·rename_i i
  obtain rfl : x = .int i:=ha
  exact un_neg pins s σ H _ v Q I rx ⟨i,rfl,pv_flat r p rfl⟩
 ·exact p.elim
theorem op_add' : OpR X (binaryOp .Add) (rG X.K oAdd):=by
 intro pins s σ H x y v u Q I rx ry h
 obtain ⟨m,st,a,b,r,ha,hb,p⟩:=h
 unfold oAdd at p
 split at p
 ·rename_i i j
  obtain rfl : x = .int i:=ha
  obtain rfl : y = .int j:=hb
  exact op_add pins s σ H _ _ v u Q I rx ry ⟨i,j,rfl,rfl,pv_flat r p rfl⟩
 ·rename_i i j
  obtain rfl : x = .str i:=ha
  obtain rfl : y = .str j:=hb
  split at p
  ·rename_i hz
   exact op_add_str pins s σ H _ _ v u Q I rx ry ⟨i,j,rfl,rfl,hz,pv_flat r p rfl⟩
  ·exact p.elim
 ·rename_i xs ys
  split at p
  ·rename_i hz
   obtain ⟨a,vs,rfl,ta,ra⟩:=ha
   obtain ⟨b,ws,rfl,tb,rb⟩:=hb
   have l1:=ra.length
   have l2:=rb.length
   refine op_catA pins s σ H _ _ v u Q I rx ry ⟨a,b,vs,ws,rfl,rfl,ta.sq,tb.sq,by omega,fun e=>?_,fun _ e=>?_,fun _ _ q hq=>?_⟩
   ·subst e
    have : xs = []:=List.length_eq_zero_iff.mp (by simpa using l1.symm)
    subst this
    exact pv_flat r p ⟨b,ws,rfl,tb,rb⟩
   ·subst e
    have : ys = []:=List.length_eq_zero_iff.mp (by simpa using l2.symm)
    subst this
    exact pv_flat r p ⟨a,vs,rfl,ta,by rw [List.append_nil]; exact ra⟩
   ·exact p _ _ (new_tup r hq (ra.append rb)) (r.new hq _) (ext_new r hq _)
  ·exact p.elim
 ·rename_i xs ys
  split at p
  ·rename_i hz
   obtain ⟨a,vs,rfl,ta,ra⟩:=ha
   obtain ⟨b,ws,rfl,tb,rb⟩:=hb
   have l1:=ra.length
   have l2:=rb.length
   exact op_cat pins s σ H _ _ v u Q I rx ry ⟨a,b,vs,ws,rfl,rfl,ta.2,tb.2,by omega,fun q hq=>p _ _ (new_lst r hq (ra.append rb)) (r.new hq _) (ext_new r hq _)⟩
  ·exact p.elim
 ·exact p.elim
theorem eqB_ok {f : Value → Value → Sem Value} {z : Bool → Bool} (hs : OpR X f (fun x y H Q=>scal x y = true ∧ Q (.bl (z (decide (x = y)))) H))
  (hd : OpR X f (fun x y H Q=>∃ d e,Dp X.K H x d ∧ Dp X.K H y e ∧ SeqAt.shaped d = true ∧ SeqAt.shaped e = true ∧ Q (.bl (z (PyData.eqv d e))) H)) :
  OpR X f (rG X.K fun a b st=>(eqB st a b).map fun k=>.d (.bl (z k))):=by
 intro pins s σ H x y v u Q I rx ry h
 obtain ⟨m,st,a,b,r,ha,hb,p⟩:=h
 replace p : PV X.K m st H Q ((eqB st a b).map fun k=>.d (.bl (z k))):=p
 have sc : ∀ {k : Bool},PV X.K m st H Q (some (.d (.bl (z k)))) → scal x y = true → decide (x = y) = k → wpAny (model X.prog X.w) X.A (f v u) (EP X pins σ Q) X.xe s:=fun {k} p h1 h2 =>
  hs pins s σ H x y v u Q I rx ry ⟨h1,by rw [h2]; exact pv_flat r p rfl⟩
 cases e : eqB st a b with
 | none=>rw [e] at p; exact p.elim
 | some k =>
  rw [e] at p
  have p' : PV X.K m st H Q (some (.d (.bl (z k)))):=p
  unfold eqB at e
  split at e
  ·cases ha; cases hb; cases e; exact sc p' rfl (by simp)
  ·cases ha; cases hb; cases e; exact sc p' rfl (by simp)
  ·cases ha; cases hb; cases e; exact sc p' rfl (by simp)
  ·cases ha; cases hb; cases e; exact sc p' rfl (by simp)
  ·cases ha; cases hb; cases e; exact sc p' rfl (by simp)
  ·cases ha; cases hb; cases e; exact sc p' rfl (by simp)
  ·cases ha; cases hb; cases e; exact sc p' rfl (by simp)
  ·cases ha; cases hb; cases e; exact sc p' rfl (by simp)
  ·split at e
   ·rename_i q1 q2
    split at e
    ·rename_i hsh
     cases e
     exact hd pins s σ H x y v u Q I rx ry ⟨_,_,asP_dp r ha q1,asP_dp r hb q2,hsh.1,hsh.2,pv_flat r p' rfl⟩
    ·cases e
   ·cases e
theorem op_eq' (hu : X.A.units + 64 < cLine) : OpR X (compareOp .Eq) (rG X.K oEq):=eqB_ok (z:=fun k=>k) op_eq (op_eqD hu)
theorem op_ne' (hu : X.A.units + 64 < cLine) : OpR X (compareOp .NotEq) (rG X.K oNe):=eqB_ok (z:=fun k=>!k) op_ne (op_neD hu)
theorem eqV_flat {K : PySem.W.Frag} {m : List Addr} {H : Hp} {d e : D} {x y : V} {p q : PyData} (h1 : RpD K m H d x) (h2 : RpD K m H e y) (e1 : flatD d = some p) (e2 : flatD e = some q) : eqV x y = PyData.eqv p q ∧ flatV x = true:=by
 cases d <;> first | (cases e1; done) | skip
 all_goals (cases e <;> first | (cases e2; done) | skip)
 all_goals (cases h1; cases h2; cases e1; cases e2; exact ⟨rfl,rfl⟩)
theorem allM_flat {K : PySem.W.Frag} {m : List Addr} {H : Hp} {d : D} {x : V} {p : PyData} (h1 : RpD K m H d x) (e1 : flatD d = some p) : ∀ {ds : List D} {vs : List V} {qs : List PyData},RpDs K m H ds vs → allM flatD ds = some qs → inV x vs = qs.any (fun q=>PyData.eqv q p) ∧ vs.all flatV = true
 | [],_,_,h,e=>by cases h; cases e; exact ⟨rfl,rfl⟩
 | d' :: ds,_,qs,⟨v,r,ev,g1,g2⟩,e=>by
  unfold allM at e
  cases q1 : flatD d' with
  | none=>rw [q1] at e; cases e
  | some b =>
   cases q2 : allM flatD ds with
   | none=>rw [q1,q2] at e; cases e
   | some bs =>
    rw [q1,q2] at e; cases e
    subst ev
    obtain ⟨i1,i2⟩:=allM_flat h1 e1 g2 q2
    obtain ⟨j1,j2⟩:=eqV_flat g1 h1 q1 e1
    refine ⟨?_,by rw [List.all_cons,j2,i2]; rfl⟩
    unfold inV at i1 ⊢
    rw [List.any_cons,List.any_cons,i1,j1]
theorem inB_ok {op : CmpOp} {z : Bool → Bool} (hs : OpR X (compareOp op) (fun x y H Q=>∃ i j,x = .str i ∧ y = .str j ∧ Q (.bl (z (!(Builtin.Str.occurrences j i 0 j.length 1).isEmpty))) H))
  (hf : OpR X (compareOp op) (fun x y H Q=>∃ p xs,y = .ref p ∧ (SqL X.K H p xs ∨ SqT X.K H p xs) ∧ flatV x = true ∧ xs.all flatV = true ∧ Q (.bl (z (inV x xs))) H))
  (hd : OpR X (compareOp op) (fun x y H Q=>∃ d ds,Dp X.K H x d ∧ Dp X.K H y (.list ds) ∧ SeqAt.shaped d = true ∧ SeqAt.shaped (.list ds) = true ∧ Q (.bl (z (ds.any fun q=>PyData.eqv q d))) H)) :
  OpR X (compareOp op) (rG X.K fun a b st=>(inB st a b).map fun k=>.d (.bl (z k))):=by
 intro pins s σ H x y v u Q I rx ry h
 obtain ⟨m,st,a,b,r,ha,hb,p⟩:=h
 replace p : PV X.K m st H Q ((inB st a b).map fun k=>.d (.bl (z k))):=p
 cases e : inB st a b with
 | none=>rw [e] at p; exact p.elim
 | some k =>
  rw [e] at p
  have p' : PV X.K m st H Q (some (.d (.bl (z k)))):=p
  unfold inB at e
  split at e
  ·cases ha; cases hb; cases e; exact hs pins s σ H _ _ v u Q I rx ry ⟨_,_,rfl,rfl,pv_flat r p' rfl⟩
  ·split at e
   ·rename_i q1 q2
    cases e
    obtain ⟨b,ws,rfl,tb,rb⟩:=hb
    obtain ⟨i1,i2⟩:=allM_flat ha q1 rb q2
    exact hf pins s σ H _ _ v u Q I rx ry ⟨b,ws,rfl,.inr tb.sq,(eqV_flat ha ha q1 q1).2,i2,by rw [i1]; exact pv_flat r p' rfl⟩
   ·cases e
  ·split at e
   ·rename_i q1 q2
    split at e
    ·rename_i hsh
     cases e
     exact hd pins s σ H x y v u Q I rx ry ⟨_,_,asP_dp r ha q1,asP_dp r hb q2,hsh.1,hsh.2,pv_flat r p' rfl⟩
    ·cases e
   ·cases e
theorem op_in' (hu : X.A.units + 65 < cLine) : OpR X (compareOp .In) (rG X.K oIn):=inB_ok (z:=fun k=>k) op_in_str op_in_seq (op_inD hu)
theorem op_notIn' (hu : X.A.units + 65 < cLine) : OpR X (compareOp .NotIn) (rG X.K oNotIn):=inB_ok (z:=fun k=>!k) op_notin_str op_notIn_seq (op_notInD hu)
noncomputable def truB (st : Store) : U → Option Bool
 | .d .non=>some false
 | .d (.bl b)=>some b
 | .d (.int i)=>some (i != 0)
 | .d (.str x)=>if x.length ≤ sizeLine then some ((x.length : Int) != 0) else none
 | .d (.tup ds)=>some (!ds.isEmpty)
 | .d (.lst ds)=>some (!ds.isEmpty)
 | .d (.scr ns)=>some (!ns.isEmpty)
 | .ref n=>match st[n]? with
  | some (.lst us)=>some (!us.isEmpty)
  | some (.dct us)=>some (!us.isEmpty)
  | _=>none
 | _=>none
end
section
variable {K : PySem.W.Frag} {m : List Addr} {H : Hp} {st : Store}
theorem RpUs.isEmpty {us : List U} {vs : List V} (h : RpUs K m H us vs) : vs.isEmpty = us.isEmpty:=by
 cases us with
 | nil=>rw [show vs = [] from h]; rfl
 | cons u us=>obtain ⟨v,r,e,_⟩:=h; rw [e]; rfl
theorem RpDs.isEmpty {us : List D} {vs : List V} (h : RpDs K m H us vs) : vs.isEmpty = us.isEmpty:=by
 cases us with
 | nil=>rw [show vs = [] from h]; rfl
 | cons u us=>obtain ⟨v,r,e,_⟩:=h; rw [e]; rfl
theorem RpUK.isEmpty {us : List (Key × U)} {vs : List (Key × V)} (h : RpUK K m H us vs) : vs.isEmpty = us.isEmpty:=by
 cases us with
 | nil=>rw [show vs = [] from h]; rfl
 | cons u us=>obtain ⟨v,r,e,_⟩:=h; rw [e]; rfl
theorem truB_ok (r : Rep K m st H) {u : U} {v : V} {k : Bool} (h : RpU K m H u v) (e : truB st u = some k) : TruV K v H k:=by
 cases u with
 | ref n =>
  obtain ⟨a,ha,rfl⟩:=h
  simp only [truB] at e
  split at e
  ·rename_i us hs
   obtain ⟨ho,h1,vs,e2,h2⟩:=r.cell n _ a hs ha
   subst e2
   cases e
   exact .inl ⟨vs,.inl (.inl h1),by rw [h2.isEmpty]⟩
  ·rename_i us hs
   obtain ⟨ho,h1,vs,e2,h2⟩:=r.cell n _ a hs ha
   subst e2
   cases e
   exact .inr (.inr ⟨vs,h1,by rw [h2.isEmpty]⟩)
  ·cases e
 | d x =>
  cases x with
  | non=>cases h; cases e; rfl
  | bl b=>cases h; cases e; rfl
  | int i=>cases h; cases e; rfl
  | str x =>
   cases h
   simp only [truB] at e
   split at e
   ·rename_i hz; cases e; exact ⟨hz,rfl⟩
   ·cases e
  | tup ds =>
   obtain ⟨a,vs,rfl,t,q⟩:=h
   cases e
   exact .inr (.inl ⟨vs,t.sq,by rw [q.isEmpty]⟩)
  | lst ds =>
   obtain ⟨a,vs,rfl,t,q⟩:=h
   cases e
   exact .inl ⟨vs,t.sq,by rw [q.isEmpty]⟩
  | scr ns =>
   obtain ⟨a,rfl,t⟩:=h
   cases e
   exact .inl ⟨_,t.sq,by cases ns <;> rfl⟩
  | _=>cases e
end
/-- a value as a test -/
noncomputable def asT (f : F U) : F Bool:=bnd f fun u=>fun _ st=>.of st (truB st u)
noncomputable def fNot (f : F U) : F U:=bnd f fun u=>fun _ st=>.of st ((truB st u).map fun k=>.d (.bl (!k)))
noncomputable def fIf (c : F Bool) (a b : F U) : F U:=bnd c fun k=>if k = true then a else b
noncomputable def fAnd (a b : F U) : F U:=bnd a fun x=>fun env st=>match x with
 | .d (.bl true)=>b env st
 | .d (.bl false)=>.ok (.d (.bl false)) st
 | _=>.bad
noncomputable def fOr (a b : F U) : F U:=bnd a fun x=>fun env st=>match x with
 | .d (.bl true)=>.ok (.d (.bl true)) st
 | .d (.bl false)=>b env st
 | _=>.bad
noncomputable def bNot (f : F Bool) : F Bool:=bnd f fun k=>fun _ st=>.ok (!k) st
noncomputable def bAnd (a b : F Bool) : F Bool:=bnd a fun k=>if k = true then b else fPure false
noncomputable def bOr (a b : F Bool) : F Bool:=bnd a fun k=>if k = true then fPure true else b
section
variable {X : Cx} {W : WX} {a b c : Expr} {rest : List Expr} {fa fb fc : F U} {ba bb bc : F Bool} {pos : Pos}
theorem t_asT {f : F U} {σ : L2.St} {H : Hp} {Q : Bool → Hp → Prop} (h : tFB X.K W (asT f) σ H Q) : tF X.K W f σ H (fun x H'=>∃ k,TruV X.K x H' k ∧ Q k H'):=by
 obtain ⟨m,env,st,r,re,p⟩:=h
 refine tF_step r re p fun a st1 v m1 H1 h1 r1 re1 e1 p1=>?_
 cases e : truB st1 a with
 | none=>rw [e] at p1; exact False.elim p1
 | some k=>rw [e] at p1; exact ⟨k,truB_ok r1 h1 e,PO'.imp' p1 r1⟩
theorem dt_truth (ha : DE X W a fa) (he : ∀ whole,isTrue a X.env whole = (do let v ← whole; standAt a.pos; holding [v] (truthy v)):=by intro _; rfl) : DT X W a (asT fa) :=
 ⟨PT.imp (pt_truth ha.pe he) fun _ _ _ h=>t_asT h⟩
theorem d_not (ha : DE X W a fa) : DE X W (.UnaryOp .Not a pos) (fNot fa):=⟨PE.imp (pe_notT ha.pe) fun σ H Q ⟨m,env,st,r,re,p⟩ =>
 tF_step r re p fun a st1 v m1 H1 h1 r1 re1 e1 p1=>by
  cases e : truB st1 a with
  | none=>rw [e] at p1; exact False.elim p1
  | some k=>rw [e] at p1; exact ⟨k,truB_ok r1 h1 e,p1 _ m1 H1 rfl r1 (Ext.refl _ _)⟩⟩
theorem d_if (hc : DT X W c bc) (ha : DE X W a fa) (hb : DE X W b fb) : DE X W (.IfExp c a b pos) (fIf bc fa fb):=⟨PE.imp (pe_ifExp hc.pt ha.pe hb.pe) fun σ H Q ⟨m,env,st,r,re,p⟩ =>
 tFB_step r re p fun k st1 m1 H1 r1 re1 e1 p1=>by
  cases k with
  | true=>exact iteT ⟨m1,env,st1,r1,re1,p1⟩
  | false=>exact iteF ⟨m1,env,st1,r1,re1,p1⟩⟩
theorem d_one {op : BoolOp} (h : DE X W a fa) : DE X W (.BoolOp op [a] pos) fa:=⟨pe_one h.pe⟩
theorem d_and (ha : DE X W a fa) (hb : DE X W (.BoolOp .And (b :: rest) pos) fb) : DE X W (.BoolOp .And (a :: b :: rest) pos) (fAnd fa fb):=⟨PE.imp (pe_and ha.pe hb.pe) fun σ H Q ⟨m,env,st,r,re,p⟩ =>
 tF_step r re p fun x st1 v m1 H1 h1 r1 re1 e1 p1=>by
  cases x with
  | ref n=>exact False.elim p1
  | d x =>
   cases x with
   | bl k =>
    refine ⟨k,h1,?_⟩
    cases k with
    | true=>exact iteT ⟨m1,env,st1,r1,re1,p1⟩
    | false=>exact iteF (p1 _ m1 H1 rfl r1 (Ext.refl _ _))
   | _=>exact False.elim p1⟩
theorem dt_not (h : DT X W a ba) : DT X W (.UnaryOp .Not a pos) (bNot ba):=⟨PT.imp (pt_not h.pt) fun σ H Q ⟨m,env,st,r,re,p⟩ =>
 tFB_step r re p fun k st1 m1 H1 r1 re1 e1 p1=>PO'.imp' p1 r1⟩
theorem dw_and1 (h : DT X W a ba) : DW X W (.BoolOp .And [a] pos) ba:=⟨pw_and1 h.pt⟩
theorem dw_or1 (h : DT X W a ba) : DW X W (.BoolOp .Or [a] pos) ba:=⟨pw_or1 h.pt⟩
theorem dw_and (ha : DT X W a ba) (hb : DW X W (.BoolOp .And (b :: rest) pos) bb) : DW X W (.BoolOp .And (a :: b :: rest) pos) (bAnd ba bb):=⟨PW.imp (pw_and ha.pt hb.pw) fun σ H Q ⟨m,env,st,r,re,p⟩ =>
 tFB_step r re p fun k st1 m1 H1 r1 re1 e1 p1=>by
  cases k with
  | true=>exact iteT ⟨m1,env,st1,r1,re1,p1⟩
  | false=>exact iteF (PO'.imp' p1 r1)⟩
theorem dw_or (ha : DT X W a ba) (hb : DW X W (.BoolOp .Or (b :: rest) pos) bb) : DW X W (.BoolOp .Or (a :: b :: rest) pos) (bOr ba bb):=⟨PW.imp (pw_or ha.pt hb.pw) fun σ H Q ⟨m,env,st,r,re,p⟩ =>
 tFB_step r re p fun k st1 m1 H1 r1 re1 e1 p1=>by
  cases k with
  | true=>exact iteT (PO'.imp' p1 r1)
  | false=>exact iteF ⟨m1,env,st1,r1,re1,p1⟩⟩
theorem dw_pt (h : DW X W a ba) : DT X W a ba:=⟨h.pw.pt⟩
end
end VL
namespace VL
open PySem PySem.Spec PyProof.Rows L2
noncomputable def fNil : F (List U):=fPure []
noncomputable def fCons (f : F U) (g : F (List U)) : F (List U):=bnd f fun u=>bnd g fun us=>fPure (u :: us)
noncomputable def vTup : List U → Store → Option U:=fun us _=>match pureL us with
 | some ds=>if ds.length ≤ sizeLine then some (.d (.tup ds)) else none
 | none=>none
noncomputable def vLst : List U → Store → Option U:=fun us _=>match pureL us with
 | some ds=>if ds.length ≤ sizeLine then some (.d (.lst ds)) else none
 | none=>none
noncomputable def fN (g : List U → Store → Option U) (f : F (List U)) : F U:=bnd f fun us=>fun _ st=>.of st (g us st)
/-- a display that is a cell -/
noncomputable def fLstC (f : F (List U)) : F U:=bnd f fun us=>fun _ st=>if us.length ≤ sizeLine then .ok (.ref st.length) (st ++ [.lst us]) else .bad
section
variable {X : Cx} {W : WX} {e : Expr} {es : List Expr} {fe : F U} {fs : F (List U)} {pos : Pos}
theorem da_nil : DA X W [] fNil:=⟨PA.imp pa_nil fun σ H Q ⟨m,env,st,r,re,p⟩=>p [] m H rfl r (Ext.refl _ _)⟩
theorem da_cons (he : DE X W e fe) (hs : DA X W es fs) (hst : starEach (e :: es) X.env = (false,eval e X.env) :: starEach es X.env:=by rfl) : DA X W (e :: es) (fCons fe fs) :=
 ⟨PA.imp (pa_cons he.pe hs.pa hst) fun σ H Q ⟨m,env,st,r,re,p⟩=>tF_step r re p fun u st1 v m1 H1 h1 r1 re1 e1 p1=>tFs_step r1 re1 p1 fun us st2 vs m2 H2 h2 r2 re2 e2 p2 =>
  p2 (v :: vs) m2 H2 ⟨v,vs,rfl,h1.ext e2,h2⟩ r2 (Ext.refl _ _)⟩
/-- a tuple,of data or of cells -/
noncomputable def fTup (f : F (List U)) : F U:=bnd f fun us=>fun _ st=>match pureL us with
 | some ds=>if ds.length ≤ sizeLine then .ok (.d (.tup ds)) st else .bad
 | none=>if us.length ≤ sizeLine then .ok (.ref st.length) (st ++ [.tup us]) else .bad
theorem d_tupC {k : Nat} (h : DA X W es fs) : DE X W (.Tuple es k pos) (fTup fs):=⟨PE.imp (pe_tup h.pa) fun σ H Q ⟨m,env,st,r,re,p⟩=>tFs_step r re p fun us st1 vs m1 H1 h1 r1 re1 e1 p1=>by
 split at p1
 ·rename_i ds hd
  split at p1
  ·rename_i hz
   have hr:=pureL_rp h1 hd
   exact ⟨by rw [hr.length]; exact hz,fun q hq=>p1 _ m1 _ (new_tup r1 hq hr) (r1.new hq _) (ext_new r1 hq _)⟩
  ·exact False.elim p1
 ·split at p1
  ·rename_i hz
   exact ⟨by rw [h1.length]; exact hz,fun q hq=>p1 _ (m1 ++ [q]) _ ⟨q,by rw [← r1.len]; simp,rfl⟩ (r1.push hq ⟨vs,rfl,h1.ext (ext_push r1 hq _)⟩) (ext_push r1 hq _)⟩
  ·exact False.elim p1⟩
theorem d_lst (h : DA X W es fs) : DE X W (.List es pos) (fN vLst fs):=⟨PE.imp (pe_lst h.pa) fun σ H Q ⟨m,env,st,r,re,p⟩=>tFs_step r re p fun us st1 vs m1 H1 h1 r1 re1 e1 p1=>by
 cases e : vLst us st1 with
 | none=>rw [e] at p1; exact False.elim p1
 | some u =>
  rw [e] at p1
  unfold vLst at e
  split at e
  ·rename_i ds hd
   split at e
   ·rename_i hz
    cases e
    have hr:=pureL_rp h1 hd
    exact ⟨by rw [hr.length]; exact hz,fun q hq=>p1 _ m1 _ (new_lst r1 hq hr) (r1.new hq _) (ext_new r1 hq _)⟩
   ·cases e
  ·cases e⟩
theorem push_lst {K : PySem.W.Frag} {m : List Addr} {H : Hp} {st : Store} (r : Rep K m st H) {p : Addr} (np : H p = none) {us : List U} {vs : List V} (h : RpUs K m H us vs) :
  RpU K (m ++ [p]) (upd H p (.lst vs)) (.ref st.length) (.ref p) ∧ Rep K (m ++ [p]) (st ++ [.lst us]) (upd H p (.lst vs)) :=
 ⟨⟨p,by rw [← r.len]; simp,rfl⟩,r.push np ⟨vs,rfl,h.ext (ext_push r np _)⟩⟩
theorem d_lstC (h : DA X W es fs) : DE X W (.List es pos) (fLstC fs):=⟨PE.imp (pe_lst h.pa) fun σ H Q ⟨m,env,st,r,re,p⟩=>tFs_step r re p fun us st1 vs m1 H1 h1 r1 re1 e1 p1=>by
 split at p1
 ·rename_i hz
  refine ⟨by rw [h1.length]; exact hz,fun q hq=>?_⟩
  obtain ⟨g1,g2⟩:=push_lst r1 hq h1
  exact p1 _ _ _ g1 g2 (ext_push r1 hq _)
 ·exact False.elim p1⟩
end
noncomputable def keyD : U → Option Key
 | .d (.int i)=>some (.inl i)
 | .d (.str x)=>some (.inr x)
 | _=>none
noncomputable def lookK {α : Type} (kvs : List (Key × α)) (k : Key) : Option α:=(kvs.find? fun kv=>decide (kv.1 = k)).map (·.2)
/-- a dict's pairs -/
noncomputable def getD (st : Store) : U → Option (List (Key × U))
 | .d (.dct kvs)=>some (kvs.map fun kv=>(kv.1,.d kv.2))
 | .ref n=>match st[n]? with
  | some (.dct us)=>some us
  | some (.lck us)=>some us
  | _=>none
 | _=>none
noncomputable def oIx : P2:=fun a b st=>match getD st a with
 | some kvs=>match keyD b with
  | some k=>lookK kvs k
  | none=>none
 | none=>match b with
  | .d (.int i)=>match getL st a with
   | some us=>atI us i
   | none=>match a with
    | .d (.tup ds)=>(atI ds i).map .d
    | .d (.str z)=>if z.length ≤ sizeLine then (atI z.cps.toList i).map fun c=>.d (.str ⟨#[c]⟩) else none
    | _=>none
  | _=>none
section
variable {K : PySem.W.Frag} {m : List Addr} {H : Hp} {st : Store}
theorem RpUK.ofD : ∀ {ds : List (Key × D)} {vs : List (Key × V)},RpK K m H ds vs → RpUK K m H (ds.map fun kv=>(kv.1,.d kv.2)) vs
 | [],_,h=>h
 | (k,d) :: ds,_,⟨v,r,e,h1,h2⟩=>⟨v,r,e,h1,RpUK.ofD h2⟩
theorem RpUK.toD : ∀ {ds : List (Key × D)} {vs : List (Key × V)},RpUK K m H (ds.map fun kv=>(kv.1,.d kv.2)) vs → RpK K m H ds vs
 | [],_,h=>h
 | (k,d) :: ds,_,⟨v,r,e,h1,h2⟩=>⟨v,r,e,h1,RpUK.toD h2⟩
theorem getD_rp (r : Rep K m st H) : ∀ {u : U} {v : V} {us : List (Key × U)},RpU K m H u v → getD st u = some us → ∃ a vs,v = .ref a ∧ Rd H a (.dK vs) ∧ RpUK K m H us vs
 | .d (.dct ds),v,us,⟨a,vs,e,h1,h2⟩,q=>by
  cases q
  exact ⟨a,vs,e,h1.2,RpUK.ofD h2⟩
 | .ref n,v,us,⟨a,ha,e⟩,q=>by
  simp only [getD] at q
  split at q
  ·rename_i zs hs
   cases q
   obtain ⟨ho,h1,vs,e2,h2⟩:=r.cell n _ a hs ha
   rw [e2] at h1
   exact ⟨a,vs,e,.inl h1,h2⟩
  ·rename_i zs hs
   cases q
   obtain ⟨ho,h1,ob,vs,e2,h2⟩:=r.cell n _ a hs ha
   rw [e2] at h1
   exact ⟨a,vs,e,.inr ⟨ob,h1⟩,h2⟩
  ·cases q
 | .d .non,_,_,_,q=>by cases q
 | .d (.bl _),_,_,_,q=>by cases q
 | .d (.int _),_,_,_,q=>by cases q
 | .d (.str _),_,_,_,q=>by cases q
 | .d (.ty _),_,_,_,q=>by cases q
 | .d (.obj _),_,_,_,q=>by cases q
 | .d (.tup _),_,_,_,q=>by cases q
 | .d (.lst _),_,_,_,q=>by cases q
 | .d (.scr _),_,_,_,q=>by cases q
 | .d (.ins _ _),_,_,_,q=>by cases q
 | .d (.exc _ _ _ _),_,_,_,q=>by cases q
 | .d (.kdc _ _),_,_,_,q=>by cases q
theorem lookK_rp {k : Key} : ∀ {us : List (Key × U)} {vs : List (Key × V)},RpUK K m H us vs → match lookK us k with | some u=>∃ v,valV vs k = some v ∧ RpU K m H u v | none=>valV vs k = none
 | [],_,h=>by cases h; exact rfl
 | (k',u) :: us,_,⟨v,r,e,h1,h2⟩=>by
  subst e
  have ih:=lookK_rp (k:=k) h2
  unfold lookK valV at ih ⊢
  rw [List.find?_cons,List.find?_cons]
  by_cases e : k' = k
  ·rw [decide_eq_true e]; exact ⟨v,rfl,h1⟩
  ·rw [decide_eq_false e]; exact ih
theorem keyD_rp {u : U} {v : V} {k : Key} (h : RpU K m H u v) (e : keyD u = some k) : v = kV k:=by
 unfold keyD at e
 split at e
 ·cases e; exact h
 ·cases e; exact h
 ·cases e
theorem atI_rp {us : List U} {vs : List V} (h : RpUs K m H us vs) {i : Int} {u : U} (e : atI us i = some u) : ∃ v,atI vs i = some v ∧ RpU K m H u v:=by
 unfold atI at e ⊢
 rw [h.length]
 cases q : ixN us.length i with
 | none=>rw [q] at e; cases e
 | some j =>
  rw [q] at e
  exact h.get e
end
section
variable {X : Cx} {W : WX} {a b : Expr} {fa fb : F U} {pos : Pos}
theorem ix_dict (hu : X.A.units + 1 < cLine) : IxR X (fun x y H Q=>∃ p v,x = .ref p ∧ DGet H p y (some v) ∧ Q v H):=by
 intro value slice pins s σ H x y v u Q I rx ry h hs
 obtain ⟨p,w,rfl,g,q⟩:=h
 cases rx
 exact tail_any (ops:=[.ref p,u]) (dict_typeIs I g) PySem.F.slot_dict_getitem.lookup (d_getItem hu I g ry fun w' s' I' r'=>⟨w,H,I',r',q⟩) hs
theorem ix_ok (hu : X.A.units + 1 < cLine) : IxR X (rG X.K oIx):=by
 intro value slice pins s σ H x y v u Q I rx ry h hs
 obtain ⟨m,st,a,b,r,ha,hb,p⟩:=h
 cases e : oIx a b st with
 | none=>rw [e] at p; exact p.elim
 | some w =>
  rw [e] at p
  unfold oIx at e
  split at e
  ·rename_i kvs hk
   split at e
   ·rename_i k hkk
    obtain ⟨q,vs,rfl,h1,h2⟩:=getD_rp r ha hk
    have l:=lookK_rp (k:=k) h2
    rw [e] at l
    obtain ⟨z,hz,rz⟩:=l
    have hy:=keyD_rp hb hkk
    subst hy
    exact ix_dict hu value slice pins s σ H _ _ v u Q I rx ry ⟨q,z,rfl,.inl ⟨vs,k,h1,rfl,hz.symm⟩,pv_flat r p rz⟩ hs
   ·cases e
  ·split at e
   ·cases hb
    split at e
    ·rename_i us hl
     obtain ⟨q,vs,rfl,h1,h2⟩:=getL_rp r ha hl
     obtain ⟨z,hz,rz⟩:=atI_rp h2 e
     exact ix_list value slice pins s σ H _ _ v u Q I rx ry ⟨q,vs,_,z,rfl,rfl,h1,hz,pv_flat r p rz⟩ hs
    ·split at e
     ·rename_i ds _ _
      obtain ⟨q,vs,rfl,h1,h2⟩:=ha
      cases e2 : atI ds _ with
      | none=>rw [e2] at e; cases e
      | some d0 =>
       rw [e2] at e
       cases e
       obtain ⟨z,hz,rz⟩:=atI_rp (RpUs.ofD h2) (i:=_) (u:=.d d0) (by unfold atI at e2 ⊢; rw [List.length_map]; cases q3 : ixN ds.length _ with | none=>rw [q3] at e2; cases e2 | some j=>rw [q3] at e2; show (List.map U.d ds)[j]? = _; rw [List.getElem?_map]; show Option.map _ _ = _; rw [show ds[j]? = some d0 from e2]; rfl)
       exact ix_tup value slice pins s σ H _ _ v u Q I rx ry ⟨q,vs,_,z,rfl,rfl,h1.sq,hz,pv_flat r p rz⟩ hs
     ·cases ha
      split at e
      ·rename_i hz
       cases e2 : atI (Array.toList _) _ with
       | none=>rw [e2] at e; cases e
       | some c =>
        rw [e2] at e
        cases e
        exact ix_str value slice pins s σ H _ _ v u Q I rx ry ⟨_,_,c,rfl,rfl,hz,e2,pv_flat r p rfl⟩ hs
      ·cases e
     ·cases e
   ·cases e
theorem d_ix (hu : X.A.units + 1 < cLine) (ha : DE X W a fa) (hb : DE X W b fb) (hs : PlainIx b:=by intro _ _; rfl) : DE X W (.Subscript a b pos) (f2 oIx fa fb) :=
 ⟨PE.imp (pe_ix (ix_ok hu) ha.pe hb.pe hs) fun _ _ _ h=>t_op2 h⟩
end
noncomputable def tFO (K : PySem.W.Frag) (W : WX) (f : F (Option Int)) : TO:=fun σ H Q=>∃ m env st,Rep K m st H ∧ RpEnv K m H env σ ∧ PO' K m H (fun _ _ a b=>b = a) Q (fun c d H'=>W c d σ H') (f env st)
theorem tFO_step {K : PySem.W.Frag} {W : WX} {m : List Addr} {env : VEnv} {st : Store} {H : Hp} {σ : L2.St} {γ δ : Type} {rel : List Addr → Hp → γ → δ → Prop} {Q : δ → Hp → Prop} {f : F (Option Int)} {g : Option Int → F γ} {Z : Option Int → Hp → Prop}
  (r : Rep K m st H) (re : RpEnv K m H env σ) (p : PO' K m H rel Q (fun c d H'=>W c d σ H') (bnd f g env st))
  (h : ∀ a st1 m1 H1,Rep K m1 st1 H1 → RpEnv K m1 H1 env σ → Ext m H m1 H1 → PO' K m1 H1 rel Q (fun c d H'=>W c d σ H') (g a env st1) → Z a H1) : tFO K W f σ H Z :=
 ⟨m,env,st,r,re,by
  unfold bnd at p
  cases e : f env st with
  | ok a st1=>rw [e] at p; exact fun v m1 H1 h1 h2 h3=>by subst h1; exact h _ st1 m1 H1 h2 (re.ext h3) h3 (p.from h3)
  | ex c fs st1=>rw [e] at p; exact p
  | bad=>rw [e] at p; exact p.elim⟩
structure DO (X : Cx) (W : WX) (e : Option Expr) (f : F (Option Int)) : Prop where
 po : PO X e (tFO X.K W f)
noncomputable def oNone : F (Option Int):=fPure none
noncomputable def oSome (f : F U) : F (Option Int):=bnd f fun u=>fun _ st=>match u with
 | .d (.int i)=>.ok (some i) st
 | _=>.bad
noncomputable def cutG {α : Type} (xs : List α) (lo hi : Option Int) : List α:=(xs.drop (HT.sIx xs.length 0 lo)).take (HT.sIx xs.length xs.length hi - HT.sIx xs.length 0 lo)
noncomputable def oSl (a : U) (lo hi : Option Int) (st : Store) : Option U:=match a with
 | .d (.str z)=>if z.length ≤ sizeLine then some (.d (.str (cutS z lo hi))) else none
 | .d (.tup ds)=>some (.d (.tup (cutG ds lo hi)))
 | a=>match getL st a with
  | some us=>match pureL (cutG us lo hi) with
   | some ds=>some (.d (.lst ds))
   | none=>none
  | none=>none
noncomputable def fSl (f : F U) (l h : F (Option Int)) : F U:=bnd f fun a=>bnd l fun lo=>bnd h fun hi=>fun _ st=>.of st (oSl a lo hi st)
section
variable {K : PySem.W.Frag} {m : List Addr} {H : Hp} {st : Store}
theorem cut_rp {us : List U} {vs : List V} (h : RpUs K m H us vs) (lo hi : Option Int) : RpUs K m H (cutG us lo hi) (cutV vs lo hi):=by
 unfold cutG cutV
 rw [h.length]
 exact (h.drop _).take _
theorem cutG_map {α β : Type} (f : α → β) (xs : List α) (lo hi : Option Int) : cutG (xs.map f) lo hi = (cutG xs lo hi).map f:=by
 unfold cutG
 rw [List.length_map,List.map_take,List.map_drop]
theorem cutG_whole {α : Type} {xs : List α} {lo hi : Option Int} (h : HT.sIx xs.length 0 lo = 0 ∧ HT.sIx xs.length xs.length hi = xs.length) : cutG xs lo hi = xs:=by
 unfold cutG
 rw [h.1,h.2,List.drop_zero,Nat.sub_zero,List.take_length]
end
section
variable {X : Cx} {W : WX} {a e : Expr} {fa fe : F U} {lo hi : Option Expr} {fl fh : F (Option Int)} {pos p2 : Pos}
theorem do_none : DO X W none oNone:=⟨⟨fun pins s σ H Q I h=>po_none.run pins s σ H Q I (by
 obtain ⟨m,env,st,r,re,p⟩:=h
 exact p none m H rfl r (Ext.refl _ _))⟩⟩
theorem do_some (h : DE X W e fe) : DO X W (some e) (oSome fe):=⟨⟨fun pins s σ H Q I hw=>(po_some h.pe).run pins s σ H Q I (by
 obtain ⟨m,env,st,r,re,p⟩:=hw
 refine tF_step r re p fun u st1 v m1 H1 h1 r1 re1 e1 p1=>?_
 cases u with
 | ref n=>exact False.elim p1
 | d x =>
  cases x with
  | int i=>exact ⟨i,h1,p1 _ m1 H1 rfl r1 (Ext.refl _ _)⟩
  | _=>exact False.elim p1)⟩⟩
theorem sl_ok : SlR X (fun x lo hi H Q=>∃ m st a,Rep X.K m st H ∧ RpU X.K m H a x ∧ PV X.K m st H Q (oSl a lo hi st)):=by
 intro pins s σ H x v vl vu lo hi sl Q I rx hs pl pu h
 obtain ⟨m,st,a,r,ha,p⟩:=h
 cases e : oSl a lo hi st with
 | none=>rw [e] at p; exact p.elim
 | some w =>
  rw [e] at p
  unfold oSl at e
  split at e
  ·cases ha
   split at e
   ·rename_i hz
    cases e
    exact sl_str pins s σ H _ v vl vu lo hi sl Q I rx hs pl pu ⟨_,rfl,hz,pv_flat r p rfl⟩
   ·cases e
  ·rename_i ds
   cases e
   obtain ⟨q,vs,rfl,h1,h2⟩:=ha
   have hl:=h2.length
   refine sl_tupA pins s σ H _ v vl vu lo hi sl Q I rx hs pl pu ⟨q,vs,rfl,h1.sq,fun hw=>?_,fun hw z hz=>?_⟩
   ·rw [hl] at hw
    rw [cutG_whole hw] at p
    exact pv_flat r p ⟨q,vs,rfl,h1,h2⟩
   ·have hc:=cut_rp (RpUs.ofD h2) lo hi
    rw [cutG_map] at hc
    exact p _ _ (new_tup r hz (RpDs.toD hc)) (r.new hz _) (ext_new r hz _)
  ·split at e
   ·rename_i us hl
    split at e
    ·rename_i ds hd
     cases e
     obtain ⟨q,vs,rfl,h1,h2⟩:=getL_rp r ha hl
     exact sl_list pins s σ H _ v vl vu lo hi sl Q I rx hs pl pu ⟨q,vs,rfl,h1,fun z hz=>p _ _ (new_lst r hz (pureL_rp (cut_rp h2 lo hi) hd)) (r.new hz _) (ext_new r hz _)⟩
    ·cases e
   ·cases e
theorem d_sl (ha : DE X W a fa) (hl : DO X W lo fl) (hh : DO X W hi fh) : DE X W (.Subscript a (.Slice lo hi none p2) pos) (fSl fa fl fh):=⟨PE.imp (pe_slice sl_ok ha.pe hl.po hh.po) fun σ H Q ⟨m,env,st,r,re,p⟩ =>
 tF_step r re p fun u st1 v m1 H1 h1 r1 re1 e1 p1=>tFO_step r1 re1 p1 fun lo st2 m2 H2 r2 re2 e2 p2=>tFO_step r2 re2 p2 fun hi st3 m3 H3 r3 re3 e3 p3 =>
  ⟨m3,st3,u,r3,(h1.ext e2).ext e3,PV.of p3⟩⟩
end
end VL
namespace VL
open PySem PySem.Spec PyProof.Rows L2
noncomputable def sNil : G:=fun env st=>.ok env .nx st
noncomputable def sSeq (g h : G) : G:=fun env st=>match g env st with
 | .ok env1 .nx st1=>h env1 st1
 | r=>r
noncomputable def sRet (f : F U) : G:=bndS f fun u=>fun env st=>.ok env (.rt u) st
noncomputable def sRetN : G:=fun env st=>.ok env (.rt (.d .non)) st
noncomputable def sExpr (f : F U) : G:=bndS f fun _=>sNil
noncomputable def sIf (c : F Bool) (g h : G) : G:=bndS c fun k=>if k = true then g else h
noncomputable def sBk : G:=fun env st=>.ok env .bk st
noncomputable def sCt : G:=fun env st=>.ok env .ct st
noncomputable def tgN (i : Nat) (u : U) : G:=fun env st=>.ok (env.set i (some u)) .nx st
noncomputable def sAsg (f : F U) (tg : U → G) : G:=bndS f tg
/-- not reached -/
noncomputable def sNo : G:=fun _ _=>.bad
section
variable {X : Cx} {W : WX} {st : Stmt} {sts a b : List Stmt} {g h ga gb : G} {e c : Expr} {fe : F U} {bc : F Bool} {pos : Pos}
theorem db_nil : DB X W [] sNil:=⟨PSs.imp pss_nil fun D σ H ⟨m,env,st,r,re,p⟩=>p σ m H re r (Ext.refl _ _)⟩
theorem t_seq {D : Ends} {σ : L2.St} {H : Hp} (q : tG X.K W (sSeq g h) D σ H) : tSeq (tG X.K W g) (tG X.K W h) D σ H:=by
 obtain ⟨m,env,st,r,re,p⟩:=q
 refine ⟨m,env,st,r,re,?_⟩
 unfold sSeq at p
 cases e : g env st with
 | bad=>rw [e] at p; exact p
 | ex c fs env1 st1=>rw [e] at p; exact p
 | ok env1 f st1 =>
  rw [e] at p
  cases f with
  | nx=>exact fun σ' m' H' h1 h2 h3=>⟨m',env1,st1,h2,h1,p.from h3⟩
  | rt u=>exact p
  | bk=>exact p
  | ct=>exact p
theorem db_cons (h1 : DS X W st g) (h2 : DB X W sts h) : DB X W (st :: sts) (sSeq g h):=⟨PSs.imp (pss_cons h1.ps h2.pss) fun _ _ _ q=>t_seq q⟩
theorem db_one (h1 : DS X W st g) : DB X W [st] g:=⟨pss_one h1.ps⟩
theorem ds_ret (he : DE X W e fe) : DS X W (.Return (some e) pos) (sRet fe):=⟨PS.imp (ps_ret he.pe) fun D σ H ⟨m,env,st,r,re,p⟩=>sF_step r re p fun u st1 v m1 H1 h1 r1 re1 e1 p1=>p1 v m1 H1 h1 r1 (Ext.refl _ _)⟩
theorem ds_expr (he : DE X W e fe) (hs : swapsWith e none pos.line X.env = pure false:=by rfl) : DS X W (.Expr e pos) (sExpr fe):=⟨PS.imp (ps_expr he.pe hs) fun D σ H ⟨m,env,st,r,re,p⟩=>sF_step r re p fun u st1 v m1 H1 h1 r1 re1 e1 p1=>p1 σ m1 H1 re1 r1 (Ext.refl _ _)⟩
theorem ds_if (hc : DT X W c bc) (ha : DB X W a ga) (hb : DB X W b gb) : DS X W (.If c a b pos) (sIf bc ga gb):=⟨PS.imp (ps_if hc.pt ha.pss hb.pss) fun D σ H ⟨m,env,st,r,re,p⟩=>sFB_step r re p fun k st1 m1 H1 r1 re1 e1 p1=>by
 cases k with
 | true=>exact iteT ⟨m1,env,st1,r1,re1,p1⟩
 | false=>exact iteF ⟨m1,env,st1,r1,re1,p1⟩⟩
end
/-- the names at the slots is alone are new -/
noncomputable def Out (is : List Nat) (σ σ' : L2.St) : Prop:=σ'.length = σ.length ∧ ∀ i,i ∉ is → σ'[i]? = σ[i]?
theorem Out.refl (is : List Nat) (σ : L2.St) : Out is σ σ:=⟨rfl,fun _ _=>rfl⟩
theorem Out.trans {is js : List Nat} {σ σ1 σ2 : L2.St} (a : Out is σ σ1) (b : Out js σ1 σ2) : Out (is ++ js) σ σ2 :=
 ⟨b.1.trans a.1,fun i h=>(b.2 i fun z=>h (List.mem_append_right _ z)).trans (a.2 i fun z=>h (List.mem_append_left _ z))⟩
theorem Out.set {σ : L2.St} (i : Nat) (v : Option V) : Out [i] σ (σ.set i v):=⟨List.length_set,fun j h=>List.getElem?_set_ne (fun e=>h (by rw [e]; exact List.mem_singleton.mpr rfl))⟩
noncomputable def tTg (K : PySem.W.Frag) (is : List Nat) (g : U → G) : TG:=fun v σ H Q=>∃ m env st u,Rep K m st H ∧ RpEnv K m H env σ ∧ RpU K m H u v ∧ (match g u env st with
 | .ok env' .nx st'=>∀ σ' m' H',RpEnv K m' H' env' σ' → Rep K m' st' H' → Ext m H m' H' → Out is σ σ' → Q σ' H'
 | _=>False)
noncomputable def tTgs (K : PySem.W.Frag) (is : List Nat) (g : List U → G) : TGs:=fun vs σ H Q=>∃ m env st us,Rep K m st H ∧ RpEnv K m H env σ ∧ RpUs K m H us vs ∧ (match g us env st with
 | .ok env' .nx st'=>∀ σ' m' H',RpEnv K m' H' env' σ' → Rep K m' st' H' → Ext m H m' H' → Out is σ σ' → Q σ' H'
 | _=>False)
structure DG (X : Cx) (e : Expr) (is : List Nat) (g : U → G) : Prop where
 pg : PG X e (tTg X.K is g)
structure DGs (X : Cx) (es : List Expr) (is : List Nat) (g : List U → G) : Prop where
 pgs : PGs X es (tTgs X.K is g)
noncomputable def tgNil : List U → G:=fun us=>match us with
 | []=>sNil
 | _=>sNo
noncomputable def tgCons (g : U → G) (h : List U → G) : List U → G:=fun us=>match us with
 | u :: r=>sSeq (g u) (h r)
 | _=>sNo
/-- the items of a tuple,a list -/
noncomputable def unp (st : Store) : U → Option (List U)
 | .d (.tup ds)=>some (ds.map .d)
 | u=>match getL st u with
  | some us=>some us
  | none=>match u with
   | .ref n=>match st[n]? with
    | some (.tup us)=>some us
    | _=>none
   | _=>none
theorem unp_rp {K : PySem.W.Frag} {m : List Addr} {H : Hp} {st : Store} (r : Rep K m st H) {u : U} {v : V} {us : List U} (h : RpU K m H u v) (e : unp st u = some us) : ∃ a vs,v = .ref a ∧ (SqT K H a vs ∨ SqL K H a vs) ∧ RpUs K m H us vs:=by
 unfold unp at e
 split at e
 ·cases e
  obtain ⟨a,vs,rfl,h1,h2⟩:=h
  exact ⟨a,vs,rfl,.inl h1.sq,RpUs.ofD h2⟩
 ·split at e
  ·rename_i us' hl
   cases e
   obtain ⟨a,vs,e1,h1,h2⟩:=getL_rp r h hl
   exact ⟨a,vs,e1,.inr h1,h2⟩
  ·split at e
   ·split at e
    ·rename_i us' hs
     cases e
     obtain ⟨a,ha,rfl⟩:=h
     obtain ⟨ho,h1,vs,e2,h2⟩:=r.cell _ _ a hs ha
     subst e2
     exact ⟨a,vs,rfl,.inl (.inl (.inl h1)),h2⟩
    ·cases e
   ·cases e
/-- a,b,.. = a tuple (list) of that length -/
noncomputable def tgT (n : Nat) (g : List U → G) : U → G:=fun u env st=>match unp st u with
 | some us=>if us.length = n then g us env st else .bad
 | none=>.bad
theorem PG.imp {X : Cx} {e : Expr} {t t' : TG} (h : PG X e t) (i : ∀ v σ H Q,t' v σ H Q → t v σ H Q) : PG X e t':=⟨fun pins s σ H v u Q I r q=>h.run pins s σ H v u Q I r (i v σ H Q q)⟩
theorem PGs.imp {X : Cx} {e : List Expr} {t t' : TGs} (h : PGs X e t) (i : ∀ v σ H Q,t' v σ H Q → t v σ H Q) : PGs X e t':=⟨fun pins s σ H v u Q I r q=>h.run pins s σ H v u Q I r (i v σ H Q q)⟩
theorem PG.or {X : Cx} {e : Expr} {t t' : TG} (h : PG X e t) (h' : PG X e t') : PG X e (fun v σ H Q=>t v σ H Q ∨ t' v σ H Q):=⟨fun pins s σ H v u Q I r q=>by
 rcases q with q | q
 ·exact h.run pins s σ H v u Q I r q
 ·exact h'.run pins s σ H v u Q I r q⟩
section
variable {X : Cx} {W : WX} {e : Expr} {es : List Expr} {is js : List Nat} {g : U → G} {gs : List U → G} {fe : F U} {pos : Pos}
theorem dg_name (i : Nat) {x : Str} (hN : X.N.Nodup) (hi : X.N[i]? = some x:=by rfl) (hx : Loc X.env.scope x:=by first | exact Or.inl rfl | exact Or.inr rfl) (hf : X.fn x = true ∨ X.env.scope.names.lookup x = some .local:=by first | exact .inl rfl | exact .inr rfl | assumption) : DG X (.Name x pos) [i] (tgN i) :=
 ⟨PG.imp (pg_name hN hi hx hf) fun v σ H Q ⟨m,env,st,u,r,re,ru,p⟩=>p _ m H (re.set i ru) r (Ext.refl _ _) (Out.set i _)⟩
theorem dgs_nil : DGs X [] [] tgNil:=⟨PGs.imp pgs_nil fun vs σ H Q ⟨m,env,st,us,r,re,ru,p⟩=>by
 cases us with
 | nil=>exact ⟨ru,p _ m H re r (Ext.refl _ _) (Out.refl _ _)⟩
 | cons u us=>exact p.elim⟩
theorem dgs_cons (h1 : DG X e is g) (h2 : DGs X es js gs) (hs : (assignEach (e :: es) X.env).map (·.2) = assign e X.env :: (assignEach es X.env).map (·.2):=by rfl) : DGs X (e :: es) (is ++ js) (tgCons g gs) :=
 ⟨PGs.imp (pgs_cons h1.pg h2.pgs hs) fun vs σ H Q ⟨m,env,st,us,r,re,ru,p⟩=>by
  cases us with
  | nil=>exact p.elim
  | cons u us =>
   obtain ⟨v,w,rfl,r1,r2⟩:=ru
   refine ⟨v,w,rfl,m,env,st,u,r,re,r1,?_⟩
   unfold tgCons sSeq at p
   simp only at p
   cases e : g u env st with
   | bad=>rw [e] at p; exact p
   | ex c fs env1 st1=>rw [e] at p; exact p
   | ok env1 f st1 =>
    rw [e] at p
    cases f with
    | nx =>
     refine fun σ' m' H' h1 h2 h3 h4=>⟨m',env1,st1,us,h2,h1,r2.ext h3,?_⟩
     cases e2 : gs us env1 st1 with
     | bad=>simp only [e2] at p
     | ex c fs env2 st2=>simp only [e2] at p
     | ok env2 f2 st2 =>
      simp only [e2] at p
      cases f2 with
      | nx=>exact fun σ'' m'' H'' k1 k2 k3 k4=>p σ'' m'' H'' k1 k2 (h3.trans k3) (h4.trans k4)
      | rt u=>exact p
      | bk=>exact p
      | ct=>exact p
    | rt u=>exact p
    | bk=>exact p
    | ct=>exact p⟩
theorem dg_tup {k n : Nat} (hc : X.calm = true) (h : DGs X es is gs) (hn : (assignEach es X.env).length = n:=by rfl) (hst : (assignEach es X.env).findIdx? (·.1) = none:=by rfl) : DG X (.Tuple es k pos) is (tgT n gs) :=
 ⟨PG.imp (PG.or (pg_tup hc h.pgs hn hst) (pg_lst hc h.pgs hn hst)) fun v σ H Q ⟨m,env,st,u,r,re,ru,p⟩=>by
  unfold tgT at p
  cases q : unp st u with
  | none=>rw [q] at p; exact p.elim
  | some us =>
   rw [q] at p
   simp only at p
   by_cases hz : us.length = n
   ·rw [if_pos hz] at p
    obtain ⟨a,vs,rfl,h1,h2⟩:=unp_rp r ru q
    rcases h1 with h1 | h1
    ·exact .inl ⟨a,vs,rfl,h1,by rw [h2.length,hz],m,env,st,us,r,re,h2,p⟩
    ·exact .inr ⟨a,vs,rfl,h1,by rw [h2.length,hz],m,env,st,us,r,re,h2,p⟩
   ·rw [if_neg hz] at p; exact p.elim⟩
/-- what a target does ends well -/
noncomputable def TgNx (g : U → G) : Prop:=∀ u env st,match g u env st with
 | .ok _ .nx _=>True
 | .bad=>True
 | _=>False
theorem t_asg (hnx : TgNx g) {D : Ends} {σ : L2.St} {H : Hp} (q : tG X.K W (sAsg fe g) D σ H) : tAsg (tF X.K W fe) (tTg X.K is g) D σ H:=by
 obtain ⟨m,env,st,r,re,p⟩:=q
 refine sF_step r re p fun u st1 v m1 H1 h1 r1 re1 e1 p1=>⟨m1,env,st1,u,r1,re1,h1,?_⟩
 have:=hnx u env st1
 cases e : g u env st1 with
 | bad=>rw [e] at p1; exact p1.elim
 | ex c fs env1 st1=>rw [e] at this; exact this.elim
 | ok env1 f st1 =>
  rw [e] at p1 this
  cases f with
  | nx=>exact fun σ' m' H' k1 k2 k3 _=>p1 σ' m' H' k1 k2 k3
  | rt u=>exact this.elim
  | bk=>exact this.elim
  | ct=>exact this.elim
theorem nx_name (i : Nat) : TgNx (tgN i):=fun _ _ _=>trivial
theorem ds_asg {tg : Expr} (he : DE X W e fe) (hg : DG X tg is g) (hnx : TgNx g) (hs : swapsWithSole [tg] e pos.line X.env = pure false:=by rfl) (hw : swappedStores [tg] e X.env = pure none:=by rfl)
  (h1 : (assignEach [tg] X.env).map (·.2) = [assign tg X.env]:=by rfl) : DS X W (.Assign [tg] e pos) (sAsg fe g):=⟨PS.imp (ps_asg he.pe hg.pg hs hw h1) fun _ _ _ q=>t_asg hnx q⟩
theorem ds_set (i : Nat) {x : Str} {pos' : Pos} (hN : X.N.Nodup) (he : DE X W e fe) (hi : X.N[i]? = some x:=by rfl) (hx : Loc X.env.scope x:=by first | exact Or.inl rfl | exact Or.inr rfl) (hs : swapsWith e (some (.Name x pos')) pos.line X.env = pure false:=by rfl)
  (hf : X.fn x = true ∨ X.env.scope.names.lookup x = some .local:=by first | exact .inl rfl | exact .inr rfl | assumption) : DS X W (.Assign [.Name x pos'] e pos) (sAsg fe (tgN i)) :=
 ⟨PS.imp (ps_set hN hi hx he.pe hs hf) fun D σ H ⟨m,env,st,r,re,p⟩=>sF_step r re p fun u st1 v m1 H1 h1 r1 re1 e1 p1=>p1 _ m1 H1 (re1.set i h1) r1 (Ext.refl _ _)⟩
/-- a,b = x,y -/
noncomputable def sPar (i j : Nat) (fs : F (List U)) : G:=bndS fs fun us=>fun env st=>match us with
 | [u,w]=>.ok ((env.set i (some u)).set j (some w)) .nx st
 | _=>.bad
theorem ds_par (i j : Nat) {x y : Str} {a b : Expr} {fs : F (List U)} {px py pt : Pos} {kt k2 : Nat} {pt2 : Pos} (hc : X.calm = true) (hN : X.N.Nodup) (ha : DA X W [a,b] fs) (hij : i ≠ j)
  (hw : swappedStores [.Tuple [.Name x px,.Name y py] kt pt] (.Tuple [a,b] k2 pt2) X.env = pure (some [x,y])) (hi : X.N[i]? = some x:=by rfl) (hj : X.N[j]? = some y:=by rfl)
  (hx : X.env.scope.names.lookup x = some .local:=by rfl) (hy : X.env.scope.names.lookup y = some .local:=by rfl)
  (hs : swapsWithSole [.Tuple [.Name x px,.Name y py] kt pt] (.Tuple [a,b] k2 pt2) pos.line X.env = pure false:=by rfl) :
  DS X W (.Assign [.Tuple [.Name x px,.Name y py] kt pt] (.Tuple [a,b] k2 pt2) pos) (sPar i j fs):=⟨PS.imp (ps_par hc hN hi hj hij hx hy ha.pa hw hs) fun D σ H ⟨m,env,st,r,re,p⟩=>sFs_step r re p fun us st1 vs m1 H1 h1 r1 re1 e1 p1=>by
 match us,h1,p1 with
 | [],_,p1=>exact p1.elim
 | [_],_,p1=>exact p1.elim
 | _ :: _ :: _ :: _,_,p1=>exact p1.elim
 | [u,w],h1,p1 =>
  obtain ⟨v,_,rfl,g1,w',_,rfl,g2,rfl⟩:=h1
  exact ⟨v,w',rfl,p1 _ m1 H1 ((re1.set i g1).set j g2) r1 (Ext.refl _ _)⟩⟩
end
inductive Itb where
 | lst (us : List U)
 | cell (n : Nat) (f : Nat → U → Option U)
noncomputable def IsIt (K : PySem.W.Frag) (m1 : List Addr) (H1 : Hp) (J : It) : Itb → Prop
 | .lst us=>(∀ i m' st' H',i < us.length → Rep K m' st' H' → Ext m1 H1 m' H' → J.go i H') ∧ (∀ m' st' H',Rep K m' st' H' → Ext m1 H1 m' H' → J.stop us.length H') ∧
  ∀ i u m' st' H' x H'',us[i]? = some u → Rep K m' st' H' → Ext m1 H1 m' H' → J.yld i H' x H'' → Rep K m' st' H'' ∧ Ext m' H' m' H'' ∧ RpU K m' H'' u x
 | .cell n f=>∀ us m' st' H',Rep K m' st' H' → Ext m1 H1 m' H' → st'[n]? = some (.lst us) → (∀ i,i < us.length → J.go i H') ∧ (∀ i,us.length ≤ i → J.stop i H') ∧
  ∀ i u w x H'',us[i]? = some u → f i u = some w → J.yld i H' x H'' → Rep K m' st' H'' ∧ Ext m' H' m' H'' ∧ RpU K m' H'' w x
noncomputable def tI (K : PySem.W.Frag) (W : WX) (f : F Itb) : TI:=fun σ H R=>∃ m env st,Rep K m st H ∧ RpEnv K m H env σ ∧ PO' K m H (fun _ _ a b=>b = a) (fun t H1=>∀ m1 st1,f env st = .ok t st1 → Rep K m1 st1 H1 → Ext m H m1 H1 → ∀ J,IsIt K m1 H1 J t → R J H1) (fun c d H'=>W c d σ H') (f env st)
structure DI (X : Cx) (W : WX) (tg iter : Expr) (f : F Itb) : Prop where
 pi : PI X tg iter (tI X.K W f)
noncomputable def loopL (tg : U → G) (body : G) : List U → G
 | []=>sNil
 | u :: us=>fun env st=>match tg u env st with
  | .ok env1 .nx st1=>match body env1 st1 with
   | .ok env2 .nx st2=>loopL tg body us env2 st2
   | .ok env2 .ct st2=>loopL tg body us env2 st2
   | .ok env2 .bk st2=>.ok env2 .nx st2
   | r=>r
  | _=>.bad
noncomputable def loopC (tg : U → G) (body : G) (n : Nat) (f : Nat → U → Option U) : Nat → Nat → G
 | 0,_=>sNo
 | k + 1,i=>fun env st=>match st[n]? with
  | some (.lst us)=>match us[i]? with
   | none=>.ok env .nx st
   | some u=>match f i u with
    | none=>.bad
    | some w=>match tg w env st with
     | .ok env1 .nx st1=>match body env1 st1 with
      | .ok env2 .nx st2=>loopC tg body n f k (i + 1) env2 st2
      | .ok env2 .ct st2=>loopC tg body n f k (i + 1) env2 st2
      | .ok env2 .bk st2=>.ok env2 .nx st2
      | r=>r
     | _=>.bad
  | _=>.bad
noncomputable def sFor (fi : F Itb) (tg : U → G) (body : G) : G:=bndS fi fun t=>match t with
 | .lst us=>loopL tg body us
 | .cell n f=>fun env st=>match st[n]? with
  | some (.lst us)=>loopC tg body n f (us.length + 1) 0 env st
  | _=>.bad
section
variable {X : Cx} {W : WX} {tg iter : Expr} {body : List Stmt} {is : List Nat} {g : U → G} {gb : G} {fi : F Itb} {pos : Pos}
theorem step_loop {K : PySem.W.Frag} {is : List Nat} {D : Ends} {N : L2.St → Hp → Prop} {g : U → G} {gb : G} {rest : G} {u : U} {m m1 : List Addr} {env : VEnv} {st : Store} {H H1 : Hp} {σ : L2.St} {x : V} (r : Rep K m st H) (re : RpEnv K m H env σ) (ru : RpU K m H u x)
  (e0 : Ext m1 H1 m H)
  (p : PS' K m H D W (match g u env st with
   | .ok env1 .nx st1=>match gb env1 st1 with
    | .ok env2 .nx st2=>rest env2 st2
    | .ok env2 .ct st2=>rest env2 st2
    | .ok env2 .bk st2=>.ok env2 .nx st2
    | r=>r
   | _=>.bad))
  (hN : ∀ env2 st2 σ' m' H',RpEnv K m' H' env2 σ' → Rep K m' st2 H' → Ext m1 H1 m' H' → PS' K m' H' D W (rest env2 st2) → N σ' H') :
  tTg K is g x σ H fun σ2 H2=>tG K W gb { D with nx:=N,ct:=N,bk:=D.nx } σ2 H2:=by
 refine ⟨m,env,st,u,r,re,ru,?_⟩
 cases e : g u env st with
 | bad=>rw [e] at p; exact p.elim
 | ex c fs env1 st1=>rw [e] at p; exact p.elim
 | ok env1 f st1 =>
  rw [e] at p
  cases f with
  | rt u=>exact p.elim
  | bk=>exact p.elim
  | ct=>exact p.elim
  | nx =>
   refine fun σ2 m2 H2 k1 k2 k3 _=>⟨m2,env1,st1,k2,k1,?_⟩
   have p2:=PS'.from k3 p
   cases e2 : gb env1 st1 with
   | bad=>simp only [e2] at p2; exact p2
   | ex c fs env2 st2=>simp only [e2] at p2; exact p2
   | ok env2 f2 st2 =>
    simp only [e2] at p2
    cases f2 with
    | nx=>exact fun σ' m' H' j1 j2 j3=>hN env2 st2 σ' m' H' j1 j2 (e0.trans (k3.trans j3)) (p2.from j3)
    | ct=>exact fun σ' m' H' j1 j2 j3=>hN env2 st2 σ' m' H' j1 j2 (e0.trans (k3.trans j3)) (p2.from j3)
    | bk=>exact p2
    | rt u=>exact p2
theorem t_for {D : Ends} {σ : L2.St} {H : Hp} (q : tG X.K W (sFor fi g gb) D σ H) : tFor (tI X.K W fi) (tTg X.K is g) (tG X.K W gb) D σ H:=by
 obtain ⟨m,env,st,r,re,p⟩:=q
 refine ⟨m,env,st,r,re,?_⟩
 unfold sFor bndS at p
 cases e : fi env st with
 | bad=>rw [e] at p; exact p.elim
 | ex c fs st1=>rw [e] at p; exact fun d m' H' h1 h2 h3=>p d σ m' H' (re.ext h2) h1 h2 h3
 | ok t st1 =>
  rw [e] at p
  intro t' m0 H0 ht r0 e0 m1 st1' he r1 e1 J hJ
  subst ht
  cases he
  have re1:=re.ext e1
  have p1:=PS'.from e1 p
  cases t' with
  | lst us =>
   obtain ⟨go,stop,yld⟩:=hJ
   refine ⟨fun i k σ H=>∃ m' env' st',Rep X.K m' st' H ∧ RpEnv X.K m' H env' σ ∧ Ext m1 H0 m' H ∧ k = us.length - i ∧ i ≤ us.length ∧ PS' X.K m' H D W (loopL g gb (us.drop i) env' st'),
    ⟨us.length,m1,env,st1,r1,re1,Ext.refl _ _,by simp,Nat.zero_le _,p1⟩,?_⟩
   rintro i k σ' H' ⟨m',env',st',r',re',e',rfl,hi,p'⟩
   by_cases hlt : i < us.length
   ·have hu : us[i]? = some us[i]:=List.getElem?_eq_getElem hlt
    rw [List.drop_eq_getElem_cons hlt] at p'
    refine .inr ⟨go i m' st' H' hlt r' e',fun σ2 H2=>∃ m2 env2 st2,Rep X.K m2 st2 H2 ∧ RpEnv X.K m2 H2 env2 σ2 ∧ Ext m1 H0 m2 H2 ∧ PS' X.K m2 H2 D W (loopL g gb (us.drop (i + 1)) env2 st2),?_,?_⟩
    ·rintro σ2 H2 ⟨m2,env2,st2,r2,re2,e2,p2⟩
     exact ⟨us.length - (i + 1),by omega,m2,env2,st2,r2,re2,e2,rfl,hlt,p2⟩
    ·intro x H'' hy
     obtain ⟨r2,e2,ru⟩:=yld i _ m' st' H' x H'' hu r' e' hy
     exact step_loop r2 (re'.ext e2) ru (e'.trans e2) (PS'.from e2 p') fun env2 st2 σ2 m2 H2 k1 k2 k3 k4=>⟨m2,env2,st2,k2,k1,k3,k4⟩
   ·have : i = us.length:=by omega
    subst this
    rw [List.drop_length] at p'
    exact .inl ⟨stop m' st' H' r' e',p' σ' m' H' re' r' (Ext.refl _ _)⟩
  | cell n f =>
   simp only at p1
   split at p1
   ·rename_i us0 hs0
    refine ⟨fun i k σ H=>∃ m' env' st',Rep X.K m' st' H ∧ RpEnv X.K m' H env' σ ∧ Ext m1 H0 m' H ∧ PS' X.K m' H D W (loopC g gb n f k i env' st'),
     ⟨us0.length + 1,m1,env,st1,r1,re1,Ext.refl _ _,p1⟩,?_⟩
    rintro i k σ' H' ⟨m',env',st',r',re',e',p'⟩
    cases k with
    | zero=>exact p'.elim
    | succ k =>
     unfold loopC at p'
     split at p'
     ·rename_i us hs
      obtain ⟨go,stop,yld⟩:=hJ us m' st' H' r' e' hs
      cases hu : us[i]? with
      | none =>
       simp only [hu] at p'
       exact .inl ⟨stop i (List.getElem?_eq_none_iff.mp hu),p' σ' m' H' re' r' (Ext.refl _ _)⟩
      | some u =>
       simp only [hu] at p'
       cases hf : f i u with
       | none=>simp only [hf] at p'; exact p'.elim
       | some w =>
        simp only [hf] at p'
        refine .inr ⟨go i (List.getElem?_eq_some_iff.mp hu).1,fun σ2 H2=>∃ m2 env2 st2,Rep X.K m2 st2 H2 ∧ RpEnv X.K m2 H2 env2 σ2 ∧ Ext m1 H0 m2 H2 ∧ PS' X.K m2 H2 D W (loopC g gb n f k (i + 1) env2 st2),?_,?_⟩
        ·rintro σ2 H2 ⟨m2,env2,st2,r2,re2,e2,p2⟩
         exact ⟨k,Nat.lt_succ_self k,m2,env2,st2,r2,re2,e2,p2⟩
        ·intro x H'' hy
         obtain ⟨r2,e2,ru⟩:=yld i u w x H'' hu hf hy
         exact step_loop r2 (re'.ext e2) ru (e'.trans e2) (PS'.from e2 p') fun env2 st2 σ2 m2 H2 k1 k2 k3 k4=>⟨m2,env2,st2,k2,k1,k3,k4⟩
     ·exact p'.elim
   ·exact p1.elim
theorem ds_for (hp : PassesOwn (model X.prog X.w) X.A X.env X.xe) (hc : X.calm = true) (hi : DI X W tg iter fi) (hg : DG X tg is g) (hb : DB X W body gb) (hs : ∀ x,foldedSetIterable iter X.env x = pure x:=by intro _; rfl) :
  DS X W (.For tg iter body [] pos) (sFor fi g gb):=⟨PS.imp (ps_for hp hc hi.pi hg.pg hb.pss hs) fun _ _ _ q=>t_for q⟩
end
end VL
namespace VL
open PySem PySem.Spec PyProof.Rows L2
noncomputable def itV (st : Store) (u : U) : Option Itb:=match u with
 | .d (.lst ds)=>some (.lst (ds.map .d))
 | .d (.scr ns)=>some (.lst (ns.map fun i=>.d (.int i)))
 | .d (.tup ds)=>some (.lst (ds.map .d))
 | .d (.str z)=>some (.lst (z.cps.toList.map fun c=>.d (.str ⟨#[c]⟩)))
 | .ref n=>match st[n]? with
  | some (.lst us)=>some (.cell n fun _ u=>some u)
  | _=>none
 | _=>none
noncomputable def fIter (f : F U) : F Itb:=bnd f fun u=>fun _ st=>.of st (itV st u)
theorem PI.or {X : Cx} {tg e : Expr} {t t' : TI} (h : PI X tg e t) (h' : PI X tg e t') : PI X tg e (fun σ H R=>t σ H R ∨ t' σ H R):=⟨fun pins s σ H R I q=>by
 rcases q with q | q
 ·exact h.run pins s σ H R I q
 ·exact h'.run pins s σ H R I q⟩
theorem PI.imp {X : Cx} {tg e : Expr} {t t' : TI} (h : PI X tg e t) (i : ∀ σ H R,t' σ H R → t σ H R) : PI X tg e t':=⟨fun pins s σ H R I q=>h.run pins s σ H R I (i σ H R q)⟩
section
variable {K : PySem.W.Frag} {m : List Addr} {H : Hp} {st : Store}
theorem isIt_lst {a : Addr} {us : List U} {vs : List V} (hs : ∀ m' H',Ext m H m' H' → SqL K H' a vs) (hr : RpUs K m H us vs) : IsIt K m H (Itl K a) (.lst us):=by
 have hl:=hr.length
 refine ⟨fun i m' st' H' hi r e=>⟨vs,vs[i]'(by omega),hs m' H' e,by simp [hl,hi]⟩,fun m' st' H' r e=>⟨vs,hs m' H' e,by omega⟩,fun i u m' st' H' x H'' hu r e y=>?_⟩
 obtain ⟨rfl,y⟩:=y
 obtain ⟨v,hv,rv⟩:=hr.get hu
 have:=(y vs (hs m' _ e)).symm.trans hv
 cases this
 exact ⟨r,Ext.refl _ _,rv.ext e⟩
theorem isIt_tup {a : Addr} {us : List U} {vs : List V} (hs : ∀ m' H',Ext m H m' H' → SqT K H' a vs) (hr : RpUs K m H us vs) : IsIt K m H (Itt K a) (.lst us):=by
 have hl:=hr.length
 refine ⟨fun i m' st' H' hi r e=>⟨vs,vs[i]'(by omega),hs m' H' e,by simp [hl,hi]⟩,fun m' st' H' r e=>⟨vs,hs m' H' e,by omega⟩,fun i u m' st' H' x H'' hu r e y=>?_⟩
 obtain ⟨rfl,y⟩:=y
 obtain ⟨v,hv,rv⟩:=hr.get hu
 have:=(y vs (hs m' _ e)).symm.trans hv
 cases this
 exact ⟨r,Ext.refl _ _,rv.ext e⟩
theorem isIt_cell {a : Addr} {n : Nat} (hn : m[n]? = some a) : IsIt K m H (Itl K a) (.cell n fun _ u=>some u):=by
 intro us m' st' H' r e hs
 have hn' : m'[n]? = some a:=by
  obtain ⟨t,rfl⟩:=e.pre
  rw [List.getElem?_append_left (List.getElem?_eq_some_iff.mp hn).1]; exact hn
 obtain ⟨ho,h1,vs,e2,h2⟩:=r.cell n _ a hs hn'
 subst e2
 have hl:=h2.length
 have hq : SqL K H' a vs:=.inl (.inl h1)
 refine ⟨fun i hi=>⟨vs,vs[i]'(by omega),hq,by simp [hl,hi]⟩,fun i hi=>⟨vs,hq,by omega⟩,fun i u w x H'' hu hw y=>?_⟩
 cases hw
 obtain ⟨rfl,y⟩:=y
 obtain ⟨v,hv,rv⟩:=h2.get hu
 have:=(y vs hq).symm.trans hv
 cases this
 exact ⟨r,Ext.refl _ _,rv⟩
theorem str_items {z : Str} {i : Nat} {c : Nat} (h : z.cps[i]? = some c) : (z.cps.toList.map fun c=>U.d (.str ⟨#[c]⟩))[i]? = some (.d (.str ⟨#[c]⟩)):=by
 rw [List.getElem?_map,Array.getElem?_toList,h]; rfl
theorem isIt_str {z : Str} : IsIt K m H (Its z) (.lst (z.cps.toList.map fun c=>.d (.str ⟨#[c]⟩))):=by
 have hl : (z.cps.toList.map fun c=>U.d (.str ⟨#[c]⟩)).length = z.cps.size:=by rw [List.length_map,Array.length_toList]
 refine ⟨fun i m' st' H' hi r e=>(by rw [hl] at hi; exact hi),fun m' st' H' r e=>(by rw [hl]; exact Nat.le_refl _),fun i u m' st' H' x H'' hu r e y=>?_⟩
 obtain ⟨rfl,c,hc,rfl⟩:=y
 rw [str_items hc] at hu
 cases hu
 exact ⟨r,Ext.refl _ _,rfl⟩
theorem isIt_rng {lo : Int} {n : Nat} : IsIt K m H (Itr lo n) (.lst ((List.range n).map fun i=>.d (.int (lo + (i : Nat))))):=by
 have hl : ((List.range n).map fun i=>U.d (.int (lo + (i : Nat)))).length = n:=by rw [List.length_map,List.length_range]
 refine ⟨fun i m' st' H' hi r e=>(by rw [hl] at hi; exact hi),fun m' st' H' r e=>(by rw [hl]; exact Nat.le_refl _),fun i u m' st' H' x H'' hu r e y=>?_⟩
 obtain ⟨rfl,rfl⟩:=y
 have hi : i < n:=by have:=(List.getElem?_eq_some_iff.mp hu).1; rw [hl] at this; exact this
 rw [List.getElem?_map,List.getElem?_range hi] at hu
 cases hu
 exact ⟨r,Ext.refl _ _,rfl⟩
end
section
variable {X : Cx} {W : WX} {tg e : Expr} {es : List Expr} {fe : F U} {fs : F (List U)} {pos p : Pos}
theorem d_iter (he : DE X W e fe) : DI X W tg e (fIter fe):=⟨PI.imp (PI.or (pi_list he.pe) (PI.or (pi_tup he.pe) (pi_str he.pe))) fun σ H R ⟨m,env,st,r,re,p⟩=>by
 unfold fIter at p
 have run : ∀ (Z : VK),(∀ a st1 v m1 H1,fe env st = .ok a st1 → RpU X.K m1 H1 a v → Rep X.K m1 st1 H1 → RpEnv X.K m1 H1 env σ → Ext m H m1 H1 → Z v H1) → tF X.K W fe σ H Z:=fun Z hz=>by
  refine ⟨m,env,st,r,re,?_⟩
  unfold bnd at p
  cases e : fe env st with
  | ok a st1=>exact fun v m1 H1 h1 h2 h3=>hz a st1 v m1 H1 e h1 h2 (re.ext h3) h3
  | ex c fs st1=>simp only [e] at p; exact p
  | bad=>simp only [e] at p; exact p.elim
 cases e : fe env st with
 | bad=>unfold bnd at p; simp only [e] at p; exact p.elim
 | ex c fs st1=>exact .inl (run _ fun a st2 v m1 H1 q=>by rw [e] at q; cases q)
 | ok u st1 =>
  have e2 : ∀ {t : Itb},itV st1 u = some t → bnd fe (fun u=>fun _ st=>VL.R.of st (itV st u)) env st = .ok t st1:=fun {t} h=>by unfold bnd; simp only [e,h]; rfl
  cases hi : itV st1 u with
  | none=>unfold bnd at p; simp only [e,hi] at p; exact p.elim
  | some t =>
   rw [e2 hi] at p
   have fin : ∀ {m1 H1},Rep X.K m1 st1 H1 → Ext m H m1 H1 → ∀ J,IsIt X.K m1 H1 J t → R J H1:=fun {m1 H1} r1 e1 J hJ=>p t m1 H1 rfl r1 e1 m1 st1 rfl r1 e1 J hJ
   unfold itV at hi
   split at hi
   ·cases hi
    exact .inl (run _ fun a st2 v m1 H1 q h1 h2 h3 h4=>by
     rw [e] at q; cases q
     obtain ⟨b,vs,rfl,g1,g2⟩:=h1
     exact ⟨b,rfl,⟨vs,g1.sq⟩,fin h2 h4 _ (isIt_lst (fun m' H' e'=>(g1.stay e'.toStay).sq) (RpUs.ofD g2))⟩)
   ·cases hi
    exact .inl (run _ fun a st2 v m1 H1 q h1 h2 h3 h4=>by
     rw [e] at q; cases q
     obtain ⟨b,rfl,g1⟩:=h1
     exact ⟨b,rfl,⟨_,g1.sq⟩,fin h2 h4 _ (isIt_lst (fun m' H' e'=>(g1.stay e'.toStay).sq) (RpUs.ints _))⟩)
   ·cases hi
    exact .inr (.inl (run _ fun a st2 v m1 H1 q h1 h2 h3 h4=>by
     rw [e] at q; cases q
     obtain ⟨b,vs,rfl,g1,g2⟩:=h1
     exact ⟨b,rfl,⟨vs,g1.sq⟩,fin h2 h4 _ (isIt_tup (fun m' H' e'=>(g1.stay e'.toStay).sq) (RpUs.ofD g2))⟩))
   ·cases hi
    exact .inr (.inr (run _ fun a st2 v m1 H1 q h1 h2 h3 h4=>by
     rw [e] at q; cases q
     exact ⟨_,h1,fin h2 h4 _ isIt_str⟩))
   ·split at hi
    ·rename_i us hs
     cases hi
     exact .inl (run _ fun a st2 v m1 H1 q h1 h2 h3 h4=>by
      rw [e] at q; cases q
      obtain ⟨b,hb,rfl⟩:=h1
      obtain ⟨ho,k1,vs,k2,k3⟩:=h2.cell _ _ b hs hb
      subst k2
      exact ⟨b,rfl,⟨vs,.inl (.inl k1)⟩,fin h2 h4 _ (isIt_cell hb)⟩)
    ·cases hi
   ·cases hi⟩
/-- range(n),range(a,b) -/
noncomputable def itR (us : List U) : Option Itb:=match us with
 | [.d (.int j)]=>if -(2 ^ 62) ≤ j ∧ j < 2 ^ 62 then some (.lst ((List.range j.toNat).map fun i=>.d (.int (0 + (i : Nat))))) else none
 | _=>none
noncomputable def fItN (g : List U → Option Itb) (f : F (List U)) : F Itb:=bnd f fun us=>fun _ st=>.of st (g us)
theorem t_itN {g : List U → Option Itb} {σ : L2.St} {H : Hp} {R : It → Hp → Prop} (h : tI X.K W (fItN g fs) σ H R) {Z : List V → Hp → Prop}
  (hz : ∀ us vs m1 st1 H1 t,RpUs X.K m1 H1 us vs → Rep X.K m1 st1 H1 → g us = some t → (∀ J,IsIt X.K m1 H1 J t → R J H1) → Z vs H1) : tFs X.K W fs σ H Z:=by
 obtain ⟨m,env,st,r,re,p⟩:=h
 refine ⟨m,env,st,r,re,?_⟩
 unfold fItN at p
 cases e : fs env st with
 | bad=>unfold bnd at p; simp only [e] at p; exact p.elim
 | ex c fs st1=>unfold bnd at p; simp only [e] at p; exact p
 | ok us st1 =>
  intro vs m1 H1 h1 r1 e1
  cases hi : g us with
  | none=>unfold bnd at p; simp only [e,hi] at p; exact p.elim
  | some t =>
   have e2 : bnd fs (fun us=>fun _ st=>VL.R.of st (g us)) env st = .ok t st1:=by unfold bnd; simp only [e,hi]; rfl
   rw [e2] at p
   exact hz us vs m1 st1 H1 t h1 r1 hi fun J hJ=>p t m1 H1 rfl r1 e1 m1 st1 rfl r1 e1 J hJ
theorem d_range1 {a : Expr} (hm : X.mg "range" = none) (ha : DA X W [a] fs) (hg : Gl X "range":=by rfl) (hs : starEach [a] X.env = [(false,eval a X.env)]:=by rfl) : DI X W tg (.Call (.Name "range" p) [a] [] pos) (fItN itR fs) :=
 ⟨PI.imp (pi_range1 hg hm ha.pa hs) fun σ H R h=>t_itN h fun us vs m1 st1 H1 t h1 r1 ht q=>by
  unfold itR at ht
  split at ht
  ·split at ht
   ·rename_i hb
    cases ht
    obtain ⟨v,_,rfl,rfl,rfl⟩:=h1
    exact ⟨_,rfl,hb.1,hb.2,q _ isIt_rng⟩
   ·cases ht
  ·cases ht⟩
end
/-- pairs of an index,an item -/
noncomputable def pairsFrom : Nat → List D → List U
 | _,[]=>[]
 | i,d :: ds=>.d (.tup [.int (i : Nat),d]) :: pairsFrom (i + 1) ds
theorem pairsFrom_get : ∀ (ds : List D) (k i : Nat) (u : U),(pairsFrom k ds)[i]? = some u → ∃ d,ds[i]? = some d ∧ u = .d (.tup [.int ((k + i : Nat) : Int),d])
 | [],k,i,u,h=>by simp [pairsFrom] at h
 | d :: ds,k,0,u,h=>by simp [pairsFrom] at h; exact ⟨d,rfl,h.symm⟩
 | d :: ds,k,i + 1,u,h=>by
  obtain ⟨d',h1,h2⟩:=pairsFrom_get ds (k + 1) i u (by simpa [pairsFrom] using h)
  exact ⟨d',by simpa using h1,by rw [h2]; congr 4; simp; omega⟩
theorem pairsFrom_length : ∀ (ds : List D) (k : Nat),(pairsFrom k ds).length = ds.length
 | [],_=>rfl
 | d :: ds,k=>by rw [pairsFrom,List.length_cons,List.length_cons,pairsFrom_length]
noncomputable def itE (st : Store) (us : List U) : Option Itb:=match us with
 | [.d (.lst ds)]=>some (.lst (pairsFrom 0 ds))
 | [.d (.scr ns)]=>some (.lst (pairsFrom 0 (ns.map .int)))
 | [.ref n]=>match st[n]? with
  | some (.lst _)=>some (.cell n fun i u=>match u with
   | .d x=>some (.d (.tup [.int (i : Nat),x]))
   | _=>none)
  | _=>none
 | _=>none
noncomputable def zipD : List D → List D → List U
 | x :: xs,y :: ys=>.d (.tup [x,y]) :: zipD xs ys
 | _,_=>[]
theorem zipD_get : ∀ (xs ys : List D) (i : Nat) (u : U),(zipD xs ys)[i]? = some u → ∃ x y,xs[i]? = some x ∧ ys[i]? = some y ∧ u = .d (.tup [x,y])
 | [],ys,i,u,h=>by simp [zipD] at h
 | x :: xs,[],i,u,h=>by simp [zipD] at h
 | x :: xs,y :: ys,0,u,h=>by simp [zipD] at h; exact ⟨x,y,rfl,rfl,h.symm⟩
 | x :: xs,y :: ys,i + 1,u,h=>by
  obtain ⟨a,b,h1,h2,h3⟩:=zipD_get xs ys i u (by simpa [zipD] using h)
  exact ⟨a,b,by simpa using h1,by simpa using h2,h3⟩
theorem zipD_length : ∀ (xs ys : List D),(zipD xs ys).length = min xs.length ys.length
 | [],ys=>by simp [zipD]
 | x :: xs,[]=>by simp [zipD]
 | x :: xs,y :: ys=>by rw [zipD,List.length_cons,zipD_length,List.length_cons,List.length_cons]; omega
section
variable {K : PySem.W.Frag} {m : List Addr} {H : Hp} {st : Store}
theorem pair_new (r : Rep K m st H) {T : Addr} (nT : H T = none) {a b : D} {x y : V} (h1 : RpD K m H a x) (h2 : RpD K m H b y) : Rep K m st (upd H T (.tup [x,y])) ∧ Ext m H m (upd H T (.tup [x,y])) ∧ RpU K m (upd H T (.tup [x,y])) (.d (.tup [a,b])) (.ref T) :=
 ⟨r.new nT _,ext_new r nT _,new_tup r nT ⟨x,_,rfl,h1,y,_,rfl,h2,rfl⟩⟩
theorem isIt_enum {a : Addr} {ds : List D} {vs : List V} (hs : ∀ m' H',Ext m H m' H' → SqL K H' a vs) (hr : RpDs K m H ds vs) : IsIt K m H (Ite K a) (.lst (pairsFrom 0 ds)):=by
 have hl:=hr.length
 have hl2:=pairsFrom_length ds 0
 refine ⟨fun i m' st' H' hi r e=>(walk_enum (K:=K) (a:=a) (xs:=vs)).goes i H' (by omega) (hs m' H' e),fun m' st' H' r e=>(by rw [hl2,← hl]; exact (walk_enum (K:=K) (a:=a) (xs:=vs)).stops H' (hs m' H' e)),fun i u m' st' H' x H'' hu r e y=>?_⟩
 have hi:=(List.getElem?_eq_some_iff.mp hu).1
 obtain ⟨T,x1,y1,rfl,nT,rfl,e1,e2⟩:=(walk_enum (K:=K) (a:=a) (xs:=vs)).yields i H' x H'' (by omega) (hs m' H' e) y
 cases e1
 obtain ⟨d,hd,rfl⟩:=pairsFrom_get ds 0 i u hu
 obtain ⟨v,hv,rv⟩:=hr.get hd
 cases hv.symm.trans e2
 rw [Nat.zero_add]
 exact pair_new r nT (a:=.int (i : Nat)) rfl (rv.ext e)
theorem isIt_enumC {a : Addr} {n : Nat} (hn : m[n]? = some a) : IsIt K m H (Ite K a) (.cell n fun i u=>match u with
  | .d x=>some (.d (.tup [.int (i : Nat),x]))
  | _=>none):=by
 intro us m' st' H' r e hs
 have hn' : m'[n]? = some a:=by
  obtain ⟨t,rfl⟩:=e.pre
  rw [List.getElem?_append_left (List.getElem?_eq_some_iff.mp hn).1]; exact hn
 obtain ⟨ho,h1,vs,e2,h2⟩:=r.cell n _ a hs hn'
 subst e2
 have hl:=h2.length
 have hq : SqL K H' a vs:=.inl (.inl h1)
 refine ⟨fun i hi=>(walk_enum (K:=K) (a:=a) (xs:=vs)).goes i H' (by omega) hq,fun i hi=>?_,fun i u w x H'' hu hw y=>?_⟩
 ·exact ⟨vs,hq,by omega⟩
 ·have hi:=(List.getElem?_eq_some_iff.mp hu).1
  obtain ⟨T,x1,y1,rfl,nT,rfl,e1,e2⟩:=(walk_enum (K:=K) (a:=a) (xs:=vs)).yields i H' x H'' (by omega) hq y
  cases e1
  obtain ⟨v,hv,rv⟩:=h2.get hu
  cases hv.symm.trans e2
  cases u with
  | ref k=>cases hw
  | d z=>cases hw; exact pair_new r nT (a:=.int (i : Nat)) rfl rv
theorem isIt_zip {a b : Addr} {xs ys : List D} {vs ws : List V} (hs : ∀ m' H',Ext m H m' H' → SqL K H' a vs ∧ SqL K H' b ws) (hx : RpDs K m H xs vs) (hy : RpDs K m H ys ws) : IsIt K m H (Itz K a b) (.lst (zipD xs ys)):=by
 have hl:=hx.length
 have hl':=hy.length
 have hl2:=zipD_length xs ys
 have wz:=walk_zip (K:=K) (a:=a) (b:=b) (xs:=vs) (ys:=ws) (n:=min vs.length ws.length) rfl
 refine ⟨fun i m' st' H' hi r e=>wz.goes i H' (by omega) (hs m' H' e),fun m' st' H' r e=>(by rw [hl2,← hl,← hl']; exact wz.stops H' (hs m' H' e)),fun i u m' st' H' x H'' hu r e y=>?_⟩
 have hi:=(List.getElem?_eq_some_iff.mp hu).1
 obtain ⟨T,x1,y1,rfl,nT,rfl,e1,e2⟩:=wz.yields i H' x H'' (by omega) (hs m' H' e) y
 obtain ⟨d1,d2,hd1,hd2,rfl⟩:=zipD_get xs ys i u hu
 obtain ⟨v,hv,rv⟩:=hx.get hd1
 obtain ⟨w,hw,rw'⟩:=hy.get hd2
 cases hv.symm.trans e1
 cases hw.symm.trans e2
 exact pair_new r nT (rv.ext e) (rw'.ext e)
end
section
variable {X : Cx} {W : WX} {e e2 : Expr} {fs : F (List U)} {pos p tpos : Pos} {elts : List Expr} {kk : Nat}
noncomputable def fItS (g : Store → List U → Option Itb) (f : F (List U)) : F Itb:=bnd f fun us=>fun _ st=>.of st (g st us)
theorem t_itS {g : Store → List U → Option Itb} {σ : L2.St} {H : Hp} {R : It → Hp → Prop} (h : tI X.K W (fItS g fs) σ H R) {Z : List V → Hp → Prop}
  (hz : ∀ us vs m1 st1 H1 t,RpUs X.K m1 H1 us vs → Rep X.K m1 st1 H1 → g st1 us = some t → (∀ J,IsIt X.K m1 H1 J t → R J H1) → Z vs H1) : tFs X.K W fs σ H Z:=by
 obtain ⟨m,env,st,r,re,p⟩:=h
 refine ⟨m,env,st,r,re,?_⟩
 unfold fItS at p
 cases e : fs env st with
 | bad=>unfold bnd at p; simp only [e] at p; exact p.elim
 | ex c fs st1=>unfold bnd at p; simp only [e] at p; exact p
 | ok us st1 =>
  intro vs m1 H1 h1 r1 e1
  cases hi : g st1 us with
  | none=>unfold bnd at p; simp only [e,hi] at p; exact p.elim
  | some t =>
   have e2 : bnd fs (fun us=>fun _ st=>VL.R.of st (g st us)) env st = .ok t st1:=by unfold bnd; simp only [e,hi]; rfl
   rw [e2] at p
   exact hz us vs m1 st1 H1 t h1 r1 hi fun J hJ=>p t m1 H1 rfl r1 e1 m1 st1 rfl r1 e1 J hJ
theorem d_enum (hm : X.mg "enumerate" = none) (ha : DA X W [e] fs) (hg : Gl X "enumerate":=by rfl) (hs : starEach [e] X.env = [(false,eval e X.env)]:=by rfl) : DI X W (.Tuple elts kk tpos) (.Call (.Name "enumerate" p) [e] [] pos) (fItS itE fs) :=
 ⟨PI.imp (pi_enum hg hm ha.pa hs) fun σ H R h=>t_itS h fun us vs m1 st1 H1 t h1 r1 ht q=>by
  unfold itE at ht
  split at ht
  ·cases ht
   obtain ⟨v,_,rfl,⟨a,ws,rfl,g1,g2⟩,rfl⟩:=h1
   exact ⟨a,ws,rfl,g1.sq,q _ (isIt_enum (fun m' H' e'=>(g1.stay e'.toStay).sq) g2)⟩
  ·cases ht
   rename_i ns
   obtain ⟨v,_,rfl,⟨a,rfl,g1⟩,rfl⟩:=h1
   exact ⟨a,_,rfl,g1.sq,q _ (isIt_enum (fun m' H' e'=>(g1.stay e'.toStay).sq) (RpDs.toD (by rw [List.map_map]; exact RpUs.ints ns)))⟩
  ·split at ht
   ·rename_i us hs
    cases ht
    obtain ⟨v,_,rfl,⟨a,ha,rfl⟩,rfl⟩:=h1
    obtain ⟨ho,k1,ws,k2,k3⟩:=r1.cell _ _ a hs ha
    subst k2
    exact ⟨a,ws,rfl,.inl (.inl k1),q _ (isIt_enumC ha)⟩
   ·cases ht
  ·cases ht⟩
end
end VL
namespace VL
open PySem PySem.Spec PyProof.Rows L2
noncomputable def okU (k : Nat) : U → Bool
 | .d _=>true
 | .ref n=>decide (n < k)
noncomputable def okO (k : Nat) : O → Bool
 | .lst us=>us.all (okU k)
 | .tup us=>us.all (okU k)
 | .dct us=>us.all fun p=>okU k p.2
 | .ins _ us=>us.all fun p=>okU k p.2
 | .tbl _ _=>true
 | .lck us=>us.all fun p=>okU k p.2
 | .kdc _ us=>us.all fun p=>okU k p.2
/-- no cell speaks of one that is not there -/
noncomputable def wfB (st : Store) : Bool:=st.all (okO st.length)
noncomputable def cutS (k : Nat) (st : Store) : Option Store:=if (st.take k).all (okO k) = true then some (st.take k) else none
theorem RpD.less {K : PySem.W.Frag} {m m' : List Addr} {H : Hp} (h : ∀ a,a ∉ m → a ∉ m') {d : D} {v : V} (r : RpD K m H d v) : RpD K m' H d v :=
 RpD.stay ⟨fun a o n e _ _=>⟨e,h a n⟩,fun a kvs n e=>⟨e,h a n⟩,fun _ _ _ e=>e⟩ d v r
section
variable {K : PySem.W.Frag} {m : List Addr} {H : Hp} {st : Store} {k : Nat}
theorem okU_rp {u : U} {v : V} (h : okU k u = true) (r : RpU K m H u v) : RpU K (m.take k) H u v:=by
 cases u with
 | d x=>exact RpD.less (fun a n z=>n (List.mem_of_mem_take z)) r
 | ref n =>
  obtain ⟨a,ha,e⟩:=r
  exact ⟨a,by rw [List.getElem?_take_of_lt (of_decide_eq_true h)]; exact ha,e⟩
theorem okUs_rp : ∀ {us : List U} {vs : List V},us.all (okU k) = true → RpUs K m H us vs → RpUs K (m.take k) H us vs
 | [],_,_,r=>r
 | u :: us,_,h,⟨v,t,e,h1,h2⟩=>by
  rw [List.all_cons,Bool.and_eq_true] at h
  exact ⟨v,t,e,okU_rp h.1 h1,okUs_rp h.2 h2⟩
theorem okUK_rp : ∀ {us : List (Key × U)} {vs : List (Key × V)},(us.all fun p=>okU k p.2) = true → RpUK K m H us vs → RpUK K (m.take k) H us vs
 | [],_,_,r=>r
 | (_,u) :: us,_,h,⟨v,t,e,h1,h2⟩=>by
  rw [List.all_cons,Bool.and_eq_true] at h
  exact ⟨v,t,e,okU_rp h.1 h1,okUK_rp h.2 h2⟩
theorem okUKd_rp : ∀ {us : List (D × U)} {vs : List (NestedKey × Addr × V)},(us.all fun p=>okU k p.2) = true → RpUKd K m H us vs → RpUKd K (m.take k) H us vs
 | [],_,_,r=>r
 | (_,u) :: us,_,h,⟨n,b,v,t,e,q,h0,h1,h2⟩=>by
  rw [List.all_cons,Bool.and_eq_true] at h
  exact ⟨n,b,v,t,e,q,RpD.less (fun a n z=>n (List.mem_of_mem_take z)) h0,okU_rp h.1 h1,okUKd_rp h.2 h2⟩
theorem okUF_rp : ∀ {us : List (Str × U)} {vs : List (Str × V)},(us.all fun p=>okU k p.2) = true → RpUF K m H us vs → RpUF K (m.take k) H us vs
 | [],_,_,r=>r
 | (_,u) :: us,_,h,⟨v,t,e,h1,h2⟩=>by
  rw [List.all_cons,Bool.and_eq_true] at h
  exact ⟨v,t,e,okU_rp h.1 h1,okUF_rp h.2 h2⟩
theorem okO_rp {b : Addr} {c : O} {o : HO} (h : okO k c = true) (r : RpO K m H b c o) : RpO K (m.take k) H b c o:=by
 cases c with
 | lst us=>obtain ⟨vs,e,q⟩:=r; exact ⟨vs,e,okUs_rp h q⟩
 | tup us=>obtain ⟨vs,e,q⟩:=r; exact ⟨vs,e,okUs_rp h q⟩
 | dct us=>obtain ⟨vs,e,q⟩:=r; exact ⟨vs,e,okUK_rp h q⟩
 | ins C us=>obtain ⟨dx,vs,e,q⟩:=r; exact ⟨dx,vs,e,okUF_rp h q⟩
 | lck us=>obtain ⟨ob,vs,e,q⟩:=r; exact ⟨ob,vs,e,okUK_rp h q⟩
 | kdc w us=>obtain ⟨o,vs,e,z,q⟩:=r; exact ⟨o,vs,e,z,okUKd_rp h q⟩
 | tbl P q=>obtain ⟨e,ps,e1,e2,g⟩:=r; exact ⟨e,ps,e1,e2,fun pos cv hc=>let ⟨c,g1,g2,g3⟩:=g pos cv hc; ⟨c,g1,fun z=>g2 (List.mem_of_mem_take z),g3⟩⟩
theorem Rep.cut (r : Rep K m st H) {s : Store} (e : cutS k st = some s) : Rep K (m.take k) s H:=by
 unfold cutS at e
 split at e
 ·rename_i h
  cases e
  refine ⟨by rw [List.length_take,List.length_take,r.len],r.nd.sublist (List.take_sublist _ _),fun n c a h1 h2=>?_⟩
  have hn : n < k:=by
   have:=(List.getElem?_eq_some_iff.mp h1).1
   rw [List.length_take] at this
   omega
  rw [List.getElem?_take_of_lt hn] at h1 h2
  obtain ⟨ho,e1,q⟩:=r.cell n c a h1 h2
  have hc : okO k c = true:=List.all_eq_true.mp h c (List.mem_of_getElem? (i:=n) (by rw [List.getElem?_take_of_lt hn]; exact h1))
  exact ⟨ho,e1,okO_rp hc q⟩
 ·cases e
theorem ext_cut {m0 : List Addr} {H0 : Hp} (e : Ext m0 H0 m H) (hk : m0.length ≤ k) : Ext m0 H0 (m.take k) H:=by
 refine ⟨?_,e.toStay.less fun _ z=>List.mem_of_mem_take z⟩
 obtain ⟨t,rfl⟩:=e.pre
 rw [List.take_append,List.take_of_length_le hk]
 exact List.prefix_append _ _
end
noncomputable def wipeE (env : VEnv) : List Nat → VEnv
 | []=>env
 | v :: vs=>(wipeE env vs).set v none
noncomputable def lcStep (k : Nat) (tg : U → G) (tt : F Bool) (fe : F U) (env0 : VEnv) (u : U) : Store → R Unit:=fun st=>match tg u env0 st with
 | .ok env1 .nx st1=>match tt env1 st1 with
  | .ok true st2=>match fe env1 st2 with
   | .ok x st3=>match st3[k]? with
    | some (.lst acc)=>if acc.length < sizeLine then .ok () (st3.set k (.lst (acc ++ [x]))) else .bad
    | _=>.bad
   | _=>.bad
  | .ok false st2=>.ok () st2
  | _=>.bad
 | _=>.bad
noncomputable def lcL (k : Nat) (tg : U → G) (tt : F Bool) (fe : F U) (env0 : VEnv) : List U → Store → R Unit
 | []=>fun st=>.ok () st
 | u :: us=>fun st=>match lcStep k tg tt fe env0 u st with
  | .ok _ st1=>lcL k tg tt fe env0 us st1
  | _=>.bad
noncomputable def lcC (k : Nat) (tg : U → G) (tt : F Bool) (fe : F U) (env0 : VEnv) (n : Nat) (f : Nat → U → Option U) : Nat → Nat → Store → R Unit
 | 0,_=>fun _=>.bad
 | j + 1,i=>fun st=>match st[n]? with
  | some (.lst us)=>match us[i]? with
   | none=>.ok () st
   | some u=>match f i u with
    | none=>.bad
    | some w=>match lcStep k tg tt fe env0 w st with
     | .ok _ st1=>lcC k tg tt fe env0 n f j (i + 1) st1
     | _=>.bad
  | _=>.bad
noncomputable def lcEnd (k : Nat) : R Unit → R U
 | .ok _ st=>match st[k]? with
  | some (.lst us)=>match pureL us,cutS k st with
   | some ds,some s=>.ok (.d (.lst ds)) s
   | _,_=>.bad
  | _=>.bad
 | _=>.bad
noncomputable def fLc (fi : F Itb) (tg : U → G) (tt : F Bool) (fe : F U) (vs : List Nat) : F U:=bnd fi fun t=>fun env st=>match t with
 | .lst us=>lcEnd st.length (lcL st.length tg tt fe (wipeE env vs) us (st ++ [.lst []]))
 | .cell n f=>match st[n]? with
  | some (.lst us)=>lcEnd st.length (lcC st.length tg tt fe (wipeE env vs) n f (us.length + 1) 0 (st ++ [.lst []]))
  | _=>.bad
noncomputable def tYesB : F Bool:=fPure true
section
variable {K : PySem.W.Frag} {m : List Addr} {H : Hp} {st : Store}
theorem RpEnv.wipe {env : VEnv} {σ : L2.St} (h : RpEnv K m H env σ) : ∀ vs : List Nat,RpEnv K m H (wipeE env vs) (wipe σ vs)
 | []=>h
 | v :: vs=>by
  have ih:=RpEnv.wipe h vs
  refine ⟨by show ((wipeE env vs).set v none).length = ((L2.wipe σ vs).set v none).length; rw [List.length_set,List.length_set]; exact ih.len,fun i u hi=>?_⟩
  have hi' : ((wipeE env vs).set v none)[i]? = some (some u):=hi
  by_cases e : v = i
  ·subst e
   by_cases hv : v < (wipeE env vs).length
   ·rw [List.getElem?_set_self hv] at hi'; cases hi'
   ·rw [List.getElem?_eq_none (by rw [List.length_set]; omega)] at hi'; cases hi'
  ·rw [List.getElem?_set_ne e] at hi'
   obtain ⟨x,h1,h2⟩:=ih.at' i u hi'
   exact ⟨x,by show ((L2.wipe σ vs).set v none)[i]? = _; rw [List.getElem?_set_ne e]; exact h1,h2⟩
theorem wipe_get {σ : L2.St} : ∀ {vs : List Nat} {i : Nat},(L2.wipe σ vs)[i]? = if i ∈ vs then (σ[i]?).map (fun _=>none) else σ[i]?
 | [],i=>by simp [L2.wipe]
 | v :: vs,i=>by
  show ((L2.wipe σ vs).set v none)[i]? = _
  by_cases e : v = i
  ·subst e
   rw [if_pos (List.mem_cons_self)]
   by_cases hv : v < σ.length
   ·rw [List.getElem?_set_self (by rw [wipe_length]; exact hv),List.getElem?_eq_getElem hv]; rfl
   ·rw [List.getElem?_eq_none (by rw [List.length_set,wipe_length]; omega),List.getElem?_eq_none (by omega)]; rfl
  ·rw [List.getElem?_set_ne e,wipe_get]
   have : (i ∈ v :: vs) ↔ i ∈ vs:=by simp [Ne.symm e]
   by_cases h : i ∈ vs
   ·rw [if_pos h,if_pos (this.mpr h)]
   ·rw [if_neg h,if_neg (fun z=>h (this.mp z))]
theorem wipe_out {is vs : List Nat} {σ σ' : L2.St} (h : ∀ i ∈ is,i ∈ vs) (o : Out is (L2.wipe σ vs) σ') : L2.wipe σ' vs = L2.wipe σ vs:=by
 apply List.ext_getElem?
 intro i
 rw [wipe_get]
 by_cases hi : i ∈ vs
 ·rw [if_pos hi,wipe_get,if_pos hi]
  have hl : σ'.length = σ.length:=by rw [o.1,wipe_length]
  by_cases h2 : i < σ.length
  ·rw [List.getElem?_eq_getElem h2,List.getElem?_eq_getElem (by omega)]; rfl
  ·rw [List.getElem?_eq_none (by omega),List.getElem?_eq_none (by omega)]
 ·rw [if_neg hi]
  exact o.2 i fun z=>hi (h i z)
end
/-- a clause's tests -/
structure DTs (X : Cx) (W : WX) (es : List Expr) (f : F Bool) : Prop where
 pts : PTs X es (tFB X.K W f)
section
variable {X : Cx} {W : WX} {c : Expr} {fc : F Bool}
theorem dts_nil : DTs X W [] tYesB:=⟨⟨fun pins s σ H Q I ⟨m,env,st,r,re,p⟩=>pts_nil.run pins s σ H Q I (p true m H rfl r (Ext.refl _ _))⟩⟩
theorem dts_one (h : DT X W c fc) : DTs X W [c] fc:=⟨pts_one h.pt⟩
end
noncomputable def W0 : WX:=fun _ _ _ _=>False
section
variable {X : Cx} {W : WX} {elt tg iter : Expr} {ifs : List Expr} {scope : Scope} {own : List (Str × Nat)} {pos : Pos} {is : List Nat} {g : U → G} {gt : F Bool} {fe : F U} {fi : F Itb}
theorem pre_get {α : Type} {m m' : List α} (p : m <+: m') {k : Nat} {a : α} (h : m[k]? = some a) : m'[k]? = some a:=by
 obtain ⟨t,rfl⟩:=p
 rw [List.getElem?_append_left (List.getElem?_eq_some_iff.mp h).1]; exact h
/-- what holds between two turns -/
structure LcI (K : PySem.W.Frag) (m1 : List Addr) (H1 : Hp) (k : Nat) (D0 : Addr) (m' : List Addr) (st' : Store) (H' : Hp) : Prop where
 rep : Rep K m' st' H'
 ext : Ext m1 H1 m' H'
 at' : m'[k]? = some D0
/-- one turn -/
theorem lc_turn {K : PySem.W.Frag} {σ : L2.St} {env : VEnv} {m1 m' : List Addr} {H1 H'' : Hp} {st' : Store} {u : U} {x : V} {k : Nat} {D0 : Addr} {Nx : Hp → Prop} {vs is : List Nat} {rest : Store → R Unit} {Q : VK} {E : XK}
  (hvs : ∀ i ∈ is,i ∈ vs) (I : LcI K m1 H1 k D0 m' st' H'') (hk : k = m1.length) (h0 : H1 D0 = none) (re : RpEnv K m' H'' (wipeE env vs) (L2.wipe σ vs)) (ru : RpU K m' H'' u x)
  (p : PU K m1 H1 Q E (lcEnd k (match lcStep k g gt fe (wipeE env vs) u st' with
   | .ok _ st1=>rest st1
   | _=>.bad)))
  (hN : ∀ m2 st2 H2,LcI K m1 H1 k D0 m2 st2 H2 → RpEnv K m2 H2 (wipeE env vs) (L2.wipe σ vs) → PU K m1 H1 Q E (lcEnd k (rest st2)) → Nx H2) :
  tTg K is g x (L2.wipe σ vs) H'' fun σ2 H2=>L2.wipe σ2 vs = L2.wipe σ vs ∧ tFB K W0 gt σ2 H2 fun b H3 =>
   if b = true then tF K W0 fe σ2 H3 fun y H4=>∃ acc,H4 D0 = some (.lst acc) ∧ acc.length < sizeLine ∧ Nx (upd H4 D0 (.lst (acc ++ [y]))) else Nx H3:=by
 refine ⟨m',_,st',u,I.rep,re,ru,?_⟩
 unfold lcStep at p
 split
 ·rename_i env1 st1 e1
  simp only [e1] at p
  intro σ2 m2 H2 re2 r2 x2 o2
  refine ⟨wipe_out hvs o2,m2,env1,st1,r2,re2,?_⟩
  cases e2 : gt env1 st1 with
  | bad=>simp only [e2] at p; exact p.elim
  | ex c fs st2=>simp only [e2] at p; exact p.elim
  | ok b st2 =>
   simp only [e2] at p
   intro b' m3 H3 hb r3 x3
   subst hb
   cases b' with
   | false =>
    refine iteF (hN m3 st2 H3 ⟨r3,I.ext.trans (x2.trans x3),pre_get (x2.trans x3).pre I.at'⟩ (re.ext (x2.trans x3)) p)
   | true =>
    refine iteT ⟨m3,env1,st2,r3,re2.ext x3,?_⟩
    cases e3 : fe env1 st2 with
    | bad=>simp only [e3] at p; exact p.elim
    | ex c fs st3=>simp only [e3] at p; exact p.elim
    | ok z st3 =>
     simp only [e3] at p
     intro y m4 H4 ry r4 x4
     have x24:=x2.trans (x3.trans x4)
     have hat:=pre_get x24.pre I.at'
     cases hacc : st3[k]? with
     | none=>simp only [hacc] at p; exact p.elim
     | some cell =>
     cases cell with
     | dct _=>simp only [hacc] at p; exact p.elim
     | tup _=>simp only [hacc] at p; exact p.elim
     | ins _ _=>simp only [hacc] at p; exact p.elim
     | lck _=>simp only [hacc] at p; exact p.elim
     | kdc _ _=>simp only [hacc] at p; exact p.elim
     | tbl _ _=>simp only [hacc] at p; exact p.elim
     | lst acc =>
      simp only [hacc] at p
      by_cases hlen : acc.length < sizeLine
      ·rw [if_pos hlen] at p
       obtain ⟨ho,g1,ws,g2,g3⟩:=r4.cell k _ D0 hacc hat
       subst g2
       refine ⟨ws,g1,by rw [g3.length]; exact hlen,?_⟩
       have hm : D0 ∈ m4:=List.mem_of_getElem? hat
       have rW : Rep K m4 (st3.set k (.lst (acc ++ [z]))) (upd H4 D0 (.lst (ws ++ [y]))) :=
        r4.write hat ⟨_,rfl,(g3.append (show RpUs K m4 H4 [z] [y] from ⟨y,_,rfl,ry,rfl⟩)).ext (ext_write hm _ (nf_l g1))⟩ (nf_l g1)
       have eW : Ext m1 H1 m4 (upd H4 D0 (.lst (ws ++ [y]))):=(I.ext.trans x24).trans (ext_write hm _ (nf_l g1))
       exact hN m4 _ _ ⟨rW,eW,hat⟩ ((re.ext x24).ext (ext_write hm _ (nf_l g1))) p
      ·rw [if_neg hlen] at p; exact p.elim
 ·rename_i hn
  split at p
  ·rename_i q
   split at q
   ·rename_i env1 st1 e1
    exact (hn env1 st1 e1).elim
   ·cases q
  ·exact p.elim
theorem lc_fin {K : PySem.W.Frag} {m1 m' : List Addr} {H1 H' : Hp} {st' : Store} {k : Nat} {D0 : Addr} {Q : VK} {E : XK} (I : LcI K m1 H1 k D0 m' st' H') (hk : k = m1.length) (p : PU K m1 H1 Q E (lcEnd k (.ok () st'))) : Q (.ref D0) H':=by
 unfold lcEnd at p
 simp only at p
 split at p
 ·rename_i us hus
  split at p
  ·rename_i ds s hd hs
   obtain ⟨ho,g1,ws,g2,g3⟩:=I.rep.cell k _ D0 hus I.at'
   subst g2
   have hnot : D0 ∉ m'.take k:=fun z=>by
    obtain ⟨j,hj,e⟩:=List.mem_iff_getElem.mp z
    rw [List.length_take] at hj
    rw [List.getElem_take] at e
    obtain ⟨hk',e'⟩:=List.getElem?_eq_some_iff.mp I.at'
    have:=(List.getElem_inj I.rep.nd).mp (e.trans e'.symm)
    omega
   refine p _ (m'.take k) H' ⟨D0,ws,rfl,⟨hnot,g1⟩,?_⟩ (I.rep.cut hs) (ext_cut I.ext (by omega))
   have:=pureL_rp g3 hd
   exact RpDs.stay ⟨fun a o n e _ _=>⟨e,fun z=>n (List.mem_of_mem_take z)⟩,fun a kvs n e=>⟨e,fun z=>n (List.mem_of_mem_take z)⟩,fun _ _ _ e=>e⟩ _ _ this
  ·exact p.elim
 ·exact p.elim
theorem t_lc {vs : List Nat} (hvs : ∀ i ∈ is,i ∈ vs) {σ : L2.St} {H : Hp} {Q : VK} (q : tF X.K W (fLc fi g gt fe vs) σ H Q) :
  tLc (tI X.K W fi) (tTg X.K is g) (tFB X.K W0 gt) (tF X.K W0 fe) vs σ H Q:=by
 obtain ⟨m,env,st,r,re,p⟩:=q
 refine ⟨m,env,st,r,re,?_⟩
 unfold fLc bnd at p
 cases e : fi env st with
 | bad=>rw [e] at p; exact p.elim
 | ex c fs st1=>rw [e] at p; exact p
 | ok t st1 =>
  rw [e] at p
  intro t' m0 H0 ht r0 e0 m1 st1' he r1 e1 J hJ D0 hD0
  subst ht
  cases he
  have re1:=re.ext e1
  have p1:=PO'.from e1 p
  have hpush:=push_lst r1 hD0 (us:=[]) (vs:=[]) rfl
  have start : LcI X.K m1 H0 m1.length D0 (m1 ++ [D0]) (st1 ++ [.lst []]) (upd H0 D0 (.lst [])):=⟨hpush.2,ext_push r1 hD0 _,by simp⟩
  have reS : RpEnv X.K (m1 ++ [D0]) (upd H0 D0 (.lst [])) (wipeE env vs) (L2.wipe σ vs):=(re1.ext (ext_push r1 hD0 _)).wipe vs
  have hlen:=r1.len
  cases t' with
  | lst us =>
   simp only [← hlen] at p1
   obtain ⟨go,stop,yld⟩:=hJ
   refine ⟨fun i n H=>∃ m' st',LcI X.K m1 H0 m1.length D0 m' st' H ∧ RpEnv X.K m' H (wipeE env vs) (L2.wipe σ vs) ∧ n = us.length - i ∧ i ≤ us.length ∧ PU X.K m1 H0 Q (fun c d H'=>W c d σ H') (lcEnd m1.length (lcL m1.length g gt fe (wipeE env vs) (us.drop i) st')),
    ⟨us.length,_,_,start,reS,by simp,Nat.zero_le _,p1⟩,?_⟩
   rintro i n H' ⟨m',st',I,re',rfl,hi,p'⟩
   by_cases hlt : i < us.length
   ·have hu : us[i]? = some us[i]:=List.getElem?_eq_getElem hlt
    rw [List.drop_eq_getElem_cons hlt] at p'
    refine .inr ⟨go i m' st' H' hlt I.rep I.ext,fun H2=>∃ m2 st2,LcI X.K m1 H0 m1.length D0 m2 st2 H2 ∧ RpEnv X.K m2 H2 (wipeE env vs) (L2.wipe σ vs) ∧ PU X.K m1 H0 Q (fun c d H'=>W c d σ H') (lcEnd m1.length (lcL m1.length g gt fe (wipeE env vs) (us.drop (i + 1)) st2)),?_,?_⟩
    ·rintro H2 ⟨m2,st2,I2,re2,p2⟩
     exact ⟨us.length - (i + 1),by omega,m2,st2,I2,re2,rfl,hlt,p2⟩
    ·intro x H'' hy
     obtain ⟨r2,e2,ru⟩:=yld i _ m' st' H' x H'' hu I.rep I.ext hy
     exact lc_turn hvs ⟨r2,I.ext.trans e2,I.at'⟩ rfl hD0 (re'.ext e2) ru p' fun m2 st2 H2 I2 re2 p2=>⟨m2,st2,I2,re2,p2⟩
   ·have : i = us.length:=by omega
    subst this
    rw [List.drop_length] at p'
    exact .inl ⟨stop m' st' H' I.rep I.ext,lc_fin I rfl p'⟩
  | cell n f =>
   simp only at p1
   split at p1
   ·rename_i us0 hs0
    simp only [← hlen] at p1
    refine ⟨fun i j H=>∃ m' st',LcI X.K m1 H0 m1.length D0 m' st' H ∧ RpEnv X.K m' H (wipeE env vs) (L2.wipe σ vs) ∧ PU X.K m1 H0 Q (fun c d H'=>W c d σ H') (lcEnd m1.length (lcC m1.length g gt fe (wipeE env vs) n f j i st')),
     ⟨us0.length + 1,_,_,start,reS,p1⟩,?_⟩
    rintro i j H' ⟨m',st',I,re',p'⟩
    cases j with
    | zero=>exact p'.elim
    | succ j =>
     unfold lcC at p'
     split at p'
     ·rename_i us hs
      obtain ⟨go,stop,yld⟩:=hJ us m' st' H' I.rep I.ext hs
      cases hu : us[i]? with
      | none =>
       simp only [hu] at p'
       exact .inl ⟨stop i (List.getElem?_eq_none_iff.mp hu),lc_fin I rfl p'⟩
      | some u =>
       simp only [hu] at p'
       cases hf : f i u with
       | none=>simp only [hf] at p'; exact p'.elim
       | some w =>
        simp only [hf] at p'
        refine .inr ⟨go i (List.getElem?_eq_some_iff.mp hu).1,fun H2=>∃ m2 st2,LcI X.K m1 H0 m1.length D0 m2 st2 H2 ∧ RpEnv X.K m2 H2 (wipeE env vs) (L2.wipe σ vs) ∧ PU X.K m1 H0 Q (fun c d H'=>W c d σ H') (lcEnd m1.length (lcC m1.length g gt fe (wipeE env vs) n f j (i + 1) st2)),?_,?_⟩
        ·rintro H2 ⟨m2,st2,I2,re2,p2⟩
         exact ⟨j,Nat.lt_succ_self j,m2,st2,I2,re2,p2⟩
        ·intro x H'' hy
         obtain ⟨r2,e2,ru⟩:=yld i u w x H'' hu hf hy
         exact lc_turn hvs ⟨r2,I.ext.trans e2,I.at'⟩ rfl hD0 (re'.ext e2) ru p' fun m2 st2 H2 I2 re2 p2=>⟨m2,st2,I2,re2,p2⟩
     ·exact p'.elim
   ·exact p1.elim
theorem d_lc (hc : X.calm = true) (hN : X.N.Nodup) (hi : DI X W tg iter fi) (ok : BlkOk X.N X.env.scope scope own)
  (hg : ∀ (s : Shared) (H : Hp) (C : Addr) (cl : List (Str × Addr)) (fp : List Addr),DG (X.blk s H scope (compEnvC scope cl C X.env) fp) tg is g)
  (ht : ∀ (s : Shared) (H : Hp) (C : Addr) (cl : List (Str × Addr)) (fp : List Addr),DTs (X.blk s H scope (compEnvC scope cl C X.env) fp) W0 ifs gt)
  (he : ∀ (s : Shared) (H : Hp) (C : Addr) (cl : List (Str × Addr)) (fp : List Addr),DE (X.blk s H scope (compEnvC scope cl C X.env) fp) W0 elt fe)
  (hvs : ∀ i ∈ is,i ∈ own.map (·.2):=by decide) (hs : ∀ x,foldedSetIterable iter X.env x = pure x:=by intro _; rfl) :
  DE X W (.ListComp elt [⟨tg,iter,ifs,0⟩] scope pos) (fLc fi g gt fe (own.map (·.2))) :=
 ⟨PE.imp (pe_lc hc hN hi.pi ok (fun s H C cl fp=>(hg s H C cl fp).pg) (fun s H C cl fp=>(ht s H C cl fp).pts) (fun s H C cl fp=>(he s H C cl fp).pe) hs) fun _ _ _ q=>t_lc hvs q⟩
/-- name = [..] -/
theorem ds_setLc (i : Nat) {y : Str} {py spos : Pos} (hc : X.calm = true) (hN : X.N.Nodup) (hsw : swapsWith (.ListComp elt [⟨tg,iter,ifs,0⟩] scope pos) (some (.Name y py)) spos.line X.env = pure true) (hi : DI X W tg iter fi) (ok : BlkOk X.N X.env.scope scope own)
  (hg : ∀ (s : Shared) (H : Hp) (C : Addr) (cl : List (Str × Addr)) (fp : List Addr),DG (X.blk s H scope (compEnvC scope cl C X.env) fp) tg is g)
  (ht : ∀ (s : Shared) (H : Hp) (C : Addr) (cl : List (Str × Addr)) (fp : List Addr),DTs (X.blk s H scope (compEnvC scope cl C X.env) fp) W0 ifs gt)
  (he : ∀ (s : Shared) (H : Hp) (C : Addr) (cl : List (Str × Addr)) (fp : List Addr),DE (X.blk s H scope (compEnvC scope cl C X.env) fp) W0 elt fe)
  (hvs : ∀ i ∈ is,i ∈ own.map (·.2):=by decide) (hy : X.N[i]? = some y:=by rfl) (hyl : X.env.scope.names.lookup y = some .local:=by rfl) (hs : ∀ x,foldedSetIterable iter X.env x = pure x:=by intro _; rfl) :
  DS X W (.Assign [.Name y py] (.ListComp elt [⟨tg,iter,ifs,0⟩] scope pos) spos) (sAsg (fLc fi g gt fe (own.map (·.2))) (tgN i)) :=
 ⟨PS.imp (ps_setLc (i:=i) hc hN hy hyl hsw hi.pi ok (fun s H C cl fp=>(hg s H C cl fp).pg) (fun s H C cl fp=>(ht s H C cl fp).pts) (fun s H C cl fp=>(he s H C cl fp).pe) hs) fun D σ H ⟨m,env,st,r,re,p⟩=>by
  have h2 : tF X.K W (fLc fi g gt fe (own.map (·.2))) σ H (fun x H1=>gName i x σ H1 D.nx):=sF_step r re p fun u st1 v m1 H1 h1 r1 re1 e1 p1=>p1 _ m1 H1 (re1.set i h1) r1 (Ext.refl _ _)
  exact t_lc hvs h2⟩
end
end VL
namespace VL
open PySem PySem.Spec PyProof.Rows L2
section
variable {X : Cx} {W : WX} {c : Expr} {body : List Stmt} {bc : F Bool} {gb : G} {pos : Pos}
end
noncomputable abbrev Wr:=Nat → U → Store → R U
noncomputable def wId : Wr:=fun _ u st=>.ok u st
noncomputable def wCut : Wr:=fun k u st=>match u with
 | .d x=>match cutS k st with
  | some s=>.ok (.d x) s
  | none=>.bad
 | .ref n=>if n < k then match cutS k st with
  | some s=>.ok (.ref n) s
  | none=>.bad
  else .bad
noncomputable def frz (st : Store) (k : Nat) : Nat → U → Option D
 | _,.d x=>some x
 | 0,.ref _=>none
 | f + 1,.ref n=>if n < k then none else match st[n]? with
  | some (.lst us)=>(allM (frz st k f) us).map .lst
  | some (.tup us)=>(allM (frz st k f) us).map .tup
  | some (.dct us)=>(allM (fun p=>(frz st k f p.2).map fun d=>(p.1,d)) us).map .dct
  | some (.ins C us)=>(allM (fun p=>(frz st k f p.2).map fun d=>(p.1,d)) us).map (.ins C)
  | some (.lck us)=>(allM (fun p=>(frz st k f p.2).map fun d=>(p.1,d)) us).map .dct
  | some (.kdc w us)=>(allM (fun p=>(frz st k f p.2).map fun d=>(p.1,d)) us).map (.kdc w)
  | some (.tbl _ _)=>none
  | none=>none
noncomputable def wFrz : Wr:=fun k u st=>match frz st k 4 u,cutS k st with
 | some x,some s=>.ok (.d x) s
 | _,_=>.bad
noncomputable def wKeep : Wr:=fun k u st=>match u with
 | .d _=>.bad
 | .ref n=>if n < k then .bad else match st[n]? with
  | some o=>if okO k o = true then match cutS k st with
   | some s=>if s.length = k then .ok (.ref k) (s ++ [o]) else .bad
   | none=>.bad
   else .bad
  | none=>.bad
structure WOk (w : Wr) : Prop where
 ok : ∀ (K : PySem.W.Frag) (k : Nat) (u : U) (st : Store) (m : List Addr) (H : Hp) (v : V),Rep K m st H → RpU K m H u v → k ≤ m.length → match w k u st with
  | .ok u' st'=>∃ m',Rep K m' st' H ∧ RpU K m' H u' v ∧ m.take k <+: m' ∧ ∀ a,a ∈ m' → a ∈ m
  | .ex _ _ _=>False
  | .bad=>True
theorem wCut_ok : WOk wCut:=⟨fun K k u st m H v r ru hk=>by
 unfold wCut
 cases u with
 | d x =>
  simp only
  cases e : cutS k st with
  | none=>trivial
  | some s=>exact ⟨m.take k,r.cut e,okU_rp (u:=.d x) rfl ru,List.prefix_refl _,fun _ h=>List.mem_of_mem_take h⟩
 | ref n =>
  simp only
  by_cases hn : n < k
  ·rw [if_pos hn]
   cases e : cutS k st with
   | none=>trivial
   | some s=>exact ⟨m.take k,r.cut e,okU_rp (u:=.ref n) (decide_eq_true hn) ru,List.prefix_refl _,fun _ h=>List.mem_of_mem_take h⟩
  ·rw [if_neg hn]; trivial⟩
section
variable {K : PySem.W.Frag} {m : List Addr} {H : Hp} {st : Store} {k : Nat}
theorem not_take (r : Rep K m st H) {n : Nat} {a : Addr} (hn : ¬ n < k) (ha : m[n]? = some a) : a ∉ m.take k:=fun z=>by
 obtain ⟨j,hj,e⟩:=List.mem_iff_getElem.mp z
 rw [List.length_take] at hj
 rw [List.getElem_take] at e
 obtain ⟨hk',e'⟩:=List.getElem?_eq_some_iff.mp ha
 have:=(List.getElem_inj r.nd).mp (e.trans e'.symm)
 omega
theorem frz_rp (r : Rep K m st H) : ∀ (f : Nat) (u : U) (v : V) (d : D),RpU K m H u v → frz st k f u = some d → RpD K (m.take k) H d v:=by
 intro f
 induction f with
 | zero =>
  intro u v d h e
  cases u with
  | d x=>cases e; exact RpD.less (fun a n z=>n (List.mem_of_mem_take z)) h
  | ref n=>cases e
 | succ f ih =>
  intro u v d h e
  cases u with
  | d x=>cases e; exact RpD.less (fun a n z=>n (List.mem_of_mem_take z)) h
  | ref n =>
   obtain ⟨a,ha,rfl⟩:=h
   unfold frz at e
   by_cases hn : n < k
   ·rw [if_pos hn] at e; cases e
   ·rw [if_neg hn] at e
    have na:=not_take (k:=k) r hn ha
    have all1 : ∀ {us : List U} {vs : List V} {ds : List D},RpUs K m H us vs → allM (frz st k f) us = some ds → RpDs K (m.take k) H ds vs:=by
     intro us
     induction us with
     | nil=>intro vs ds h e; cases e; exact h
     | cons u us ih2 =>
      intro vs ds h e
      obtain ⟨v,t,rfl,h1,h2⟩:=h
      unfold allM at e
      cases q1 : frz st k f u with
      | none=>rw [q1] at e; cases e
      | some x =>
       cases q2 : allM (frz st k f) us with
       | none=>rw [q1,q2] at e; cases e
       | some xs=>rw [q1,q2] at e; cases e; exact ⟨v,t,rfl,ih u v x h1 q1,ih2 h2 q2⟩
    have all2 : ∀ {us : List (Key × U)} {vs : List (Key × V)} {ds : List (Key × D)},RpUK K m H us vs → allM (fun p=>(frz st k f p.2).map fun d=>(p.1,d)) us = some ds → RpK K (m.take k) H ds vs:=by
     intro us
     induction us with
     | nil=>intro vs ds h e; cases e; exact h
     | cons u us ih2 =>
      obtain ⟨kk,u⟩:=u
      intro vs ds h e
      obtain ⟨v,t,rfl,h1,h2⟩:=h
      unfold allM at e
      cases q1 : frz st k f u with
      | none=>simp only [q1] at e; cases e
      | some x =>
       cases q2 : allM (fun p : Key × U=>(frz st k f p.2).map fun d=>(p.1,d)) us with
       | none=>simp only [q1,q2] at e; cases e
       | some xs=>simp only [q1,q2] at e; cases e; exact ⟨v,t,rfl,ih u v x h1 q1,ih2 h2 q2⟩
    have all3 : ∀ {us : List (Str × U)} {vs : List (Str × V)} {ds : List (Str × D)},RpUF K m H us vs → allM (fun p=>(frz st k f p.2).map fun d=>(p.1,d)) us = some ds → RpF K (m.take k) H ds vs:=by
     intro us
     induction us with
     | nil=>intro vs ds h e; cases e; exact h
     | cons u us ih2 =>
      obtain ⟨kk,u⟩:=u
      intro vs ds h e
      obtain ⟨v,t,rfl,h1,h2⟩:=h
      unfold allM at e
      cases q1 : frz st k f u with
      | none=>simp only [q1] at e; cases e
      | some x =>
       cases q2 : allM (fun p : Str × U=>(frz st k f p.2).map fun d=>(p.1,d)) us with
       | none=>simp only [q1,q2] at e; cases e
       | some xs=>simp only [q1,q2] at e; cases e; exact ⟨v,t,rfl,ih u v x h1 q1,ih2 h2 q2⟩
    have all4 : ∀ {us : List (D × U)} {vs : List (NestedKey × Addr × V)} {ds : List (D × D)},RpUKd K m H us vs → allM (fun p=>(frz st k f p.2).map fun d=>(p.1,d)) us = some ds → RpKd K (m.take k) H ds vs:=by
     intro us
     induction us with
     | nil=>intro vs ds h e; cases e; exact h
     | cons u us ih2 =>
      obtain ⟨kk,u⟩:=u
      intro vs ds h e
      obtain ⟨n,b,v,t,rfl,q,h0,h1,h2⟩:=h
      unfold allM at e
      cases q1 : frz st k f u with
      | none=>simp only [q1] at e; cases e
      | some x =>
       cases q2 : allM (fun p : D × U=>(frz st k f p.2).map fun d=>(p.1,d)) us with
       | none=>simp only [q1,q2] at e; cases e
       | some xs=>simp only [q1,q2] at e; cases e; exact ⟨n,b,v,t,rfl,q,RpD.less (fun a n z=>n (List.mem_of_mem_take z)) h0,ih u v x h1 q1,ih2 h2 q2⟩
    split at e
    ·rename_i us hs
     obtain ⟨ho,g1,vs,g2,g3⟩:=r.cell n _ a hs ha
     subst g2
     cases q : allM (frz st k f) us with
     | none=>rw [q] at e; cases e
     | some ds=>rw [q] at e; cases e; exact ⟨a,vs,rfl,⟨na,g1⟩,all1 g3 q⟩
    ·rename_i us hs
     obtain ⟨ho,g1,vs,g2,g3⟩:=r.cell n _ a hs ha
     subst g2
     cases q : allM (frz st k f) us with
     | none=>rw [q] at e; cases e
     | some ds=>rw [q] at e; cases e; exact ⟨a,vs,rfl,.inl ⟨na,g1⟩,all1 g3 q⟩
    ·rename_i us hs
     obtain ⟨ho,g1,vs,g2,g3⟩:=r.cell n _ a hs ha
     subst g2
     cases q : allM (fun p : Key × U=>(frz st k f p.2).map fun d=>(p.1,d)) us with
     | none=>rw [q] at e; cases e
     | some ds=>rw [q] at e; cases e; exact ⟨a,vs,rfl,⟨na,.inl g1⟩,all2 g3 q⟩
    ·rename_i C us hs
     obtain ⟨ho,g1,dx,vs,g2,g3⟩:=r.cell n _ a hs ha
     subst g2
     cases q : allM (fun p : Str × U=>(frz st k f p.2).map fun d=>(p.1,d)) us with
     | none=>rw [q] at e; cases e
     | some ds=>rw [q] at e; cases e; exact ⟨a,dx,vs,rfl,⟨na,g1⟩,all3 g3 q⟩
    ·rename_i us hs
     obtain ⟨ho,g1,ob,vs,g2,g3⟩:=r.cell n _ a hs ha
     subst g2
     cases q : allM (fun p : Key × U=>(frz st k f p.2).map fun d=>(p.1,d)) us with
     | none=>rw [q] at e; cases e
     | some ds=>rw [q] at e; cases e; exact ⟨a,vs,rfl,⟨na,.inr ⟨ob,g1⟩⟩,all2 g3 q⟩
    ·rename_i ww us hs
     obtain ⟨ho,g1,ob,vs,g2,gk,g3⟩:=r.cell n _ a hs ha
     subst g2
     cases q : allM (fun p : D × U=>(frz st k f p.2).map fun d=>(p.1,d)) us with
     | none=>rw [q] at e; cases e
     | some ds=>rw [q] at e; cases e; exact ⟨a,ob,vs,rfl,⟨na,g1⟩,gk,all4 g3 q⟩
    ·cases e
    ·cases e
end
theorem wFrz_ok : WOk wFrz:=⟨fun K k u st m H v r ru hk=>by
 unfold wFrz
 cases e1 : frz st k 4 u with
 | none=>trivial
 | some x =>
  cases e : cutS k st with
  | none=>trivial
  | some s=>exact ⟨m.take k,r.cut e,frz_rp r 4 u v x ru e1,List.prefix_refl _,fun _ h=>List.mem_of_mem_take h⟩⟩
theorem wKeep_ok : WOk wKeep:=⟨fun K k u st m H v r ru hk=>by
 unfold wKeep
 cases u with
 | d x=>trivial
 | ref n =>
  simp only
  by_cases hn : n < k
  ·rw [if_pos hn]; trivial
  ·rw [if_neg hn]
   cases e0 : st[n]? with
   | none=>trivial
   | some o =>
    simp only
    by_cases ho : okO k o = true
    ·rw [if_pos ho]
     cases e : cutS k st with
     | none=>trivial
     | some s =>
      simp only
      by_cases hs : s.length = k
      ·rw [if_pos hs]
       obtain ⟨a,ha,rfl⟩:=ru
       have rc:=r.cut e
       have na:=not_take (k:=k) r hn ha
       have hl : (m.take k).length = k:=by rw [rc.len,hs]
       have less : ∀ b,b ∉ m.take k ++ [a] → b ∉ m.take k:=fun b h z=>h (List.mem_append_left _ z)
       refine ⟨m.take k ++ [a],⟨by rw [List.length_append,List.length_append,rc.len]; rfl,?_,fun j c b h1 h2=>?_⟩,⟨a,by rw [List.getElem?_append_right (by omega),hl,Nat.sub_self]; rfl,rfl⟩,List.prefix_append _ _,fun b hb=>?_⟩
       ·rw [List.nodup_append]
        refine ⟨rc.nd,by simp,fun x hx y hy=>?_⟩
        rw [List.mem_singleton] at hy
        subst hy
        exact fun e=>na (by rw [← e]; exact hx)
       ·-- the cells
        have st0 : Stay m H (m.take k ++ [a]) H:=⟨fun b o nb e _ _=>⟨e,fun z=>by
          rcases List.mem_append.mp z with z | z
          ·exact nb (List.mem_of_mem_take z)
          ·rw [List.mem_singleton] at z; subst z; exact nb (List.mem_of_getElem? ha)⟩,
         fun b kvs nb e=>⟨e,fun z=>by
          rcases List.mem_append.mp z with z | z
          ·exact nb (List.mem_of_mem_take z)
          ·rw [List.mem_singleton] at z; subst z; exact nb (List.mem_of_getElem? ha)⟩,fun _ _ _ e=>e⟩
        have upU : ∀ {u : U} {v : V},okU k u = true → RpU K m H u v → RpU K (m.take k ++ [a]) H u v:=fun {u v} h h2=>by
         cases u with
         | d x=>exact RpD.stay st0 _ _ h2
         | ref j =>
          obtain ⟨b,hb,e⟩:=h2
          have hj : j < k:=of_decide_eq_true h
          exact ⟨b,by rw [List.getElem?_append_left (by omega),List.getElem?_take_of_lt hj]; exact hb,e⟩
        have upO : ∀ {b : Addr} {c : O} {ho : HO},okO k c = true → RpO K m H b c ho → RpO K (m.take k ++ [a]) H b c ho:=fun {b c ho} h h2=>by
         cases c with
         | lst us =>
          obtain ⟨vs,e,q⟩:=h2
          refine ⟨vs,e,?_⟩
          clear e
          induction us generalizing vs with
          | nil=>exact q
          | cons u us ih =>
           obtain ⟨v,t,rfl,h1,h2⟩:=q
           have h' : okU k u = true ∧ us.all (okU k) = true:=by simpa [okO] using h
           exact ⟨v,t,rfl,upU h'.1 h1,ih h'.2 t h2⟩
         | tup us =>
          obtain ⟨vs,e,q⟩:=h2
          refine ⟨vs,e,?_⟩
          clear e
          induction us generalizing vs with
          | nil=>exact q
          | cons u us ih =>
           obtain ⟨v,t,rfl,h1,h2⟩:=q
           have h' : okU k u = true ∧ us.all (okU k) = true:=by simpa [okO] using h
           exact ⟨v,t,rfl,upU h'.1 h1,ih h'.2 t h2⟩
         | dct us =>
          obtain ⟨vs,e,q⟩:=h2
          refine ⟨vs,e,?_⟩
          clear e
          induction us generalizing vs with
          | nil=>exact q
          | cons u us ih =>
           obtain ⟨kk,u⟩:=u
           obtain ⟨v,t,rfl,h1,h2⟩:=q
           have h' : okU k u = true ∧ (us.all fun p=>okU k p.2) = true:=by simpa [okO] using h
           exact ⟨v,t,rfl,upU h'.1 h1,ih h'.2 t h2⟩
         | ins C us =>
          obtain ⟨dx,vs,e,q⟩:=h2
          refine ⟨dx,vs,e,?_⟩
          clear e
          induction us generalizing vs with
          | nil=>exact q
          | cons u us ih =>
           obtain ⟨kk,u⟩:=u
           obtain ⟨v,t,rfl,h1,h2⟩:=q
           have h' : okU k u = true ∧ (us.all fun p=>okU k p.2) = true:=by simpa [okO] using h
           exact ⟨v,t,rfl,upU h'.1 h1,ih h'.2 t h2⟩
         | lck us =>
          obtain ⟨ob,vs,e,q⟩:=h2
          refine ⟨ob,vs,e,?_⟩
          clear e
          induction us generalizing vs with
          | nil=>exact q
          | cons u us ih =>
           obtain ⟨kk,u⟩:=u
           obtain ⟨v,t,rfl,h1,h2⟩:=q
           have h' : okU k u = true ∧ (us.all fun p=>okU k p.2) = true:=by simpa [okO] using h
           exact ⟨v,t,rfl,upU h'.1 h1,ih h'.2 t h2⟩
         | kdc w us =>
          obtain ⟨ob,vs,e,z,q⟩:=h2
          refine ⟨ob,vs,e,z,?_⟩
          clear e z
          induction us generalizing vs with
          | nil=>exact q
          | cons u us ih =>
           obtain ⟨kk,u⟩:=u
           obtain ⟨n,b,v,t,rfl,q,h0,h1,h2⟩:=q
           have h' : okU k u = true ∧ (us.all fun p=>okU k p.2) = true:=by simpa [okO] using h
           exact ⟨n,b,v,t,rfl,q,RpD.stay st0 _ _ h0,upU h'.1 h1,ih h'.2 t h2⟩
         | tbl P q =>
          obtain ⟨e,ps,e1,e2,g⟩:=h2
          exact ⟨e,ps,e1,e2,fun pos cv hc=>let ⟨c,g1,g2,g3⟩:=g pos cv hc
           ⟨c,g1,fun z=>(List.mem_append.mp z).elim (fun z=>g2 (List.mem_of_mem_take z)) fun z=>g2 (by rw [List.mem_singleton.mp z]; exact List.mem_of_getElem? ha),g3⟩⟩
        by_cases hj : j < k
        ·rw [List.getElem?_append_left (by omega)] at h1 h2
         unfold cutS at e
         split at e
         ·rename_i hall
          cases e
          rw [List.getElem?_take_of_lt hj] at h1 h2
          obtain ⟨ho',e1,q⟩:=r.cell j c b h1 h2
          exact ⟨ho',e1,upO (List.all_eq_true.mp hall c (List.mem_of_getElem? (i:=j) (by rw [List.getElem?_take_of_lt hj]; exact h1))) q⟩
         ·cases e
        ·have hjk : j = k:=by
          have:=(List.getElem?_eq_some_iff.mp h1).1
          rw [List.length_append,hs] at this
          simp at this
          omega
         subst hjk
         rw [List.getElem?_append_right (by omega),hs,Nat.sub_self] at h1
         rw [List.getElem?_append_right (by omega),hl,Nat.sub_self] at h2
         cases h1; cases h2
         obtain ⟨ho',e1,q⟩:=r.cell n o a e0 ha
         exact ⟨ho',e1,upO ho q⟩
       ·rcases List.mem_append.mp hb with z | z
        ·exact List.mem_of_mem_take z
        ·rw [List.mem_singleton] at z; subst z; exact List.mem_of_getElem? ha
      ·rw [if_neg hs]; trivial
    ·rw [if_neg ho]; trivial⟩
/-- a def's mirror from its body's -/
noncomputable def fnM (n : Nat) (g : G) (w : Wr) : List U → M U:=fun us st=>match g (us.map some ++ List.replicate (n - us.length) none) st with
 | .ok _ (.rt u) st'=>w st.length u st'
 | .ok _ .nx st'=>w st.length (.d .non) st'
 | .ex c fs _ st'=>match cutS st.length st' with
  | some s=>.ex c fs s
  | none=>.bad
 | _=>.bad
noncomputable def spM (K : PySem.W.Frag) (n : Nat) (mf : List U → M U) : Sp:=fun vs H Q E=>vs.length = n ∧ ∃ m st us,Rep K m st H ∧ RpUs K m H us vs ∧ PU K m H Q E (mf us st)
theorem start_env {K : PySem.W.Frag} {m : List Addr} {H : Hp} {N : List Str} {us : List U} {vs : List V} (h : RpUs K m H us vs) : RpEnv K m H (us.map some ++ List.replicate (N.length - us.length) none) (L2.start N vs):=by
 have hl:=h.length
 refine ⟨by unfold L2.start; rw [List.length_append,List.length_append,List.length_map,List.length_map,List.length_replicate,List.length_replicate]; omega,fun i u hi=>?_⟩
 by_cases hlt : i < us.length
 ·rw [List.getElem?_append_left (by rw [List.length_map]; exact hlt),List.getElem?_map] at hi
  cases q : us[i]? with
  | none=>rw [q] at hi; cases hi
  | some w =>
   rw [q] at hi; cases hi
   obtain ⟨v,hv,rv⟩:=h.get q
   exact ⟨v,by unfold L2.start; rw [List.getElem?_append_left (by rw [List.length_map]; omega),List.getElem?_map,hv]; rfl,rv⟩
 ·rw [List.getElem?_append_right (by rw [List.length_map]; omega),List.getElem?_replicate] at hi
  split at hi <;> cases hi
end VL
namespace VL
open PySem PySem.Spec PyProof.Rows L2
/-- what an operation that may write cells gives -/
noncomputable def PV2 (K : PySem.W.Frag) (m : List Addr) (H : Hp) (Q : VK) : Option (U × Store) → Prop
 | some (u,st')=>∀ v m' H',RpU K m' H' u v → Rep K m' st' H' → Ext m H m' H' → Q v H'
 | none=>False
theorem PV2.of {K : PySem.W.Frag} {m : List Addr} {H : Hp} {Q : VK} {E : XK} : ∀ {o : Option (U × Store)},PU K m H Q E (R.of2 o) → PV2 K m H Q o
 | some (u,st'),h=>h
 | none,h=>h
noncomputable abbrev P3:=List U → Store → Option (U × Store)
noncomputable abbrev P4:=U → List U → Store → Option (U × Store)
/-- leaves the cells -/
noncomputable def pu (g : List U → Store → Option U) : P3:=fun us st=>(g us st).map fun u=>(u,st)
noncomputable def pu4 (g : U → List U → Store → Option U) : P4:=fun u us st=>(g u us st).map fun u=>(u,st)
noncomputable def rM (K : PySem.W.Frag) (g : P3) : List V → Hp → VK → Prop:=fun vs H Q=>∃ m st us,Rep K m st H ∧ RpUs K m H us vs ∧ PV2 K m H Q (g us st)
noncomputable def mM (K : PySem.W.Frag) (g : P4) : V → List V → Hp → VK → Prop:=fun x vs H Q=>∃ m st u us,Rep K m st H ∧ RpU K m H u x ∧ RpUs K m H us vs ∧ PV2 K m H Q (g u us st)
noncomputable def fB (g : P3) (fs : F (List U)) : F U:=bnd fs fun us=>fun _ st=>.of2 (g us st)
section
variable {K : PySem.W.Frag} {m : List Addr} {H : Hp} {st : Store} {Q : VK}
theorem PV2.here {u : U} {v : V} (r : Rep K m st H) (p : PV2 K m H Q (some (u,st))) (h : RpU K m H u v) : Q v H:=p v m H h r (Ext.refl _ _)
theorem PV2.pu {g : List U → Store → Option U} {us : List U} (p : PV2 K m H Q (VL.pu g us st)) : ∃ u,g us st = some u ∧ PV2 K m H Q (some (u,st)):=by
 unfold VL.pu at p
 cases e : g us st with
 | none=>rw [e] at p; exact p.elim
 | some u=>rw [e] at p; exact ⟨u,rfl,p⟩
theorem PV2.pu4 {g : U → List U → Store → Option U} {x : U} {us : List U} (p : PV2 K m H Q (VL.pu4 g x us st)) : ∃ u,g x us st = some u ∧ PV2 K m H Q (some (u,st)):=by
 unfold VL.pu4 at p
 cases e : g x us st with
 | none=>rw [e] at p; exact p.elim
 | some u=>rw [e] at p; exact ⟨u,rfl,p⟩
theorem RpUs.one {u : U} {vs : List V} (h : RpUs K m H [u] vs) : ∃ v,vs = [v] ∧ RpU K m H u v:=by
 obtain ⟨v,_,rfl,h1,rfl⟩:=h
 exact ⟨v,rfl,h1⟩
theorem RpUs.two {u w : U} {vs : List V} (h : RpUs K m H [u,w] vs) : ∃ v x,vs = [v,x] ∧ RpU K m H u v ∧ RpU K m H w x:=by
 obtain ⟨v,_,rfl,h1,x,_,rfl,h2,rfl⟩:=h
 exact ⟨v,x,rfl,h1,h2⟩
end
theorem CallR.imp {X : Cx} {f : Value} {r r' : List V → Hp → VK → Prop} (h : CallR X f r) (i : ∀ vs H Q,r' vs H Q → r vs H Q) : CallR X f r':=fun pins s σ H xs us Q I rv q=>h pins s σ H xs us Q I rv (i xs H Q q)
theorem MtR.imp {X : Cx} {id : String} {r r' : V → List V → Hp → VK → Prop} (h : MtR X id r) (i : ∀ x vs H Q,r' x vs H Q → r x vs H Q) : MtR X id r':=fun pins s σ H x xs v us Q I rx rv q=>h pins s σ H x xs v us Q I rx rv (i x xs H Q q)
section
variable {X : Cx} {W : WX} {x : Str} {p pos : Pos} {e : Expr} {es : List Expr} {fs : F (List U)} {g : P3}
theorem t_fB {σ : L2.St} {H : Hp} {Q : VK} (h : tF X.K W (fB g fs) σ H Q) : tCB (rM X.K g) (tFs X.K W fs) σ H Q:=by
 obtain ⟨m,env,st,r,re,p⟩:=h
 exact tFs_step r re p fun us st1 vs m1 H1 h1 r1 re1 e1 p1=>⟨m1,st1,us,r1,h1,PV2.of p1⟩
/-- len(e),.. -/
theorem d_bi {id : String} (h : CallR X (.builtin id) (rM X.K g)) (hm : X.mg x = none) (hb : bootBuiltins x = some (.builtin id)) (ha : DA X W (e :: es) fs) (hg : Gl X x:=by rfl) (hn : x ≠ "__name__":=by decide) (hd : (x == ("__debug__" : Str)) = false:=by decide)
  (he : starEach (e :: es) X.env = (false,eval e X.env) :: starEach es X.env:=by rfl) (hpl : (backTo pos (starEach es X.env)).any (·.1) = false:=by rfl) : DE X W (.Call (.Name x p) (e :: es) [] pos) (fB g fs) :=
 ⟨PE.imp (pe_callB h hg hm hb ha.pa hn hd he hpl) fun _ _ _ q=>t_fB q⟩
/-- int(e),.. -/
theorem d_bt {T : String} (h : CallR X (.type T) (rM X.K g)) (hm : X.mg x = none) (hb : bootBuiltins x = some (.type T)) (ha : DA X W (e :: es) fs) (hg : Gl X x:=by rfl) (hn : x ≠ "__name__":=by decide) (hd : (x == ("__debug__" : Str)) = false:=by decide)
  (he : starEach (e :: es) X.env = (false,eval e X.env) :: starEach es X.env:=by rfl) (hpl : (backTo pos (starEach es X.env)).any (·.1) = false:=by rfl) : DE X W (.Call (.Name x p) (e :: es) [] pos) (fB g fs) :=
 ⟨PE.imp (pe_callTy h hg hm hb ha.pa hn hd he hpl) fun _ _ _ q=>t_fB q⟩
end
noncomputable def lenN (st : Store) (u : U) : Option Nat:=match u with
 | .d (.str x)=>if x.length ≤ sizeLine then some x.length else none
 | .d (.tup ds)=>some ds.length
 | u=>match getL st u with
  | some us=>some us.length
  | none=>(getD st u).map (·.length)
noncomputable def oLen : List U → Store → Option U:=fun us st=>match us with
 | [u]=>(lenN st u).map fun n=>.d (.int n)
 | _=>none
noncomputable def oInt : List U → Store → Option U:=fun us _=>match us with
 | [.d (.int i)]=>some (.d (.int i))
 | [.d (.bl k)]=>some (.d (.int (if k = true then 1 else 0)))
 | [.d (.str a)]=>if a.length ≤ 640 then (intText? a).map fun n=>.d (.int n) else none
 | _=>none
noncomputable def oAbs : List U → Store → Option U:=fun us _=>match us with
 | [.d (.int i)]=>some (.d (.int (if i < 0 then -i else i)))
 | _=>none
noncomputable def oMin : List U → Store → Option U:=fun us _=>match us with
 | [.d (.int i),.d (.int j)]=>some (.d (.int (if j < i then j else i)))
 | _=>none
noncomputable def oMax : List U → Store → Option U:=fun us _=>match us with
 | [.d (.int i),.d (.int j)]=>some (.d (.int (if j > i then j else i)))
 | _=>none
noncomputable def oStr : List U → Store → Option U:=fun us _=>match us with
 | [.d (.int i)]=>if i.natAbs.log2 < 1920 then some (.d (.str (Str.ofString (toString i)))) else none
 | _=>none
noncomputable def itemsU (st : Store) (u : U) : Option (List U):=match getL st u with
 | some us=>some us
 | none=>(getT u).map fun ds=>ds.map .d
/-- list(x): data -/
noncomputable def oList : List U → Store → Option U:=fun us st=>match us with
 | [u]=>match itemsU st u with
  | some us=>(pureL us).map fun ds=>.d (.lst ds)
  | none=>none
 | _=>none
/-- list(x): a cell -/
noncomputable def oListC : P3:=fun us st=>match us with
 | [u]=>match itemsU st u with
  | some us=>some (.ref st.length,st ++ [.lst us])
  | none=>none
 | _=>none
noncomputable def oTuple : List U → Store → Option U:=fun us st=>match us with
 | [.d (.tup ds)]=>some (.d (.tup ds))
 | [u]=>match getL st u with
  | some us=>(pureL us).map fun ds=>.d (.tup ds)
  | none=>none
 | _=>none
noncomputable def blsU : List U → Option (List Bool):=allM fun u=>match u with
 | .d (.bl k)=>some k
 | _=>none
noncomputable def intsU : List U → Option (List Int):=allM fun u=>match u with
 | .d (.int k)=>some k
 | _=>none
noncomputable def oAll : List U → Store → Option U:=fun us st=>match us with
 | [u]=>match getL st u with
  | some us=>(blsU us).map fun ks=>.d (.bl (ks.all id))
  | none=>none
 | _=>none
noncomputable def oAny : List U → Store → Option U:=fun us st=>match us with
 | [u]=>match getL st u with
  | some us=>(blsU us).map fun ks=>.d (.bl (ks.any id))
  | none=>none
 | _=>none
/-- a value's class -/
noncomputable def tyN (cs : List Addr) (st : Store) : U → Option Value
 | .d .non=>some (.type "NoneType")
 | .d (.bl _)=>some (.type "bool")
 | .d (.int _)=>some (.type "int")
 | .d (.str _)=>some (.type "str")
 | .d (.tup _)=>some (.type "tuple")
 | .d (.lst _)=>some (.type "list")
 | .d (.scr _)=>some (.type "list")
 | .d (.dct _)=>some (.type "dict")
 | .d (.ins C _)=>if C ∈ cs then some (.ref C) else none
 | .ref n=>match st[n]? with
  | some (.lst _)=>some (.type "list")
  | some (.tup _)=>some (.type "tuple")
  | some (.dct _)=>some (.type "dict")
  | some (.ins C _)=>if C ∈ cs then some (.ref C) else none
  | some (.tbl _ _)=>none
  | some (.lck _)=>none
  | some (.kdc _ _)=>none
  | none=>none
 | _=>none
noncomputable def oIsi (K : PySem.W.Frag) (cs : List Addr) : List U → Store → Option U:=fun us st=>match us with
 | [u,.d (.ty n)]=>match tyN cs st u with
  | some t=>(PySem.W.kitOne K t (.type n)).map fun k=>.d (.bl k)
  | none=>none
 | [u,.d (.obj C)]=>match tyN cs st u with
  | some t=>(PySem.W.kitOne K t (.ref C)).map fun k=>.d (.bl k)
  | none=>none
 | _=>none
section
variable {K : PySem.W.Frag} {m : List Addr} {H : Hp} {st : Store}
theorem RpUK.length : ∀ {us : List (Key × U)} {vs : List (Key × V)},RpUK K m H us vs → vs.length = us.length
 | [],_,h=>by rw [show _ = [] from h]; rfl
 | (k,u) :: us,_,⟨v,r,e,h1,h2⟩=>by rw [e,List.length_cons,List.length_cons,RpUK.length h2]
theorem lenN_rp (r : Rep K m st H) {u : U} {v : V} {n : Nat} (h : RpU K m H u v) (e : lenN st u = some n) : LenV K v H n ∨ ∃ a kvs,v = .ref a ∧ Rd H a (.dK kvs) ∧ kvs.length = n:=by
 unfold lenN at e
 split at e
 ·rename_i x
  cases h
  split at e
  ·rename_i hz; cases e; exact .inl ⟨hz,rfl⟩
  ·cases e
 ·rename_i ds
  obtain ⟨a,vs,rfl,t,q⟩:=h
  cases e
  exact .inl (.inr ⟨vs,t.sq,q.length.symm⟩)
 ·split at e
  ·rename_i us hl
   obtain ⟨a,vs,rfl,t,q⟩:=getL_rp r h hl
   cases e
   exact .inl (.inl ⟨vs,t,q.length.symm⟩)
  ·cases q : getD st u with
   | none=>rw [q] at e; cases e
   | some kvs =>
    rw [q] at e; cases e
    obtain ⟨a,vs,rfl,t,q⟩:=getD_rp r h q
    refine .inr ⟨a,vs,rfl,t,?_⟩
    exact q.length
theorem ints_rp : ∀ {us : List U} {vs : List V} {ns : List Int},RpUs K m H us vs → intsU us = some ns → vs = ns.map V.int
 | [],vs,ns,h,e=>by cases e; exact h
 | u :: us,vs,ns,⟨v,r,ev,h1,h2⟩,e=>by
  subst ev
  unfold intsU allM at e
  split at e
  ·rename_i b bs q1 q2
   cases e
   rw [List.map_cons,← ints_rp h2 q2]
   split at q1
   ·cases q1; rw [show v = V.int b from h1]
   ·cases q1
  ·cases e
theorem bls_rp : ∀ {us : List U} {vs : List V} {ns : List Bool},RpUs K m H us vs → blsU us = some ns → vs = ns.map V.bl
 | [],vs,ns,h,e=>by cases e; exact h
 | u :: us,vs,ns,⟨v,r,ev,h1,h2⟩,e=>by
  subst ev
  unfold blsU allM at e
  split at e
  ·rename_i b bs q1 q2
   cases e
   rw [List.map_cons,← bls_rp h2 q2]
   split at q1
   ·cases q1; rw [show v = V.bl b from h1]
   ·cases q1
  ·cases e
theorem RpDs.ints : ∀ (ns : List Int),RpDs K m H (ns.map .int) (ns.map V.int)
 | []=>rfl
 | n :: ns=>⟨.int n,_,rfl,rfl,RpDs.ints ns⟩
theorem itemsU_rp (r : Rep K m st H) {u : U} {v : V} {us : List U} (h : RpU K m H u v) (e : itemsU st u = some us) : ∃ a vs,v = .ref a ∧ (SqL K H a vs ∨ SqT K H a vs) ∧ RpUs K m H us vs:=by
 unfold itemsU at e
 split at e
 ·rename_i us' hl
  cases e
  obtain ⟨a,vs,e1,t,q⟩:=getL_rp r h hl
  exact ⟨a,vs,e1,.inl t,q⟩
 ·cases q : getT u with
  | none=>rw [q] at e; cases e
  | some ds =>
   rw [q] at e; cases e
   obtain ⟨a,vs,e1,t,q⟩:=getT_rp h q
   exact ⟨a,vs,e1,.inr t.sq,RpUs.ofD q⟩
/-- the class of an own class's instances,as the model asks it -/
structure ClsTy (K : PySem.W.Frag) (C : Addr) : Prop where
 cl : Cls K C
 f1 : PySem.W.findIn K (.ref C) "__class__" = some (some (.builtin "object.__class__"))
 f2 : PySem.W.specialIn K (.builtin "object.__class__") "__get__" = some (some (.builtin "getset_descriptor.__get__"))
 f3 : PySem.W.takesIn K (.builtin "object.__class__") = some true
 f4 : PySem.W.mroIn K C (.type "object") = some true
theorem ktup_ty {a : Addr} {vs : List V} (h : TpV K m H a vs) : TyX K H (.ref a) (.type "tuple"):=by
 rcases h with ⟨_,r⟩ | (r | ⟨_,r⟩) | ⟨o,its,n,h1,h2,_⟩
 ·exact .base (.tup r)
 ·cases r
 ·cases r
 ·exact .kTuple h1 h2
theorem scV_ty {a : Addr} {vs : List V} (h : ScV K m H a vs) : TyX K H (.ref a) (.type "list"):=by
 rcases h with ⟨_,ob,r⟩ | (r | ⟨_,r⟩) | ⟨o,its,n,h1,h2,_⟩
 ·exact .base (.frz r)
 ·cases r
 ·cases r
 ·exact .kList h1 h2
/-- the own classes whose instances are asked for their class -/
noncomputable def Own (K : PySem.W.Frag) (cs : List Addr) : Prop:=∀ C ∈ cs,ClsTy K C
theorem tyN_rp {cs : List Addr} (r : Rep K m st H) (hC : Own K cs) {u : U} {v : V} {t : Value} (h : RpU K m H u v) (e : tyN cs st u = some t) : TyX K H v t:=by
 cases u with
 | ref n =>
  obtain ⟨a,ha,rfl⟩:=h
  simp only [tyN] at e
  split at e
  ·rename_i us hs
   obtain ⟨ho,h1,vs,e2,h2⟩:=r.cell n _ a hs ha
   subst e2; cases e; exact .base (.lst h1)
  ·rename_i us hs
   obtain ⟨ho,h1,vs,e2,h2⟩:=r.cell n _ a hs ha
   subst e2; cases e; exact .base (.tup h1)
  ·rename_i us hs
   obtain ⟨ho,h1,vs,e2,h2⟩:=r.cell n _ a hs ha
   subst e2; cases e; exact .base (.dK h1)
  ·rename_i C us hs
   obtain ⟨ho,h1,dx,vs,e2,h2⟩:=r.cell n _ a hs ha
   split at e
   ·rename_i hc
    subst e2; cases e
    have c:=hC C hc
    exact .base (.ins h1 c.cl c.f1 c.f2 c.f3 c.f4)
   ·cases e
  ·cases e
  ·cases e
  ·cases e
  ·cases e
 | d x =>
  cases x with
  | non=>cases h; cases e; exact .base .non
  | bl b=>cases h; cases e; exact .base (.bl b)
  | int i=>cases h; cases e; exact .base (.int i)
  | str x=>cases h; cases e; exact .base (.str x)
  | tup ds =>
   obtain ⟨a,vs,rfl,t,q⟩:=h
   cases e
   exact ktup_ty t
  | lst ds =>
   obtain ⟨a,vs,rfl,t,q⟩:=h
   cases e
   exact .base (.lst t.2)
  | scr ns =>
   obtain ⟨a,rfl,t⟩:=h
   cases e
   exact scV_ty t
  | dct kvs =>
   obtain ⟨a,vs,rfl,t,q⟩:=h
   cases e
   rcases t.2 with t | ⟨o,t⟩
   ·exact .base (.dK t)
   ·exact .fDict t
  | ins C fs =>
   obtain ⟨a,dx,vs,rfl,t,q⟩:=h
   simp only [tyN] at e
   split at e
   ·rename_i hc
    cases e
    have c:=hC C hc
    exact .base (.ins t.2 c.cl c.f1 c.f2 c.f3 c.f4)
   ·cases e
  | _=>cases e
end
section
variable {X : Cx}
theorem cr_len : CallR X (.builtin "len") (rM X.K (pu oLen)):=by
 have h2 : CallR X (.builtin "len") (fun xs H Q=>∃ a kvs,xs = [V.ref a] ∧ Rd H a (.dK kvs) ∧ Q (.int (kvs.length : Nat)) H):=by
  intro pins s σ H xs us Q I r h
  obtain ⟨a,kvs,rfl,ha,q⟩:=h
  obtain ⟨u,rfl,ru⟩:=L2.vals1 r
  cases ru
  exact L2.d_len I ha fun t s' I'=>⟨.int (kvs.length : Nat),H,I',⟨t,rfl⟩,q⟩
 refine CallR.imp (call_len.or h2) fun vs H Q ⟨m,st,us,r,ru,p⟩=>?_
 obtain ⟨u,e,p⟩:=p.pu
 unfold oLen at e
 split at e
 ·rename_i x
  obtain ⟨v,rfl,hv⟩:=ru.one
  cases q : lenN st x with
  | none=>rw [q] at e; cases e
  | some n =>
   rw [q] at e; cases e
   rcases lenN_rp r hv q with h | ⟨a,kvs,rfl,h,rfl⟩
   ·exact .inl ⟨v,n,rfl,h,p.here r rfl⟩
   ·exact .inr ⟨a,kvs,rfl,h,p.here r rfl⟩
 ·cases e
theorem cr_int : CallR X (.type "int") (rM X.K (pu oInt)):=by
 refine CallR.imp (call_int1.or call_int_str) fun vs H Q ⟨m,st,us,r,ru,p⟩=>?_
 obtain ⟨u,e,p⟩:=p.pu
 unfold oInt at e
 split at e
 ·obtain ⟨v,rfl,hv⟩:=ru.one
  cases hv; cases e
  exact .inl (.inl ⟨_,rfl,p.here r rfl⟩)
 ·obtain ⟨v,rfl,hv⟩:=ru.one
  cases hv; cases e
  exact .inl (.inr ⟨_,rfl,p.here r rfl⟩)
 ·obtain ⟨v,rfl,hv⟩:=ru.one
  cases hv
  split at e
  ·rename_i hz
   cases q : intText? _ with
   | none=>rw [q] at e; cases e
   | some n=>rw [q] at e; cases e; exact .inr ⟨_,n,rfl,q,hz,p.here r rfl⟩
  ·cases e
 ·cases e
theorem cr_abs : CallR X (.builtin "abs") (rM X.K (pu oAbs)):=by
 refine CallR.imp call_abs fun vs H Q ⟨m,st,us,r,ru,p⟩=>?_
 obtain ⟨u,e,p⟩:=p.pu
 unfold oAbs at e
 split at e
 ·obtain ⟨v,rfl,hv⟩:=ru.one
  cases hv; cases e
  exact ⟨_,rfl,p.here r rfl⟩
 ·cases e
theorem cr_min (hc : X.calm = true) : CallR X (.builtin "min") (rM X.K (pu oMin)):=by
 refine CallR.imp (call_min2 hc) fun vs H Q ⟨m,st,us,r,ru,p⟩=>?_
 obtain ⟨u,e,p⟩:=p.pu
 unfold oMin at e
 split at e
 ·obtain ⟨v,x,rfl,hv,hx⟩:=ru.two
  cases hv; cases hx; cases e
  exact ⟨_,_,rfl,p.here r rfl⟩
 ·cases e
theorem cr_max (hc : X.calm = true) : CallR X (.builtin "max") (rM X.K (pu oMax)):=by
 refine CallR.imp (call_max2 hc) fun vs H Q ⟨m,st,us,r,ru,p⟩=>?_
 obtain ⟨u,e,p⟩:=p.pu
 unfold oMax at e
 split at e
 ·obtain ⟨v,x,rfl,hv,hx⟩:=ru.two
  cases hv; cases hx; cases e
  exact ⟨_,_,rfl,p.here r rfl⟩
 ·cases e
theorem cr_list : CallR X (.type "list") (rM X.K (pu oList)):=by
 refine CallR.imp call_list_of fun vs H Q ⟨m,st,us,r,ru,p⟩=>?_
 obtain ⟨u,e,p⟩:=p.pu
 unfold oList at e
 split at e
 ·obtain ⟨v,rfl,hv⟩:=ru.one
  split at e
  ·rename_i us hl
   obtain ⟨a,ws,rfl,t,q⟩:=itemsU_rp r hv hl
   cases q2 : pureL us with
   | none=>rw [q2] at e; cases e
   | some ds =>
    rw [q2] at e; cases e
    exact ⟨a,ws,rfl,t,fun l hl=>p _ m _ (new_lst r hl (pureL_rp q q2)) (r.new hl _) (ext_new r hl _)⟩
  ·cases e
 ·cases e
theorem cr_tuple : CallR X (.type "tuple") (rM X.K (pu oTuple)):=by
 refine CallR.imp call_tuple_of fun vs H Q ⟨m,st,us,r,ru,p⟩=>?_
 obtain ⟨u,e,p⟩:=p.pu
 unfold oTuple at e
 split at e
 ·obtain ⟨v,rfl,hv⟩:=ru.one
  have hv':=hv
  obtain ⟨a,ws,rfl,t,q⟩:=hv
  cases e
  exact ⟨a,ws,rfl,.inr ⟨t.sq,p.here r hv'⟩⟩
 ·obtain ⟨v,rfl,hv⟩:=ru.one
  split at e
  ·rename_i us hl
   obtain ⟨a,ws,rfl,t,q⟩:=getL_rp r hv hl
   cases q2 : pureL us with
   | none=>rw [q2] at e; cases e
   | some ds =>
    rw [q2] at e; cases e
    exact ⟨a,ws,rfl,.inl ⟨t,fun l hl=>p _ m _ (new_tup r hl (pureL_rp q q2)) (r.new hl _) (ext_new r hl _)⟩⟩
  ·cases e
 ·cases e
theorem cr_all' (hc : X.calm = true) : CallR X (.builtin "all") (rM X.K (pu oAll)):=by
 refine CallR.imp (cr_all hc) fun vs H Q ⟨m,st,us,r,ru,p⟩=>?_
 obtain ⟨u,e,p⟩:=p.pu
 unfold oAll at e
 split at e
 ·obtain ⟨v,rfl,hv⟩:=ru.one
  split at e
  ·rename_i us hl
   obtain ⟨a,ws,rfl,t,q⟩:=getL_rp r hv hl
   cases q2 : blsU us with
   | none=>rw [q2] at e; cases e
   | some ds =>
    rw [q2] at e; cases e
    have:=bls_rp q q2
    subst this
    exact ⟨a,ds,rfl,t,p.here r rfl⟩
  ·cases e
 ·cases e
theorem cr_any' (hc : X.calm = true) : CallR X (.builtin "any") (rM X.K (pu oAny)):=by
 refine CallR.imp (cr_any hc) fun vs H Q ⟨m,st,us,r,ru,p⟩=>?_
 obtain ⟨u,e,p⟩:=p.pu
 unfold oAny at e
 split at e
 ·obtain ⟨v,rfl,hv⟩:=ru.one
  split at e
  ·rename_i us hl
   obtain ⟨a,ws,rfl,t,q⟩:=getL_rp r hv hl
   cases q2 : blsU us with
   | none=>rw [q2] at e; cases e
   | some ds =>
    rw [q2] at e; cases e
    have:=bls_rp q q2
    subst this
    exact ⟨a,ds,rfl,t,p.here r rfl⟩
  ·cases e
 ·cases e
theorem cr_isi {cs : List Addr} (hC : Own X.K cs) : CallR X (.builtin "isinstance") (rM X.K (pu (oIsi X.K cs))):=by
 refine CallR.imp call_isi fun vs H Q ⟨m,st,us,r,ru,p⟩=>?_
 obtain ⟨u,e,p⟩:=p.pu
 unfold oIsi at e
 split at e
 ·obtain ⟨v,x,rfl,hv,hx⟩:=ru.two
  cases hx
  split at e
  ·rename_i t ht
   cases q : PySem.W.kitOne X.K t (.type _) with
   | none=>rw [q] at e; cases e
   | some k =>
    rw [q] at e; cases e
    exact ⟨v,_,t,_,k,rfl,.ty _,tyN_rp r hC hv ht,q,p.here r rfl⟩
  ·cases e
 ·obtain ⟨v,x,rfl,hv,hx⟩:=ru.two
  cases hx
  split at e
  ·rename_i t ht
   cases q : PySem.W.kitOne X.K t (.ref _) with
   | none=>rw [q] at e; cases e
   | some k =>
    rw [q] at e; cases e
    exact ⟨v,_,t,_,k,rfl,.own _,tyN_rp r hC hv ht,q,p.here r rfl⟩
  ·cases e
 ·cases e
end
end VL
namespace VL
open PySem PySem.Spec PyProof.Rows L2
noncomputable def tyB (T : String) (st : Store) (u : U) : Bool:=match u with
 | .d (.str _)=>decide (T = "str")
 | .ref n=>match st[n]? with
  | some (.lst _)=>decide (T = "list")
  | some (.dct _)=>decide (T = "dict")
  | _=>false
 | u=>decide (T = "list") && (getL st u).isSome
noncomputable def fM (T : String) (g : P4) (fo : F U) (fs : F (List U)) : F U:=bnd fo fun u=>fun env st=>if tyB T st u = true then bnd fs (fun us=>fun _ st=>.of2 (g u us st)) env st else .bad
section
variable {K : PySem.W.Frag} {m : List Addr} {H : Hp} {st : Store}
theorem tyB_rp {T : String} (r : Rep K m st H) {u : U} {v : V} (h : RpU K m H u v) (e : tyB T st u = true) : tyV K T v H:=by
 unfold tyB at e
 split at e
 ·cases h; exact (of_decide_eq_true e : T = "str")
 ·obtain ⟨a,ha,rfl⟩:=h
  split at e
  ·rename_i us hs
   obtain ⟨ho,h1,vs,e2,h2⟩:=r.cell _ _ a hs ha
   subst e2
   exact .inl ⟨of_decide_eq_true e,vs,.inl (.inl h1)⟩
  ·rename_i us hs
   obtain ⟨ho,h1,vs,e2,h2⟩:=r.cell _ _ a hs ha
   subst e2
   exact .inr (.inr (.inl ⟨of_decide_eq_true e,.inl ⟨vs,h1⟩⟩))
  ·cases e
 ·rw [Bool.and_eq_true] at e
  obtain ⟨e1,e2⟩:=e
  obtain ⟨us,hus⟩:=Option.isSome_iff_exists.mp e2
  obtain ⟨a,vs,rfl,t,q⟩:=getL_rp r h hus
  exact .inl ⟨of_decide_eq_true e1,vs,t⟩
end
section
variable {X : Cx} {W : WX} {pos apos cpos : Pos} {o e : Expr} {es : List Expr} {fo : F U} {fs : F (List U)} {g : P4} {T id : String} {name : Str}
theorem t_fM {σ : L2.St} {H : Hp} {Q : VK} (h : tF X.K W (fM T g fo fs) σ H Q) : tBM X.K T (mM X.K g) (tF X.K W fo) (tFs X.K W fs) σ H Q:=by
 obtain ⟨m,env,st,r,re,p⟩:=h
 refine tF_step r re p fun u st1 v m1 H1 h1 r1 re1 e1 p1=>?_
 by_cases ht : tyB T st1 u = true
 ·simp only [ht,if_true] at p1
  exact ⟨tyB_rp r1 h1 ht,tFs_step r1 re1 p1 fun us st2 vs m2 H2 h2 r2 re2 e2 p2=>⟨m2,st2,u,us,r2,h1.ext e2,h2,PV2.of p2⟩⟩
 ·rw [if_neg ht] at p1; exact p1.elim
theorem d_m (hp : PlainAttrs T) (hs : Slot T name id) (ht : typeOf (.builtin id) = pure (.type "method_descriptor")) (h : MtR X id (mM X.K g)) (ho : DE X W o fo) (ha : DA X W (e :: es) fs)
  (h1 : attributeBase o name X.env (eval o X.env) = eval o X.env:=by rfl)
  (h2 : (((backTo cpos (starEach (e :: es) X.env)).all (fun x=>!x.1) && (backToKw cpos (keywordEach [] X.env)).all (fun x=>x.1.isSome)) && decide ((e :: es).length + ([] : List Keyword).length + (if ([] : List Keyword).isEmpty = true then 0 else 1) < 30)) = true:=by rfl)
  (h3 : (apos.endLine == cpos.line) = true:=by rfl) (h4 : starEach (e :: es) X.env = (false,eval e X.env) :: starEach es X.env:=by rfl) (h5 : (backTo cpos (starEach es X.env)).any (fun x=>x.1) = false:=by rfl) :
  DE X W (.Call (.Attribute o name apos) (e :: es) [] cpos) (fM T g fo fs):=⟨PE.imp (pe_bm hp hs ht h ho.pe ha.pa h1 h2 h3 h4 h5) fun _ _ _ q=>t_fM q⟩
end
noncomputable def lstC (st : Store) : U → Option (Nat × List U)
 | .ref n=>match st[n]? with
  | some (.lst us)=>some (n,us)
  | _=>none
 | _=>none
noncomputable def mAppend : P4:=fun u us st=>match lstC st u,us with
 | some (n,xs),[y]=>if xs.length < sizeLine then some (.d .non,st.set n (.lst (xs ++ [y]))) else none
 | _,_=>none
noncomputable def mExtend : P4:=fun u us st=>match lstC st u,us with
 | some (n,xs),[b]=>match b with
  | .d (.lst ds)=>if xs.length + ds.length ≤ sizeLine then some (.d .non,st.set n (.lst (xs ++ ds.map .d))) else none
  | b=>match lstC st b with
   | some (_,ys)=>if xs.length + ys.length ≤ sizeLine then some (.d .non,st.set n (.lst (xs ++ ys))) else none
   | none=>none
 | _,_=>none
section
variable {K : PySem.W.Frag} {m : List Addr} {H : Hp} {st : Store}
theorem lstC_rp (r : Rep K m st H) {u : U} {v : V} {n : Nat} {us : List U} (h : RpU K m H u v) (e : lstC st u = some (n,us)) :
  ∃ a vs,v = .ref a ∧ H a = some (.lst vs) ∧ RpUs K m H us vs ∧ (∀ us' vs',RpUs K m H us' vs' → Rep K m (st.set n (.lst us')) (upd H a (.lst vs')) ∧ Ext m H m (upd H a (.lst vs'))):=by
 cases u with
 | d x=>cases e
 | ref k =>
  obtain ⟨a,ha,rfl⟩:=h
  simp only [lstC] at e
  split at e
  ·rename_i zs hs
   cases e
   obtain ⟨ho,h1,vs,e2,h2⟩:=r.cell _ _ a hs ha
   subst e2
   have ma : a ∈ m:=List.mem_of_getElem? ha
   exact ⟨a,vs,rfl,h1,h2,fun us' vs' q=>⟨r.write ha ⟨vs',rfl,q.ext (ext_write ma _ (nf_l h1))⟩ (nf_l h1),ext_write ma _ (nf_l h1)⟩⟩
  ·cases e
theorem RpUs.snoc {us : List U} {vs : List V} {u : U} {v : V} (h : RpUs K m H us vs) (k : RpU K m H u v) : RpUs K m H (us ++ [u]) (vs ++ [v]):=h.append ⟨v,[],rfl,k,rfl⟩
theorem RpUs.erase : ∀ {us : List U} {vs : List V} (i : Nat),RpUs K m H us vs → RpUs K m H (us.eraseIdx i) (vs.eraseIdx i)
 | [],_,_,h=>by rw [show _ = [] from h]; rfl
 | u :: us,_,0,⟨x,r,e,h1,h2⟩=>by subst e; exact h2
 | u :: us,_,i + 1,⟨x,r,e,h1,h2⟩=>by subst e; exact ⟨x,r.eraseIdx i,rfl,h1,RpUs.erase i h2⟩
theorem RpUs.dropLast : ∀ {us : List U} {vs : List V},RpUs K m H us vs → RpUs K m H us.dropLast vs.dropLast
 | [],_,h=>by rw [show _ = [] from h]; rfl
 | [u],_,⟨x,r,e,h1,h2⟩=>by cases h2; subst e; rfl
 | u :: w :: us,_,⟨x,r,e,h1,⟨y,t,e2,h3,h4⟩⟩=>by subst e; subst e2; exact ⟨x,_,rfl,h1,RpUs.dropLast (us:=w :: us) ⟨y,t,rfl,h3,h4⟩⟩
theorem RpUs.reverse : ∀ {us : List U} {vs : List V},RpUs K m H us vs → RpUs K m H us.reverse vs.reverse
 | [],_,h=>by rw [show _ = [] from h]; rfl
 | u :: us,_,⟨x,r,e,h1,h2⟩=>by subst e; rw [List.reverse_cons,List.reverse_cons]; exact (RpUs.reverse h2).snoc h1
theorem RpUs.nil {vs : List V} (h : RpUs K m H [] vs) : vs = []:=h
end
section
variable {X : Cx}
theorem mt_append' : MtR X "list.append" (mM X.K mAppend):=by
 refine MtR.imp mt_append fun x vs H Q ⟨m,st,u,us,r,ru,rus,p⟩=>?_
 unfold mAppend at p
 split at p
 ·rename_i n xs y hl
  split at p
  ·rename_i hz
   obtain ⟨a,ws,rfl,h1,h2,h3⟩:=lstC_rp r ru hl
   obtain ⟨v,rfl,hv⟩:=rus.one
   obtain ⟨g1,g2⟩:=h3 _ _ (h2.snoc hv)
   exact ⟨a,ws,v,rfl,rfl,h1,by rw [h2.length]; exact hz,p _ m _ rfl g1 g2⟩
  ·exact p.elim
 ·exact p.elim
theorem mt_extend' : MtR X "list.extend" (mM X.K mExtend):=by
 refine MtR.imp mt_extend fun x vs H Q ⟨m,st,u,us,r,ru,rus,p⟩=>?_
 unfold mExtend at p
 split at p
 ·rename_i n xs b hl
  obtain ⟨a,ws,rfl,h1,h2,h3⟩:=lstC_rp r ru hl
  obtain ⟨v,rfl,hv⟩:=rus.one
  split at p
  ·rename_i ds
   split at p
   ·rename_i hz
    obtain ⟨b,zs,rfl,t,q⟩:=hv
    obtain ⟨g1,g2⟩:=h3 _ _ (h2.append (RpUs.ofD q))
    exact ⟨a,b,ws,zs,rfl,rfl,h1,t.2,by rw [h2.length,q.length]; exact hz,p _ m _ rfl g1 g2⟩
   ·exact p.elim
  ·split at p
   ·rename_i k ys hy
    split at p
    ·rename_i hz
     obtain ⟨b,zs,rfl,t,q,_⟩:=lstC_rp r hv hy
     obtain ⟨g1,g2⟩:=h3 _ _ (h2.append q)
     exact ⟨a,b,ws,zs,rfl,rfl,h1,t,by rw [h2.length,q.length]; exact hz,p _ m _ rfl g1 g2⟩
    ·exact p.elim
   ·exact p.elim
 ·exact p.elim
end
noncomputable def putU (kvs : List (Key × U)) (k : Key) (v : U) : List (Key × U) :=
 if (kvs.any fun kv=>decide (kv.1 = k)) = true then kvs.map fun kv=>if kv.1 = k then (kv.1,v) else kv else kvs ++ [(k,v)]
noncomputable def setU (o i u : U) (st : Store) : Option Store:=match o with
 | .ref n=>match st[n]? with
  | some (.lst us)=>match i with
   | .d (.int j)=>(ixN us.length j).map fun k=>st.set n (.lst (us.set k u))
   | _=>none
  | some (.dct kvs)=>match keyD i with
   | some k=>if kvs.length < sizeLine then some (st.set n (.dct (putU kvs k u))) else none
   | none=>none
  | _=>none
 | _=>none
noncomputable def tgSub (fo fi : F U) : U → G:=fun u env st=>match fo env st with
 | .ok o st1=>match fi env st1 with
  | .ok i st2=>match setU o i u st2 with
   | some st'=>.ok env .nx st'
   | none=>.bad
  | _=>.bad
 | _=>.bad
section
variable {K : PySem.W.Frag} {m : List Addr} {H : Hp} {st : Store}
theorem RpUK.any {k : Key} : ∀ {us : List (Key × U)} {vs : List (Key × V)},RpUK K m H us vs → (us.any fun kv=>decide (kv.1 = k)) = (vs.any fun kv=>decide (kv.1 = k))
 | [],_,h=>by rw [show _ = [] from h]; rfl
 | (k',u) :: us,_,⟨v,r,e,h1,h2⟩=>by subst e; rw [List.any_cons,List.any_cons,RpUK.any h2]
theorem RpUK.mapP {k : Key} {w : U} {x : V} (hw : RpU K m H w x) : ∀ {us : List (Key × U)} {vs : List (Key × V)},RpUK K m H us vs → RpUK K m H (us.map fun kv=>if kv.1 = k then (kv.1,w) else kv) (vs.map fun kv=>if kv.1 = k then (kv.1,x) else kv)
 | [],_,h=>by rw [show _ = [] from h]; rfl
 | (k',u) :: us,_,⟨v,r,e,h1,h2⟩=>by
  subst e
  rw [List.map_cons,List.map_cons]
  by_cases hk : k' = k
  ·subst hk; simp only [if_true]; exact ⟨x,_,rfl,hw,RpUK.mapP hw h2⟩
  ·simp only [hk,if_false]; exact ⟨v,_,rfl,h1,RpUK.mapP hw h2⟩
theorem RpUK.snoc {k : Key} {w : U} {x : V} (hw : RpU K m H w x) : ∀ {us : List (Key × U)} {vs : List (Key × V)},RpUK K m H us vs → RpUK K m H (us ++ [(k,w)]) (vs ++ [(k,x)])
 | [],_,h=>by rw [show _ = [] from h]; exact ⟨x,[],rfl,hw,rfl⟩
 | (k',u) :: us,_,⟨v,r,e,h1,h2⟩=>by subst e; exact ⟨v,_,rfl,h1,RpUK.snoc hw h2⟩
theorem RpUK.put {us : List (Key × U)} {vs : List (Key × V)} (h : RpUK K m H us vs) (k : Key) {w : U} {x : V} (hw : RpU K m H w x) : RpUK K m H (putU us k w) (putK vs k x):=by
 unfold putU putK
 rw [h.any]
 split
 ·exact h.mapP hw
 ·exact h.snoc hw
noncomputable def dctC (st : Store) : U → Option (Nat × List (Key × U))
 | .ref n=>match st[n]? with
  | some (.dct us)=>some (n,us)
  | _=>none
 | _=>none
theorem dctC_rp (r : Rep K m st H) {u : U} {v : V} {n : Nat} {us : List (Key × U)} (h : RpU K m H u v) (e : dctC st u = some (n,us)) :
  ∃ a vs,v = .ref a ∧ H a = some (.dK vs) ∧ RpUK K m H us vs ∧ (∀ us' vs',RpUK K m H us' vs' → Rep K m (st.set n (.dct us')) (upd H a (.dK vs')) ∧ Ext m H m (upd H a (.dK vs'))):=by
 cases u with
 | d x=>cases e
 | ref k =>
  obtain ⟨a,ha,rfl⟩:=h
  simp only [dctC] at e
  split at e
  ·rename_i zs hs
   cases e
   obtain ⟨ho,h1,vs,e2,h2⟩:=r.cell _ _ a hs ha
   subst e2
   have ma : a ∈ m:=List.mem_of_getElem? ha
   exact ⟨a,vs,rfl,h1,h2,fun us' vs' q=>⟨r.write ha ⟨vs',rfl,q.ext (ext_write ma _ (nf_d h1))⟩ (nf_d h1),ext_write ma _ (nf_d h1)⟩⟩
  ·cases e
end
section
variable {X : Cx} {W : WX} {o i : Expr} {fo fi : F U} {pos : Pos}
noncomputable def tSetU (K : PySem.W.Frag) : TSet:=fun o i v H Q=>∃ m st a b u,Rep K m st H ∧ RpU K m H a o ∧ RpU K m H b i ∧ RpU K m H u v ∧ (match setU a b u st with
 | some st'=>∀ H',Rep K m st' H' → Ext m H m H' → Q H'
 | none=>False)
theorem set_ok (hu : X.A.units + 1 < cLine) : PSet X (tSetU X.K):=by
 intro pins s σ H o i v ov iv u Q I ro ri rv h
 obtain ⟨m,st,a,b,w,r,ha,hb,hw,p⟩:=h
 have run : (rSetL o i v H Q ∨ rSetD o i v H Q) → wpAny (model X.prog X.w) X.A (setItem ov iv u) (fun x s'=>∃ H',L2.Inv X pins σ H' s' ∧ Q H') X.xe s:=fun h=>by
  rcases h with h | h
  ·exact set_list pins s σ H o i v ov iv u Q I ro ri rv h
  ·exact set_dict hu pins s σ H o i v ov iv u Q I ro ri rv h
 refine run ?_
 cases e : setU a b w st with
 | none=>rw [e] at p; exact p.elim
 | some st' =>
  rw [e] at p
  unfold setU at e
  split at e
  ·rename_i n
   split at e
   ·rename_i us hs
    split at e
    ·rename_i j
     cases q : ixN us.length j with
     | none=>rw [q] at e; cases e
     | some k =>
      rw [q] at e; cases e
      obtain ⟨l,vs,rfl,h1,h2,h3⟩:=lstC_rp r ha (show lstC st (.ref n) = some (n,us) by simp only [lstC,hs])
      cases hb
      obtain ⟨g1,g2⟩:=h3 _ _ (h2.set k hw)
      exact .inl ⟨l,vs,j,k,rfl,rfl,h1,by rw [h2.length]; exact q,p _ g1 g2⟩
    ·cases e
   ·rename_i us hs
    split at e
    ·rename_i k hk
     split at e
     ·rename_i hz
      cases e
      obtain ⟨l,vs,rfl,h1,h2,h3⟩:=dctC_rp r ha (show dctC st (.ref n) = some (n,us) by simp only [dctC,hs])
      obtain ⟨g1,g2⟩:=h3 _ _ (h2.put k hw)
      have hy:=keyD_rp hb hk
      subst hy
      exact .inr ⟨l,_,rfl,.inl ⟨vs,k,h1,rfl,by rw [h2.length]; exact hz,rfl⟩,p _ g1 g2⟩
     ·cases e
    ·cases e
   ·cases e
  ·cases e
theorem dg_sub (hu : X.A.units + 1 < cLine) (ho : DE X W o fo) (hi : DE X W i fi)
  (ha : ∀ (v : Value),assign (Expr.Subscript o i pos) X.env v = (do
    let ov ← holding [v] (eval o X.env)
    let iv ← holding [v,ov] (eval i X.env)
    standAt pos
    holding [v,ov,iv] (setItem ov iv v)
    release [v,ov,iv] []):=by intro _; rfl) : DG X (.Subscript o i pos) [] (tgSub fo fi) :=
 ⟨PG.imp (pg_sub ho.pe hi.pe (set_ok hu) ha) fun v σ H Q ⟨m,env,st,u,r,re,ru,p⟩=>by
  cases e1 : fo env st with
  | bad=>simp only [tgSub,e1] at p
  | ex c fs st1=>simp only [tgSub,e1] at p
  | ok a st1 =>
   simp only [tgSub,e1] at p
   refine ⟨m,env,st,r,re,?_⟩
   rw [e1]
   intro ov m1 H1 h1 r1 x1
   refine ⟨m1,env,st1,r1,re.ext x1,?_⟩
   cases e2 : fi env st1 with
   | bad=>simp only [e2] at p
   | ex c fs st1=>simp only [e2] at p
   | ok b st2 =>
    simp only [e2] at p
    intro iv m2 H2 h2 r2 x2
    refine ⟨m2,st2,a,b,u,r2,h1.ext x2,h2,(ru.ext x1).ext x2,?_⟩
    cases e3 : setU a b u st2 with
    | none=>simp only [e3] at p
    | some st3 =>
     simp only [e3] at p
     exact fun H' r3 x3=>p σ m2 H' (re.ext (x1.trans (x2.trans x3))) r3 (x1.trans (x2.trans x3)) (Out.refl _ _)⟩
theorem nx_sub : TgNx (tgSub fo fi):=fun u env st=>by
 unfold tgSub
 cases fo env st with
 | bad=>trivial
 | ex c fs st1=>trivial
 | ok a st1 =>
  simp only
  cases fi env st1 with
  | bad=>trivial
  | ex c fs st1=>trivial
  | ok b st2 =>
   simp only
   cases setU a b u st2 with
   | none=>trivial
   | some st3=>trivial
end
end VL
namespace VL
open PySem PySem.Spec PyProof.Rows L2
structure RoomG (k : Nat) (A : Around) : Prop where
 rm : Room k A
 gd : A.guards = some []
theorem RoomG.deeper {k : Nat} {A : Around} (r : RoomG (k + 1) A) (env : Env) : RoomG k (A.deeper env):=⟨r.rm.deeper env,r.gd⟩
theorem RoomG.mono {j k : Nat} {A : Around} (r : RoomG k A) (h : j ≤ k) : RoomG j A:=⟨r.rm.mono h,r.gd⟩
theorem RoomG.make {k : Nat} {A : Around} (r : RoomG (k + 1) A) (C : Addr) (us : List Value) (kw : List (Str × Value)) : RoomG k (A.under (.builtin "type.__call__" { pos:=Value.ref C :: us,kw:=kw })) :=
 ⟨r.rm.make C us kw,r.gd⟩
structure FnG (P : Program) (w : World) (K : PySem.W.Frag) (mg : Str → Option Value) (base : Heap) (k : Nat) (f : Addr) (fd : FuncData) (ps : List Str) (sp : Sp) : Prop where
 len : ∀ (vs : List V) (H : Hp) (Q : VK) (E : XK),sp vs H Q E → vs.length = ps.length
 run : ∀ (A : Around) (outer : List Env) (s : Shared) (H : Hp) (args : Args) (us : List Value) (vs : List V) (Q : VK) (E : XK),RoomG k A → Env0 P w K mg base A outer s H → BindsTo s fd args (ps.zip us) → Vals vs us → sp vs H Q E →
  codeAny (model P w) A (.call (.ref f) args) (CR (L2.CX P w) outer P w H s Q E) s
section
variable {P : Program} {w : World} {K : PySem.W.Frag} {mg : Str → Option Value} {base : Heap}
theorem FnG.mono {j k : Nat} {f : Addr} {fd : FuncData} {ps : List Str} {sp : Sp} (F : FnG P w K mg base j f fd ps sp) (h : j ≤ k) : FnG P w K mg base k f fd ps sp :=
 ⟨F.len,fun A outer s H args us vs Q E r=>F.run A outer s H args us vs Q E (r.mono h)⟩
theorem fn_ofG {k : Nat} {f : Addr} {name qual : Str} {params : Arguments} {body : List Stmt} {scope : Scope} {dV kV doc pm cdv ct oc : Value} {an od : Option Addr} {osl : Array (Option Value)} {N ps : List Str} {sp : Sp}
  (lk : K.lookup f = some { cls:=oc,dict:=od,data:=.func (PySem.W.fnOf name qual params body scope dV kV doc pm an cdv ct),slots:=osl }) (hcd : PySem.W.codeIn K cdv qual = true) (S : FnScope N ps scope)
  (len : ∀ (vs : List V) (H : Hp) (Q : VK) (E : XK),sp vs H Q E → vs.length = ps.length)
  (hbody : ∀ (A : Around) (outer : List Env) (s : Shared) (H : Hp) (vs : List V) (Q : VK) (E : XK),RoomG k (A.deeper (envOfC qual scope s.heap.objs.size f cdv)) → sp vs H Q E →
   ∃ t,PSs (cxOf (L2.CX P w) P w K mg base N qual scope f cdv A outer s H E) body t ∧ t { nx:=fun _ H'=>Q .non H',rt:=Q } (L2.start N vs) H) :
  FnG P w K mg base (k + 1) f (PySem.W.fnOf name qual params body scope dV kV doc pm an cdv ct) ps sp:=⟨len,fun A outer s H args us vs Q E hr e0 hb r hsp=>by
 have hl:=len vs H Q E hsp
 have KX : PySem.W.Frag.In K s.heap:=PySem.W.Frag.In.keeps e0.mod.kin fun b o e=>(e0.bs b o e).1
 have lim:=Heap.NoLimit.keeps e0.mod.nolimit fun b o e=>(e0.bs b o e).1
 have hkind : ∀ x ∈ ps.zip us,scope.names.lookup x.1 = some .local ∨ scope.names.lookup x.1 = some .cell ∧ ((cellsFrom (s.heap.objs.size + 1) scope.names []).lookup x.1).isSome = true:=fun x hy=>by
  obtain ⟨n,v⟩:=x
  rcases S.par n (List.of_mem_zip hy).1 with q | q
  ·exact .inl q
  ·exact .inr ⟨q,PySem.W.cellsFrom_some scope.names (s.heap.objs.size + 1) [] (.inl q)⟩
 refine codeAny_call_function hr.rm.depth (KX f _ lk) rfl S.co S.gen rfl (PySem.W.codeRec_of KX hcd) (hb (model P w) A.in1 _ _ ?_)
 refine wpAny_newFunctionEnv_cells S.kind hkind fun env he s1 x=>?_
 subst he
 refine ⟨Heap.NoLimit.keeps lim x.toInCall.keep,codeAny_func ?_⟩
 obtain ⟨t,ht,hq⟩:=hbody A outer s H vs Q E (hr.deeper _) hsp
 have I:=inv_start (CX:=L2.CX P w) (mg:=mg) (E:=E) S hr.rm.hd e0 hl r x
 refine wpAny_mono (ht.run [] s1 (L2.start N vs) H { nx:=fun _ H'=>Q .non H',rt:=Q } I hq) (fun fl s' hs=>?_) fun e s' hs=>hs
 cases fl with
 | next =>
  obtain ⟨σ',H',J,q⟩:=hs
  exact ⟨.non,H',J.os,J.bare,J.base,J.hok,rfl,q⟩
 | brk=>obtain ⟨_,_,_,q⟩:=hs; exact q.elim
 | cont=>obtain ⟨_,_,_,q⟩:=hs; exact q.elim
 | ret u =>
  obtain ⟨v,σ',H',J,rv,q⟩:=hs
  exact ⟨v,H',J.os,J.bare,J.base,J.hok,rv,q⟩⟩
theorem law_callG {mb : Str → Option Value} {k : Nat} {fa a : Addr} {fd : FuncData} {x : Str} {sp : Sp} {s₁ : Shared} {vs : List Value} {ns : List Int} (KX : PySem.W.Frag.In K s₁.heap) (hns : s₁.heap.Ns mainGlobals mg) (hb : s₁.heap.Ns builtinsNs mb)
  (hbb : ∀ x : Str,x ≠ "__name__" → mb x = bootBuiltins x) (hlim : s₁.heap.NoLimit) (hg : s₁.gens = #[]) (ha : s₁.heap.get? a = some { cls:=.type "list",data:=.seq vs.toArray }) (hi : IntsAre vs ns) (hl : ns.length ≤ sizeLine)
  (hr : RoomG k callerA) (F : ∀ base : Heap,PySem.W.Frag.In K base → base.Ns mainGlobals mg → FnG P w K mg base k fa fd [x] sp) (hbind : ∀ (s : Shared) (u : Value),BindsTo s fd { pos:=[u] } [(x,u)])
  (hsp : ∀ H : Hp,Only H → SqL K H a (ns.map V.int) → sp [.ref a] H (fun v _=>v = .bl true) fun _ _ _=>False) :
  codeAny (model P w) callerA (.call (.ref fa) { pos:=[.ref a] }) (fun r s'=>r = .ok (.ret (.bool true)) ∧ OldK s₁.heap s'.heap ∧ s'.os = s₁.os ∧ AllBare s'.gens) s₁:=by
 have rv:=vals_ints hi
 have lenV:=hi.length
 have core : ∀ H : Hp,Only H → SqL K H a (ns.map V.int) → HOk P w H s₁.heap → (∀ b,H b ≠ none → b = a) → (H a ≠ none → K.lookup a = none) →
   codeAny (model P w) callerA (.call (.ref fa) { pos:=[.ref a] }) (fun r s'=>r = .ok (.ret (.bool true)) ∧ OldK s₁.heap s'.heap ∧ s'.os = s₁.os ∧ AllBare s'.gens) s₁:=fun H hO hS hok hA hK=>by
  have noA : ∀ {b : Addr} {o : Obj} {es : _} {ep : _},s₁.heap.get? b = some o → o.data = .dict es ep → H b = none:=fun {b o es ep} e d=>by
   cases q : H b with
   | none=>rfl
   | some u =>
    have e':=hA b (by rw [q]; exact fun z=>nomatch z)
    subst e'
    rw [ha] at e
    cases e
    cases d
  have nsK : ∀ {b : Addr} {m : Str → Option Value},s₁.heap.Ns b m → (hidT s₁.heap H).Ns b m:=fun {b m} x=>by
   obtain ⟨o,es,ep,e,d,r⟩:=x
   exact ⟨o,es,ep,hidT_get e (noA e d),d,r⟩
  have hKb : PySem.W.Frag.In K (hidT s₁.heap H):=fun b o e=>hidT_get (KX b o e) (by
   cases q : H b with
   | none=>rfl
   | some u =>
    have e':=hA b (by rw [q]; exact fun z=>nomatch z)
    subst e'
    rw [hK (by rw [q]; exact fun z=>nomatch z)] at e
    cases e)
  have hM : L2.Mod K mg (hidT s₁.heap H):=⟨hKb,nsK hns,⟨mb,nsK hb,hbb⟩,by
   obtain ⟨mc,h1,h2⟩:=hlim
   exact ⟨mc,nsK h1,h2⟩⟩
  have e0 : Env0 P w K mg (hidT s₁.heap H) callerA [] s₁ H :=
   { frames:=rfl,mod:=hM,bs:=fun b o e=>of_hidT e,bsz:=Nat.le_of_eq (hidT_size s₁.heap H),funs:=trivial,frf:=fun b hb=>absurd hb List.not_mem_nil,hok:=hok,bare:=AllBare.of_eq hg }
  refine codeAny_mono ((F (hidT s₁.heap H) hKb (nsK hns)).run callerA [] s₁ H { pos:=[.ref a] } [.ref a] [.ref a] (fun v _=>v = .bl true) (fun _ _ _=>False) hr e0 (hbind s₁ (.ref a)) (.cons rfl .nil) (hsp H hO hS)) fun r s' h=>?_
  cases r with
  | error e =>
   obtain ⟨_,_,_,_,_,_,_,_,_,_,_,_,h⟩:=h
   exact h.elim
  | ok fl =>
   cases fl with
   | next=>exact False.elim h
   | brk=>exact False.elim h
   | cont=>exact False.elim h
   | ret u =>
    obtain ⟨v,H',os,bare,un,hok',r',q⟩:=h
    have q' : v = .bl true:=q
    subst q'
    have r2 : u = .bool true:=r'
    subst r2
    refine ⟨rfl,OldK.of_keep fun b o e=>?_,os,bare⟩
    cases q : H b with
    | none=>exact un.keep b o e q List.not_mem_nil List.not_mem_nil
    | some u =>
     rcases hO b with z | ⟨ob,xs,z⟩
     ·rw [q] at z; cases z
     ·have z2:=un.frzs b ob _ z
      have h1:=hok b _ z
      have h2:=hok' b _ z2
      obtain ⟨e1,_⟩:=h1
      obtain ⟨e2,_⟩:=h2
      rw [e] at e1
      cases e1
      exact e2
 cases hk : K.lookup a with
 | none =>
  refine core (fun b=>if b = a then some (.frz { cls:=.type "list",data:=.seq vs.toArray } (.lst (ns.map V.int))) else none) (fun b=>?_) (.inl (.inr ⟨_,if_pos rfl⟩)) (fun b u z=>?_) (fun b z=>?_) fun _=>hk
  ·by_cases hb : b = a
   ·exact .inr ⟨_,_,if_pos hb⟩
   ·exact .inl (if_neg hb)
  ·by_cases hb : b = a
   ·subst hb
    have z':=(if_pos rfl).symm.trans z
    cases z'
    exact ⟨ha,by rw [List.length_map]; exact hl,vs,0,rv,ha⟩
   ·have z':=(if_neg hb).symm.trans z
    cases z'
  ·by_cases hb : b = a
   ·exact hb
   ·exact absurd (if_neg hb) z
 | some o =>
  have e:=KX a o hk
  rw [ha] at e
  cases e
  refine core (fun _=>none) (fun _=>.inl rfl) (.inr ⟨_,vs.toArray,0,hk,rfl,rfl,rfl,?_,rv⟩) (fun b u z=>by cases z) (fun b z=>absurd rfl z) fun z=>absurd rfl z
  rw [List.size_toArray,lenV]; exact hl
end
end VL
namespace VL
open PySem PySem.Spec PyProof.Rows L2
section
variable {P : Program} {w : World} {K : PySem.W.Frag} {mg : Str → Option Value} {base : Heap}
theorem okG {x qual : Str} {st : Stmt} {f : Addr} {fd : FuncData} {N ps : List Str} {k : Nat} {sp : Sp} (Fn : Fun K x qual st f fd) (S : FnScope N ps (defScope st)) (len : ∀ (vs : List V) (H : Hp) (Q : VK) (E : XK),sp vs H Q E → vs.length = ps.length)
  (hbody : ∀ (cdv : Value),fd.code = cdv → ∀ (A : Around) (outer : List Env) (s : Shared) (H : Hp) (vs : List V) (Q : VK) (E : XK),RoomG k (A.deeper (envOfC qual (defScope st) s.heap.objs.size f cdv)) → sp vs H Q E →
   ∃ t,PSs (cxOf (L2.CX P w) P w K mg base N qual (defScope st) f cdv A outer s H E) (defBody st) t ∧ t { nx:=fun _ H'=>Q .non H',rt:=Q } (L2.start N vs) H) : FnG P w K mg base (k + 1) f fd ps sp:=by
 obtain ⟨oc,od,kV,doc,pm,an,cdv,ct,osl,rfl,lk,hcd⟩:=Fn.ex
 exact fn_ofG lk hcd S len fun A outer s H vs Q E hr hsp=>hbody cdv rfl A outer s H vs Q E hr hsp
/-- THE RULE for a def -/
theorem fn_okC {x qual : Str} {st : Stmt} {f : Addr} {fd : FuncData} {N ps : List Str} {k : Nat} {g : G} {wr : Wr} (Fn : Fun K x qual st f fd) (S : FnScope N ps (defScope st)) (hw : WOk wr)
  (hbody : ∀ (cdv : Value),fd.code = cdv → ∀ (A : Around) (outer : List Env) (s : Shared) (H : Hp) (E : XK),RoomG k (A.deeper (envOfC qual (defScope st) s.heap.objs.size f cdv)) →
   DB (cxOf (L2.CX P w) P w K mg base N qual (defScope st) f cdv A outer s H E) (fun c d _ H'=>E c d H') (defBody st) g) : FnG P w K mg base (k + 1) f fd ps (spM K ps.length (fnM N.length g wr)):=by
 refine okG Fn S (fun vs H Q E h=>h.1) fun cdv hcv A outer s H vs Q E hr h=>?_
 obtain ⟨hl,m,st,us,r,ru,p⟩:=h
 refine ⟨tG K (fun c d _ H'=>E c d H') g,(hbody cdv hcv A outer s H E hr).pss,m,_,st,r,start_env ru,?_⟩
 unfold fnM at p
 have fin : ∀ {u : U} {st' : Store},PU K m H Q E (wr st.length u st') → ∀ v m' H',RpU K m' H' u v → Rep K m' st' H' → Ext m H m' H' → Q v H':=fun {u st'} p v m' H' h1 h2 h3=>by
  have hk : st.length ≤ m'.length:=by rw [← r.len]; exact h3.pre.length_le
  have:=hw.ok K st.length u st' m' H' v h2 h1 hk
  cases e : wr st.length u st' with
  | bad=>rw [e] at p; exact p.elim
  | ex c fs s=>rw [e] at this; exact this.elim
  | ok u' s =>
   rw [e] at p this
   obtain ⟨m2,g1,g2,g3,g4⟩:=this
   refine p v m2 H' g2 g1 ⟨?_,h3.toStay.less g4⟩
   obtain ⟨t,ht⟩:=h3.pre
   have : m'.take st.length = m:=by rw [← ht,← r.len]; simp
   rw [this] at g3
   exact g3
 cases e : g (us.map some ++ List.replicate (N.length - us.length) none) st with
 | bad=>rw [e] at p; exact p
 | ex c fs env2 st2 =>
  rw [e] at p
  simp only at p
  intro d σ' m' H' h0 h1 h2 h3
  cases q : cutS st.length st2 with
  | none=>simp only [q] at p; exact p.elim
  | some s2 =>
   simp only [q] at p
   refine p d (m'.take st.length) H' (h1.cut q) (ext_cut h2 (by rw [r.len]; exact Nat.le_refl _)) ?_
   cases fs with
   | none=>cases d with
    | none=>trivial
    | some d=>exact h3.elim
   | some fs=>cases d with
    | none=>exact h3.elim
    | some d =>
     obtain ⟨vs,g1,g2,g3⟩:=h3
     exact ⟨vs,g1,fun z=>g2 (List.mem_of_mem_take z),RpF.stay ⟨fun a o n e _ _=>⟨e,fun z=>n (List.mem_of_mem_take z)⟩,fun a kvs n e=>⟨e,fun z=>n (List.mem_of_mem_take z)⟩,fun _ _ _ e=>e⟩ _ _ g3⟩
 | ok env2 fl st2 =>
  rw [e] at p
  cases fl with
  | nx=>exact fun σ' m' H' h0 h1 h2=>fin p .non m' H' rfl h1 h2
  | rt u=>exact fun v m' H' h0 h1 h2=>fin p v m' H' h0 h1 h2
  | bk=>exact p.elim
  | ct=>exact p.elim
end
section
variable {P : Program} {w : World} {K : PySem.W.Frag} {mg : Str → Option Value} {base : Heap}
theorem fn_ok {x qual : Str} {st : Stmt} {f : Addr} {fd : FuncData} {N ps : List Str} {k : Nat} {g : G} {wr : Wr} (Fn : Fun K x qual st f fd) (S : FnScope N ps (defScope st)) (hw : WOk wr)
  (hbody : ∀ (cdv : Value) (A : Around) (outer : List Env) (s : Shared) (H : Hp) (E : XK),RoomG k (A.deeper (envOfC qual (defScope st) s.heap.objs.size f cdv)) →
   DB (cxOf (L2.CX P w) P w K mg base N qual (defScope st) f cdv A outer s H E) (fun c d _ H'=>E c d H') (defBody st) g) : FnG P w K mg base (k + 1) f fd ps (spM K ps.length (fnM N.length g wr)) :=
 fn_okC Fn S hw fun cdv _ A outer s H E hr=>hbody cdv A outer s H E hr
end
theorem PK.imp {X : Cx} {e : List Keyword} {t t' : TA} (h : PK X e t) (i : ∀ σ H Q,t' σ H Q → t σ H Q) : PK X e t':=⟨fun pos pins s σ H Q I q=>h.run pos pins s σ H Q I (i σ H Q q)⟩
noncomputable def fCW (f g : F (List U)) : F (List U × List U):=bnd f fun us=>bnd g fun ws=>fPure (us,ws)
noncomputable def rel2 (K : PySem.W.Frag) (m : List Addr) (H : Hp) (a : List U × List U) (b : List V × List V) : Prop:=RpUs K m H a.1 b.1 ∧ RpUs K m H a.2 b.2
noncomputable def tFs2 (K : PySem.W.Frag) (W : WX) (f : F (List U × List U)) (σ : L2.St) (H : Hp) (Z : List V × List V → Hp → Prop) : Prop:=∃ m env st,Rep K m st H ∧ RpEnv K m H env σ ∧ PO' K m H (rel2 K) Z (fun c d H'=>W c d σ H') (f env st)
theorem tFs2_step {K : PySem.W.Frag} {W : WX} {m : List Addr} {env : VEnv} {st : Store} {H : Hp} {σ : L2.St} {γ δ : Type} {rel : List Addr → Hp → γ → δ → Prop} {Q : δ → Hp → Prop} {f : F (List U × List U)} {g : List U × List U → F γ} {Z : List V × List V → Hp → Prop}
  (r : Rep K m st H) (re : RpEnv K m H env σ) (p : PO' K m H rel Q (fun c d H'=>W c d σ H') (bnd f g env st))
  (h : ∀ a st1 v m1 H1,rel2 K m1 H1 a v → Rep K m1 st1 H1 → RpEnv K m1 H1 env σ → Ext m H m1 H1 → PO' K m1 H1 rel Q (fun c d H'=>W c d σ H') (g a env st1) → Z v H1) : tFs2 K W f σ H Z :=
 ⟨m,env,st,r,re,by
  unfold bnd at p
  cases e : f env st with
  | ok a st1=>rw [e] at p; exact fun v m1 H1 h1 h2 h3=>h a st1 v m1 H1 h1 h2 (re.ext h3) h3 (p.from h3)
  | ex c fs st1=>rw [e] at p; exact p
  | bad=>rw [e] at p; exact p.elim⟩
/-- a call's arguments,by place and by name -/
structure DCW (X : Cx) (W : WX) (pos : Pos) (args : List Expr) (kws : List Keyword) (ks : List Str) (f : F (List U × List U)) : Prop where
 run : ∀ (pins : List (Addr × Obj)) (s : Shared) (σ : L2.St) (H : Hp) (c : Value) (first : List Value) (Q : Value → Shared → Prop) (Z : List V × List V → Hp → Prop),Inv X pins σ H s → PySem.W.keepIn X.K c = true → tFs2 X.K W f σ H Z →
  (∀ (vs zs : List V) (us ws : List Value) (H' : Hp) (s' : Shared),Inv X pins σ H' s' → Vals vs us → Vals zs ws → Z (vs,zs) H' → wpAny (model X.prog X.w) X.A (call c (first ++ us) (ks.zip ws)) Q X.xe s') →
  wpAny (model X.prog X.w) X.A (callWith pos c first (backTo pos (starEach args X.env)) (backToKw pos (keywordEach kws X.env))) Q X.xe s
section
variable {X : Cx} {W : WX} {e : Expr} {es : List Expr} {kws : List Keyword} {ks : List Str} {fs fk : F (List U)} {pos : Pos}
theorem split2 {σ : L2.St} {H : Hp} {Z : List V × List V → Hp → Prop} (h : tFs2 X.K W (fCW fs fk) σ H Z) : tFs X.K W fs σ H fun vs H1=>tFs X.K W fk σ H1 fun zs H2=>Z (vs,zs) H2:=by
 obtain ⟨m,env,st,r,re,p⟩:=h
 exact tFs_step r re p fun us st1 vs m1 H1 h1 r1 re1 e1 p1=>tFs_step r1 re1 p1 fun ws st2 zs m2 H2 h2 r2 re2 e2 p2=>p2 (vs,zs) m2 H2 ⟨h1.ext e2,h2⟩ r2 (Ext.refl _ _)
theorem tNilF {σ : L2.St} {H : Hp} {Z : List V → Hp → Prop} (h : tFs X.K W fNil σ H Z) : Z [] H:=by
 obtain ⟨m,env,st,r,re,p⟩:=h
 exact p [] m H rfl r (Ext.refl _ _)
theorem cw_pos (ha : DA X W (e :: es) fs) (he : starEach (e :: es) X.env = (false,eval e X.env) :: starEach es X.env:=by rfl) (hpl : (backTo pos (starEach es X.env)).any (·.1) = false:=by rfl) : DCW X W pos (e :: es) [] [] (fCW fs fNil) :=
 ⟨fun pins s σ H c first Q Z I hk t k=>PySem.W.callWith_K (Mod.kin I.ok.mod) hk (thn (ha.pa.run pos pins s σ H _ I (split2 t)) fun us s1 ⟨vs,H1,I1,rv,q⟩=>⟨I1.kIn,k vs [] us [] H1 s1 I1 rv .nil (tNilF q)⟩) he hpl⟩
end
structure Bd (K : PySem.W.Frag) (fd : FuncData) (ps : List Str) (n : Nat) (ks : List Str) (g : List Value → List Value → List Value) (gV : List V → List V → List V) (gU : List U → List U → List U) : Prop where
 to : ∀ (s : Shared) (us ws : List Value),PySem.W.Frag.In K s.heap → us.length = n → ws.length = ks.length → BindsTo s fd { pos:=us,kw:=ks.zip ws } (ps.zip (g us ws))
 relV : ∀ {vs : List V} {us : List Value} {zs : List V} {ws : List Value},vs.length = n → zs.length = ks.length → Vals vs us → Vals zs ws → Vals (gV vs zs) (g us ws)
 relU : ∀ {m : List Addr} {H : Hp} {us ws : List U} {vs zs : List V},us.length = n → ws.length = ks.length → RpUs K m H us vs → RpUs K m H ws zs → RpUs K m H (gU us ws) (gV vs zs)
 len : ∀ {us ws : List U},us.length = n → ws.length = ks.length → (gU us ws).length = ps.length
noncomputable def gPos {α : Type} (us _ws : List α) : List α:=us
theorem bd_pos {K : PySem.W.Frag} {fd : FuncData} {ps : List Str} (b : Binds K fd ps []) : Bd K fd ps ps.length [] gPos gPos gPos :=
 ⟨fun s us ws KX h1 h2=>by
  have:=b s us KX (by rw [List.append_nil]; exact h1)
  rw [List.append_nil] at this
  exact this,fun _ _ r _=>r,fun _ _ r _=>r,fun h _=>h⟩
/-- a def as its callers see it -/
structure Fd (P : Program) (w : World) (K : PySem.W.Frag) (mg : Str → Option Value) (base : Heap) (f : Addr) (k n : Nat) (ks : List Str) (gU : List U → List U → List U) (mf : List U → M U) : Prop where
 run : ∀ (A : Around) (outer : List Env) (s : Shared) (H : Hp) (us ws : List Value) (vs zs : List V) (m : List Addr) (st : Store) (as bs : List U) (Q : VK) (E : XK),RoomG k A → Env0 P w K mg base A outer s H → Vals vs us → Vals zs ws →
  Rep K m st H → RpUs K m H as vs → RpUs K m H bs zs → as.length = n → bs.length = ks.length → PU K m H Q E (mf (gU as bs) st) →
  codeAny (model P w) A (.call (.ref f) { pos:=us,kw:=ks.zip ws }) (CR (L2.CX P w) outer P w H s Q E) s
theorem env0_in {P : Program} {w : World} {K : PySem.W.Frag} {mg : Str → Option Value} {base : Heap} {A : Around} {outer : List Env} {s : Shared} {H : Hp} (e0 : Env0 P w K mg base A outer s H) : PySem.W.Frag.In K s.heap :=
 PySem.W.Frag.In.keeps e0.mod.kin fun b o e=>(e0.bs b o e).1
theorem Fd.of {P : Program} {w : World} {K : PySem.W.Frag} {mg : Str → Option Value} {base : Heap} {f : Addr} {k n : Nat} {ks : List Str} {gU : List U → List U → List U} {mf : List U → M U} {fd : FuncData} {ps : List Str} {g : List Value → List Value → List Value} {gV : List V → List V → List V}
  (F : FnG P w K mg base k f fd ps (spM K ps.length mf)) (b : Bd K fd ps n ks g gV gU) : Fd P w K mg base f k n ks gU mf:=⟨fun A outer s H us ws vs zs m st as bs Q E hr e0 rv rz r ra rb la lb h=>by
 have l1 : vs.length = n:=ra.length.trans la
 have l2 : zs.length = ks.length:=rb.length.trans lb
 have rg:=b.relU la lb ra rb
 exact F.run A outer s H { pos:=us,kw:=ks.zip ws } (g us ws) (gV vs zs) Q E hr e0 (b.to s us ws (env0_in e0) (by rw [← l1]; exact (Vals.length rv).symm) (by rw [← l2]; exact (Vals.length rz).symm)) (b.relV l1 l2 rv rz)
  ⟨rg.length.trans (b.len la lb),m,st,gU as bs,r,rg,h⟩⟩
theorem Fd.mono {P : Program} {w : World} {K : PySem.W.Frag} {mg : Str → Option Value} {base : Heap} {f : Addr} {j k n : Nat} {ks : List Str} {gU : List U → List U → List U} {mf : List U → M U} (h : Fd P w K mg base f j n ks gU mf) (hk : j ≤ k) : Fd P w K mg base f k n ks gU mf :=
 ⟨fun A outer s H us ws vs zs m st as bs Q E hr=>h.run A outer s H us ws vs zs m st as bs Q E (hr.mono hk)⟩
section
variable {X : Cx} {W : WX}
theorem run_g {k n : Nat} {f : Addr} {ks : List Str} {gU : List U → List U → List U} {mf : List U → M U} {pins : List (Addr × Obj)} {σ : L2.St} {H : Hp} {s : Shared} {Q : VK} {us ws : List Value} {vs zs : List V} {m : List Addr} {st : Store} {as bs : List U} (F : Fd X.prog X.w X.K X.mg X.base f k n ks gU mf) (hr : RoomG k X.A) (tk : Takes X W) (I : Inv X pins σ H s)
  (rv : Vals vs us) (rz : Vals zs ws) (r : Rep X.K m st H) (ra : RpUs X.K m H as vs) (rb : RpUs X.K m H bs zs) (la : as.length = n) (lb : bs.length = ks.length) (h : PU X.K m H Q (fun c d H'=>W c d σ H') (mf (gU as bs) st)) :
  wpAny (model X.prog X.w) X.A (call (.ref f) us (ks.zip ws)) (EP X pins σ Q) X.xe s:=by
 refine wpAny_call (codeAny_mono (F.run X.A X.stack s H us ws vs zs m st as bs Q (fun c d H'=>W c d σ H') hr I.env0 rv rz r ra rb la lb h) fun r s' hq=>?_)
 cases r with
 | error e=>exact passAt tk σ pins H s e s' I hq
 | ok fl =>
  cases fl with
  | next=>exact False.elim hq
  | brk=>exact False.elim hq
  | cont=>exact False.elim hq
  | ret u=>exact Inv.after I hq
noncomputable def fCall (n m : Nat) (gU : List U → List U → List U) (mf : List U → M U) (f : F (List U × List U)) : F U:=bnd f fun p=>fun _ st=>if p.1.length = n ∧ p.2.length = m then mf (gU p.1 p.2) st else .bad
/-- f(..) -/
theorem d_call {x : Str} {p pos : Pos} {args : List Expr} {kws : List Keyword} {ks : List Str} {k n : Nat} {f : Addr} {gU : List U → List U → List U} {mf : List U → M U} {fc : F (List U × List U)} (Fn : Fd X.prog X.w X.K X.mg X.base f k n ks gU mf) (hm : X.mg x = some (.ref f)) (hk : PySem.W.keepIn X.K (.ref f) = true) (hr : RoomG k X.A) (tk : Takes X W) (ha : DCW X W pos args kws ks fc)
  (hg : Gl X x:=by rfl) (hdb : (x == ("__debug__" : Str)) = false:=by decide) : DE X W (.Call (.Name x p) args kws pos) (fCall n ks.length gU mf fc) :=
 ⟨⟨fun pins s σ H Q I q=>wpAny_Call_Name_kw (ld_glob I hg hm (by
  obtain ⟨m,env,st,r,re,p⟩:=q
  refine ha.run pins s σ H (.ref f) [] _ (fun v H1=>∃ m1 st1 as bs,Rep X.K m1 st1 H1 ∧ RpUs X.K m1 H1 as v.1 ∧ RpUs X.K m1 H1 bs v.2 ∧ as.length = n ∧ bs.length = ks.length ∧ PU X.K m1 H1 Q (fun c d H'=>W c d σ H') (mf (gU as bs) st1)) I hk (tFs2_step r re p fun a st1 v m1 H1 h1 r1 re1 e1 p1=>?_) ?_
  ·by_cases hl : a.1.length = n ∧ a.2.length = ks.length
   ·rw [if_pos hl] at p1
    exact ⟨m1,st1,a.1,a.2,r1,h1.1,h1.2,hl.1,hl.2,p1⟩
   ·rw [if_neg hl] at p1; exact p1.elim
  ·rintro vs zs us ws H' s' I' rv rz ⟨m1,st1,as,bs,r1,h1,h2,la,lb,p1⟩
   exact run_g Fn hr tk I' rv rz r1 h1 h2 la lb p1) hdb)⟩⟩
/-- an instance's class and fields -/
noncomputable def insU (st : Store) : U → Option (Addr × List (Str × U))
 | .d (.ins C fs)=>some (C,fs.map fun p=>(p.1,.d p.2))
 | .ref n=>match st[n]? with
  | some (.ins C us)=>some (C,us)
  | _=>none
 | _=>none
end
section
variable {K : PySem.W.Frag} {m : List Addr} {H : Hp} {st : Store}
theorem RpUF.ofD : ∀ {ds : List (Str × D)} {vs : List (Str × V)},RpF K m H ds vs → RpUF K m H (ds.map fun p=>(p.1,.d p.2)) vs
 | [],_,h=>h
 | (k,d) :: ds,_,⟨v,r,e,h1,h2⟩=>⟨v,r,e,h1,RpUF.ofD h2⟩
theorem RpUF.lookup {f : Str} : ∀ {us : List (Str × U)} {vs : List (Str × V)},RpUF K m H us vs → match us.lookup f with | some u=>∃ v,vs.lookup f = some v ∧ RpU K m H u v | none=>vs.lookup f = none
 | [],_,h=>by cases h; exact rfl
 | (k,u) :: us,_,⟨v,r,e,h1,h2⟩=>by
  subst e
  have ih:=RpUF.lookup (f:=f) h2
  rw [List.lookup_cons,List.lookup_cons]
  by_cases e : (f == k) = true
  ·rw [e]; exact ⟨v,rfl,h1⟩
  ·rw [Bool.not_eq_true] at e; rw [e]; exact ih
end
section
variable {X : Cx} {W : WX} {o e : Expr} {fo fe : F U} {pos apos cpos : Pos} {f : Str}
noncomputable def fMeth (C : Addr) (nm : Str) (n m : Nat) (gU : List U → List U → List U) (mf : List U → M U) (fo : F U) (fc : F (List U × List U)) : F U:=bnd fo fun u=>fun env st=>match insU st u with
 | some (C',us)=>if C' = C ∧ us.lookup nm = none then bnd fc (fun p=>fun _ st=>if p.1.length = n ∧ p.2.length = m then mf (gU (u :: p.1) p.2) st else .bad) env st else .bad
 | none=>.bad
noncomputable def oFld (cs : List Addr) (f : Str) (u : U) (st : Store) : Option U:=match insU st u with
 | some (C,us)=>if C ∈ cs then us.lookup f else none
 | none=>none
noncomputable def fFld (cs : List Addr) (f : Str) (fo : F U) : F U:=f1 (oFld cs f) fo
noncomputable def putFU (f : Str) (u : U) : List (Str × U) → List (Str × U)
 | []=>[(f,u)]
 | (k,w) :: r=>if k = f then (k,u) :: r else (k,w) :: putFU f u r
theorem RpUF.put {K : PySem.W.Frag} {m : List Addr} {H : Hp} {f : Str} {w : U} {x : V} (hw : RpU K m H w x) : ∀ {us : List (Str × U)} {vs : List (Str × V)},RpUF K m H us vs → RpUF K m H (putFU f w us) (putF f x vs)
 | [],_,h=>by rw [show _ = [] from h]; exact ⟨x,[],rfl,hw,rfl⟩
 | (k,u) :: us,_,⟨v,r,e,h1,h2⟩=>by
  subst e
  unfold putFU putF
  by_cases hk : k = f
  ·rw [if_pos hk,if_pos hk]; exact ⟨x,r,rfl,hw,h2⟩
  ·rw [if_neg hk,if_neg hk]; exact ⟨v,_,rfl,h1,RpUF.put hw h2⟩
theorem RpUF.length {K : PySem.W.Frag} {m : List Addr} {H : Hp} : ∀ {us : List (Str × U)} {vs : List (Str × V)},RpUF K m H us vs → vs.length = us.length
 | [],_,h=>by rw [show _ = [] from h]; rfl
 | (k,u) :: us,_,⟨v,r,e,h1,h2⟩=>by rw [e,List.length_cons,List.length_cons,RpUF.length h2]
noncomputable def setFld (cs : List Addr) (f : Str) (u o : U) (st : Store) : Option Store:=match o with
 | .ref n=>match st[n]? with
  | some (.ins C us)=>if C ∈ cs ∧ us.length < 1000 then some (st.set n (.ins C (putFU f u us))) else none
  | _=>none
 | _=>none
noncomputable def sFldS (cs : List Addr) (f : Str) (fo fe : F U) : G:=bndS fe fun u=>bndS fo fun o=>fun env st=>match setFld cs f u o st with
 | some st'=>.ok env .nx st'
 | none=>.bad
end
end VL
namespace VL
open PySem PySem.Spec PyProof.Rows L2
noncomputable def putD (kvs : List (Key × D)) (k : Key) (v : D) : List (Key × D) :=
 if (kvs.any fun kv=>decide (kv.1 = k)) = true then kvs.map fun kv=>if kv.1 = k then (kv.1,v) else kv else kvs ++ [(k,v)]
section
variable {K : PySem.W.Frag} {m : List Addr} {H : Hp} {st : Store}
theorem RpK.any {k : Key} : ∀ {us : List (Key × D)} {vs : List (Key × V)},RpK K m H us vs → (us.any fun kv=>decide (kv.1 = k)) = (vs.any fun kv=>decide (kv.1 = k))
 | [],_,h=>by rw [show _ = [] from h]; rfl
 | (k',u) :: us,_,⟨v,r,e,h1,h2⟩=>by subst e; rw [List.any_cons,List.any_cons,RpK.any h2]
theorem RpK.mapP {k : Key} {w : D} {x : V} (hw : RpD K m H w x) : ∀ {us : List (Key × D)} {vs : List (Key × V)},RpK K m H us vs → RpK K m H (us.map fun kv=>if kv.1 = k then (kv.1,w) else kv) (vs.map fun kv=>if kv.1 = k then (kv.1,x) else kv)
 | [],_,h=>by rw [show _ = [] from h]; rfl
 | (k',u) :: us,_,⟨v,r,e,h1,h2⟩=>by
  subst e
  rw [List.map_cons,List.map_cons]
  by_cases hk : k' = k
  ·subst hk; simp only [if_true]; exact ⟨x,_,rfl,hw,RpK.mapP hw h2⟩
  ·simp only [hk,if_false]; exact ⟨v,_,rfl,h1,RpK.mapP hw h2⟩
theorem RpK.snoc {k : Key} {w : D} {x : V} (hw : RpD K m H w x) : ∀ {us : List (Key × D)} {vs : List (Key × V)},RpK K m H us vs → RpK K m H (us ++ [(k,w)]) (vs ++ [(k,x)])
 | [],_,h=>by rw [show _ = [] from h]; exact ⟨x,[],rfl,hw,rfl⟩
 | (k',u) :: us,_,⟨v,r,e,h1,h2⟩=>by subst e; exact ⟨v,_,rfl,h1,RpK.snoc hw h2⟩
theorem RpK.put {us : List (Key × D)} {vs : List (Key × V)} (h : RpK K m H us vs) (k : Key) {w : D} {x : V} (hw : RpD K m H w x) : RpK K m H (putD us k w) (putK vs k x):=by
 unfold putD putK
 rw [h.any]
 split
 ·exact h.mapP hw
 ·exact h.snoc hw
end
section
variable {X : Cx} {W : WX}
noncomputable def fDnew : F U:=fun _ st=>.ok (.ref st.length) (st ++ [.dct []])
theorem d_dnew {pos : Pos} : DE X W (.Dict [] [] pos) fDnew:=⟨PE.imp pe_dnewK fun σ H Q ⟨m,env,st,r,re,p⟩ q hq=>by
 refine p _ (m ++ [q]) _ ⟨q,by rw [← r.len]; simp,rfl⟩ (r.push hq ⟨[],rfl,rfl⟩) (ext_push r hq _)⟩
end
noncomputable def dGet (def_ : Option U) (kvs : List (Key × U)) (k : Key) : U:=match lookK kvs k with
 | some u=>u
 | none=>def_.getD (.d .non)
noncomputable def fGet1 (fo fk : F U) : F U:=bnd fo fun o=>fun env st=>if (VL.getD st o).isSome = true then bnd fk (fun k=>fun _ st=>match VL.getD st o,keyD k with
 | some kvs,some k=>.ok (dGet none kvs k) st
 | _,_=>.bad) env st else .bad
noncomputable def fGet2 (fo fk fx : F U) : F U:=bnd fo fun o=>fun env st=>if (VL.getD st o).isSome = true then bnd fk (fun k=>bnd fx fun x=>fun _ st=>match VL.getD st o,keyD k with
 | some kvs,some k=>.ok (dGet (some x) kvs k) st
 | _,_=>.bad) env st else .bad
noncomputable def fSetd (fo fk fx : F U) : F U:=bnd fo fun o=>fun env st=>if (VL.getD st o).isSome = true then bnd fk (fun k=>bnd fx fun x=>fun _ st=>match dctC st o,keyD k with
 | some (n,kvs),some k=>if kvs.length < sizeLine then (match lookK kvs k with
  | some u=>.ok u st
  | none=>.ok x (st.set n (.dct (putU kvs k x)))) else .bad
 | _,_=>.bad) env st else .bad
section
variable {X : Cx} {W : WX} {o e f : Expr} {fo fk fx : F U} {apos cpos : Pos}
theorem getD_isD {K : PySem.W.Frag} {m : List Addr} {H : Hp} {st : Store} (r : Rep K m st H) {u : U} {v : V} (h : RpU K m H u v) (e : (VL.getD st u).isSome = true) : ∃ a,v = .ref a ∧ IsD H a:=by
 obtain ⟨us,hus⟩:=Option.isSome_iff_exists.mp e
 obtain ⟨a,vs,rfl,t,q⟩:=getD_rp r h hus
 exact ⟨a,rfl,.inl ⟨vs,t⟩⟩
theorem d_setd (ho : DE X W o fo) (hk : DE X W e fk) (hx : DE X W f fx) (hm : M2 X o "setdefault" apos e f cpos) : DE X W (.Call (.Attribute o "setdefault" apos) [e,f] [] cpos) (fSetd fo fk fx) :=
 ⟨PE.imp (pe_dsetd ho.pe hk.pe hx.pe hm) fun σ H Q ⟨m,env,st,r,re,p⟩=>tF_step r re p fun u st1 v m1 H1 h1 r1 re1 e1 p1=>by
  by_cases hd : (VL.getD st1 u).isSome = true
  ·simp only [hd,if_true] at p1
   obtain ⟨a,rfl,ia⟩:=getD_isD r1 h1 hd
   refine ⟨a,rfl,ia,tF_step r1 re1 p1 fun k st2 kv m2 H2 h2 r2 re2 e2 p2=>tF_step r2 re2 p2 fun x st3 xv m3 H3 h3 r3 re3 e3 p3=>?_⟩
   split at p3
   ·rename_i n kvs kk q1 q2
    split at p3
    ·rename_i hz
     obtain ⟨b,vs,eb,g1,g2,g3⟩:=dctC_rp r3 (h1.ext (e2.trans e3)) q1
     cases eb
     have:=keyD_rp (h2.ext e3) q2
     subst this
     have l:=lookK_rp (k:=kk) g2
     refine ⟨vs,kk,g1,rfl,by rw [g2.length]; exact hz,fun w hw=>?_,fun hw=>?_⟩
     ·cases q : lookK kvs kk with
      | none=>rw [q] at l; rw [l] at hw; cases hw
      | some y =>
       rw [q] at l p3
       obtain ⟨w',hw',rw'⟩:=l
       rw [hw'] at hw; cases hw
       exact p3 _ m3 H3 rw' r3 (Ext.refl _ _)
     ·cases q : lookK kvs kk with
      | some y=>rw [q] at l; obtain ⟨w',hw',rw'⟩:=l; rw [hw'] at hw; cases hw
      | none =>
       rw [q] at p3
       obtain ⟨i1,i2⟩:=g3 _ _ (g2.put kk h3)
       exact p3 _ m3 _ (h3.ext i2) i1 i2
    ·exact p3.elim
   ·exact p3.elim
  ·rw [if_neg hd] at p1; exact p1.elim⟩
end
noncomputable def oFmt : P1:=fun u _=>match u with
 | .d (.str y)=>if y.length ≤ sizeLine then some (.d (.str y)) else none
 | .d (.int i)=>if i.natAbs.log2 < 1920 then some (.d (.str (Str.ofString (toString i)))) else none
 | _=>none
noncomputable def fJs : List (F U) → Str → F U
 | [],acc=>fun _ st=>.ok (.d (.str acc)) st
 | f :: fs,acc=>bnd f fun u=>match u with
  | .d (.str y)=>if (acc ++ y).length ≤ sizeLine then fJs fs (acc ++ y) else fun _ _=>.bad
  | _=>fun _ _=>.bad
section
variable {X : Cx} {W : WX} {e e2 : Expr} {es : List Expr} {fe : F U} {fs : List (F U)} {pos : Pos}
end
noncomputable def augK (i : Nat) (g : P2) (x y : U) : G:=fun env st=>match g x y st with
 | some u=>.ok (env.set i (some u)) .nx st
 | none=>.bad
noncomputable def sAug (i : Nat) (g : P2) (f : F U) : G:=bndS (vVar i) fun x=>bndS f (augK i g x)
noncomputable def oIadd : P2:=fun a b _=>match a,b with
 | .d (.int i),.d (.int j)=>some (.d (.int (i + j)))
 | _,_=>none
end VL
namespace VL
open PySem PySem.Spec PyProof.Rows L2
theorem bt_len : bootBuiltins "len" = some (.builtin "len"):=by decide +kernel
theorem bt_abs : bootBuiltins "abs" = some (.builtin "abs"):=by decide +kernel
theorem bt_min : bootBuiltins "min" = some (.builtin "min"):=by decide +kernel
theorem bt_max : bootBuiltins "max" = some (.builtin "max"):=by decide +kernel
theorem bt_all : bootBuiltins "all" = some (.builtin "all"):=by decide +kernel
theorem bt_any : bootBuiltins "any" = some (.builtin "any"):=by decide +kernel
theorem bt_isinstance : bootBuiltins "isinstance" = some (.builtin "isinstance"):=by decide +kernel
theorem bt_sorted : bootBuiltins "sorted" = some (.builtin "sorted"):=by decide +kernel
theorem bt_int : bootBuiltins "int" = some (.type "int"):=by decide +kernel
theorem bt_str : bootBuiltins "str" = some (.type "str"):=by decide +kernel
theorem bt_list : bootBuiltins "list" = some (.type "list"):=by decide +kernel
theorem bt_tuple : bootBuiltins "tuple" = some (.type "tuple"):=by decide +kernel
theorem bt_bool : bootBuiltins "bool" = some (.type "bool"):=by decide +kernel
theorem RoomG.u1 {k : Nat} {A : Around} (h : RoomG k A) : A.units + 1 < cLine:=by have:=h.rm.un; omega
theorem RoomG.u64 {k : Nat} {A : Around} (h : RoomG k A) : A.units + 64 < cLine:=by have:=h.rm.un; omega
theorem RoomG.u65 {k : Nat} {A : Around} (h : RoomG k A) : A.units + 65 < cLine:=by have:=h.rm.un; omega
section
variable {X : Cx} {W : WX}
/-- a module's text,number -/
noncomputable def GStr (mg : Str → Option Value) (x y : Str) : Prop:=∃ u,mg x = some u ∧ RelV (.str y) u
theorem d_gstr {x y : Str} {pos : Pos} (h : GStr X.mg x y) (hg : Gl X x:=by rfl) (hd : (x == ("__debug__" : Str)) = false:=by decide) : DE X W (.Name x pos) (vC (.str y)):=by
 obtain ⟨u,h1,h2⟩:=h
 exact d_glob (v:=.str y) h1 h2 (fun _ _=>rfl) hg hd
noncomputable def TgsNx (gs : List U → G) : Prop:=∀ us env st,match gs us env st with
 | .ok _ .nx _=>True
 | .bad=>True
 | _=>False
theorem nxs_nil : TgsNx tgNil:=fun us env st=>by cases us <;> trivial
theorem nxs_cons {g : U → G} {gs : List U → G} (h : TgNx g) (h2 : TgsNx gs) : TgsNx (tgCons g gs):=fun us env st=>by
 cases us with
 | nil=>trivial
 | cons u us =>
  show match sSeq (g u) (gs us) env st with
   | .ok _ .nx _=>True
   | .bad=>True
   | _=>False
  unfold sSeq
  have:=h u env st
  cases e : g u env st with
  | bad=>trivial
  | ex c fs env1 st1=>rw [e] at this; exact this.elim
  | ok env1 f st1 =>
   rw [e] at this
   cases f with
   | nx=>exact h2 us env1 st1
   | rt u=>exact this.elim
   | bk=>exact this.elim
   | ct=>exact this.elim
theorem nx_tup {n : Nat} {gs : List U → G} (h : TgsNx gs) : TgNx (tgT n gs):=fun u env st=>by
 unfold tgT
 cases unp st u with
 | none=>trivial
 | some us =>
  simp only
  by_cases hz : us.length = n
  ·rw [if_pos hz]; exact h us env st
  ·rw [if_neg hz]; trivial
/-- a,b,c = x,y,z -/
noncomputable def sPar3 (i j l : Nat) (fs : F (List U)) : G:=bndS fs fun us=>fun env st=>match us with
 | [u,w,z]=>.ok (((env.set i (some u)).set j (some w)).set l (some z)) .nx st
 | _=>.bad
end
section
variable {X : Cx} {W : WX} {elt tg iter : Expr} {ifs : List Expr} {scope : Scope} {own : List (Str × Nat)} {pos : Pos} {is : List Nat} {g : U → G} {gt : F Bool} {fe : F U} {fi : F Itb}
theorem d_lcV {vs : List Nat} (hc : X.calm = true) (hN : X.N.Nodup) (hi : DI X W tg iter fi) (ok : BlkOk X.N X.env.scope scope own)
  (hg : ∀ (s : Shared) (H : Hp) (C : Addr) (cl : List (Str × Addr)) (fp : List Addr),DG (X.blk s H scope (compEnvC scope cl C X.env) fp) tg is g)
  (ht : ∀ (s : Shared) (H : Hp) (C : Addr) (cl : List (Str × Addr)) (fp : List Addr),DTs (X.blk s H scope (compEnvC scope cl C X.env) fp) W0 ifs gt)
  (he : ∀ (s : Shared) (H : Hp) (C : Addr) (cl : List (Str × Addr)) (fp : List Addr),DE (X.blk s H scope (compEnvC scope cl C X.env) fp) W0 elt fe)
  (hvv : own.map (·.2) = vs:=by rfl) (hvs : ∀ i ∈ is,i ∈ own.map (·.2):=by decide) (hs : ∀ x,foldedSetIterable iter X.env x = pure x:=by intro _; rfl) :
  DE X W (.ListComp elt [⟨tg,iter,ifs,0⟩] scope pos) (fLc fi g gt fe vs):=by
 subst hvv; exact d_lc hc hN hi ok hg ht he hvs hs
/-- name = [..] -/
theorem ds_setLcV {vs : List Nat} (i : Nat) {y : Str} {py spos : Pos} (hc : X.calm = true) (hN : X.N.Nodup) (hsw : swapsWith (.ListComp elt [⟨tg,iter,ifs,0⟩] scope pos) (some (.Name y py)) spos.line X.env = pure true) (hi : DI X W tg iter fi) (ok : BlkOk X.N X.env.scope scope own)
  (hg : ∀ (s : Shared) (H : Hp) (C : Addr) (cl : List (Str × Addr)) (fp : List Addr),DG (X.blk s H scope (compEnvC scope cl C X.env) fp) tg is g)
  (ht : ∀ (s : Shared) (H : Hp) (C : Addr) (cl : List (Str × Addr)) (fp : List Addr),DTs (X.blk s H scope (compEnvC scope cl C X.env) fp) W0 ifs gt)
  (he : ∀ (s : Shared) (H : Hp) (C : Addr) (cl : List (Str × Addr)) (fp : List Addr),DE (X.blk s H scope (compEnvC scope cl C X.env) fp) W0 elt fe)
  (hvv : own.map (·.2) = vs:=by rfl) (hvs : ∀ i ∈ is,i ∈ own.map (·.2):=by decide) (hy : X.N[i]? = some y:=by rfl) (hyl : X.env.scope.names.lookup y = some .local:=by rfl) (hs : ∀ x,foldedSetIterable iter X.env x = pure x:=by intro _; rfl) :
  DS X W (.Assign [.Name y py] (.ListComp elt [⟨tg,iter,ifs,0⟩] scope pos) spos) (sAsg (fLc fi g gt fe vs) (tgN i)):=by
 subst hvv; exact ds_setLc i hc hN hsw hi ok hg ht he hvs hy hyl hs
end
/-- by place and by name,in order -/
noncomputable def gApp {α : Type} (us ws : List α) : List α:=us ++ ws
theorem FnG.imp {P : Program} {w : World} {K : PySem.W.Frag} {mg : Str → Option Value} {base : Heap} {k : Nat} {f : Addr} {fd : FuncData} {ps : List Str} {sp sp' : Sp} (F : FnG P w K mg base k f fd ps sp) (h : ∀ vs H Q E,sp' vs H Q E → sp vs H Q E) : FnG P w K mg base k f fd ps sp' :=
 ⟨fun vs H Q E q=>F.len vs H Q E (h vs H Q E q),fun A outer s H args us vs Q E r e0 b rv q=>F.run A outer s H args us vs Q E r e0 b rv (h vs H Q E q)⟩
/-- the law at a script -/
theorem law_sp {K : PySem.W.Frag} {mf : List U → M U} {ns : List Int} {H : Hp} {a : Addr} (h : ∃ st,mf [.d (.scr ns)] [] = .ok (.d (.bl true)) st) (hO : Only H) (hS : SqL K H a (ns.map V.int)) : spM K 1 mf [.ref a] H (fun v _=>v = .bl true) fun _ _ _=>False:=by
 have hv : ScV K [] H a (ns.map V.int):=by
  rcases hS with (q | ⟨o,q⟩) | q
  ·rcases hO a with z | ⟨o,xs,z⟩
   ·rw [q] at z; cases z
   ·rw [q] at z; cases z
  ·exact .inl ⟨List.not_mem_nil,o,q⟩
  ·exact .inr (.inr q)
 refine ⟨rfl,[],[],[.d (.scr ns)],⟨rfl,List.nodup_nil,fun n o b h=>by simp at h⟩,⟨_,_,rfl,⟨a,rfl,hv⟩,rfl⟩,?_⟩
 obtain ⟨st,e⟩:=h
 rw [e]
 exact fun v m' H' h1 _ _=>h1
end VL
namespace VL
open PySem PySem.Spec PyProof.Rows L2
theorem okU_mono {j k : Nat} (h : j ≤ k) {u : U} (q : okU j u = true) : okU k u = true:=by
 cases u with
 | d x=>rfl
 | ref n=>exact decide_eq_true (Nat.lt_of_lt_of_le (of_decide_eq_true q) h)
theorem okO_mono {j k : Nat} (h : j ≤ k) {o : O} (q : okO j o = true) : okO k o = true:=by
 cases o with
 | lst us=>exact List.all_eq_true.mpr fun u hu=>okU_mono h (List.all_eq_true.mp q u hu)
 | tup us=>exact List.all_eq_true.mpr fun u hu=>okU_mono h (List.all_eq_true.mp q u hu)
 | dct us=>exact List.all_eq_true.mpr fun u hu=>okU_mono h (List.all_eq_true.mp q u hu)
 | ins C us=>exact List.all_eq_true.mpr fun u hu=>okU_mono h (List.all_eq_true.mp q u hu)
 | tbl P q=>rfl
 | lck us=>exact List.all_eq_true.mpr fun u hu=>okU_mono h (List.all_eq_true.mp q u hu)
 | kdc w us=>exact List.all_eq_true.mpr fun u hu=>okU_mono h (List.all_eq_true.mp q u hu)
noncomputable def WF (st : Store) : Prop:=wfB st = true
theorem WF.cut {st : Store} (h : WF st) : cutS st.length st = some st:=by
 unfold cutS
 rw [List.take_length]
 exact if_pos h
theorem WF.push {st : Store} (h : WF st) {o : O} (q : okO (st.length + 1) o = true) : WF (st ++ [o]):=by
 unfold WF wfB at *
 rw [List.all_append,Bool.and_eq_true,List.length_append]
 exact ⟨List.all_eq_true.mpr fun x hx=>okO_mono (Nat.le_add_right _ _) (List.all_eq_true.mp h x hx),by simpa using q⟩
theorem WF.set {st : Store} (h : WF st) {n : Nat} {o : O} (q : okO st.length o = true) : WF (st.set n o):=by
 unfold WF wfB at *
 rw [List.length_set]
 refine List.all_eq_true.mpr fun x hx=>?_
 rcases List.mem_or_eq_of_mem_set hx with hx | hx
 ·exact List.all_eq_true.mp h x hx
 ·subst hx; exact q
theorem WF.nil : WF []:=rfl
theorem okO_pure (k : Nat) (ds : List D) : okO k (.lst (ds.map .d)) = true:=by
 show ((ds.map U.d).all (okU k)) = true
 rw [List.all_map]
 exact List.all_eq_true.mpr fun _ _=>rfl
theorem WF.pushL {st : Store} (h : WF st) (ds : List D) : WF (st ++ [.lst (ds.map .d)]):=h.push (okO_pure _ _)
theorem WF.setL {st : Store} (h : WF st) (n : Nat) (ds : List D) : WF (st.set n (.lst (ds.map .d))):=h.set (okO_pure _ _)
/-- what is above is cut off -/
theorem WF.cutA {st : Store} (h : WF st) (st' : Store) : cutS st.length (st ++ st') = some st:=by
 unfold cutS
 rw [List.take_left']
 ·exact if_pos h
 ·rfl
theorem wCut_d {st : Store} (h : WF st) (x : D) : wCut st.length (.d x) st = .ok (.d x) st:=by
 unfold wCut
 simp only [h.cut]
section
variable {fi : F Itb} {tg : U → G} {tt : F Bool} {fe : F U} {vs : List Nat} {env : VEnv} {st st0 : Store} {us : List U}
end
section
variable {fi : F Itb} {tg : U → G} {tt : F Bool} {fe : F U} {vs : List Nat} {env : VEnv} {st st0 : Store} {us : List U}
end
/-- one turn of a loop -/
noncomputable def turn (tg : U → G) (body : G) (u : U) : G:=fun env st=>match tg u env st with
 | .ok env1 .nx st1=>match body env1 st1 with
  | .ok env2 .ct st2=>.ok env2 .nx st2
  | r=>r
 | _=>.bad
theorem fItN_ok {g : List U → Option Itb} {f : F (List U)} {env : VEnv} {st st1 : Store} {us : List U} {t : Itb} (h : f env st = .ok us st1) (hg : g us = some t) : fItN g f env st = .ok t st1:=by
 unfold fItN bnd
 rw [h]
 show R.of st1 (g us) = _
 rw [hg]
 rfl
theorem sFor_lst {fi : F Itb} {tg : U → G} {body : G} {env : VEnv} {st st1 : Store} {us : List U} (h : fi env st = .ok (.lst us) st1) : sFor fi tg body env st = loopL tg body us env st1:=by
 unfold sFor bndS
 rw [h]
theorem sz0 : (0 ≤ sizeLine) = True:=eq_true (by decide)
theorem szl0 : (0 < sizeLine) = True:=eq_true (by decide)
theorem sz1 : (1 ≤ sizeLine) = True:=eq_true (by decide)
theorem szl1 : (1 < sizeLine) = True:=eq_true (by decide)
theorem sz2 : (2 ≤ sizeLine) = True:=eq_true (by decide)
theorem szl2 : (2 < sizeLine) = True:=eq_true (by decide)
theorem sz3 : (3 ≤ sizeLine) = True:=eq_true (by decide)
theorem szl3 : (3 < sizeLine) = True:=eq_true (by decide)
theorem sz4 : (4 ≤ sizeLine) = True:=eq_true (by decide)
theorem szl4 : (4 < sizeLine) = True:=eq_true (by decide)
theorem sz5 : (5 ≤ sizeLine) = True:=eq_true (by decide)
theorem szl5 : (5 < sizeLine) = True:=eq_true (by decide)
theorem sz6 : (6 ≤ sizeLine) = True:=eq_true (by decide)
theorem szl6 : (6 < sizeLine) = True:=eq_true (by decide)
theorem sz7 : (7 ≤ sizeLine) = True:=eq_true (by decide)
theorem szl7 : (7 < sizeLine) = True:=eq_true (by decide)
theorem sz8 : (8 ≤ sizeLine) = True:=eq_true (by decide)
theorem szl8 : (8 < sizeLine) = True:=eq_true (by decide)
theorem sz9 : (9 ≤ sizeLine) = True:=eq_true (by decide)
theorem szl9 : (9 < sizeLine) = True:=eq_true (by decide)
theorem sz10 : (10 ≤ sizeLine) = True:=eq_true (by decide)
theorem szl10 : (10 < sizeLine) = True:=eq_true (by decide)
theorem sz11 : (11 ≤ sizeLine) = True:=eq_true (by decide)
theorem szl11 : (11 < sizeLine) = True:=eq_true (by decide)
theorem sz12 : (12 ≤ sizeLine) = True:=eq_true (by decide)
theorem szl12 : (12 < sizeLine) = True:=eq_true (by decide)
theorem sz13 : (13 ≤ sizeLine) = True:=eq_true (by decide)
theorem szl13 : (13 < sizeLine) = True:=eq_true (by decide)
theorem sz14 : (14 ≤ sizeLine) = True:=eq_true (by decide)
theorem szl14 : (14 < sizeLine) = True:=eq_true (by decide)
theorem sz15 : (15 ≤ sizeLine) = True:=eq_true (by decide)
theorem szl15 : (15 < sizeLine) = True:=eq_true (by decide)
end VL
namespace VL
open PySem PySem.Spec PyProof.Rows L2
end VL
namespace VL
open PySem PySem.Spec PyProof.Rows L2
variable {K : PySem.W.Frag} {st : Store}
theorem blsU_map {α : Type} (l : List α) (f : α → Bool) : blsU (l.map fun x=>U.d (.bl (f x))) = some (l.map f):=by
 induction l with
 | nil=>rfl
 | cons x l ih=>unfold blsU at ih ⊢; rw [List.map_cons,allM]; rw [ih]; rfl
theorem at_1 {α : Type} (x y : α) (r : List α) : atI (x :: y :: r) 1 = some y:=by
 unfold atI ixN; simp only [List.length_cons]; rw [if_pos (by decide),if_pos (by omega)]; rfl
theorem at_0 {α : Type} (x : α) (r : List α) : atI (x :: r) 0 = some x:=by unfold atI ixN; simp
theorem allM_dd {st : Store} (k : Nat) (ds : List D) : allM (deep k st) (ds.map U.d) = some ds:=allM_d ds
theorem asP_d (st : Store) (x : D) : asP st (.d x) = toP x:=rfl
theorem asP_ref {st : Store} {i : Nat} {ds : List D} (h : st[i]? = some (.lst (ds.map U.d))) : asP st (.ref i) = (toPs ds).map .list:=by
 unfold asP deep
 simp only [h,allM_dd]
 rfl
theorem wCut_len {n : Nat} {st : Store} (h : WF st) (hl : st.length = n) (x : D) : wCut n (.d x) st = .ok (.d x) st:=by
 subst hl; exact wCut_d h x
theorem set_at {st : Store} {r : Nat} {o o' : O} (h : st[r]? = some o) : (st.set r o')[r]? = some o':=List.getElem?_set_self (List.getElem?_eq_some_iff.mp h).1
theorem app_at {st : Store} {r : Nat} {o o' : O} (h : st[r]? = some o) : (st ++ [o'])[r]? = some o:=by
 rw [List.getElem?_append_left (List.getElem?_eq_some_iff.mp h).1]; exact h
theorem new_at {st : Store} {o : O} : (st ++ [o])[st.length]? = some o:=by
 rw [List.getElem?_append_right (Nat.le_refl _),Nat.sub_self]; rfl
theorem take_same {st st' : Store} {k : Nat} (hk : k = st.length) (h : ∀ n,n < k → st'[n]? = st[n]?) : st'.take k = st:=by
 apply List.ext_getElem?
 intro n
 by_cases hn : n < k
 ·rw [List.getElem?_take_of_lt hn]; exact h n hn
 ·rw [List.getElem?_eq_none (by rw [List.length_take]; omega),List.getElem?_eq_none (by omega)]
theorem cut_same {st st' : Store} (w : WF st) (h : ∀ n,n < st.length → st'[n]? = st[n]?) : cutS st.length st' = some st:=by
 unfold cutS
 rw [take_same rfl h]
 exact if_pos w
theorem wKeep_of {st st' : Store} (w : WF st) {n : Nat} {ds : List D} (h : st'[n]? = some (.lst (ds.map U.d))) (hn : st.length ≤ n) (hf : ∀ m,m < st.length → st'[m]? = st[m]?) : wKeep st.length (.ref n) st' = .ok (.ref st.length) (st ++ [.lst (ds.map U.d)]):=by
 unfold wKeep
 simp only [h,okO_pure,cut_same w hf,if_true]
 rw [if_neg (by omega)]
noncomputable def Bag (st : Store) (b : Nat) : Prop:=∃ n x : Int,st[b]? = some (.lst [.d (.int n),.d (.int x)])
structure Fb (st st' : Store) (b : Nat) : Prop where
 wf : WF st'
 len : st'.length = st.length
 bag : Bag st' b
 fr : ∀ n,n ≠ b → st'[n]? = st[n]?
theorem Fb.trans {s0 s1 s2 : Store} {b : Nat} (x : Fb s0 s1 b) (y : Fb s1 s2 b) : Fb s0 s2 b:=⟨y.wf,y.len.trans x.len,y.bag,fun n h=>(y.fr n h).trans (x.fr n h)⟩
theorem Fb.refl {b : Nat} (h : WF st) (hb : Bag st b) : Fb st st b:=⟨h,rfl,hb,fun _ _=>rfl⟩
theorem ixn0 : ixN 2 0 = some 0:=rfl
theorem ixn1 : ixN 2 1 = some 1:=rfl
theorem fb_set {b : Nat} (h : WF st) {o : O} (hb : st[b]? = some o) (n x : Int) : Fb st (st.set b (.lst [.d (.int n),.d (.int x)])) b :=
 ⟨h.setL b [.int n,.int x],List.length_set,⟨n,x,set_at hb⟩,fun m hm=>List.getElem?_set_ne (Ne.symm hm)⟩
theorem at_lt {α : Type} {xs : List α} {d : Nat} (h : d < xs.length) : atI xs (d : Int) = some xs[d]:=by
 unfold atI ixN
 rw [if_pos (by omega),if_pos (by omega)]
 simp [List.getElem?_eq_getElem h]
theorem pure_ints (ns : List Int) : pureL (ns.map fun i=>U.d (.int i)) = some (ns.map .int):=by
 have:=pureL_map (ns.map D.int)
 rw [List.map_map] at this
 exact this
noncomputable def sD (ss : List Str) : List D:=ss.map D.str
theorem cut_fb {st st' : Store} {b : Nat} (h : WF st) (hB : Bag st' b) (hb : b < st.length) (hl : st.length ≤ st'.length) (hf : ∀ n,n < st.length → n ≠ b → st'[n]? = st[n]?) : cutS st.length st' = some (st'.take st.length) ∧ Fb st (st'.take st.length) b:=by
 have hall : (st'.take st.length).all (okO st.length) = true:=by
  refine List.all_eq_true.mpr fun o ho=>?_
  obtain ⟨n,hn,e⟩:=List.mem_iff_getElem.mp ho
  rw [List.length_take] at hn
  have hn' : n < st.length:=by omega
  rw [List.getElem_take] at e
  by_cases hnb : n = b
  ·subst hnb
   obtain ⟨p,x,q⟩:=hB
   rw [List.getElem?_eq_getElem (by omega)] at q
   have:=Option.some.inj q
   rw [← e,this]
   rfl
  ·have q:=hf n hn' hnb
   rw [List.getElem?_eq_getElem (by omega),List.getElem?_eq_getElem hn'] at q
   have:=Option.some.inj q
   rw [← e,this]
   exact List.all_eq_true.mp h _ (List.getElem_mem hn')
 have hlen : (st'.take st.length).length = st.length:=by rw [List.length_take]; omega
 refine ⟨if_pos hall,⟨?_,hlen,?_,fun n hn=>?_⟩⟩
 ·show wfB _ = true
  unfold wfB
  rw [hlen]; exact hall
 ·obtain ⟨p,x,q⟩:=hB
  exact ⟨p,x,by rw [List.getElem?_take_of_lt hb]; exact q⟩
 ·by_cases hn' : n < st.length
  ·rw [List.getElem?_take_of_lt hn']; exact hf n hn' hn
  ·rw [List.getElem?_eq_none (by omega),List.getElem?_eq_none (by omega)]
theorem Bag.lt {b : Nat} (h : Bag st b) : b < st.length:=by
 obtain ⟨n,x,q⟩:=h
 exact (List.getElem?_eq_some_iff.mp q).1
theorem Bag.set {b i : Nat} (h : Bag st b) (hb : b ≠ i) (o : O) : Bag (st.set i o) b:=by
 obtain ⟨n,x,q⟩:=h
 exact ⟨n,x,by rw [List.getElem?_set_ne hb.symm]; exact q⟩
theorem rng_ok {w : Nat} (h : w < 1000) : -(2 ^ 62) ≤ ((w : Nat) : Int) ∧ ((w : Nat) : Int) < 2 ^ 62:=by
 have e : (2 : Int) ^ 62 = 4611686018427387904:=by decide
 rw [e]; omega
theorem itR_eq {w : Nat} (h : w < 1000) : itR [.d (.int ((w : Nat) : Int))] = some (.lst ((List.range w).map fun i=>.d (.int (0 + (i : Nat))))):=by
 have hr:=rng_ok h
 unfold itR
 simp only [hr,and_self,if_true,Int.toNat_natCast]
theorem Bag.push {b : Nat} (h : Bag st b) (o : O) : Bag (st ++ [o]) b:=by
 obtain ⟨n,x,q⟩:=h
 exact ⟨n,x,app_at q⟩
noncomputable def AllR {α β : Type} (P : α → β → Prop) : List α → List β → Prop
 | [],[]=>True
 | a :: as,b :: bs=>P a b ∧ AllR P as bs
 | _,_=>False
theorem AllR.length {α β : Type} {P : α → β → Prop} : ∀ {as : List α} {bs : List β},AllR P as bs → bs.length = as.length
 | [],[],_=>rfl
 | a :: as,b :: bs,h=>by rw [List.length_cons,List.length_cons,AllR.length h.2]
 | [],_ :: _,h=>h.elim
 | _ :: _,[],h=>h.elim
theorem AllR.right {α β : Type} {P : α → β → Prop} {Q : β → Prop} (hq : ∀ a b,P a b → Q b) : ∀ {as : List α} {bs : List β},AllR P as bs → ∀ b ∈ bs,Q b
 | [],[],_,b,hb=>by cases hb
 | a :: as,b :: bs,h,c,hc=>by
  rcases List.mem_cons.mp hc with rfl | hc
  ·exact hq _ _ h.1
  ·exact AllR.right hq h.2 c hc
 | [],_ :: _,h,_,_=>h.elim
 | _ :: _,[],h,_,_=>h.elim
section
variable {fi : F Itb} {tg : U → G} {tt : F Bool} {fe : F U} {vs : List Nat} {env env0 : VEnv} {us : List U}
theorem lcL_fb {b : Nat} (Pd : U → D → Prop) : ∀ (us : List U) (acc : List D) (st : Store),WF st → Bag st b → acc.length + us.length ≤ sizeLine →
  (∀ u ∈ us,∀ st' : Store,WF st' → Bag st' b → ∃ env1 x st'',tg u env0 st' = .ok env1 .nx st' ∧ tt env1 st' = .ok true st' ∧ fe env1 st' = .ok (.d x) st'' ∧ Pd u x ∧ Fb st' st'' b) →
  ∃ ds st2,lcL st.length tg tt fe env0 us (st ++ [.lst (acc.map .d)]) = .ok () (st2 ++ [.lst ((acc ++ ds).map .d)]) ∧ Fb st st2 b ∧ AllR Pd us ds
 | [],acc,st,hw,hb,_,_=>⟨[],st,by simp [lcL],Fb.refl hw hb,trivial⟩
 | u :: us,acc,st,hw,hb,hl,h=>by
  rw [List.length_cons] at hl
  have hb1 : Bag (st ++ [.lst (acc.map .d)]) b:=by
   obtain ⟨n,x,q⟩:=hb
   exact ⟨n,x,app_at q⟩
  obtain ⟨env1,x,st'',h1,h2,h3,hp,f⟩:=h u (List.mem_cons_self ..) _ (hw.pushL acc) hb1
  have hlen : st''.length = st.length + 1:=by rw [f.len,List.length_append,List.length_singleton]
  obtain ⟨c1,c2⟩:=cut_fb hw f.bag hb.lt (by omega) fun n hn hnb=>by rw [f.fr n hnb,List.getElem?_append_left hn]
  have hk : st''[st.length]? = some (.lst (acc.map U.d)):=by
   rw [f.fr _ (by have:=hb.lt; omega)]; exact new_at
  have hst : st''.set st.length (.lst (acc.map U.d ++ [.d x])) = st''.take st.length ++ [.lst ((acc ++ [x]).map .d)]:=by
   have e : st'' = st''.take st.length ++ [.lst (acc.map U.d)]:=by
    apply List.ext_getElem?
    intro n
    by_cases hn : n < st.length
    ·rw [List.getElem?_append_left (by rw [List.length_take]; omega),List.getElem?_take_of_lt hn]
    ·by_cases hn2 : n = st.length
     ·subst hn2
      rw [hk,List.getElem?_append_right (by rw [List.length_take]; omega),List.length_take,Nat.min_eq_left (by omega),Nat.sub_self]; rfl
     ·rw [List.getElem?_eq_none (by omega),List.getElem?_eq_none (by rw [List.length_append,List.length_take,List.length_singleton]; omega)]
   have hl2 : (st''.take st.length).length = st.length:=by rw [List.length_take]; omega
   rw [e,List.set_append_right _ _ (by omega),hl2,Nat.sub_self,List.set_cons_zero,List.map_append,List.map_singleton,List.take_left' hl2]
  obtain ⟨ds,st2,e2,f2,r2⟩:=lcL_fb Pd us (acc ++ [x]) (st''.take st.length) c2.wf c2.bag (by rw [List.length_append,List.length_singleton]; omega) (fun w hw=>h w (List.mem_cons_of_mem _ hw))
  have hl2 : (st''.take st.length).length = st.length:=by rw [List.length_take]; omega
  rw [hl2] at e2
  refine ⟨x :: ds,st2,?_,c2.trans f2,hp,r2⟩
  unfold lcL lcStep
  rw [h1]
  simp only
  rw [h2]
  simp only
  rw [h3]
  simp only [hk]
  rw [if_pos (by rw [List.length_map]; omega)]
  simp only
  rw [hst,e2,List.append_assoc]
  rfl
/-- [.. for .. in ..],each part of which draws -/
theorem fLc_fb {b : Nat} {st0 : Store} (Pd : U → D → Prop) (hw : WF st) (hb : Bag st b) (hi : fi env st0 = .ok (.lst us) st) (hl : us.length ≤ sizeLine)
  (h : ∀ u ∈ us,∀ st' : Store,WF st' → Bag st' b → ∃ env1 x st'',tg u (wipeE env vs) st' = .ok env1 .nx st' ∧ tt env1 st' = .ok true st' ∧ fe env1 st' = .ok (.d x) st'' ∧ Pd u x ∧ Fb st' st'' b) :
  ∃ ds st2,fLc fi tg tt fe vs env st0 = .ok (.d (.lst ds)) st2 ∧ Fb st st2 b ∧ AllR Pd us ds:=by
 obtain ⟨ds,st2,e,f,r⟩:=lcL_fb (env0:=wipeE env vs) Pd us [] st hw hb (by simpa using hl) h
 refine ⟨ds,st2,?_,f,r⟩
 unfold fLc bnd
 rw [hi]
 simp only
 rw [show ([] : List D).map U.d = [] from rfl] at e
 rw [e]
 unfold lcEnd
 have hl2:=f.len
 rw [← hl2]
 simp only [List.getElem?_append_right (Nat.le_refl _),Nat.sub_self,List.getElem?_cons_zero,List.nil_append,pureL_map,f.wf.cutA]
end
end VL
namespace VL
open PySem PySem.Spec PyProof.Rows
section
open PySem.W PySem.Calls PySem.HandSPX Builtin Builtin.ObjectAttr
/-- a class right below a built-in error class,as the frag has it -/
structure Below (K : Frag) (C : Addr) (cd : ClassData) (B : String) (bm : List Value) : Prop where
 sf : StoreFacts B bm "object.__setattr__" "object"
 mro : cd.mro = .ref C :: bm
 cin : clsIn K C = some cd
 hd : cd.hasDict = true
variable {prog : Program} {w : World} {A : Around} {E : Value → Shared → Prop} {R : Result → Shared → Prop} {hp : Heap} {g : Array GenState} {d : Drawn} {t : Nat} {os : OsState}
theorem Below.obj {K : Frag} {C : Addr} {cd : ClassData} {B : String} {bm : List Value} (b : Below K C cd B bm) : mroIn K C (.type "object") = some true:=by
 have q : cd.mro.contains (.type "object") = true:=by
  rw [b.mro,List.contains_cons,b.sf.hasOwner,Bool.or_true]
 have e : cd.mro.isEmpty = false:=by rw [b.mro]; rfl
 unfold mroIn
 rw [b.cin,Option.bind_some,if_neg (by rw [e]; exact Bool.false_ne_true),q]
end
open L2
/-- what the written part says of an own error class -/
structure OexB (K : PySem.W.Frag) (C : Addr) : Prop where
 cls : ∃ B nw ini bm nm q N bs sn sub ab col dd k0 k1 k2 k3 k5,PySem.ExcBaseFacts B nw ini bm ∧ PySem.StoreFacts B bm "object.__setattr__" "object" ∧ K.lookup C = some (excClassObj nm q C N bs bm true sn sub ab col dd k0 k1 k2 k3 k5 nw)
 sa : PySem.W.findIn K (.ref C) "__setattr__" = some (some (.builtin "object.__setattr__"))
 exC : PySem.W.subIn K (.ref C) (.type "BaseException") = some true
 tyC : PySem.W.typeIn K (.ref C) = some (.type "type")
 kC : PySem.W.keepIn K (.ref C) = true
theorem OexB.below {K : PySem.W.Frag} {C : Addr} (T : OexB K C) : ∃ cd B bm,Below K C cd B bm:=by
 obtain ⟨B,nw,ini,bm,nm,q,N,bs,sn,sub,ab,col,dd,k0,k1,k2,k3,k5,eb,sf,hC⟩:=T.cls
 exact ⟨_,B,bm,sf,rfl,by unfold PySem.W.clsIn; rw [hC] <;> rfl,rfl⟩
section
variable {X : Cx} {pins : List (Addr × Obj)} {σ : L2.St} {H : Hp} {s : Shared} {a C dx : Addr} {f : Str} {y : V} {u : Value} {fs : List (Str × V)} {Q : Unit → Shared → Prop} {E : Value → Shared → Prop} {A : Around}
end
section
variable {X : Cx} {o e : Expr} {es : List Expr} {to te : TE} {ta : TA} {f : Str} {p p' pos : Pos}
end
end VL
namespace VL
open PySem PySem.Spec PyProof.Rows L2
section
variable {P : Program} {w : World} {K : PySem.W.Frag} {mg : Str → Option Value} {base : Heap}
end
noncomputable def sRaise (C : Addr) (ns : List Str) (fa : F (List U)) : G:=bndS fa fun us=>fun env st=>match pureL us with
 | some ds=>if ds.length = ns.length ∧ ds.length ≤ 1000 then .ex (.ref C) (some (ns.zip ds).reverse) env st else .bad
 | none=>.bad
theorem RpF.app {K : PySem.W.Frag} {m : List Addr} {H : Hp} : ∀ {xs ys : List (Str × D)} {vs ws : List (Str × V)},RpF K m H xs vs → RpF K m H ys ws → RpF K m H (xs ++ ys) (vs ++ ws)
 | [],_,_,_,h,k=>by rw [show _ = [] from h]; exact k
 | (n,d) :: xs,_,_,_,⟨v,r,e,h1,h2⟩,k=>by subst e; exact ⟨v,_,rfl,h1,RpF.app h2 k⟩
theorem RpF.zip {K : PySem.W.Frag} {m : List Addr} {H : Hp} : ∀ {ns : List Str} {ds : List D} {vs : List V},RpDs K m H ds vs → RpF K m H (ns.zip ds) (ns.zip vs)
 | [],_,_,_=>rfl
 | n :: ns,[],_,h=>by rw [show _ = [] from h]; rfl
 | n :: ns,d :: ds,_,⟨v,r,e,h1,h2⟩=>by subst e; exact ⟨v,_,rfl,h1,RpF.zip h2⟩
section
variable {X : Cx} {W : WX} {e : Expr} {es : List Expr} {fa : F (List U)} {C : Addr} {ns : List Str} {x : Str} {p pos pos' : Pos}
end
section
variable {X : Cx} {W : WX} {x n : Str} {c : Value} {body suite : List Stmt} {b₀ : Stmt} {np pos pos' : Pos} {gb gs : G}
end
theorem cls_all : ∀ us : List Addr,Paired ClsV (us.map V.ref) (us.map Value.ref)
 | []=>.nil
 | u :: us=>.cons (.own u) (cls_all us)
section
variable {X : Cx} {W : WX} {x n A1 A2 A3 n1 n2 : Str} {C a1 a2 a3 : Addr} {tn : String} {i : Nat} {body : List Stmt} {gb : G} {z : Str} {k1 k2 k3 : Nat} {np p1 p2 p3 p4 p5 p6 p7 p8 p9 p10 p11 p12 p13 p14 p15 p16 p17 p18 p19 p20 p21 p22 pos pos' : Pos}
end
end VL
namespace VL
open PySem PySem.Spec PyProof.Rows L2
noncomputable abbrev P2S:=U → U → Store → R U
noncomputable def f2s (g : P2S) (fa fb : F U) : F U:=bnd fa fun a=>bnd fb fun b=>fun _ st=>g a b st
section
variable {X : Cx} {W : WX} {a b : Expr} {fa fb : F U} {pos : Pos} {g : P2S}
/-- a slice of a list,as a cell -/
noncomputable def oSlC (a : U) (lo hi : Option Int) (st : Store) : R U:=match getL st a with
 | some us=>.ok (.ref st.length) (st ++ [.lst (cutG us lo hi)])
 | none=>.bad
noncomputable def fSlC (f : F U) (l h : F (Option Int)) : F U:=bnd f fun a=>bnd l fun lo=>bnd h fun hi=>fun _ st=>oSlC a lo hi st
end
end VL
namespace VL
open PySem PySem.Spec PyProof.Rows L2 GenW
section
variable {X : Cx} {pos : Pos}
/-- what is done with an exception that leaves the loop's code -/
noncomputable abbrev leaves (env : Env) (x : Value) : Sem PySem.Fin:=(do noteFrame x env; theTreesLotGoes x : Sem Unit).wrap (fun _=>.raise x) .raise id id
end
end VL
namespace VL
open PySem PySem.Spec PyProof.Rows L2 GenW
inductive RY where
 | ok (env : VEnv) (f : Fl) (st : Store) (ys : List U)
 | bad
noncomputable abbrev Y:=VEnv → Store → List U → RY
noncomputable def PY (K : PySem.W.Frag) (m : List Addr) (H : Hp) (D : GEnds) : RY → Prop
 | .ok env .nx st' ys=>∀ σ' m' H' zs,RpEnv K m' H' env σ' → Rep K m' st' H' → Ext m H m' H' → RpUs K m' H' ys zs → D.nx zs σ' H'
 | .ok env (.rt u) st' ys=>∀ v m' H' zs,RpU K m' H' u v → Rep K m' st' H' → Ext m H m' H' → RpUs K m' H' ys zs → D.rt zs v H'
 | .ok env .bk st' ys=>∀ σ' m' H' zs,RpEnv K m' H' env σ' → Rep K m' st' H' → Ext m H m' H' → RpUs K m' H' ys zs → D.bk zs σ' H'
 | .ok env .ct st' ys=>∀ σ' m' H' zs,RpEnv K m' H' env σ' → Rep K m' st' H' → Ext m H m' H' → RpUs K m' H' ys zs → D.ct zs σ' H'
 | .bad=>False
theorem PY.from {K : PySem.W.Frag} {m m1 : List Addr} {H H1 : Hp} {D : GEnds} (e : Ext m H m1 H1) : ∀ {r : RY},PY K m H D r → PY K m1 H1 D r
 | .ok _ .nx _ _,h=>fun v m' H' zs a b c=>h v m' H' zs a b (e.trans c)
 | .ok _ (.rt _) _ _,h=>fun v m' H' zs a b c=>h v m' H' zs a b (e.trans c)
 | .ok _ .bk _ _,h=>fun v m' H' zs a b c=>h v m' H' zs a b (e.trans c)
 | .ok _ .ct _ _,h=>fun v m' H' zs a b c=>h v m' H' zs a b (e.trans c)
 | .bad,h=>h
theorem GS.imp {X : Cx} {s : Stmt} {t t' : TGn} (h : GS X s t) (i : ∀ D ys σ H,t' D ys σ H → t D ys σ H) : GS X s t' :=
 ⟨fun A S ip R n ys s₀ c fs K J gd lv s σ H D a b k d e=>h.run A S ip R n ys s₀ c fs K J gd lv s σ H D a b k d (i _ _ _ _ e)⟩
theorem GSs.imp {X : Cx} {s : List Stmt} {t t' : TGn} (h : GSs X s t) (i : ∀ D ys σ H,t' D ys σ H → t D ys σ H) : GSs X s t' :=
 ⟨fun A S ip R n ys s₀ c fs K J gd lv s σ H D a b k d e=>h.run A S ip R n ys s₀ c fs K J gd lv s σ H D a b k d (i _ _ _ _ e)⟩
section
variable {X : Cx} {W : WX} {s : Stmt} {ss a b : List Stmt} {g h ga gb : Y} {e c : Expr} {fe : F U} {bc : F Bool} {pos : Pos}
end
section
variable {X : Cx} {W : WX} {tg iter : Expr} {body : List Stmt} {is : List Nat} {g : U → G} {gb : Y} {fi : F Itb} {pos : Pos}
end
section
variable {X : Cx} {W : WX} {o : Expr} {fo : F U} {C f : Addr} {nm x : Str} {k : Nat} {mY : List U → Store → Option (Store × List U)} {p pos pos' apos : Pos} {pl : Sem Bool}
end
end VL
namespace VL
open PySem PySem.Spec PyProof.Rows L2
section
variable {X : Cx} {pins : List (Addr × Obj)} {σ : L2.St} {H : Hp} {s : Shared}
end
section
variable {X : Cx} {C f : Addr} {k : Nat} {gU : List U → List U → List U} {mf : List U → M U}
end
section
variable {X : Cx} {C f : Addr} {k : Nat} {gU : List U → List U → List U} {mf : List U → M U}
end
section
variable {X : Cx} {W : WX} {a b : Expr} {fa fb : F U} {pos : Pos} {g : P2S}
end
noncomputable def inDct (st : Store) (a b : U) : Option Bool:=match VL.getD st b with
 | some kvs=>match keyD a with
  | some k=>some (lookK kvs k).isSome
  | none=>none
 | none=>none
noncomputable def oInD : P2:=fun a b st=>(inDct st a b).map fun k=>.d (.bl k)
noncomputable def oNotInD : P2:=fun a b st=>(inDct st a b).map fun k=>.d (.bl (!k))
section
variable {X : Cx}
theorem inDct_rp {m : List Addr} {H : Hp} {st : Store} {a b : U} {x y : V} {k : Bool} (r : Rep X.K m st H) (ha : RpU X.K m H a x) (hb : RpU X.K m H b y) (e : inDct st a b = some k) : ∃ q o,y = .ref q ∧ DGet H q x o ∧ o.isSome = k:=by
 unfold inDct at e
 split at e
 ·rename_i kvs hk
  split at e
  ·rename_i kk hkk
   obtain ⟨q,vs,rfl,h1,h2⟩:=getD_rp r hb hk
   have l:=lookK_rp (k:=kk) h2
   have hy:=keyD_rp ha hkk
   subst hy
   cases e
   refine ⟨q,_,rfl,.inl ⟨vs,kk,h1,rfl,rfl⟩,?_⟩
   cases z : lookK kvs kk with
   | none=>rw [z] at l; simp only at l; rw [l]; rfl
   | some u =>
    rw [z] at l
    obtain ⟨v,hv,_⟩:=l
    rw [hv]; rfl
  ·cases e
 ·cases e
theorem op_notInDct (hu : X.A.units + 1 < cLine) : OpR X (compareOp .NotIn) (rG X.K oNotInD):=by
 intro pins s σ H x y v u Q I rx ry h
 obtain ⟨m,st,a,b,r,ha,hb,p⟩:=h
 unfold oNotInD at p
 cases e : inDct st a b with
 | none=>rw [e] at p; exact p.elim
 | some k =>
  rw [e] at p
  obtain ⟨q,o,rfl,g,rfl⟩:=inDct_rp r ha hb e
  cases ry
  exact L2.d_notIn hu I g rx fun s3 I3=>⟨.bl (!o.isSome),H,I3,rfl,p _ H rfl r (Ext.refl _ _)⟩
end
end VL
namespace VL
open PySem PySem.Spec PyProof.Rows L2
noncomputable def fProp (C : Addr) (mf : List U → M U) (fo : F U) : F U:=bnd fo fun u=>fun _ st=>match insU st u with
 | some (C',_)=>if C' = C then match mf [u] st with
  | .ok v st'=>.ok v st'
  | _=>.bad
  else .bad
 | none=>.bad
section
variable {X : Cx} {W : WX} {e : Expr} {fo : F U} {C p g : Addr} {f : Str} {k : Nat} {mf : List U → M U} {pos : Pos}
end
section
variable {X : Cx} {pins : List (Addr × Obj)} {σ : L2.St} {H : Hp} {s : Shared} {a dx C f : Addr} {fs : List (Str × V)} {A' : Around} {E' : Value → Shared → Prop}
end
section
variable {X : Cx} {W : WX} {C f : Addr} {k : Nat} {mf : List U → M U}
end
end VL
namespace VL
open PySem PySem.Spec PyProof.Rows L2
section
variable {X : Cx} {W : WX} {elt tg iter : Expr} {ifs : List Expr} {scope : Scope} {own : List (Str × Nat)} {pos : Pos} {is : List Nat} {g : U → G} {gt : F Bool} {fe : F U} {fi : F Itb}
end
theorem _root_.L2.Room.u1 {k : Nat} {A : Around} (h : L2.Room k A) : A.units + 1 < cLine:=by have:=h.un; omega
theorem _root_.L2.Room.u64 {k : Nat} {A : Around} (h : L2.Room k A) : A.units + 64 < cLine:=by have:=h.un; omega
theorem _root_.L2.Room.u65 {k : Nat} {A : Around} (h : L2.Room k A) : A.units + 65 < cLine:=by have:=h.un; omega
end VL
namespace VL
open PySem PySem.Spec PyProof.Rows L2
section
variable {X : Cx} {C f : Addr} {k : Nat} {mf : List U → M U}
end
section
variable {X : Cx} {C f : Addr} {k : Nat} {mf : List U → M U} {ns : List String}
end
section
variable {prog : Program} {w : World} {A : Around} {E : Value → Shared → Prop} {s : Shared} {K : PySem.W.Frag} {x C f : Addr} {ox : Obj} {od : Option Obj} {b tb : Value}
end
section
variable {X : Cx} {C f : Addr} {k : Nat} {mf : List U → M U} {ns : List String}
end
section
variable {prog : Program} {w : World} {A : Around} {E : Value → Shared → Prop} {s : Shared} {K : PySem.W.Frag} {x C f : Addr} {ox : Obj} {od : Option Obj} {v tv : Value}
end
section
variable {prog : Program} {w : World} {A : Around} {E : Value → Shared → Prop} {s : Shared} {x C dx : Addr}
end
section
variable {X : Cx} {C f : Addr} {k : Nat} {mf : List U → M U}
end
end VL
namespace VL
open PySem PySem.Spec PyProof.Rows L2
section
variable {prog : Program} {w : World} {A : Around} {E : Value → Shared → Prop} {s : Shared} {K : PySem.W.Frag} {x l C : Addr} {ox : Obj} {od : Option Obj}
end
section
variable {X : Cx} {C f : Addr} {k : Nat} {mf : List U → M U}
variable {ns : List String}
end
end VL
namespace VL
open PySem PySem.Spec PyProof.Rows L2
section
variable {X : Cx} {W : WX} {a C : Addr} {oe : Obj} {cls : Value} {d : Option Addr} {pn : List (Addr × Obj)} {x : Str} {p1 pos : Pos} {n : Str}
end
end VL
namespace VL
open PySem PySem.Spec PyProof.Rows L2 LamX
section
variable {X : Cx}
end
end VL
namespace VL
open PySem PySem.Spec PyProof.Rows L2 LamX
section
variable {P : Program} {w : World} {K : PySem.W.Frag} {mg : Str → Option Value}
end
end VL
namespace VL
open PySem PySem.Spec PyProof.Rows L2 LamX
noncomputable def kD : Key → D
 | .inl i=>.int i
 | .inr x=>.str x
end VL
namespace VL
open PySem PySem.Spec PyProof.Rows L2
/-- where a parameter's value comes from: a positional one,a keyword's,a default -/
inductive Src where
 | p (i : Nat) | k (j : Nat) | e (i : Nat)
noncomputable def Src.get {α : Type} (x : α) (ds us ws : List α) : Src → α
 | .p i=>us.getD i x
 | .k j=>ws.getD j x
 | .e i=>ds.getD i x
section
variable {K : PySem.W.Frag} {m : List Addr} {H : Hp}
end
structure FunK (K : PySem.W.Frag) (x qual : Str) (st : Stmt) (f : Addr) (kws : List (Str × V)) (fd : FuncData) : Prop where
 ex : ∃ (oc : Value) (od : Option Addr) (D : Addr) (doc pm : Value) (an : Option Addr) (cdv ct : Value) (osl : Array (Option Value)),
  fd = PySem.W.fnOf x qual (defArgs st) (defBody st) (defScope st) .none (.ref D) doc pm an cdv ct ∧ K.lookup f = some ⟨oc,od,.func fd,osl⟩ ∧ PySem.W.codeIn K cdv qual = true ∧ ∀ q ∈ kws,∃ u,PySem.W.nsIn K D q.1 = some (some u) ∧ RelV q.2 u
 kp : PySem.W.keepIn K (.ref f) = true
theorem FunK.fun {K : PySem.W.Frag} {x qual : Str} {st : Stmt} {f : Addr} {kws : List (Str × V)} {fd : FuncData} (F : FunK K x qual st f kws fd) : Fun K x qual st f fd:=by
 obtain ⟨oc,od,D,doc,pm,an,cdv,ct,osl,e,lk,hc,hq⟩:=F.ex
 exact ⟨⟨oc,od,.ref D,doc,pm,an,cdv,ct,osl,e,lk,hc⟩,F.kp⟩
/-- what t looks up in the dict at D,one behind another; then it goes on as r -/
noncomputable def KwC {α : Type} (D : Addr) : List (Str × Value) → Sem α → Sem α → Prop
 | [],t,r=>t = r
 | q :: l,t,r=>∃ (β γ : Type) (k1 : Option Value → Sem β) (k2 : β → Sem γ) (k3 : γ → Sem α) (a : β),t = ((nsGet D q.1 >>= k1) >>= k2) >>= k3 ∧ k1 (some q.2) = pure a ∧ KwC D l (k2 a >>= k3) r
theorem KwC.run {α : Type} {K : PySem.W.Frag} {M : Model} {A : Around} {D : Addr} {s : Shared} {Q : α → Shared → Prop} {E : Value → Shared → Prop} (X : K.In s.heap) : ∀ {l : List (Str × Value)} {t r : Sem α},(∀ q ∈ l,PySem.W.nsIn K D q.1 = some (some q.2)) → KwC D l t r → wpAny M A r Q E s → wpAny M A t Q E s
 | [],t,r,_,e,h=>by rw [show t = r from e]; exact h
 | q :: l,t,r,hl,e,h=>by
  obtain ⟨β,γ,k1,k2,k3,a,e1,e2,e3⟩:=e
  have h2:=KwC.run (l:=l) X (fun p hp=>hl p (List.mem_cons_of_mem _ hp)) e3 h
  rw [e1,bind_assoc]
  refine wpAny_bind (wpAny_bind ?_)
  refine (PySem.W.looks_nsIn X (hl q (List.mem_cons_self ..))).here ?_
  rw [e2]
  exact wpAny_pure (by simpa using h2)
section
variable {K : PySem.W.Frag} {x qual : Str} {st : Stmt} {f : Addr} {kws : List (Str × V)} {fd : FuncData} {ps : List Str}
end
section
variable {P : Program} {w : World} {K : PySem.W.Frag} {mg : Str → Option Value} {base : Heap}
end
end VL
namespace VL
open PySem PySem.Spec PyProof.Rows L2
section
variable {K : PySem.W.Frag} {m : List Addr} {H : Hp} {st : Store}
theorem rep_lock (r : Rep K m st H) {d : Addr} {kvs : List (Key × V)} (hd : d ∉ m) (h : H d = some (.dK kvs)) (od : Obj) : Rep K m st (upd H d (.frz od (.dK kvs))) ∧ Ext m H m (upd H d (.frz od (.dK kvs))):=by
 have s : Stay m H m (upd H d (.frz od (.dK kvs))):=by
  refine ⟨fun a o n q nd nt=>?_,fun a u n q=>?_,fun a o u q=>?_⟩
  ·have : a ≠ d:=fun e=>by subst e; rw [h] at q; exact nd _ (Option.some.inj q).symm
   exact ⟨by rw [upd_ne this]; exact q,n⟩
  ·by_cases e : a = d
   ·subst e
    rcases q with q | ⟨o,q⟩
    ·rw [h] at q; cases q; exact ⟨.inr ⟨od,upd_same⟩,n⟩
    ·rw [h] at q; cases q
   ·refine ⟨?_,n⟩
    rcases q with q | ⟨o,q⟩
    ·exact .inl (by rw [upd_ne e]; exact q)
    ·exact .inr ⟨o,by rw [upd_ne e]; exact q⟩
  ·have : a ≠ d:=fun e=>by subst e; rw [h] at q; cases q
   rw [upd_ne this]; exact q
 refine ⟨⟨r.len,r.nd,fun n c a h1 h2=>?_⟩,⟨List.prefix_refl m,s⟩⟩
 obtain ⟨ho,e,q⟩:=r.cell n c a h1 h2
 have : a ≠ d:=fun z=>hd (by rw [← z]; exact List.mem_of_getElem? h2)
 exact ⟨ho,by rw [upd_ne this]; exact e,RpO.stay (List.prefix_refl m) s _ _ q⟩
noncomputable def pairK (kv : Key × D) : U:=.d (.tup [kD kv.1,kv.2])
theorem RpK.length : ∀ {ds : List (Key × D)} {vs : List (Key × V)},RpK K m H ds vs → vs.length = ds.length
 | [],vs,h=>by rw [show vs = [] from h]; rfl
 | (k,d) :: ds,_,⟨v,r,e,h1,h2⟩=>by subst e; rw [List.length_cons,List.length_cons,RpK.length h2]
theorem RpK.get : ∀ {ds : List (Key × D)} {vs : List (Key × V)},RpK K m H ds vs → ∀ {i : Nat} {kd : Key × D},ds[i]? = some kd → ∃ v,vs[i]? = some (kd.1,v) ∧ RpD K m H kd.2 v
 | [],_,h,i,kd,e=>by cases e
 | (k,d) :: ds,_,⟨v,r,e,h1,h2⟩,0,kd,q=>by subst e; cases q; exact ⟨v,rfl,h1⟩
 | (k,d) :: ds,_,⟨v,r,e,h1,h2⟩,i + 1,kd,q=>by subst e; exact RpK.get h2 (i:=i) q
theorem kD_rp (k : Key) : RpD K m H (kD k) (kV k):=by cases k <;> rfl
theorem frz_stays {m' : List Addr} {H' : Hp} {d : Addr} {o : Obj} {u : HO} (hd : d ∉ m) (h : H d = some (.frz o u)) (e : Ext m H m' H') : H' d = some (.frz o u):=(e.toStay.ex d _ hd h (fun _ z=>nomatch z) fun _ z=>nomatch z).1
theorem isIt_items {d : Addr} {o : Obj} {ds : List (Key × D)} {vs : List (Key × V)} (hd : d ∉ m) (h : H d = some (.frz o (.dK vs))) (hr : RpK K m H ds vs) : IsIt K m H (Iti d o vs) (.lst (ds.map pairK)):=by
 have hl:=hr.length
 refine ⟨fun i m' st' H' hi r e=>⟨frz_stays hd h e,by rw [List.length_map] at hi; omega⟩,fun m' st' H' r e=>⟨frz_stays hd h e,by rw [List.length_map]; omega⟩,fun i u m' st' H' x H'' hu r e y=>?_⟩
 obtain ⟨T,k,v,e1,rfl,nT,rfl⟩:=y
 rw [List.getElem?_map] at hu
 cases q : ds[i]? with
 | none=>rw [q] at hu; cases hu
 | some kd =>
  rw [q] at hu
  have hu:=Option.some.inj hu
  obtain ⟨w,hw,rw'⟩:=hr.get q
  rw [hw] at e1
  cases e1
  subst hu
  exact pair_new r nT (kD_rp _) (rw'.ext e)
end
/-- the dict is locked,or it gets locked now -/
noncomputable def tLk (td : TE) : TE:=fun σ H Q=>td σ H fun x H1=>∃ d kvs,x = .ref d ∧ ((∃ o,H1 d = some (.frz o (.dK kvs)) ∧ Q (.ref d) H1) ∨ (H1 d = some (.dK kvs) ∧ ∀ o,Q (.ref d) (upd H1 d (.frz o (.dK kvs)))))
theorem pe_lk {X : Cx} {e : Expr} {td : TE} (he : PE X e td) : PE X e (tLk td):=by
 refine ⟨fun pins s σ H Q I h=>?_⟩
 refine thn (he.run pins s σ H _ I h) fun u s1 ⟨x,H1,I1,rx,d,kvs,ex,q⟩=>?_
 subst ex
 rcases q with ⟨o,hd,q⟩ | ⟨hd,q⟩
 ·exact ⟨_,H1,I1,rx,q⟩
 ·obtain ⟨od,I2⟩:=I1.lock hd trivial
  exact ⟨_,_,I2,rx,q od⟩
noncomputable def fDk (g : List (Key × D) → Itb) (f : F U) : F Itb:=bnd f fun u=>fun _ st=>match u with
 | .d (.dct ds)=>.ok (g ds) st
 | _=>.bad
noncomputable def kItems (ds : List (Key × D)) : Itb:=.lst (ds.map pairK)
section
variable {X : Cx} {W : WX} {tg e : Expr} {fe : F U} {apos cpos : Pos}
end
end VL
namespace VL
open PySem PySem.Spec PyProof.Rows L2
section
variable {K : PySem.W.Frag} {m : List Addr} {H : Hp} {st : Store}
end
section
variable {X : Cx} {W : WX} {e o : Expr} {fe fo : F U} {p pos apos cpos tpos : Pos}
noncomputable def isC (C : Addr) (o : U) (st : Store) : Bool:=match insU st o with
 | some (C',_)=>decide (C' = C)
 | none=>false
noncomputable def augF (cs : List Addr) (f : Str) (g : P2) (C : Addr) (o x : U) : U → G:=fun y=>fun env st=>match g x y st with
 | some z=>if isC C o st = true then match setFld cs f z o st with
  | some st'=>.ok env .nx st'
  | none=>.bad
  else .bad
 | none=>.bad
noncomputable def sFldAugM (cs : List Addr) (f : Str) (g : P2) (fo fe : F U) : G:=bndS fo fun o=>fun env st=>match insU st o with
 | some (C,us)=>if C ∈ cs then match us.lookup f with
  | some x=>bndS fe (augF cs f g C o x) env st
  | none=>.bad
  else .bad
 | none=>.bad
end
end VL
namespace VL
open PySem PySem.Spec PyProof.Rows L2
section
variable {prog : Program} {w : World} {A : Around} {E : Value → Shared → Prop} {s : Shared}
end
end VL
namespace VL
open PySem PySem.Spec PyProof.Rows L2
noncomputable def oRep : P2:=fun a b _=>match a,b with
 | .d (.lst ds),.d (.int n)=>if 0 ≤ n ∧ n ≤ 100 ∧ ds.length ≤ 1000 then some (.d (.lst (List.replicate n.toNat ds).flatten)) else none
 | _,_=>none
section
variable {K : PySem.W.Frag} {m : List Addr} {H : Hp}
theorem RpDs.app : ∀ {xs ys : List D} {vs ws : List V},RpDs K m H xs vs → RpDs K m H ys ws → RpDs K m H (xs ++ ys) (vs ++ ws)
 | [],_,vs,_,h,k=>by rw [show vs = [] from h]; exact k
 | d :: xs,_,_,_,⟨v,r,e,h1,h2⟩,k=>by subst e; exact ⟨v,_,rfl,h1,RpDs.app h2 k⟩
theorem RpDs.rep {xs : List D} {vs : List V} (h : RpDs K m H xs vs) : ∀ n : Nat,RpDs K m H (List.replicate n xs).flatten (List.replicate n vs).flatten
 | 0=>rfl
 | n + 1=>by rw [List.replicate_succ,List.replicate_succ,List.flatten_cons,List.flatten_cons]; exact h.app (RpDs.rep h n)
end
theorem op_rep' {X : Cx} : OpR X (binaryOp .Mult) (rG X.K oRep):=by
 intro pins s σ H x y v u Q I rx ry h
 obtain ⟨m,st,a,b,r,ha,hb,p⟩:=h
 unfold oRep at p
 split at p
 ·rename_i ds n
  split at p
  ·rename_i hz
   obtain ⟨l,vs,rfl,hl,hd⟩:=ha
   obtain rfl : y = .int n:=hb
   refine op_rep pins s σ H _ _ v u Q I rx ry ⟨l,n,vs,rfl,rfl,hl.2,by omega,by omega,?_,fun q hq=>p _ _ (new_lst r hq (hd.rep n.toNat)) (r.new hq _) (ext_new r hq _)⟩
   have e : vs.length = ds.length:=hd.length
   have h1 : n.toNat ≤ 100:=by omega
   have h2 : vs.length ≤ 1000:=by omega
   exact Nat.le_trans (Nat.mul_le_mul h2 h1) (by decide)
  ·exact p.elim
 ·exact p.elim
end VL
namespace VL
open PySem PySem.Spec PyProof.Rows L2
noncomputable def fnX (n : Nat) (g : G) (w : Wr) : List U → M U:=fun us st=>match g (us.map some ++ List.replicate (n - us.length) none) st with
 | .ok _ (.rt u) st'=>w st.length u st'
 | .ok _ .nx st'=>w st.length (.d .non) st'
 | .ex c fs _ st'=>.ex c fs st'
 | _=>.bad
section
variable {P : Program} {w : World} {K : PySem.W.Frag} {mg : Str → Option Value} {base : Heap}
end
end VL
namespace VL
open PySem PySem.Spec PyProof.Rows L2
noncomputable abbrev XF:=Option (List (Str × D))
noncomputable def noR : Value → XF → Store → Prop:=fun _ _ _=>False
noncomputable def noE : Value → XF → VEnv → Store → Prop:=fun _ _ _ _=>False
noncomputable def noN : VEnv → Store → Prop:=fun _ _=>False
noncomputable def noT : U → Store → Prop:=fun _ _=>False
namespace Q0
noncomputable def wpR {α : Type} (r : R α) (Q : α → Store → Prop) (E : Value → XF → Store → Prop) : Prop:=match r with
 | .ok a st=>Q a st
 | .ex c fs st=>E c fs st
 | .bad=>False
noncomputable def wpS (r : RS) (N : VEnv → Store → Prop) (T : U → Store → Prop) (B C : VEnv → Store → Prop) (E : Value → XF → VEnv → Store → Prop) : Prop:=match r with
 | .ok env .nx st=>N env st
 | .ok _ (.rt u) st=>T u st
 | .ok env .bk st=>B env st
 | .ok env .ct st=>C env st
 | .ex c fs env st=>E c fs env st
 | .bad=>False
/-- a state that is made plain ahead of going on -/
noncomputable def wpQ {α : Type} (Q : α → Store → Prop) (a : α) (st : Store) : Prop:=Q a st
noncomputable def wpI (k : Bool) (P Q : Prop) : Prop:=if k = true then P else Q
section
variable {α β : Type} {Q : α → Store → Prop} {E : Value → XF → Store → Prop} {N B C : VEnv → Store → Prop} {T : U → Store → Prop} {X : Value → XF → VEnv → Store → Prop} {env : VEnv} {st : Store}
theorem wp_Q {a : α} : wpQ Q a st = Q a st:=rfl
theorem wp_I1 {P R : Prop} : wpI true P R = P:=if_pos rfl
theorem wp_I0 {P R : Prop} : wpI false P R = R:=if_neg Bool.false_ne_true
theorem wp_ok {a : α} : wpR (.ok a st) Q E = wpQ Q a st:=rfl
theorem wp_ex {c : Value} {fs : XF} : wpR (.ex c fs st) Q E = E c fs st:=rfl
theorem wp_bad : wpR (.bad : R α) Q E = False:=rfl
theorem wps_nx : wpS (.ok env .nx st) N T B C X = wpQ N env st:=rfl
theorem wps_rt {u : U} : wpS (.ok env (.rt u) st) N T B C X = wpQ T u st:=rfl
theorem wps_bk : wpS (.ok env .bk st) N T B C X = wpQ B env st:=rfl
theorem wps_ct : wpS (.ok env .ct st) N T B C X = wpQ C env st:=rfl
theorem wps_ex {c : Value} {fs : XF} : wpS (.ex c fs env st) N T B C X = X c fs env st:=rfl
theorem wps_bad : wpS .bad N T B C X = False:=rfl
theorem of_some {a : α} : R.of st (some a) = .ok a st:=rfl
theorem of2_some {a : α} {s : Store} : R.of2 (some (a,s)) = .ok a s:=rfl
theorem of_ite {c : Prop} [Decidable c] {a : α} : wpR (R.of st (if c then some a else none)) Q E = (c ∧ wpQ Q a st):=by
 by_cases h : c
 ·rw [if_pos h]; exact propext ⟨fun x=>⟨h,x⟩,fun x=>x.2⟩
 ·rw [if_neg h]; exact propext ⟨fun x=>x.elim,fun x=>h x.1⟩
theorem of2_ite {c : Prop} [Decidable c] {a : α} {s : Store} : wpR (R.of2 (if c then some (a,s) else none)) Q E = (c ∧ wpQ Q a s):=by
 by_cases h : c
 ·rw [if_pos h]; exact propext ⟨fun x=>⟨h,x⟩,fun x=>x.2⟩
 ·rw [if_neg h]; exact propext ⟨fun x=>x.elim,fun x=>h x.1⟩
theorem ite_bad {c : Prop} [Decidable c] {r : R α} : wpR (if c then r else .bad) Q E = (c ∧ wpR r Q E):=by
 by_cases h : c
 ·rw [if_pos h]; exact propext ⟨fun x=>⟨h,x⟩,fun x=>x.2⟩
 ·rw [if_neg h]; exact propext ⟨fun x=>x.elim,fun x=>h x.1⟩
theorem ites_bad {c : Prop} [Decidable c] {r : RS} : wpS (if c then r else .bad) N T B C X = (c ∧ wpS r N T B C X):=by
 by_cases h : c
 ·rw [if_pos h]; exact propext ⟨fun x=>⟨h,x⟩,fun x=>x.2⟩
 ·rw [if_neg h]; exact propext ⟨fun x=>x.elim,fun x=>h x.1⟩
theorem wp_bnd {f : F β} {g : β → F α} : wpR (bnd f g env st) Q E = wpR (f env st) (fun a s=>wpR (g a env s) Q E) E:=by
 unfold bnd; cases f env st <;> rfl
theorem wp_bndS {f : F β} {g : β → G} : wpS (bndS f g env st) N T B C X = wpR (f env st) (fun a s=>wpS (g a env s) N T B C X) (fun c fs s=>X c fs env s):=by
 unfold bndS; cases f env st <;> rfl
theorem wp_fPure {a : α} : wpR (fPure a env st) Q E = wpQ Q a st:=rfl
end
section
variable {Q : U → Store → Prop} {QB : Bool → Store → Prop} {QL : List U → Store → Prop} {Q2 : List U × List U → Store → Prop} {QI : Itb → Store → Prop} {QO : Option Int → Store → Prop} {E : Value → XF → Store → Prop} {N B C : VEnv → Store → Prop} {T : U → Store → Prop} {X : Value → XF → VEnv → Store → Prop} {env : VEnv} {st : Store}
theorem wp_vC {x : D} : wpR (vC x env st) Q E = wpQ Q (.d x) st:=rfl
theorem wp_f2 {g : P2} {fa fb : F U} : wpR (f2 g fa fb env st) Q E = wpR (fa env st) (fun a s=>wpR (fb env s) (fun b s2=>wpR (R.of s2 (g a b s2)) Q E) E) E:=by
 unfold f2; rw [wp_bnd]; congr 1; funext a s; rw [wp_bnd]
theorem wp_f2s {g : P2S} {fa fb : F U} : wpR (f2s g fa fb env st) Q E = wpR (fa env st) (fun a s=>wpR (fb env s) (fun b s2=>wpR (g a b s2) Q E) E) E:=by
 unfold f2s; rw [wp_bnd]; congr 1; funext a s; rw [wp_bnd]
theorem wp_f1 {g : P1} {fa : F U} : wpR (f1 g fa env st) Q E = wpR (fa env st) (fun a s=>wpR (R.of s (g a s)) Q E) E:=wp_bnd
theorem wp_fFld {cs : List Addr} {f : Str} {fo : F U} : wpR (fFld cs f fo env st) Q E = wpR (fo env st) (fun a s=>wpR (R.of s (oFld cs f a s)) Q E) E:=wp_f1
theorem wp_asB {f : F U} : wpR (asB f env st) QB E = wpR (f env st) (fun u s=>wpR (match u with
 | .d (.bl k)=>R.ok k s
 | _=>.bad) QB E) E:=wp_bnd
theorem wp_asT {f : F U} : wpR (asT f env st) QB E = wpR (f env st) (fun u s=>wpR (R.of s (truB s u)) QB E) E:=wp_bnd
theorem wp_fNot {f : F U} : wpR (fNot f env st) Q E = wpR (f env st) (fun u s=>wpR (R.of s ((truB s u).map fun k=>U.d (.bl (!k)))) Q E) E:=wp_bnd
theorem wp_fIf {c : F Bool} {x y : F U} : wpR (fIf c x y env st) Q E = wpR (c env st) (fun k s=>wpI k (wpR (x env s) Q E) (wpR (y env s) Q E)) E:=by
 unfold fIf; rw [wp_bnd]; congr 1; funext k s; cases k <;> rfl
theorem wp_bAnd {x y : F Bool} : wpR (bAnd x y env st) QB E = wpR (x env st) (fun k s=>wpI k (wpR (y env s) QB E) (wpQ QB false s)) E:=by
 unfold bAnd; rw [wp_bnd]; congr 1; funext k s; cases k <;> rfl
theorem wp_bOr {x y : F Bool} : wpR (bOr x y env st) QB E = wpR (x env st) (fun k s=>wpI k (wpQ QB true s) (wpR (y env s) QB E)) E:=by
 unfold bOr; rw [wp_bnd]; congr 1; funext k s; cases k <;> rfl
theorem wp_bNot {x : F Bool} : wpR (bNot x env st) QB E = wpR (x env st) (fun k s=>wpQ QB (!k) s) E:=wp_bnd
theorem wp_fAnd {x y : F U} : wpR (fAnd x y env st) Q E = wpR (x env st) (fun u s=>wpR (match u with
 | .d (.bl k)=>R.ok k s
 | _=>.bad) (fun k s=>wpI k (wpR (y env s) Q E) (wpQ Q (.d (.bl false)) s)) E) E:=by
 unfold fAnd; rw [wp_bnd]; congr 1; funext u s
 cases u with
 | ref n=>rfl
 | d x=>cases x with
  | bl k=>cases k <;> rfl
  | _=>rfl
theorem wp_fOr {x y : F U} : wpR (fOr x y env st) Q E = wpR (x env st) (fun u s=>wpR (match u with
 | .d (.bl k)=>R.ok k s
 | _=>.bad) (fun k s=>wpI k (wpQ Q (.d (.bl true)) s) (wpR (y env s) Q E)) E) E:=by
 unfold fOr; rw [wp_bnd]; congr 1; funext u s
 cases u with
 | ref n=>rfl
 | d x=>cases x with
  | bl k=>cases k <;> rfl
  | _=>rfl
theorem wp_fChain {g g' : P2} {fa fb fc : F U} : wpR (fChain g g' fa fb fc env st) Q E = wpR (fa env st) (fun a s=>wpR (fb env s) (fun b s=>wpR (R.of s (g a b s)) (fun u s=>wpR (match u with
 | .d (.bl k)=>R.ok k s
 | _=>.bad) (fun k s=>wpI k (wpR (fc env s) (fun c s=>wpR (R.of s (g' b c s)) Q E) E) (wpQ Q (.d (.bl false)) s)) E) E) E) E:=by
 unfold fChain; rw [wp_bnd]; congr 1; funext a s; rw [wp_bnd]; congr 1; funext b s
 cases g a b s with
 | none=>rfl
 | some u=>cases u with
  | ref n=>rfl
  | d x=>cases x with
   | bl k=>cases k with
    | true =>
     show wpR (bnd fc _ env s) Q E = _
     rw [wp_bnd]; rfl
    | false=>rfl
   | _=>rfl
theorem wp_fNil : wpR (fNil env st) QL E = wpQ QL [] st:=rfl
theorem wp_fCons {f : F U} {g : F (List U)} : wpR (fCons f g env st) QL E = wpR (f env st) (fun u s=>wpR (g env s) (fun us s2=>wpQ QL (u :: us) s2) E) E:=by
 unfold fCons; rw [wp_bnd]; congr 1; funext u s; rw [wp_bnd]; rfl
theorem wp_fN {g : List U → Store → Option U} {f : F (List U)} : wpR (fN g f env st) Q E = wpR (f env st) (fun us s=>wpR (R.of s (g us s)) Q E) E:=wp_bnd
theorem wp_fB {g : P3} {f : F (List U)} : wpR (fB g f env st) Q E = wpR (f env st) (fun us s=>wpR (R.of2 (g us s)) Q E) E:=wp_bnd
theorem wp_fLstC {f : F (List U)} : wpR (fLstC f env st) Q E = wpR (f env st) (fun us s=>wpR (if us.length ≤ sizeLine then .ok (.ref s.length) (s ++ [.lst us]) else .bad) Q E) E:=wp_bnd
theorem wp_fTup {f : F (List U)} : wpR (fTup f env st) Q E = wpR (f env st) (fun us s=>wpR (match pureL us with
 | some ds=>if ds.length ≤ sizeLine then .ok (.d (.tup ds)) s else .bad
 | none=>if us.length ≤ sizeLine then .ok (.ref s.length) (s ++ [.tup us]) else .bad) Q E) E:=wp_bnd
theorem wp_fCW {f g : F (List U)} : wpR (fCW f g env st) Q2 E = wpR (f env st) (fun us s=>wpR (g env s) (fun ws s2=>wpQ Q2 (us,ws) s2) E) E:=by
 unfold fCW; rw [wp_bnd]; congr 1; funext u s; rw [wp_bnd]; rfl
theorem wp_fCall {n m : Nat} {gU : List U → List U → List U} {mf : List U → M U} {f : F (List U × List U)} : wpR (fCall n m gU mf f env st) Q E = wpR (f env st) (fun p s=>wpR (if p.1.length = n ∧ p.2.length = m then mf (gU p.1 p.2) s else .bad) Q E) E:=wp_bnd
theorem wp_fMeth {C0 : Addr} {nm : Str} {n m : Nat} {gU : List U → List U → List U} {mf : List U → M U} {fo : F U} {fc : F (List U × List U)} : wpR (fMeth C0 nm n m gU mf fo fc env st) Q E = wpR (fo env st) (fun u s=>wpR (match insU s u with
 | some (C',us)=>if C' = C0 ∧ us.lookup nm = none then R.ok () s else .bad
 | none=>.bad) (fun _ s=>wpR (fc env s) (fun p s=>wpR (if p.1.length = n ∧ p.2.length = m then mf (gU (u :: p.1) p.2) s else .bad) Q E) E) E) E:=by
 unfold fMeth; rw [wp_bnd]; congr 1; funext u s
 show wpR (match insU s u with
  | some (C',us)=>if C' = C0 ∧ us.lookup nm = none then bnd fc (fun p=>fun _ st=>if p.1.length = n ∧ p.2.length = m then mf (gU (u :: p.1) p.2) st else .bad) env s else .bad
  | none=>.bad) Q E = _
 cases insU s u with
 | none=>rfl
 | some q =>
  simp only
  by_cases h : q.1 = C0 ∧ q.2.lookup nm = none
  ·rw [if_pos h,if_pos h,wp_bnd]; rfl
  ·rw [if_neg h,if_neg h]; rfl
theorem wp_fM {t : String} {g : P4} {fo : F U} {fs : F (List U)} : wpR (fM t g fo fs env st) Q E = wpR (fo env st) (fun u s=>wpR (if tyB t s u = true then R.ok () s else .bad) (fun _ s=>wpR (fs env s) (fun us s=>wpR (R.of2 (g u us s)) Q E) E) E) E:=by
 unfold fM; rw [wp_bnd]; congr 1; funext u s
 show wpR (if tyB t s u = true then bnd fs (fun us=>fun _ st=>.of2 (g u us st)) env s else .bad) Q E = _
 by_cases h : tyB t s u = true
 ·rw [if_pos h,if_pos h,wp_bnd]; rfl
 ·rw [if_neg h,if_neg h]; rfl
theorem wp_oNone : wpR (oNone env st) QO E = wpQ QO none st:=rfl
theorem wp_oSome {f : F U} : wpR (oSome f env st) QO E = wpR (f env st) (fun u s=>wpR (match u with
 | .d (.int i)=>R.ok (some i) s
 | _=>.bad) QO E) E:=wp_bnd
theorem wp_fSl {f : F U} {l h : F (Option Int)} : wpR (fSl f l h env st) Q E = wpR (f env st) (fun a s=>wpR (l env s) (fun lo s=>wpR (h env s) (fun hi s=>wpR (R.of s (oSl a lo hi s)) Q E) E) E) E:=by
 unfold fSl; rw [wp_bnd]; congr 1; funext a s; rw [wp_bnd]; congr 1; funext lo s; rw [wp_bnd]
theorem wp_fSlC {f : F U} {l h : F (Option Int)} : wpR (fSlC f l h env st) Q E = wpR (f env st) (fun a s=>wpR (l env s) (fun lo s=>wpR (h env s) (fun hi s=>wpR (oSlC a lo hi s) Q E) E) E) E:=by
 unfold fSlC; rw [wp_bnd]; congr 1; funext a s; rw [wp_bnd]; congr 1; funext lo s; rw [wp_bnd]
theorem wp_fIter {f : F U} : wpR (fIter f env st) QI E = wpR (f env st) (fun u s=>wpR (R.of s (itV s u)) QI E) E:=wp_bnd
theorem wp_fItN {g : List U → Option Itb} {f : F (List U)} : wpR (fItN g f env st) QI E = wpR (f env st) (fun us s=>wpR (R.of s (g us)) QI E) E:=wp_bnd
theorem wp_fItS {g : Store → List U → Option Itb} {f : F (List U)} : wpR (fItS g f env st) QI E = wpR (f env st) (fun us s=>wpR (R.of s (g s us)) QI E) E:=wp_bnd
theorem wp_fDk {g : List (Key × D) → Itb} {f : F U} : wpR (fDk g f env st) QI E = wpR (f env st) (fun u s=>wpR (match u with
 | .d (.dct ds)=>R.ok (g ds) s
 | _=>.bad) QI E) E:=wp_bnd
theorem wp_fDnew : wpR (fDnew env st) Q E = wpQ Q (.ref st.length) (st ++ [.dct []]):=rfl
theorem wp_fGet1 {fo fk : F U} : wpR (fGet1 fo fk env st) Q E = wpR (fo env st) (fun o s=>wpR (if (VL.getD s o).isSome = true then R.ok () s else .bad) (fun _ s=>wpR (fk env s) (fun k s=>wpR (match VL.getD s o,keyD k with
 | some kvs,some k=>R.ok (dGet none kvs k) s
 | _,_=>.bad) Q E) E) E) E:=by
 unfold fGet1; rw [wp_bnd]; congr 1; funext u s
 show wpR (if _ then bnd fk _ env s else .bad) Q E = _
 by_cases h : (VL.getD s u).isSome = true
 ·rw [if_pos h,if_pos h,wp_bnd]; rfl
 ·rw [if_neg h,if_neg h]; rfl
theorem wp_fGet2 {fo fk fx : F U} : wpR (fGet2 fo fk fx env st) Q E = wpR (fo env st) (fun o s=>wpR (if (VL.getD s o).isSome = true then R.ok () s else .bad) (fun _ s=>wpR (fk env s) (fun k s=>wpR (fx env s) (fun x s=>wpR (match VL.getD s o,keyD k with
 | some kvs,some k=>R.ok (dGet (some x) kvs k) s
 | _,_=>.bad) Q E) E) E) E) E:=by
 unfold fGet2; rw [wp_bnd]; congr 1; funext u s
 show wpR (if _ then bnd fk _ env s else .bad) Q E = _
 by_cases h : (VL.getD s u).isSome = true
 ·rw [if_pos h,if_pos h,wp_bnd]; show wpR (fk env s) _ E = wpR (fk env s) _ E; congr 1; funext k s; rw [wp_bnd]; try rfl
 ·rw [if_neg h,if_neg h]; rfl
theorem wp_fSetd {fo fk fx : F U} : wpR (fSetd fo fk fx env st) Q E = wpR (fo env st) (fun o s=>wpR (if (VL.getD s o).isSome = true then R.ok () s else .bad) (fun _ s=>wpR (fk env s) (fun k s=>wpR (fx env s) (fun x s=>wpR (match dctC s o,keyD k with
 | some (n,kvs),some k=>if kvs.length < sizeLine then (match lookK kvs k with
  | some u=>R.ok u s
  | none=>.ok x (s.set n (.dct (putU kvs k x)))) else .bad
 | _,_=>.bad) Q E) E) E) E) E:=by
 unfold fSetd; rw [wp_bnd]; congr 1; funext u s
 show wpR (if _ then bnd fk _ env s else .bad) Q E = _
 by_cases h : (VL.getD s u).isSome = true
 ·rw [if_pos h,if_pos h,wp_bnd]; show wpR (fk env s) _ E = wpR (fk env s) _ E; congr 1; funext k s; rw [wp_bnd]; try rfl
 ·rw [if_neg h,if_neg h]; rfl
theorem wp_fJs0 {acc : Str} : wpR (fJs [] acc env st) Q E = wpQ Q (.d (.str acc)) st:=rfl
theorem wp_fJs {f : F U} {fs : List (F U)} {acc : Str} : wpR (fJs (f :: fs) acc env st) Q E = wpR (f env st) (fun u s=>wpR (match u with
 | .d (.str y)=>if (acc ++ y).length ≤ sizeLine then R.ok (acc ++ y) s else .bad
 | _=>.bad) (fun y s=>wpR (fJs fs y env s) Q E) E) E:=by
 show wpR (bnd f _ env st) Q E = _
 rw [wp_bnd]; congr 1; funext u s
 cases u with
 | ref n=>rfl
 | d x=>cases x with
  | str y =>
   simp only
   by_cases h : (acc ++ y).length ≤ sizeLine
   ·rw [if_pos h,if_pos h]; rfl
   ·rw [if_neg h,if_neg h]; rfl
  | _=>rfl
theorem wp_fProp {C0 : Addr} {mf : List U → M U} {fo : F U} : wpR (fProp C0 mf fo env st) Q E = wpR (fo env st) (fun u s=>wpR (match insU s u with
 | some (C',_)=>if C' = C0 then R.ok () s else .bad
 | none=>.bad) (fun _ s=>wpR (mf [u] s) Q noR) E) E:=by
 unfold fProp; rw [wp_bnd]; congr 1; funext u s
 cases insU s u with
 | none=>rfl
 | some q =>
  obtain ⟨C',us⟩:=q
  simp only
  by_cases h : C' = C0
  ·rw [if_pos h,if_pos h]; show _ = wpR (mf [u] s) Q noR
   cases mf [u] s <;> rfl
  ·rw [if_neg h,if_neg h]; rfl
theorem wps_nil : wpS (sNil env st) N T B C X = wpQ N env st:=rfl
theorem wps_seq {g h : G} : wpS (sSeq g h env st) N T B C X = wpS (g env st) (fun env s=>wpS (h env s) N T B C X) T B C X:=by
 unfold sSeq
 cases g env st with
 | ok e f s=>cases f <;> rfl
 | ex c fs e s=>rfl
 | bad=>rfl
theorem wps_ret {f : F U} : wpS (sRet f env st) N T B C X = wpR (f env st) (fun u s=>wpQ T u s) (fun c fs s=>X c fs env s):=wp_bndS
theorem wps_retN : wpS (sRetN env st) N T B C X = wpQ T (.d .non) st:=rfl
theorem wps_expr {f : F U} : wpS (sExpr f env st) N T B C X = wpR (f env st) (fun _ s=>wpQ N env s) (fun c fs s=>X c fs env s):=wp_bndS
theorem wps_if {c : F Bool} {g h : G} : wpS (sIf c g h env st) N T B C X = wpR (c env st) (fun k s=>wpI k (wpS (g env s) N T B C X) (wpS (h env s) N T B C X)) (fun c fs s=>X c fs env s):=by
 unfold sIf; rw [wp_bndS]; congr 1; funext k s; cases k <;> rfl
theorem wps_sbk : wpS (sBk env st) N T B C X = wpQ B env st:=rfl
theorem wps_sct : wpS (sCt env st) N T B C X = wpQ C env st:=rfl
theorem wps_asg {f : F U} {tg : U → G} : wpS (sAsg f tg env st) N T B C X = wpR (f env st) (fun a s=>wpS (tg a env s) N T B C X) (fun c fs s=>X c fs env s):=wp_bndS
theorem wps_tgN {i : Nat} {u : U} : wpS (tgN i u env st) N T B C X = wpQ N (env.set i (some u)) st:=rfl
theorem wps_tgNil : wpS (tgNil [] env st) N T B C X = wpQ N env st:=rfl
theorem wps_tgCons {g : U → G} {h : List U → G} {u : U} {us : List U} : wpS (tgCons g h (u :: us) env st) N T B C X = wpS (g u env st) (fun env s=>wpS (h us env s) N T B C X) T B C X:=wps_seq
theorem wps_tgT {n : Nat} {g : List U → G} {u : U} : wpS (tgT n g u env st) N T B C X = wpR (match unp st u with
 | some us=>if us.length = n then R.ok us st else .bad
 | none=>.bad) (fun us s=>wpS (g us env s) N T B C X) noR:=by
 unfold tgT
 cases unp st u with
 | none=>rfl
 | some us =>
  simp only
  by_cases h : us.length = n
  ·rw [if_pos h,if_pos h]; rfl
  ·rw [if_neg h,if_neg h]; rfl
theorem wps_tgSub {fo fi : F U} {u : U} : wpS (tgSub fo fi u env st) N T B C X = wpR (fo env st) (fun o s=>wpR (fi env s) (fun i s=>wpR (match setU o i u s with
 | some s'=>R.ok () s'
 | none=>.bad) (fun _ s=>wpQ N env s) noR) noR) noR:=by
 unfold tgSub
 cases fo env st with
 | ok o s =>
  show wpS (match fi env s with
   | .ok i st2=>match setU o i u st2 with
    | some st'=>.ok env .nx st'
    | none=>.bad
   | _=>.bad) N T B C X = wpR (fi env s) _ noR
  cases fi env s with
  | ok i s2 =>
    show wpS (match setU o i u s2 with
    | some st'=>.ok env .nx st'
    | none=>.bad) N T B C X = wpR (match setU o i u s2 with
    | some s'=>R.ok () s'
    | none=>.bad) _ noR
    cases setU o i u s2 <;> rfl
  | ex=>rfl
  | bad=>rfl
 | ex=>rfl
 | bad=>rfl
theorem wps_sPar {i j : Nat} {fs : F (List U)} : wpS (sPar i j fs env st) N T B C X = wpR (fs env st) (fun us s=>wpS (match us with
 | [u,w]=>.ok ((env.set i (some u)).set j (some w)) .nx s
 | _=>.bad) N T B C X) (fun c fs s=>X c fs env s):=wp_bndS
theorem wps_sPar3 {i j l : Nat} {fs : F (List U)} : wpS (sPar3 i j l fs env st) N T B C X = wpR (fs env st) (fun us s=>wpS (match us with
 | [u,w,z]=>.ok (((env.set i (some u)).set j (some w)).set l (some z)) .nx s
 | _=>.bad) N T B C X) (fun c fs s=>X c fs env s):=wp_bndS
theorem wps_sFldS {cs : List Addr} {f : Str} {fo fe : F U} : wpS (sFldS cs f fo fe env st) N T B C X = wpR (fe env st) (fun u s=>wpR (fo env s) (fun o s=>wpR (match setFld cs f u o s with
 | some s'=>R.ok () s'
 | none=>.bad) (fun _ s=>wpQ N env s) noR) (fun c fs s=>X c fs env s)) (fun c fs s=>X c fs env s):=by
 unfold sFldS; rw [wp_bndS]; congr 1; funext u s; rw [wp_bndS]; congr 1; funext o s
 cases setFld cs f u o s <;> rfl
theorem wps_sFldAugM {cs : List Addr} {f : Str} {g : P2} {fo fe : F U} : wpS (sFldAugM cs f g fo fe env st) N T B C X = wpR (fo env st) (fun o s=>wpR (match insU s o with
 | some (C0,us)=>if C0 ∈ cs then (match us.lookup f with
  | some x=>R.ok (C0,x) s
  | none=>.bad) else .bad
 | none=>.bad) (fun p s=>wpR (fe env s) (fun y s=>wpS (augF cs f g p.1 o p.2 y env s) N T B C X) (fun c fs s=>X c fs env s)) noR) (fun c fs s=>X c fs env s):=by
 unfold sFldAugM; rw [wp_bndS]; congr 1; funext o s
 cases insU s o with
 | none=>rfl
 | some p =>
  obtain ⟨C0,us⟩:=p
  simp only
  by_cases h : C0 ∈ cs
  ·rw [if_pos h,if_pos h]
   cases us.lookup f with
   | none=>rfl
   | some x=>exact wp_bndS
  ·rw [if_neg h,if_neg h]; rfl
theorem wps_sAug {i : Nat} {g : P2} {f : F U} : wpS (sAug i g f env st) N T B C X = wpR (vVar i env st) (fun x s=>wpR (f env s) (fun y s=>wpR (match g x y s with
 | some u=>R.ok u s
 | none=>.bad) (fun u s=>wpQ N (env.set i (some u)) s) noR) (fun c fs s=>X c fs env s)) (fun c fs s=>X c fs env s):=by
 unfold sAug; rw [wp_bndS]; congr 1; funext x s; rw [wp_bndS]; congr 1; funext y s
 unfold augK
 cases g x y s <;> rfl
theorem wps_sRaise {C0 : Addr} {ns : List Str} {fa : F (List U)} : wpS (sRaise C0 ns fa env st) N T B C X = wpR (fa env st) (fun us s=>wpR (match pureL us with
 | some ds=>if ds.length = ns.length ∧ ds.length ≤ 1000 then R.ok ds s else .bad
 | none=>.bad) (fun ds s=>X (.ref C0) (some (ns.zip ds).reverse) env s) noR) (fun c fs s=>X c fs env s):=by
 unfold sRaise; rw [wp_bndS]; congr 1; funext us s
 cases pureL us with
 | none=>rfl
 | some ds =>
  simp only
  by_cases h : ds.length = ns.length ∧ ds.length ≤ 1000
  ·rw [if_pos h,if_pos h]; rfl
  ·rw [if_neg h,if_neg h]; rfl
noncomputable def wpL (tg : U → G) (body : G) (us : List U) (env : VEnv) (st : Store) (N : VEnv → Store → Prop) (T : U → Store → Prop) (X : Value → XF → VEnv → Store → Prop) : Prop:=wpS (loopL tg body us env st) N T noN noN X
noncomputable def wpC (tg : U → G) (body : G) (n : Nat) (f : Nat → U → Option U) (k i : Nat) (env : VEnv) (st : Store) (N : VEnv → Store → Prop) (T : U → Store → Prop) (X : Value → XF → VEnv → Store → Prop) : Prop:=wpS (loopC tg body n f k i env st) N T noN noN X
theorem loopL_eq {tg : U → G} {body : G} {u : U} {us : List U} : loopL tg body (u :: us) env st = match tg u env st with
  | .ok env1 .nx st1=>match body env1 st1 with
   | .ok env2 .nx st2=>loopL tg body us env2 st2
   | .ok env2 .ct st2=>loopL tg body us env2 st2
   | .ok env2 .bk st2=>.ok env2 .nx st2
   | r=>r
  | _=>.bad:=rfl
theorem loopC_eq {tg : U → G} {body : G} {n k i : Nat} {f : Nat → U → Option U} : loopC tg body n f (k + 1) i env st = match st[n]? with
  | some (.lst us)=>match us[i]? with
   | none=>.ok env .nx st
   | some u=>match f i u with
    | none=>.bad
    | some w=>match tg w env st with
     | .ok env1 .nx st1=>match body env1 st1 with
      | .ok env2 .nx st2=>loopC tg body n f k (i + 1) env2 st2
      | .ok env2 .ct st2=>loopC tg body n f k (i + 1) env2 st2
      | .ok env2 .bk st2=>.ok env2 .nx st2
      | r=>r
     | _=>.bad
  | _=>.bad:=rfl
theorem loopL_nb {tg : U → G} {body : G} : ∀ (us : List U) (env : VEnv) (st : Store),wpS (loopL tg body us env st) (fun _ _=>True) (fun _ _=>True) noN noN (fun _ _ _ _=>True) ∨ loopL tg body us env st = .bad
 | [],env,st=>.inl trivial
 | u :: us,env,st=>by
  rw [loopL_eq]
  cases tg u env st with
  | bad=>exact .inr rfl
  | ex=>exact .inr rfl
  | ok e f s=>cases f with
   | rt=>exact .inr rfl
   | bk=>exact .inr rfl
   | ct=>exact .inr rfl
   | nx =>
    simp only
    cases body e s with
    | bad=>exact .inr rfl
    | ex=>exact .inl trivial
    | ok e2 f2 s2=>cases f2 with
     | rt=>exact .inl trivial
     | bk=>exact .inl trivial
     | ct=>exact loopL_nb us e2 s2
     | nx=>exact loopL_nb us e2 s2
theorem loopC_nb {tg : U → G} {body : G} {n : Nat} {f : Nat → U → Option U} : ∀ (k i : Nat) (env : VEnv) (st : Store),wpS (loopC tg body n f k i env st) (fun _ _=>True) (fun _ _=>True) noN noN (fun _ _ _ _=>True) ∨ loopC tg body n f k i env st = .bad
 | 0,i,env,st=>.inr rfl
 | k + 1,i,env,st=>by
  rw [loopC_eq]
  cases st[n]? with
  | none=>exact .inr rfl
  | some o=>cases o with
   | lst us =>
    simp only
    cases us[i]? with
    | none=>exact .inl trivial
    | some u =>
     simp only
     cases f i u with
     | none=>exact .inr rfl
     | some w =>
      simp only
      cases tg w env st with
      | bad=>exact .inr rfl
      | ex=>exact .inr rfl
      | ok e f s=>cases f with
       | rt=>exact .inr rfl
       | bk=>exact .inr rfl
       | ct=>exact .inr rfl
       | nx =>
        simp only
        cases body e s with
        | bad=>exact .inr rfl
        | ex=>exact .inl trivial
        | ok e2 f2 s2=>cases f2 with
         | rt=>exact .inl trivial
         | bk=>exact .inl trivial
         | ct=>exact loopC_nb k (i + 1) e2 s2
         | nx=>exact loopC_nb k (i + 1) e2 s2
   | _=>exact .inr rfl
theorem wpS_nb {r : RS} (h : wpS r (fun _ _=>True) (fun _ _=>True) noN noN (fun _ _ _ _=>True) ∨ r = .bad) : wpS r N T B C X = wpS r N T noN noN X:=by
 cases r with
 | bad=>rfl
 | ex=>rfl
 | ok e f s=>cases f with
  | nx=>rfl
  | rt=>rfl
  | bk =>
      rcases h with h | h
      ·exact h.elim
      ·cases h
  | ct =>
      rcases h with h | h
      ·exact h.elim
      ·cases h
theorem wps_for {fi : F Itb} {tg : U → G} {body : G} : wpS (sFor fi tg body env st) N T B C X = wpR (fi env st) (fun t s=>wpR (match t with
 | .lst us=>R.ok (Sum.inl us) s
 | .cell n f=>match s[n]? with
  | some (.lst us)=>R.ok (Sum.inr (n,f,us.length + 1)) s
  | _=>.bad) (fun t s=>match t with
   | .inl us=>wpL tg body us env s N T X
   | .inr p=>wpC tg body p.1 p.2.1 p.2.2 0 env s N T X) noR) (fun c fs s=>X c fs env s):=by
 unfold sFor; rw [wp_bndS]; congr 1; funext t s
 cases t with
 | lst us=>exact wpS_nb (loopL_nb us env s)
 | cell n f =>
  simp only
  cases s[n]? with
  | none=>rfl
  | some o=>cases o with
   | lst us=>exact wpS_nb (loopC_nb _ _ env s)
   | _=>rfl
theorem wpL_nil {tg : U → G} {body : G} : wpL tg body [] env st N T X = wpQ N env st:=rfl
theorem wp_fnM {n : Nat} {g : G} {w : Wr} {us : List U} : wpR (fnM n g w us st) Q E = wpS (g (us.map some ++ List.replicate (n - us.length) none) st) (fun _ s=>wpR (w st.length (.d .non) s) Q E) (fun u s=>wpR (w st.length u s) Q E) noN noN (fun c fs _ s=>wpR (R.of s (cutS st.length s)) (fun s' _=>E c fs s') noR):=by
 unfold fnM
 cases g (us.map some ++ List.replicate (n - us.length) none) st with
 | bad=>rfl
 | ex c fs e s =>
   show wpR (match cutS st.length s with
    | some s=>.ex c fs s
    | none=>.bad) Q E = wpR (R.of s (cutS st.length s)) _ noR
   cases cutS st.length s <;> rfl
 | ok e f s=>cases f <;> rfl
theorem wp_fnX {n : Nat} {g : G} {w : Wr} {us : List U} : wpR (fnX n g w us st) Q E = wpS (g (us.map some ++ List.replicate (n - us.length) none) st) (fun _ s=>wpR (w st.length (.d .non) s) Q E) (fun u s=>wpR (w st.length u s) Q E) noN noN (fun c fs _ s=>E c fs s):=by
 unfold fnX
 cases g (us.map some ++ List.replicate (n - us.length) none) st with
 | bad=>rfl
 | ex c fs e s=>rfl
 | ok e f s=>cases f <;> rfl
end
theorem eq_of_wp {α : Type} {r : R α} {v : α} {s : Store} (h : wpR r (fun a st=>a = v ∧ st = s) noR) : r = .ok v s:=by
 cases r with
 | ok a st=>obtain ⟨rfl,rfl⟩ : a = v ∧ st = s:=h; rfl
 | ex=>exact h.elim
 | bad=>exact h.elim
end Q0
@[irreducible] noncomputable def wpR {α : Type} (r : R α) (Q : α → Store → Prop) (E : Value → XF → Store → Prop) : Prop:=Q0.wpR r Q E
@[irreducible] noncomputable def wpS (r : RS) (N : VEnv → Store → Prop) (T : U → Store → Prop) (B C : VEnv → Store → Prop) (E : Value → XF → VEnv → Store → Prop) : Prop:=Q0.wpS r N T B C E
@[irreducible] noncomputable def wpQ {α : Type} (Q : α → Store → Prop) (a : α) (st : Store) : Prop:=Q0.wpQ Q a st
@[irreducible] noncomputable def wpI (k : Bool) (P Q : Prop) : Prop:=Q0.wpI k P Q
@[irreducible] noncomputable def wpL (tg : U → G) (body : G) (us : List U) (env : VEnv) (st : Store) (N : VEnv → Store → Prop) (T : U → Store → Prop) (X : Value → XF → VEnv → Store → Prop) : Prop:=Q0.wpL tg body us env st N T X
@[irreducible] noncomputable def wpC (tg : U → G) (body : G) (n : Nat) (f : Nat → U → Option U) (k i : Nat) (env : VEnv) (st : Store) (N : VEnv → Store → Prop) (T : U → Store → Prop) (X : Value → XF → VEnv → Store → Prop) : Prop:=Q0.wpC tg body n f k i env st N T X
@[irreducible] noncomputable def act (P : Prop) : Prop:=P
theorem act_i {P : Prop} (h : P) : act P:=by unfold act; exact h
theorem act_e {P : Prop} (h : act P) : P:=by unfold act at h; exact h
theorem act_act {P : Prop} : act (act P) = act P:=propext ⟨act_e,act_i⟩
theorem act_true : act True = True:=eq_true (act_i trivial)
section
variable {α β : Type} {Q : α → Store → Prop} {E : Value → XF → Store → Prop} {N B C : VEnv → Store → Prop} {T : U → Store → Prop} {X : Value → XF → VEnv → Store → Prop} {env : VEnv} {st : Store}
theorem wp_Q' {a : α} : wpQ Q a st = Q a st:=by with_unfolding_all exact Q0.wp_Q 
theorem wp_Q {a : α} : act (wpQ Q a st) = act (Q a st):=by
 have h : wpQ Q a st = Q a st:=by with_unfolding_all exact Q0.wp_Q 
 unfold act
 exact h
theorem wp_I1' {P R : Prop} : wpI true P R = P:=by with_unfolding_all exact Q0.wp_I1 
theorem wp_I1 {P R : Prop} : act (wpI true P R) = act (P):=by
 have h : wpI true P R = P:=by with_unfolding_all exact Q0.wp_I1 
 unfold act
 exact h
theorem wp_I0' {P R : Prop} : wpI false P R = R:=by with_unfolding_all exact Q0.wp_I0 
theorem wp_I0 {P R : Prop} : act (wpI false P R) = act (R):=by
 have h : wpI false P R = R:=by with_unfolding_all exact Q0.wp_I0 
 unfold act
 exact h
theorem wp_ok' {a : α} : wpR (.ok a st) Q E = wpQ Q a st:=by with_unfolding_all exact Q0.wp_ok 
theorem wp_ok {a : α} : act (wpR (.ok a st) Q E) = act (wpQ Q a st):=by
 have h : wpR (.ok a st) Q E = wpQ Q a st:=by with_unfolding_all exact Q0.wp_ok 
 unfold act
 exact h
theorem wp_ex' {c : Value} {fs : XF} : wpR (.ex c fs st) Q E = E c fs st:=by with_unfolding_all exact Q0.wp_ex 
theorem wp_ex {c : Value} {fs : XF} : act (wpR (.ex c fs st) Q E) = act (E c fs st):=by
 have h : wpR (.ex c fs st) Q E = E c fs st:=by with_unfolding_all exact Q0.wp_ex 
 unfold act
 exact h
theorem wp_bad' : wpR (.bad : R α) Q E = False:=by with_unfolding_all exact Q0.wp_bad 
theorem wp_bad : act (wpR (.bad : R α) Q E) = act (False):=by
 have h : wpR (.bad : R α) Q E = False:=by with_unfolding_all exact Q0.wp_bad 
 unfold act
 exact h
theorem wps_nx' : wpS (.ok env .nx st) N T B C X = wpQ N env st:=by with_unfolding_all exact Q0.wps_nx 
theorem wps_nx : act (wpS (.ok env .nx st) N T B C X) = act (wpQ N env st):=by
 have h : wpS (.ok env .nx st) N T B C X = wpQ N env st:=by with_unfolding_all exact Q0.wps_nx 
 unfold act
 exact h
theorem wps_rt' {u : U} : wpS (.ok env (.rt u) st) N T B C X = wpQ T u st:=by with_unfolding_all exact Q0.wps_rt 
theorem wps_rt {u : U} : act (wpS (.ok env (.rt u) st) N T B C X) = act (wpQ T u st):=by
 have h : wpS (.ok env (.rt u) st) N T B C X = wpQ T u st:=by with_unfolding_all exact Q0.wps_rt 
 unfold act
 exact h
theorem wps_bk' : wpS (.ok env .bk st) N T B C X = wpQ B env st:=by with_unfolding_all exact Q0.wps_bk 
theorem wps_bk : act (wpS (.ok env .bk st) N T B C X) = act (wpQ B env st):=by
 have h : wpS (.ok env .bk st) N T B C X = wpQ B env st:=by with_unfolding_all exact Q0.wps_bk 
 unfold act
 exact h
theorem wps_ct' : wpS (.ok env .ct st) N T B C X = wpQ C env st:=by with_unfolding_all exact Q0.wps_ct 
theorem wps_ct : act (wpS (.ok env .ct st) N T B C X) = act (wpQ C env st):=by
 have h : wpS (.ok env .ct st) N T B C X = wpQ C env st:=by with_unfolding_all exact Q0.wps_ct 
 unfold act
 exact h
theorem wps_ex' {c : Value} {fs : XF} : wpS (.ex c fs env st) N T B C X = X c fs env st:=by with_unfolding_all exact Q0.wps_ex 
theorem wps_ex {c : Value} {fs : XF} : act (wpS (.ex c fs env st) N T B C X) = act (X c fs env st):=by
 have h : wpS (.ex c fs env st) N T B C X = X c fs env st:=by with_unfolding_all exact Q0.wps_ex 
 unfold act
 exact h
theorem wps_bad' : wpS .bad N T B C X = False:=by with_unfolding_all exact Q0.wps_bad 
theorem wps_bad : act (wpS .bad N T B C X) = act (False):=by
 have h : wpS .bad N T B C X = False:=by with_unfolding_all exact Q0.wps_bad 
 unfold act
 exact h
theorem of_some {a : α} : R.of st (some a) = .ok a st:=by with_unfolding_all exact Q0.of_some 
theorem of2_some {a : α} {s : Store} : R.of2 (some (a,s)) = .ok a s:=by with_unfolding_all exact Q0.of2_some 
theorem of_ite {c : Prop} [Decidable c] {a : α} : act (wpR (R.of st (if c then some a else none)) Q E) = (c ∧ act (wpQ Q a st)):=by
 have h : wpR (R.of st (if c then some a else none)) Q E = (c ∧ wpQ Q a st):=by with_unfolding_all exact Q0.of_ite 
 unfold act
 exact h
theorem of2_ite {c : Prop} [Decidable c] {a : α} {s : Store} : act (wpR (R.of2 (if c then some (a,s) else none)) Q E) = (c ∧ act (wpQ Q a s)):=by
 have h : wpR (R.of2 (if c then some (a,s) else none)) Q E = (c ∧ wpQ Q a s):=by with_unfolding_all exact Q0.of2_ite 
 unfold act
 exact h
theorem ite_bad {c : Prop} [Decidable c] {r : R α} : act (wpR (if c then r else .bad) Q E) = (c ∧ act (wpR r Q E)):=by
 have h : wpR (if c then r else .bad) Q E = (c ∧ wpR r Q E):=by with_unfolding_all exact Q0.ite_bad 
 unfold act
 exact h
theorem ites_bad {c : Prop} [Decidable c] {r : RS} : act (wpS (if c then r else .bad) N T B C X) = (c ∧ act (wpS r N T B C X)):=by
 have h : wpS (if c then r else .bad) N T B C X = (c ∧ wpS r N T B C X):=by with_unfolding_all exact Q0.ites_bad 
 unfold act
 exact h
theorem wp_bnd {f : F β} {g : β → F α} : act (wpR (bnd f g env st) Q E) = act (wpR (f env st) (fun a s=>wpR (g a env s) Q E) E):=by
 have h : wpR (bnd f g env st) Q E = wpR (f env st) (fun a s=>wpR (g a env s) Q E) E:=by with_unfolding_all exact Q0.wp_bnd 
 unfold act
 exact h
theorem wp_bndS {f : F β} {g : β → G} : act (wpS (bndS f g env st) N T B C X) = act (wpR (f env st) (fun a s=>wpS (g a env s) N T B C X) (fun c fs s=>X c fs env s)):=by
 have h : wpS (bndS f g env st) N T B C X = wpR (f env st) (fun a s=>wpS (g a env s) N T B C X) (fun c fs s=>X c fs env s):=by with_unfolding_all exact Q0.wp_bndS 
 unfold act
 exact h
theorem wp_fPure {a : α} : act (wpR (fPure a env st) Q E) = act (wpQ Q a st):=by
 have h : wpR (fPure a env st) Q E = wpQ Q a st:=by with_unfolding_all exact Q0.wp_fPure 
 unfold act
 exact h
end
section
variable {Q : U → Store → Prop} {QB : Bool → Store → Prop} {QL : List U → Store → Prop} {Q2 : List U × List U → Store → Prop} {QI : Itb → Store → Prop} {QO : Option Int → Store → Prop} {E : Value → XF → Store → Prop} {N B C : VEnv → Store → Prop} {T : U → Store → Prop} {X : Value → XF → VEnv → Store → Prop} {env : VEnv} {st : Store}
theorem wp_vC {x : D} : act (wpR (vC x env st) Q E) = act (wpQ Q (.d x) st):=by
 have h : wpR (vC x env st) Q E = wpQ Q (.d x) st:=by with_unfolding_all exact Q0.wp_vC 
 unfold act
 exact h
theorem wp_f2 {g : P2} {fa fb : F U} : act (wpR (f2 g fa fb env st) Q E) = act (wpR (fa env st) (fun a s=>wpR (fb env s) (fun b s2=>wpR (R.of s2 (g a b s2)) Q E) E) E):=by
 have h : wpR (f2 g fa fb env st) Q E = wpR (fa env st) (fun a s=>wpR (fb env s) (fun b s2=>wpR (R.of s2 (g a b s2)) Q E) E) E:=by with_unfolding_all exact Q0.wp_f2 
 unfold act
 exact h
theorem wp_f2s {g : P2S} {fa fb : F U} : act (wpR (f2s g fa fb env st) Q E) = act (wpR (fa env st) (fun a s=>wpR (fb env s) (fun b s2=>wpR (g a b s2) Q E) E) E):=by
 have h : wpR (f2s g fa fb env st) Q E = wpR (fa env st) (fun a s=>wpR (fb env s) (fun b s2=>wpR (g a b s2) Q E) E) E:=by with_unfolding_all exact Q0.wp_f2s 
 unfold act
 exact h
theorem wp_f1 {g : P1} {fa : F U} : act (wpR (f1 g fa env st) Q E) = act (wpR (fa env st) (fun a s=>wpR (R.of s (g a s)) Q E) E):=by
 have h : wpR (f1 g fa env st) Q E = wpR (fa env st) (fun a s=>wpR (R.of s (g a s)) Q E) E:=by with_unfolding_all exact Q0.wp_f1 
 unfold act
 exact h
theorem wp_fFld {cs : List Addr} {f : Str} {fo : F U} : act (wpR (fFld cs f fo env st) Q E) = act (wpR (fo env st) (fun a s=>wpR (R.of s (oFld cs f a s)) Q E) E):=by
 have h : wpR (fFld cs f fo env st) Q E = wpR (fo env st) (fun a s=>wpR (R.of s (oFld cs f a s)) Q E) E:=by with_unfolding_all exact Q0.wp_fFld 
 unfold act
 exact h
theorem wp_asB {f : F U} : act (wpR (asB f env st) QB E) = act (wpR (f env st) (fun u s=>wpR (match u with
 | .d (.bl k)=>R.ok k s
 | _=>.bad) QB E) E):=by
 have h : wpR (asB f env st) QB E = wpR (f env st) (fun u s=>wpR (match u with
 | .d (.bl k)=>R.ok k s
 | _=>.bad) QB E) E:=by with_unfolding_all exact Q0.wp_asB 
 unfold act
 exact h
theorem wp_asT {f : F U} : act (wpR (asT f env st) QB E) = act (wpR (f env st) (fun u s=>wpR (R.of s (truB s u)) QB E) E):=by
 have h : wpR (asT f env st) QB E = wpR (f env st) (fun u s=>wpR (R.of s (truB s u)) QB E) E:=by with_unfolding_all exact Q0.wp_asT 
 unfold act
 exact h
theorem wp_fNot {f : F U} : act (wpR (fNot f env st) Q E) = act (wpR (f env st) (fun u s=>wpR (R.of s ((truB s u).map fun k=>U.d (.bl (!k)))) Q E) E):=by
 have h : wpR (fNot f env st) Q E = wpR (f env st) (fun u s=>wpR (R.of s ((truB s u).map fun k=>U.d (.bl (!k)))) Q E) E:=by with_unfolding_all exact Q0.wp_fNot 
 unfold act
 exact h
theorem wp_fIf {c : F Bool} {x y : F U} : act (wpR (fIf c x y env st) Q E) = act (wpR (c env st) (fun k s=>wpI k (wpR (x env s) Q E) (wpR (y env s) Q E)) E):=by
 have h : wpR (fIf c x y env st) Q E = wpR (c env st) (fun k s=>wpI k (wpR (x env s) Q E) (wpR (y env s) Q E)) E:=by with_unfolding_all exact Q0.wp_fIf 
 unfold act
 exact h
theorem wp_bAnd {x y : F Bool} : act (wpR (bAnd x y env st) QB E) = act (wpR (x env st) (fun k s=>wpI k (wpR (y env s) QB E) (wpQ QB false s)) E):=by
 have h : wpR (bAnd x y env st) QB E = wpR (x env st) (fun k s=>wpI k (wpR (y env s) QB E) (wpQ QB false s)) E:=by with_unfolding_all exact Q0.wp_bAnd 
 unfold act
 exact h
theorem wp_bOr {x y : F Bool} : act (wpR (bOr x y env st) QB E) = act (wpR (x env st) (fun k s=>wpI k (wpQ QB true s) (wpR (y env s) QB E)) E):=by
 have h : wpR (bOr x y env st) QB E = wpR (x env st) (fun k s=>wpI k (wpQ QB true s) (wpR (y env s) QB E)) E:=by with_unfolding_all exact Q0.wp_bOr 
 unfold act
 exact h
theorem wp_bNot {x : F Bool} : act (wpR (bNot x env st) QB E) = act (wpR (x env st) (fun k s=>wpQ QB (!k) s) E):=by
 have h : wpR (bNot x env st) QB E = wpR (x env st) (fun k s=>wpQ QB (!k) s) E:=by with_unfolding_all exact Q0.wp_bNot 
 unfold act
 exact h
theorem wp_fAnd {x y : F U} : act (wpR (fAnd x y env st) Q E) = act (wpR (x env st) (fun u s=>wpR (match u with
 | .d (.bl k)=>R.ok k s
 | _=>.bad) (fun k s=>wpI k (wpR (y env s) Q E) (wpQ Q (.d (.bl false)) s)) E) E):=by
 have h : wpR (fAnd x y env st) Q E = wpR (x env st) (fun u s=>wpR (match u with
 | .d (.bl k)=>R.ok k s
 | _=>.bad) (fun k s=>wpI k (wpR (y env s) Q E) (wpQ Q (.d (.bl false)) s)) E) E:=by with_unfolding_all exact Q0.wp_fAnd 
 unfold act
 exact h
theorem wp_fOr {x y : F U} : act (wpR (fOr x y env st) Q E) = act (wpR (x env st) (fun u s=>wpR (match u with
 | .d (.bl k)=>R.ok k s
 | _=>.bad) (fun k s=>wpI k (wpQ Q (.d (.bl true)) s) (wpR (y env s) Q E)) E) E):=by
 have h : wpR (fOr x y env st) Q E = wpR (x env st) (fun u s=>wpR (match u with
 | .d (.bl k)=>R.ok k s
 | _=>.bad) (fun k s=>wpI k (wpQ Q (.d (.bl true)) s) (wpR (y env s) Q E)) E) E:=by with_unfolding_all exact Q0.wp_fOr 
 unfold act
 exact h
theorem wp_fChain {g g' : P2} {fa fb fc : F U} : act (wpR (fChain g g' fa fb fc env st) Q E) = act (wpR (fa env st) (fun a s=>wpR (fb env s) (fun b s=>wpR (R.of s (g a b s)) (fun u s=>wpR (match u with
 | .d (.bl k)=>R.ok k s
 | _=>.bad) (fun k s=>wpI k (wpR (fc env s) (fun c s=>wpR (R.of s (g' b c s)) Q E) E) (wpQ Q (.d (.bl false)) s)) E) E) E) E):=by
 have h : wpR (fChain g g' fa fb fc env st) Q E = wpR (fa env st) (fun a s=>wpR (fb env s) (fun b s=>wpR (R.of s (g a b s)) (fun u s=>wpR (match u with
 | .d (.bl k)=>R.ok k s
 | _=>.bad) (fun k s=>wpI k (wpR (fc env s) (fun c s=>wpR (R.of s (g' b c s)) Q E) E) (wpQ Q (.d (.bl false)) s)) E) E) E) E:=by with_unfolding_all exact Q0.wp_fChain 
 unfold act
 exact h
theorem wp_fNil : act (wpR (fNil env st) QL E) = act (wpQ QL [] st):=by
 have h : wpR (fNil env st) QL E = wpQ QL [] st:=by with_unfolding_all exact Q0.wp_fNil 
 unfold act
 exact h
theorem wp_fCons {f : F U} {g : F (List U)} : act (wpR (fCons f g env st) QL E) = act (wpR (f env st) (fun u s=>wpR (g env s) (fun us s2=>wpQ QL (u :: us) s2) E) E):=by
 have h : wpR (fCons f g env st) QL E = wpR (f env st) (fun u s=>wpR (g env s) (fun us s2=>wpQ QL (u :: us) s2) E) E:=by with_unfolding_all exact Q0.wp_fCons 
 unfold act
 exact h
theorem wp_fN {g : List U → Store → Option U} {f : F (List U)} : act (wpR (fN g f env st) Q E) = act (wpR (f env st) (fun us s=>wpR (R.of s (g us s)) Q E) E):=by
 have h : wpR (fN g f env st) Q E = wpR (f env st) (fun us s=>wpR (R.of s (g us s)) Q E) E:=by with_unfolding_all exact Q0.wp_fN 
 unfold act
 exact h
theorem wp_fB {g : P3} {f : F (List U)} : act (wpR (fB g f env st) Q E) = act (wpR (f env st) (fun us s=>wpR (R.of2 (g us s)) Q E) E):=by
 have h : wpR (fB g f env st) Q E = wpR (f env st) (fun us s=>wpR (R.of2 (g us s)) Q E) E:=by with_unfolding_all exact Q0.wp_fB 
 unfold act
 exact h
theorem wp_fLstC {f : F (List U)} : act (wpR (fLstC f env st) Q E) = act (wpR (f env st) (fun us s=>wpR (if us.length ≤ sizeLine then .ok (.ref s.length) (s ++ [.lst us]) else .bad) Q E) E):=by
 have h : wpR (fLstC f env st) Q E = wpR (f env st) (fun us s=>wpR (if us.length ≤ sizeLine then .ok (.ref s.length) (s ++ [.lst us]) else .bad) Q E) E:=by with_unfolding_all exact Q0.wp_fLstC 
 unfold act
 exact h
theorem wp_fTup {f : F (List U)} : act (wpR (fTup f env st) Q E) = act (wpR (f env st) (fun us s=>wpR (match pureL us with
 | some ds=>if ds.length ≤ sizeLine then .ok (.d (.tup ds)) s else .bad
 | none=>if us.length ≤ sizeLine then .ok (.ref s.length) (s ++ [.tup us]) else .bad) Q E) E):=by
 have h : wpR (fTup f env st) Q E = wpR (f env st) (fun us s=>wpR (match pureL us with
 | some ds=>if ds.length ≤ sizeLine then .ok (.d (.tup ds)) s else .bad
 | none=>if us.length ≤ sizeLine then .ok (.ref s.length) (s ++ [.tup us]) else .bad) Q E) E:=by with_unfolding_all exact Q0.wp_fTup 
 unfold act
 exact h
theorem wp_fCW {f g : F (List U)} : act (wpR (fCW f g env st) Q2 E) = act (wpR (f env st) (fun us s=>wpR (g env s) (fun ws s2=>wpQ Q2 (us,ws) s2) E) E):=by
 have h : wpR (fCW f g env st) Q2 E = wpR (f env st) (fun us s=>wpR (g env s) (fun ws s2=>wpQ Q2 (us,ws) s2) E) E:=by with_unfolding_all exact Q0.wp_fCW 
 unfold act
 exact h
theorem wp_fCall {n m : Nat} {gU : List U → List U → List U} {mf : List U → M U} {f : F (List U × List U)} : act (wpR (fCall n m gU mf f env st) Q E) = act (wpR (f env st) (fun p s=>wpR (if p.1.length = n ∧ p.2.length = m then mf (gU p.1 p.2) s else .bad) Q E) E):=by
 have h : wpR (fCall n m gU mf f env st) Q E = wpR (f env st) (fun p s=>wpR (if p.1.length = n ∧ p.2.length = m then mf (gU p.1 p.2) s else .bad) Q E) E:=by with_unfolding_all exact Q0.wp_fCall 
 unfold act
 exact h
theorem wp_fMeth {C0 : Addr} {nm : Str} {n m : Nat} {gU : List U → List U → List U} {mf : List U → M U} {fo : F U} {fc : F (List U × List U)} : act (wpR (fMeth C0 nm n m gU mf fo fc env st) Q E) = act (wpR (fo env st) (fun u s=>wpR (match insU s u with
 | some (C',us)=>if C' = C0 ∧ us.lookup nm = none then R.ok () s else .bad
 | none=>.bad) (fun _ s=>wpR (fc env s) (fun p s=>wpR (if p.1.length = n ∧ p.2.length = m then mf (gU (u :: p.1) p.2) s else .bad) Q E) E) E) E):=by
 have h : wpR (fMeth C0 nm n m gU mf fo fc env st) Q E = wpR (fo env st) (fun u s=>wpR (match insU s u with
 | some (C',us)=>if C' = C0 ∧ us.lookup nm = none then R.ok () s else .bad
 | none=>.bad) (fun _ s=>wpR (fc env s) (fun p s=>wpR (if p.1.length = n ∧ p.2.length = m then mf (gU (u :: p.1) p.2) s else .bad) Q E) E) E) E:=by with_unfolding_all exact Q0.wp_fMeth 
 unfold act
 exact h
theorem wp_fM {t : String} {g : P4} {fo : F U} {fs : F (List U)} : act (wpR (fM t g fo fs env st) Q E) = act (wpR (fo env st) (fun u s=>wpR (if tyB t s u = true then R.ok () s else .bad) (fun _ s=>wpR (fs env s) (fun us s=>wpR (R.of2 (g u us s)) Q E) E) E) E):=by
 have h : wpR (fM t g fo fs env st) Q E = wpR (fo env st) (fun u s=>wpR (if tyB t s u = true then R.ok () s else .bad) (fun _ s=>wpR (fs env s) (fun us s=>wpR (R.of2 (g u us s)) Q E) E) E) E:=by with_unfolding_all exact Q0.wp_fM 
 unfold act
 exact h
theorem wp_oNone : act (wpR (oNone env st) QO E) = act (wpQ QO none st):=by
 have h : wpR (oNone env st) QO E = wpQ QO none st:=by with_unfolding_all exact Q0.wp_oNone 
 unfold act
 exact h
theorem wp_oSome {f : F U} : act (wpR (oSome f env st) QO E) = act (wpR (f env st) (fun u s=>wpR (match u with
 | .d (.int i)=>R.ok (some i) s
 | _=>.bad) QO E) E):=by
 have h : wpR (oSome f env st) QO E = wpR (f env st) (fun u s=>wpR (match u with
 | .d (.int i)=>R.ok (some i) s
 | _=>.bad) QO E) E:=by with_unfolding_all exact Q0.wp_oSome 
 unfold act
 exact h
theorem wp_fSl {f : F U} {l h : F (Option Int)} : act (wpR (fSl f l h env st) Q E) = act (wpR (f env st) (fun a s=>wpR (l env s) (fun lo s=>wpR (h env s) (fun hi s=>wpR (R.of s (oSl a lo hi s)) Q E) E) E) E):=by
 have h : wpR (fSl f l h env st) Q E = wpR (f env st) (fun a s=>wpR (l env s) (fun lo s=>wpR (h env s) (fun hi s=>wpR (R.of s (oSl a lo hi s)) Q E) E) E) E:=by with_unfolding_all exact Q0.wp_fSl 
 unfold act
 exact h
theorem wp_fSlC {f : F U} {l h : F (Option Int)} : act (wpR (fSlC f l h env st) Q E) = act (wpR (f env st) (fun a s=>wpR (l env s) (fun lo s=>wpR (h env s) (fun hi s=>wpR (oSlC a lo hi s) Q E) E) E) E):=by
 have h : wpR (fSlC f l h env st) Q E = wpR (f env st) (fun a s=>wpR (l env s) (fun lo s=>wpR (h env s) (fun hi s=>wpR (oSlC a lo hi s) Q E) E) E) E:=by with_unfolding_all exact Q0.wp_fSlC 
 unfold act
 exact h
theorem wp_fIter {f : F U} : act (wpR (fIter f env st) QI E) = act (wpR (f env st) (fun u s=>wpR (R.of s (itV s u)) QI E) E):=by
 have h : wpR (fIter f env st) QI E = wpR (f env st) (fun u s=>wpR (R.of s (itV s u)) QI E) E:=by with_unfolding_all exact Q0.wp_fIter 
 unfold act
 exact h
theorem wp_fItN {g : List U → Option Itb} {f : F (List U)} : act (wpR (fItN g f env st) QI E) = act (wpR (f env st) (fun us s=>wpR (R.of s (g us)) QI E) E):=by
 have h : wpR (fItN g f env st) QI E = wpR (f env st) (fun us s=>wpR (R.of s (g us)) QI E) E:=by with_unfolding_all exact Q0.wp_fItN 
 unfold act
 exact h
theorem wp_fItS {g : Store → List U → Option Itb} {f : F (List U)} : act (wpR (fItS g f env st) QI E) = act (wpR (f env st) (fun us s=>wpR (R.of s (g s us)) QI E) E):=by
 have h : wpR (fItS g f env st) QI E = wpR (f env st) (fun us s=>wpR (R.of s (g s us)) QI E) E:=by with_unfolding_all exact Q0.wp_fItS 
 unfold act
 exact h
theorem wp_fDk {g : List (Key × D) → Itb} {f : F U} : act (wpR (fDk g f env st) QI E) = act (wpR (f env st) (fun u s=>wpR (match u with
 | .d (.dct ds)=>R.ok (g ds) s
 | _=>.bad) QI E) E):=by
 have h : wpR (fDk g f env st) QI E = wpR (f env st) (fun u s=>wpR (match u with
 | .d (.dct ds)=>R.ok (g ds) s
 | _=>.bad) QI E) E:=by with_unfolding_all exact Q0.wp_fDk 
 unfold act
 exact h
theorem wp_fDnew : act (wpR (fDnew env st) Q E) = act (wpQ Q (.ref st.length) (st ++ [.dct []])):=by
 have h : wpR (fDnew env st) Q E = wpQ Q (.ref st.length) (st ++ [.dct []]):=by with_unfolding_all exact Q0.wp_fDnew 
 unfold act
 exact h
theorem wp_fGet1 {fo fk : F U} : act (wpR (fGet1 fo fk env st) Q E) = act (wpR (fo env st) (fun o s=>wpR (if (VL.getD s o).isSome = true then R.ok () s else .bad) (fun _ s=>wpR (fk env s) (fun k s=>wpR (match VL.getD s o,keyD k with
 | some kvs,some k=>R.ok (dGet none kvs k) s
 | _,_=>.bad) Q E) E) E) E):=by
 have h : wpR (fGet1 fo fk env st) Q E = wpR (fo env st) (fun o s=>wpR (if (VL.getD s o).isSome = true then R.ok () s else .bad) (fun _ s=>wpR (fk env s) (fun k s=>wpR (match VL.getD s o,keyD k with
 | some kvs,some k=>R.ok (dGet none kvs k) s
 | _,_=>.bad) Q E) E) E) E:=by with_unfolding_all exact Q0.wp_fGet1 
 unfold act
 exact h
theorem wp_fGet2 {fo fk fx : F U} : act (wpR (fGet2 fo fk fx env st) Q E) = act (wpR (fo env st) (fun o s=>wpR (if (VL.getD s o).isSome = true then R.ok () s else .bad) (fun _ s=>wpR (fk env s) (fun k s=>wpR (fx env s) (fun x s=>wpR (match VL.getD s o,keyD k with
 | some kvs,some k=>R.ok (dGet (some x) kvs k) s
 | _,_=>.bad) Q E) E) E) E) E):=by
 have h : wpR (fGet2 fo fk fx env st) Q E = wpR (fo env st) (fun o s=>wpR (if (VL.getD s o).isSome = true then R.ok () s else .bad) (fun _ s=>wpR (fk env s) (fun k s=>wpR (fx env s) (fun x s=>wpR (match VL.getD s o,keyD k with
 | some kvs,some k=>R.ok (dGet (some x) kvs k) s
 | _,_=>.bad) Q E) E) E) E) E:=by with_unfolding_all exact Q0.wp_fGet2 
 unfold act
 exact h
theorem wp_fSetd {fo fk fx : F U} : act (wpR (fSetd fo fk fx env st) Q E) = act (wpR (fo env st) (fun o s=>wpR (if (VL.getD s o).isSome = true then R.ok () s else .bad) (fun _ s=>wpR (fk env s) (fun k s=>wpR (fx env s) (fun x s=>wpR (match dctC s o,keyD k with
 | some (n,kvs),some k=>if kvs.length < sizeLine then (match lookK kvs k with
  | some u=>R.ok u s
  | none=>.ok x (s.set n (.dct (putU kvs k x)))) else .bad
 | _,_=>.bad) Q E) E) E) E) E):=by
 have h : wpR (fSetd fo fk fx env st) Q E = wpR (fo env st) (fun o s=>wpR (if (VL.getD s o).isSome = true then R.ok () s else .bad) (fun _ s=>wpR (fk env s) (fun k s=>wpR (fx env s) (fun x s=>wpR (match dctC s o,keyD k with
 | some (n,kvs),some k=>if kvs.length < sizeLine then (match lookK kvs k with
  | some u=>R.ok u s
  | none=>.ok x (s.set n (.dct (putU kvs k x)))) else .bad
 | _,_=>.bad) Q E) E) E) E) E:=by with_unfolding_all exact Q0.wp_fSetd 
 unfold act
 exact h
theorem wp_fJs0 {acc : Str} : act (wpR (fJs [] acc env st) Q E) = act (wpQ Q (.d (.str acc)) st):=by
 have h : wpR (fJs [] acc env st) Q E = wpQ Q (.d (.str acc)) st:=by with_unfolding_all exact Q0.wp_fJs0 
 unfold act
 exact h
theorem wp_fJs {f : F U} {fs : List (F U)} {acc : Str} : act (wpR (fJs (f :: fs) acc env st) Q E) = act (wpR (f env st) (fun u s=>wpR (match u with
 | .d (.str y)=>if (acc ++ y).length ≤ sizeLine then R.ok (acc ++ y) s else .bad
 | _=>.bad) (fun y s=>wpR (fJs fs y env s) Q E) E) E):=by
 have h : wpR (fJs (f :: fs) acc env st) Q E = wpR (f env st) (fun u s=>wpR (match u with
 | .d (.str y)=>if (acc ++ y).length ≤ sizeLine then R.ok (acc ++ y) s else .bad
 | _=>.bad) (fun y s=>wpR (fJs fs y env s) Q E) E) E:=by with_unfolding_all exact Q0.wp_fJs 
 unfold act
 exact h
theorem wp_fProp {C0 : Addr} {mf : List U → M U} {fo : F U} : act (wpR (fProp C0 mf fo env st) Q E) = act (wpR (fo env st) (fun u s=>wpR (match insU s u with
 | some (C',_)=>if C' = C0 then R.ok () s else .bad
 | none=>.bad) (fun _ s=>wpR (mf [u] s) Q noR) E) E):=by
 have h : wpR (fProp C0 mf fo env st) Q E = wpR (fo env st) (fun u s=>wpR (match insU s u with
 | some (C',_)=>if C' = C0 then R.ok () s else .bad
 | none=>.bad) (fun _ s=>wpR (mf [u] s) Q noR) E) E:=by with_unfolding_all exact Q0.wp_fProp 
 unfold act
 exact h
theorem wps_nil : act (wpS (sNil env st) N T B C X) = act (wpQ N env st):=by
 have h : wpS (sNil env st) N T B C X = wpQ N env st:=by with_unfolding_all exact Q0.wps_nil 
 unfold act
 exact h
theorem wps_seq {g h : G} : act (wpS (sSeq g h env st) N T B C X) = act (wpS (g env st) (fun env s=>wpS (h env s) N T B C X) T B C X):=by
 have h : wpS (sSeq g h env st) N T B C X = wpS (g env st) (fun env s=>wpS (h env s) N T B C X) T B C X:=by with_unfolding_all exact Q0.wps_seq 
 unfold act
 exact h
theorem wps_ret {f : F U} : act (wpS (sRet f env st) N T B C X) = act (wpR (f env st) (fun u s=>wpQ T u s) (fun c fs s=>X c fs env s)):=by
 have h : wpS (sRet f env st) N T B C X = wpR (f env st) (fun u s=>wpQ T u s) (fun c fs s=>X c fs env s):=by with_unfolding_all exact Q0.wps_ret 
 unfold act
 exact h
theorem wps_retN : act (wpS (sRetN env st) N T B C X) = act (wpQ T (.d .non) st):=by
 have h : wpS (sRetN env st) N T B C X = wpQ T (.d .non) st:=by with_unfolding_all exact Q0.wps_retN 
 unfold act
 exact h
theorem wps_expr {f : F U} : act (wpS (sExpr f env st) N T B C X) = act (wpR (f env st) (fun _ s=>wpQ N env s) (fun c fs s=>X c fs env s)):=by
 have h : wpS (sExpr f env st) N T B C X = wpR (f env st) (fun _ s=>wpQ N env s) (fun c fs s=>X c fs env s):=by with_unfolding_all exact Q0.wps_expr 
 unfold act
 exact h
theorem wps_if {c : F Bool} {g h : G} : act (wpS (sIf c g h env st) N T B C X) = act (wpR (c env st) (fun k s=>wpI k (wpS (g env s) N T B C X) (wpS (h env s) N T B C X)) (fun c fs s=>X c fs env s)):=by
 have h : wpS (sIf c g h env st) N T B C X = wpR (c env st) (fun k s=>wpI k (wpS (g env s) N T B C X) (wpS (h env s) N T B C X)) (fun c fs s=>X c fs env s):=by with_unfolding_all exact Q0.wps_if 
 unfold act
 exact h
theorem wps_sbk : act (wpS (sBk env st) N T B C X) = act (wpQ B env st):=by
 have h : wpS (sBk env st) N T B C X = wpQ B env st:=by with_unfolding_all exact Q0.wps_sbk 
 unfold act
 exact h
theorem wps_sct : act (wpS (sCt env st) N T B C X) = act (wpQ C env st):=by
 have h : wpS (sCt env st) N T B C X = wpQ C env st:=by with_unfolding_all exact Q0.wps_sct 
 unfold act
 exact h
theorem wps_asg {f : F U} {tg : U → G} : act (wpS (sAsg f tg env st) N T B C X) = act (wpR (f env st) (fun a s=>wpS (tg a env s) N T B C X) (fun c fs s=>X c fs env s)):=by
 have h : wpS (sAsg f tg env st) N T B C X = wpR (f env st) (fun a s=>wpS (tg a env s) N T B C X) (fun c fs s=>X c fs env s):=by with_unfolding_all exact Q0.wps_asg 
 unfold act
 exact h
theorem wps_tgN {i : Nat} {u : U} : act (wpS (tgN i u env st) N T B C X) = act (wpQ N (env.set i (some u)) st):=by
 have h : wpS (tgN i u env st) N T B C X = wpQ N (env.set i (some u)) st:=by with_unfolding_all exact Q0.wps_tgN 
 unfold act
 exact h
theorem wps_tgNil : act (wpS (tgNil [] env st) N T B C X) = act (wpQ N env st):=by
 have h : wpS (tgNil [] env st) N T B C X = wpQ N env st:=by with_unfolding_all exact Q0.wps_tgNil 
 unfold act
 exact h
theorem wps_tgCons {g : U → G} {h : List U → G} {u : U} {us : List U} : act (wpS (tgCons g h (u :: us) env st) N T B C X) = act (wpS (g u env st) (fun env s=>wpS (h us env s) N T B C X) T B C X):=by
 have h : wpS (tgCons g h (u :: us) env st) N T B C X = wpS (g u env st) (fun env s=>wpS (h us env s) N T B C X) T B C X:=by with_unfolding_all exact Q0.wps_tgCons 
 unfold act
 exact h
theorem wps_tgT {n : Nat} {g : List U → G} {u : U} : act (wpS (tgT n g u env st) N T B C X) = act (wpR (match unp st u with
 | some us=>if us.length = n then R.ok us st else .bad
 | none=>.bad) (fun us s=>wpS (g us env s) N T B C X) noR):=by
 have h : wpS (tgT n g u env st) N T B C X = wpR (match unp st u with
 | some us=>if us.length = n then R.ok us st else .bad
 | none=>.bad) (fun us s=>wpS (g us env s) N T B C X) noR:=by with_unfolding_all exact Q0.wps_tgT 
 unfold act
 exact h
theorem wps_tgSub {fo fi : F U} {u : U} : act (wpS (tgSub fo fi u env st) N T B C X) = act (wpR (fo env st) (fun o s=>wpR (fi env s) (fun i s=>wpR (match setU o i u s with
 | some s'=>R.ok () s'
 | none=>.bad) (fun _ s=>wpQ N env s) noR) noR) noR):=by
 have h : wpS (tgSub fo fi u env st) N T B C X = wpR (fo env st) (fun o s=>wpR (fi env s) (fun i s=>wpR (match setU o i u s with
 | some s'=>R.ok () s'
 | none=>.bad) (fun _ s=>wpQ N env s) noR) noR) noR:=by with_unfolding_all exact Q0.wps_tgSub 
 unfold act
 exact h
theorem wps_sPar {i j : Nat} {fs : F (List U)} : act (wpS (sPar i j fs env st) N T B C X) = act (wpR (fs env st) (fun us s=>wpS (match us with
 | [u,w]=>.ok ((env.set i (some u)).set j (some w)) .nx s
 | _=>.bad) N T B C X) (fun c fs s=>X c fs env s)):=by
 have h : wpS (sPar i j fs env st) N T B C X = wpR (fs env st) (fun us s=>wpS (match us with
 | [u,w]=>.ok ((env.set i (some u)).set j (some w)) .nx s
 | _=>.bad) N T B C X) (fun c fs s=>X c fs env s):=by with_unfolding_all exact Q0.wps_sPar 
 unfold act
 exact h
theorem wps_sPar3 {i j l : Nat} {fs : F (List U)} : act (wpS (sPar3 i j l fs env st) N T B C X) = act (wpR (fs env st) (fun us s=>wpS (match us with
 | [u,w,z]=>.ok (((env.set i (some u)).set j (some w)).set l (some z)) .nx s
 | _=>.bad) N T B C X) (fun c fs s=>X c fs env s)):=by
 have h : wpS (sPar3 i j l fs env st) N T B C X = wpR (fs env st) (fun us s=>wpS (match us with
 | [u,w,z]=>.ok (((env.set i (some u)).set j (some w)).set l (some z)) .nx s
 | _=>.bad) N T B C X) (fun c fs s=>X c fs env s):=by with_unfolding_all exact Q0.wps_sPar3 
 unfold act
 exact h
theorem wps_sFldS {cs : List Addr} {f : Str} {fo fe : F U} : act (wpS (sFldS cs f fo fe env st) N T B C X) = act (wpR (fe env st) (fun u s=>wpR (fo env s) (fun o s=>wpR (match setFld cs f u o s with
 | some s'=>R.ok () s'
 | none=>.bad) (fun _ s=>wpQ N env s) noR) (fun c fs s=>X c fs env s)) (fun c fs s=>X c fs env s)):=by
 have h : wpS (sFldS cs f fo fe env st) N T B C X = wpR (fe env st) (fun u s=>wpR (fo env s) (fun o s=>wpR (match setFld cs f u o s with
 | some s'=>R.ok () s'
 | none=>.bad) (fun _ s=>wpQ N env s) noR) (fun c fs s=>X c fs env s)) (fun c fs s=>X c fs env s):=by with_unfolding_all exact Q0.wps_sFldS 
 unfold act
 exact h
theorem wps_sFldAugM {cs : List Addr} {f : Str} {g : P2} {fo fe : F U} : act (wpS (sFldAugM cs f g fo fe env st) N T B C X) = act (wpR (fo env st) (fun o s=>wpR (match insU s o with
 | some (C0,us)=>if C0 ∈ cs then (match us.lookup f with
  | some x=>R.ok (C0,x) s
  | none=>.bad) else .bad
 | none=>.bad) (fun p s=>wpR (fe env s) (fun y s=>wpS (augF cs f g p.1 o p.2 y env s) N T B C X) (fun c fs s=>X c fs env s)) noR) (fun c fs s=>X c fs env s)):=by
 have h : wpS (sFldAugM cs f g fo fe env st) N T B C X = wpR (fo env st) (fun o s=>wpR (match insU s o with
 | some (C0,us)=>if C0 ∈ cs then (match us.lookup f with
  | some x=>R.ok (C0,x) s
  | none=>.bad) else .bad
 | none=>.bad) (fun p s=>wpR (fe env s) (fun y s=>wpS (augF cs f g p.1 o p.2 y env s) N T B C X) (fun c fs s=>X c fs env s)) noR) (fun c fs s=>X c fs env s):=by with_unfolding_all exact Q0.wps_sFldAugM 
 unfold act
 exact h
theorem wps_sAug {i : Nat} {g : P2} {f : F U} : act (wpS (sAug i g f env st) N T B C X) = act (wpR (vVar i env st) (fun x s=>wpR (f env s) (fun y s=>wpR (match g x y s with
 | some u=>R.ok u s
 | none=>.bad) (fun u s=>wpQ N (env.set i (some u)) s) noR) (fun c fs s=>X c fs env s)) (fun c fs s=>X c fs env s)):=by
 have h : wpS (sAug i g f env st) N T B C X = wpR (vVar i env st) (fun x s=>wpR (f env s) (fun y s=>wpR (match g x y s with
 | some u=>R.ok u s
 | none=>.bad) (fun u s=>wpQ N (env.set i (some u)) s) noR) (fun c fs s=>X c fs env s)) (fun c fs s=>X c fs env s):=by with_unfolding_all exact Q0.wps_sAug 
 unfold act
 exact h
theorem wps_sRaise {C0 : Addr} {ns : List Str} {fa : F (List U)} : act (wpS (sRaise C0 ns fa env st) N T B C X) = act (wpR (fa env st) (fun us s=>wpR (match pureL us with
 | some ds=>if ds.length = ns.length ∧ ds.length ≤ 1000 then R.ok ds s else .bad
 | none=>.bad) (fun ds s=>X (.ref C0) (some (ns.zip ds).reverse) env s) noR) (fun c fs s=>X c fs env s)):=by
 have h : wpS (sRaise C0 ns fa env st) N T B C X = wpR (fa env st) (fun us s=>wpR (match pureL us with
 | some ds=>if ds.length = ns.length ∧ ds.length ≤ 1000 then R.ok ds s else .bad
 | none=>.bad) (fun ds s=>X (.ref C0) (some (ns.zip ds).reverse) env s) noR) (fun c fs s=>X c fs env s):=by with_unfolding_all exact Q0.wps_sRaise 
 unfold act
 exact h
theorem wps_for {fi : F Itb} {tg : U → G} {body : G} : act (wpS (sFor fi tg body env st) N T B C X) = act (wpR (fi env st) (fun t s=>wpR (match t with
 | .lst us=>R.ok (Sum.inl us) s
 | .cell n f=>match s[n]? with
  | some (.lst us)=>R.ok (Sum.inr (n,f,us.length + 1)) s
  | _=>.bad) (fun t s=>match t with
   | .inl us=>wpL tg body us env s N T X
   | .inr p=>wpC tg body p.1 p.2.1 p.2.2 0 env s N T X) noR) (fun c fs s=>X c fs env s)):=by
 have h : wpS (sFor fi tg body env st) N T B C X = wpR (fi env st) (fun t s=>wpR (match t with
 | .lst us=>R.ok (Sum.inl us) s
 | .cell n f=>match s[n]? with
  | some (.lst us)=>R.ok (Sum.inr (n,f,us.length + 1)) s
  | _=>.bad) (fun t s=>match t with
   | .inl us=>wpL tg body us env s N T X
   | .inr p=>wpC tg body p.1 p.2.1 p.2.2 0 env s N T X) noR) (fun c fs s=>X c fs env s):=by with_unfolding_all exact Q0.wps_for 
 unfold act
 exact h
theorem wpL_nil {tg : U → G} {body : G} : act (wpL tg body [] env st N T X) = act (wpQ N env st):=by
 have h : wpL tg body [] env st N T X = wpQ N env st:=by with_unfolding_all exact Q0.wpL_nil 
 unfold act
 exact h
theorem wp_fnM {n : Nat} {g : G} {w : Wr} {us : List U} : act (wpR (fnM n g w us st) Q E) = act (wpS (g (us.map some ++ List.replicate (n - us.length) none) st) (fun _ s=>wpR (w st.length (.d .non) s) Q E) (fun u s=>wpR (w st.length u s) Q E) noN noN (fun c fs _ s=>wpR (R.of s (cutS st.length s)) (fun s' _=>E c fs s') noR)):=by
 have h : wpR (fnM n g w us st) Q E = wpS (g (us.map some ++ List.replicate (n - us.length) none) st) (fun _ s=>wpR (w st.length (.d .non) s) Q E) (fun u s=>wpR (w st.length u s) Q E) noN noN (fun c fs _ s=>wpR (R.of s (cutS st.length s)) (fun s' _=>E c fs s') noR):=by with_unfolding_all exact Q0.wp_fnM 
 unfold act
 exact h
theorem wp_fnX {n : Nat} {g : G} {w : Wr} {us : List U} : act (wpR (fnX n g w us st) Q E) = act (wpS (g (us.map some ++ List.replicate (n - us.length) none) st) (fun _ s=>wpR (w st.length (.d .non) s) Q E) (fun u s=>wpR (w st.length u s) Q E) noN noN (fun c fs _ s=>E c fs s)):=by
 have h : wpR (fnX n g w us st) Q E = wpS (g (us.map some ++ List.replicate (n - us.length) none) st) (fun _ s=>wpR (w st.length (.d .non) s) Q E) (fun u s=>wpR (w st.length u s) Q E) noN noN (fun c fs _ s=>E c fs s):=by with_unfolding_all exact Q0.wp_fnX 
 unfold act
 exact h
end
theorem eq_of_wp {α : Type} {r : R α} {v : α} {s : Store} (h : wpR r (fun a st=>a = v ∧ st = s) noR) : r = .ok v s:=by with_unfolding_all exact Q0.eq_of_wp h
section
variable {s cs : Store} {o o' : O} {n k b c : Nat}
theorem nf_get (h : s.length = n) : (s ++ cs)[n + k]? = cs[k]?:=by subst h; rw [List.getElem?_append_right (Nat.le_add_right _ _),Nat.add_sub_cancel_left]
theorem nf_get0 (h : s.length = n) : (s ++ cs)[n]? = cs[0]?:=by subst h; rw [List.getElem?_append_right (Nat.le_refl _),Nat.sub_self]
theorem nf_set (h : s.length = n) : (s ++ cs).set (n + k) o = s ++ cs.set k o:=by subst h; rw [List.set_append_right _ _ (Nat.le_add_right _ _),Nat.add_sub_cancel_left]
theorem nf_set0 (h : s.length = n) : (s ++ cs).set n o = s ++ cs.set 0 o:=by subst h; rw [List.set_append_right _ _ (Nat.le_refl _),Nat.sub_self]
theorem nf_lt : (n + k < n) = False:=eq_false (by omega)
theorem nf_cut (h : WF s) : cutS s.length (s ++ cs) = some s:=h.cutA _
theorem frz_dd {x : D} {f : Nat} : frz s k f (.d x) = some x:=by cases f <;> rfl
end
end VL
namespace VL
open PySem PySem.Spec PyProof.Rows L2
theorem wpR_inv {α : Type} {r : R α} {Q : α → Store → Prop} {E : Value → XF → Store → Prop} (h : wpR r Q E) : (∃ a s,r = .ok a s ∧ Q a s) ∨ ∃ c fs s,r = .ex c fs s ∧ E c fs s:=by
 cases r with
 | ok a s=>rw [wp_ok',wp_Q'] at h; exact .inl ⟨a,s,rfl,h⟩
 | ex c fs s=>rw [wp_ex'] at h; exact .inr ⟨c,fs,s,rfl,h⟩
 | bad=>rw [wp_bad'] at h; exact h.elim
theorem wpR_ok {α : Type} {r : R α} {Q : α → Store → Prop} (h : wpR r Q noR) : ∃ a s,r = .ok a s ∧ Q a s:=by
 rcases wpR_inv h with h | ⟨_,_,_,_,h⟩
 ·exact h
 ·exact h.elim
theorem wpS_nx {r : RS} {N : VEnv → Store → Prop} (h : wpS r N noT noN noN noE) : ∃ e s,r = .ok e .nx s ∧ N e s:=by
 cases r with
 | ok e f s=>cases f with
  | nx=>rw [wps_nx',wp_Q'] at h; exact ⟨e,s,rfl,h⟩
  | rt=>rw [wps_rt',wp_Q'] at h; exact h.elim
  | bk=>rw [wps_bk',wp_Q'] at h; exact h.elim
  | ct=>rw [wps_ct',wp_Q'] at h; exact h.elim
 | ex=>rw [wps_ex'] at h; exact h.elim
 | bad=>rw [wps_bad'] at h; exact h.elim
section
variable {α : Type} {fi : F Itb} {tg : U → G} {tt : F Bool} {fe : F U} {vs : List Nat} {env env0 : VEnv} {st st1 : Store} {Q : U → Store → Prop} {E : Value → XF → Store → Prop}
/-- what one element does -/
noncomputable def LcS (tg : U → G) (tt : F Bool) (fe : F U) (env0 : VEnv) (u : U) (acc : List D) (s : Store) (J : List D → Store → Prop) : Prop :=
 wpS (tg u env0 (s ++ [.lst (acc.map .d)])) (fun env1 s1=>wpR (tt env1 s1) (fun b s2=>wpI b (wpR (fe env1 s2) (fun y s3=>∃ d s',y = .d d ∧ s3 = s' ++ [.lst (acc.map .d)] ∧ s'.length = s.length ∧ J (acc ++ [d]) s') noR) (∃ s',s2 = s' ++ [.lst (acc.map .d)] ∧ s'.length = s.length ∧ J acc s')) noR) noT noN noN noE
theorem lcStep_of {u : U} {acc : List D} {s : Store} {J : List D → Store → Prop} {k : Nat} (hk : s.length = k) (hl : acc.length < sizeLine) (h : LcS tg tt fe env0 u acc s J) :
  ∃ acc' s',lcStep k tg tt fe env0 u (s ++ [.lst (acc.map .d)]) = .ok () (s' ++ [.lst (acc'.map .d)]) ∧ s'.length = k ∧ acc'.length ≤ acc.length + 1 ∧ J acc' s':=by
 obtain ⟨env1,s1,e1,h⟩:=wpS_nx h
 obtain ⟨b,s2,e2,h⟩:=wpR_ok h
 unfold lcStep
 simp only [e1,e2]
 cases b with
 | false =>
  rw [wp_I0'] at h
  obtain ⟨s',rfl,hl',hJ⟩:=h
  exact ⟨acc,s',rfl,by omega,Nat.le_succ _,hJ⟩
 | true =>
  rw [wp_I1'] at h
  obtain ⟨y,s3,e3,d,s',rfl,rfl,hl',hJ⟩:=wpR_ok h
  simp only [e3]
  have hg : (s' ++ [O.lst (acc.map .d)])[k]? = some (.lst (acc.map .d)):=by rw [nf_get0 (by omega)]; rfl
  simp only [hg]
  rw [if_pos (by rw [List.length_map]; exact hl)]
  refine ⟨acc ++ [d],s',?_,by omega,by rw [List.length_append]; exact Nat.le_refl _,hJ⟩
  rw [nf_set0 (by omega),List.map_append]
  rfl
theorem lcL_of {f : α → U} {k : Nat} (I : Nat → List D → Store → Prop) (env0 : VEnv) : ∀ (rest done : List α) (acc : List D) (s : Store),s.length = k → acc.length ≤ done.length → done.length + rest.length ≤ sizeLine → I done.length acc s →
  (∀ (i : Nat) (x : α) (acc : List D) (s : Store),(done ++ rest)[i]? = some x → s.length = k → acc.length ≤ i → I i acc s → LcS tg tt fe env0 (f x) acc s (I (i + 1))) →
  ∃ acc' s',lcL k tg tt fe env0 (rest.map f) (s ++ [.lst (acc.map .d)]) = .ok () (s' ++ [.lst (acc'.map .d)]) ∧ s'.length = k ∧ I (done ++ rest).length acc' s'
 | [],done,acc,s,hk,_,_,hI,_=>⟨acc,s,rfl,hk,by rw [List.append_nil]; exact hI⟩
 | x :: rest,done,acc,s,hk,ha,hz,hI,h=>by
  rw [List.length_cons] at hz
  have hx : (done ++ x :: rest)[done.length]? = some x:=by rw [List.getElem?_append_right (Nat.le_refl _),Nat.sub_self]; rfl
  obtain ⟨acc1,s1,e1,l1,g1,j1⟩:=lcStep_of hk (by omega) (h _ x acc s hx hk ha hI)
  have ed : done ++ x :: rest = (done ++ [x]) ++ rest:=by rw [List.append_assoc]; rfl
  obtain ⟨acc2,s2,e2,l2,j2⟩:=lcL_of I env0 rest (done ++ [x]) acc1 s1 l1 (by rw [List.length_append,List.length_singleton]; omega) (by rw [List.length_append,List.length_singleton]; omega) (by rw [List.length_append]; exact j1) (by rw [← ed]; exact h)
  refine ⟨acc2,s2,?_,l2,by rw [ed]; exact j2⟩
  rw [List.map_cons,lcL]
  simp only [e1]
  exact e2
/-- a comprehension whose elements may change the cells -/
theorem wp_lcS {f : α → U} (xs : List α) (I : Nat → List D → Store → Prop) (hi : fi env st = .ok (.lst (xs.map f)) st1) (hl : xs.length ≤ sizeLine) (h0 : I 0 [] st1)
  (h : ∀ (i : Nat) (x : α) (acc : List D) (s : Store),xs[i]? = some x → s.length = st1.length → acc.length ≤ i → I i acc s → LcS tg tt fe (wipeE env vs) (f x) acc s (I (i + 1)))
  (hk : ∀ (acc : List D) (s : Store),s.length = st1.length → I xs.length acc s → WF s ∧ Q (.d (.lst acc)) s) : wpR (fLc fi tg tt fe vs env st) Q E:=by
 obtain ⟨acc,s,e,l,j⟩:=lcL_of (tg:=tg) (tt:=tt) (fe:=fe) (f:=f) (k:=st1.length) I (wipeE env vs) xs [] [] st1 rfl (Nat.le_refl _) (by simpa using hl) h0 h
 obtain ⟨w,q⟩:=hk acc s l j
 rw [show ([] : List D).map U.d = [] from rfl] at e
 have hg : (s ++ [O.lst (acc.map .d)])[st1.length]? = some (.lst (acc.map .d)):=by rw [nf_get0 l]; rfl
 have hc : cutS st1.length (s ++ [O.lst (acc.map .d)]) = some s:=by rw [← l]; exact w.cutA _
 unfold fLc bnd
 rw [hi]
 simp only [e,lcEnd,hg,pureL_map,hc]
 rw [wp_ok',wp_Q']; exact q
/-- a comprehension that leaves the cells -/
noncomputable def LcP (tg : U → G) (tt : F Bool) (fe : F U) (env0 : VEnv) (u : U) (s : Store) (p : Bool) (d : D) : Prop :=
 wpS (tg u env0 s) (fun env1 s1=>wpR (tt env1 s1) (fun b s2=>b = p ∧ s2 = s ∧ (p = true → wpR (fe env1 s) (fun y s3=>y = .d d ∧ s3 = s) noR)) noR) noT noN noN noE
theorem LcP.to {u : U} {acc : List D} {s : Store} {p : Bool} {d : D} {J : List D → Store → Prop} (h : LcP tg tt fe env0 u (s ++ [.lst (acc.map .d)]) p d) (j : J (if p = true then acc ++ [d] else acc) s) : LcS tg tt fe env0 u acc s J:=by
 unfold LcP at h
 obtain ⟨env1,s1,e1,h⟩:=wpS_nx h
 obtain ⟨b,s2,e2,rfl,rfl,h⟩:=wpR_ok h
 unfold LcS
 rw [e1,wps_nx',wp_Q',e2,wp_ok',wp_Q']
 cases b with
 | false=>rw [wp_I0']; exact ⟨s,rfl,rfl,j⟩
 | true =>
  rw [wp_I1']
  obtain ⟨y,s3,e3,rfl,rfl⟩:=wpR_ok (h rfl)
  rw [e3,wp_ok',wp_Q']
  exact ⟨d,s,rfl,rfl,rfl,j⟩
theorem filter_snoc {xs : List α} {i : Nat} {x : α} (h : xs[i]? = some x) (P : α → Bool) (q : α → D) : (if P x = true then ((xs.take i).filter P).map q ++ [q x] else ((xs.take i).filter P).map q) = ((xs.take (i + 1)).filter P).map q:=by
 rw [List.take_add_one,h,List.filter_append,List.map_append]
 cases e : P x with
 | true=>rw [if_pos rfl]; congr 1; simp [e]
 | false=>rw [if_neg Bool.false_ne_true]; simp [e]
theorem lc_eq {f : α → U} (xs : List α) (P : α → Bool) (q : α → D) (hw : WF st) (hl : xs.length ≤ sizeLine) (hi : fi env st = .ok (.lst (xs.map f)) st)
  (h : ∀ x ∈ xs,∀ acc : List D,LcP tg tt fe (wipeE env vs) (f x) (st ++ [.lst (acc.map .d)]) (P x) (q x)) : fLc fi tg tt fe vs env st = .ok (.d (.lst ((xs.filter P).map q))) st:=by
 apply eq_of_wp
 refine wp_lcS xs (fun i acc s=>s = st ∧ acc = ((xs.take i).filter P).map q) hi hl ⟨rfl,by rw [List.take_zero]; rfl⟩ (fun i x acc s hx _ _ ⟨h1,h2⟩=>?_) (fun acc s _ ⟨h1,h2⟩=>⟨by rw [h1]; exact hw,by rw [h2,List.take_length],h1⟩)
 subst h1 h2
 exact (h x (List.mem_of_getElem? hx) _).to ⟨rfl,filter_snoc hx P q⟩
theorem lc_eq1 {f : α → U} (xs : List α) (q : α → D) (hw : WF st) (hl : xs.length ≤ sizeLine) (hi : fi env st = .ok (.lst (xs.map f)) st)
  (h : ∀ x ∈ xs,∀ acc : List D,LcP tg tt fe (wipeE env vs) (f x) (st ++ [.lst (acc.map .d)]) true (q x)) : fLc fi tg tt fe vs env st = .ok (.d (.lst (xs.map q))) st:=by
 have:=lc_eq (tg:=tg) (tt:=tt) (fe:=fe) (vs:=vs) xs (fun _=>true) q hw hl hi h
 rw [List.filter_eq_self.mpr (fun _ _=>rfl)] at this
 exact this
end
theorem ins_d {st : Store} {C : Addr} {fs : List (Str × D)} : insU st (.d (.ins C fs)) = some (C,fs.map fun p=>(p.1,.d p.2)):=rfl
section
variable {st : Store}
theorem eqb_int {i j : Int} : eqB st (.d (.int i)) (.d (.int j)) = some (decide (i = j)):=rfl
theorem eqb_str {i j : Str} : eqB st (.d (.str i)) (.d (.str j)) = some (decide (i = j)):=rfl
theorem eqb_bl {i j : Bool} : eqB st (.d (.bl i)) (.d (.bl j)) = some (decide (i = j)):=rfl
theorem eqb_nn : eqB st (.d .non) (.d .non) = some true:=rfl
theorem eqb_sn {i : Str} : eqB st (.d (.str i)) (.d .non) = some false:=rfl
theorem eqb_ns {i : Str} : eqB st (.d .non) (.d (.str i)) = some false:=rfl
theorem eqb_in {i : Int} : eqB st (.d (.int i)) (.d .non) = some false:=rfl
theorem eqb_ni {i : Int} : eqB st (.d .non) (.d (.int i)) = some false:=rfl
end
theorem ins_m {st : Store} {n : Nat} : insU st (.ref n) = match st[n]? with
  | some (.ins C us)=>some (C,us)
  | _=>none:=rfl
theorem isn_n {st : Store} : oIsN (.d .non) (.d .non) st = some (.d (.bl true)):=rfl
theorem isn_bl {st : Store} {b : Bool} : oIsN (.d (.bl b)) (.d .non) st = some (.d (.bl false)):=rfl
theorem isn_int {st : Store} {b : Int} : oIsN (.d (.int b)) (.d .non) st = some (.d (.bl false)):=rfl
theorem isn_str {st : Store} {b : Str} : oIsN (.d (.str b)) (.d .non) st = some (.d (.bl false)):=rfl
theorem isn_tup {st : Store} {b : List D} : oIsN (.d (.tup b)) (.d .non) st = some (.d (.bl false)):=rfl
theorem isn_lst {st : Store} {b : List D} : oIsN (.d (.lst b)) (.d .non) st = some (.d (.bl false)):=rfl
theorem isn_dct {st : Store} {b : List (Key × D)} : oIsN (.d (.dct b)) (.d .non) st = some (.d (.bl false)):=rfl
theorem isn_scr {st : Store} {b : List Int} : oIsN (.d (.scr b)) (.d .non) st = some (.d (.bl false)):=rfl
theorem isn_ins {st : Store} {C : Addr} {fs : List (Str × D)} : oIsN (.d (.ins C fs)) (.d .non) st = some (.d (.bl false)):=rfl
theorem isn_ref {st : Store} {n : Nat} : oIsN (.ref n) (.d .non) st = some (.d (.bl false)):=rfl
theorem nsn_n {st : Store} : oNotN (.d .non) (.d .non) st = some (.d (.bl false)):=rfl
theorem nsn_bl {st : Store} {b : Bool} : oNotN (.d (.bl b)) (.d .non) st = some (.d (.bl true)):=rfl
theorem nsn_int {st : Store} {b : Int} : oNotN (.d (.int b)) (.d .non) st = some (.d (.bl true)):=rfl
theorem nsn_str {st : Store} {b : Str} : oNotN (.d (.str b)) (.d .non) st = some (.d (.bl true)):=rfl
theorem nsn_tup {st : Store} {b : List D} : oNotN (.d (.tup b)) (.d .non) st = some (.d (.bl true)):=rfl
theorem nsn_lst {st : Store} {b : List D} : oNotN (.d (.lst b)) (.d .non) st = some (.d (.bl true)):=rfl
theorem nsn_dct {st : Store} {b : List (Key × D)} : oNotN (.d (.dct b)) (.d .non) st = some (.d (.bl true)):=rfl
theorem nsn_scr {st : Store} {b : List Int} : oNotN (.d (.scr b)) (.d .non) st = some (.d (.bl true)):=rfl
theorem nsn_ins {st : Store} {C : Addr} {fs : List (Str × D)} : oNotN (.d (.ins C fs)) (.d .non) st = some (.d (.bl true)):=rfl
theorem nsn_ref {st : Store} {n : Nat} : oNotN (.ref n) (.d .non) st = some (.d (.bl true)):=rfl
theorem gd_d {st : Store} {kvs : List (Key × D)} : VL.getD st (.d (.dct kvs)) = some (kvs.map fun kv=>(kv.1,.d kv.2)):=rfl
theorem gd_r {st : Store} {n : Nat} : VL.getD st (.ref n) = match st[n]? with
  | some (.dct us)=>some us
  | some (.lck us)=>some us
  | _=>none:=rfl
theorem gd_bl {st : Store} {b : Bool} : VL.getD st (.d (.bl b)) = none:=rfl
theorem gd_int {st : Store} {b : Int} : VL.getD st (.d (.int b)) = none:=rfl
theorem gd_str {st : Store} {b : Str} : VL.getD st (.d (.str b)) = none:=rfl
theorem gd_tup {st : Store} {b : List D} : VL.getD st (.d (.tup b)) = none:=rfl
theorem gd_lst {st : Store} {b : List D} : VL.getD st (.d (.lst b)) = none:=rfl
theorem gd_scr {st : Store} {b : List Int} : VL.getD st (.d (.scr b)) = none:=rfl
theorem gd_n {st : Store} : VL.getD st (.d .non) = none:=rfl
theorem gd_ins {st : Store} {C : Addr} {fs : List (Str × D)} : VL.getD st (.d (.ins C fs)) = none:=rfl
end VL
namespace VL
open PySem PySem.Spec PyProof.Rows L2
section
variable {X : Cx} {W : WX} {pos : Pos} {ks : List (Option Expr)} {vs : List Expr} {fs : List (F U × F U)} {k v : Expr} {fk fv : F U}
end
section
variable {X : Cx}
end
section
variable {Q : U → Store → Prop} {QP : List (U × U) → Store → Prop} {E : Value → XF → Store → Prop} {env : VEnv} {st : Store}
end
end VL
namespace VL
open PySem PySem.Spec PyProof.Rows L2
noncomputable def keyT (e : Int × Value) : Str:=match e.2 with | .str k _=>k | _=>Str.empty
noncomputable def GoodT (w : World) (e : Int × Value) : Prop:=∃ k tk,e.2 = Value.str k tk ∧ e.1 = hashStr w k
/-- the set of texts at a: S its members,n their number; its table rises and can be walked -/
noncomputable def SetT (w : World) (h : Heap) (a : Addr) (S : Str → Bool) (n : Nat) : Prop :=
 ∃ o es ep t,h.get? a = some o ∧ o.ExactSet ∧ o.data = .set es ep t ∧ (∀ e ∈ es.toList,GoodT w e) ∧ (es.toList.map keyT).Nodup ∧ (∀ k,S k = true ↔ k ∈ es.toList.map keyT) ∧
  es.size < scanBound ∧ t.fits es.size = true ∧ es.size = n ∧ Ris t.place.toList ∧ (w.params.followText "set-order" = true ∨ t.led = true)
section
variable {P : Program} {w : World} {h h' : Heap} {a : Addr} {S : Str → Bool} {n : Nat}
theorem SetT.at (R : SetT w h a S n) (k : ∀ o,h.get? a = some o → h'.get? a = some o) : SetT w h' a S n:=by
 obtain ⟨o,es,ep,t,ho,r⟩:=R
 exact ⟨o,es,ep,t,k o ho,r⟩
theorem SetT.congr {S' : Str → Bool} (R : SetT w h a S n) (e : ∀ k,S' k = S k) : SetT w h a S' n:=by
 have q : S' = S:=funext e
 rw [q]; exact R
end
section
variable {P : Program} {w : World} {A : Around} {E : Value → Shared → Prop} {s : Shared} {a : Addr} {S : Str → Bool} {n : Nat}
end
section
variable {P : Program} {w : World} {A : Around} {E : Value → Shared → Prop} {s : Shared}
end
section
variable {X : Cx}
end
end VL
namespace VL
open PySem PySem.Spec PyProof.Rows L2
noncomputable def rEqE (K : PySem.W.Frag) (z : Bool → Bool) : R2:=fun x y H Q=>∃ a b vs,x = .ref a ∧ y = .ref b ∧ SqL K H a vs ∧ SqL K H b [] ∧ Q (.bl (z vs.isEmpty)) H
section
variable {X : Cx}
theorem sz_nil {its : List Value} (h : Vals [] its) : its = []:=by cases h; rfl
theorem op_eqE (hu : X.A.units < cLine) : OpR X (compareOp .Eq) (rEqE X.K id):=by
 intro pins s σ H x y v u Q I rx ry h
 obtain ⟨a,b,vs,rfl,rfl,ha,hb,q⟩:=h
 cases rx
 cases ry
 obtain ⟨its,rv,pl,_⟩:=I.list ha
 obtain ⟨its2,rv2,pl2,_⟩:=I.list hb
 have e2:=sz_nil rv2
 subst e2
 show wpAny (model X.prog X.w) X.A (richCompare .Eq (.ref a) (.ref b)) _ X.xe s
 cases vs with
 | nil =>
  have e1:=sz_nil rv
  subst e1
  refine SeqAt.RcAt.lists (e:=fun _=>true) pl.isList pl2.isList rfl hu (fun j h1=>absurd h1 (Nat.not_lt_zero _)) X.prog X.w X.xe _ ?_
  exact ⟨.bl true,H,I,rfl,q⟩
 | cons v vs =>
  have hl:=rv.length
  refine SeqAt.RcAt.lists_lengths pl.isList pl2.isList (by simp; intro z; rw [z] at hl; cases hl) hu X.prog X.w X.xe _ ?_
  exact ⟨.bl false,H,I,rfl,q⟩
theorem op_neE (hu : X.A.units < cLine) : OpR X (compareOp .NotEq) (rEqE X.K not):=by
 intro pins s σ H x y v u Q I rx ry h
 obtain ⟨a,b,vs,rfl,rfl,ha,hb,q⟩:=h
 cases rx
 cases ry
 obtain ⟨its,rv,pl,_⟩:=I.list ha
 obtain ⟨its2,rv2,pl2,_⟩:=I.list hb
 have e2:=sz_nil rv2
 subst e2
 show wpAny (model X.prog X.w) X.A (richCompare .NotEq (.ref a) (.ref b)) _ X.xe s
 cases vs with
 | nil =>
  have e1:=sz_nil rv
  subst e1
  refine SeqAt.RcNeAt.lists (e:=fun _=>true) pl.isList pl2.isList rfl hu (fun j h1=>absurd h1 (Nat.not_lt_zero _)) X.prog X.w X.xe _ ?_
  exact ⟨.bl false,H,I,rfl,q⟩
 | cons v vs =>
  have hl:=rv.length
  refine SeqAt.RcNeAt.lists_lengths pl.isList pl2.isList (by simp; intro z; rw [z] at hl; cases hl) hu X.prog X.w X.xe _ ?_
  exact ⟨.bl true,H,I,rfl,q⟩
noncomputable def emB (st : Store) (a b : U) : Option Bool:=match b with
 | .d (.lst [])=>(getL st a).map fun us=>us.isEmpty
 | _=>none
noncomputable def oEqE : P2:=fun a b st=>(emB st a b).map fun k=>.d (.bl k)
noncomputable def oNeE : P2:=fun a b st=>(emB st a b).map fun k=>.d (.bl (!k))
theorem emB_ok {f : Value → Value → Sem Value} {z : Bool → Bool} (h : OpR X f (rEqE X.K z)) : OpR X f (rG X.K fun a b st=>(emB st a b).map fun k=>.d (.bl (z k))):=by
 intro pins s σ H x y v u Q I rx ry ⟨m,st,a,b,r,ha,hb,p⟩
 replace p : PV X.K m st H Q ((emB st a b).map fun k=>.d (.bl (z k))):=p
 cases e : emB st a b with
 | none=>rw [e] at p; exact p.elim
 | some k =>
  rw [e] at p
  unfold emB at e
  split at e
  ·cases hl : getL st a with
   | none=>rw [hl] at e; cases e
   | some us =>
    rw [hl] at e
    cases e
    obtain ⟨c,vs,rfl,t,q⟩:=getL_rp r ha hl
    obtain ⟨d,ws,rfl,t2,q2⟩:=hb
    have : ws = []:=q2
    subst this
    refine h pins s σ H _ _ v u Q I rx ry ⟨c,d,vs,rfl,rfl,t,t2.sq,?_⟩
    have hl:=q.length
    have : vs.isEmpty = us.isEmpty:=by
     cases us with
     | nil=>rw [show vs = [] from q]; rfl
     | cons u us=>obtain ⟨v,r,e,_⟩:=q; subst e; rfl
    rw [this]
    exact pv_flat r p rfl
  ·cases e
theorem op_eqE' (hu : X.A.units + 64 < cLine) : OpR X (compareOp .Eq) (rG X.K oEqE):=emB_ok (z:=id) (op_eqE (by omega))
theorem op_neE' (hu : X.A.units + 64 < cLine) : OpR X (compareOp .NotEq) (rG X.K oNeE):=emB_ok (z:=not) (op_neE (by omega))
end
section
variable {X : Cx} {W : WX} {o e : Expr} {fo fk : F U} {apos cpos : Pos} {td ty : TE}
end
section
variable {K : PySem.W.Frag} {m : List Addr} {H H' : Hp} {st : Store}
theorem ext_more (h : ∀ b o,H b = some o → H' b = some o) : Ext m H m H':=.of (List.prefix_refl m) (fun a u n e _=>⟨h a u e,n⟩) fun a o u e=>h a _ e
theorem Rep.more (r : Rep K m st H) (h : ∀ b o,H b = some o → H' b = some o) : Rep K m st H' :=
 ⟨r.len,r.nd,fun n c a h1 h2=>by
  obtain ⟨ho,e,q⟩:=r.cell n c a h1 h2
  exact ⟨ho,h a ho e,q.ext (ext_more h)⟩⟩
end
theorem paired_map {α β : Type} {F G : α → β → Prop} (h : ∀ x y,F x y → G x y) : ∀ {xs : List α} {ys : List β},Paired F xs ys → Paired G xs ys
 | _,_,.nil=>.nil
 | _,_,.cons a b=>.cons (h _ _ a) (paired_map h b)
/-- tuples that lie outside the cells -/
noncomputable def Outs (m : List Addr) (H : Hp) (ts : List Addr) (kvs : List (Key × V)) : Prop:=Paired (fun t (q : Key × V)=>H t = some (.tup [kV q.1,q.2]) ∧ t ∉ m) ts kvs
theorem Outs.ext {m m' : List Addr} {H H' : Hp} {ts : List Addr} {kvs : List (Key × V)} (h : Outs m H ts kvs) (x : Ext m H m' H') : Outs m' H' ts kvs :=
 paired_map (fun t q z=>x.toStay.ex t (.tup [kV q.1,q.2]) z.2 z.1 (fun _ z=>nomatch z) (fun _ z=>nomatch z)) h
section
variable {X : Cx} {W : WX} {x e1 e2 e3 : Expr} {fx f1 f2 f3 : F U} {k1 k2 k3 : Str}
end
end VL
namespace VL
open PySem PySem.Spec PyProof.Rows L2
section
variable {K : PySem.W.Frag} {m : List Addr} {H : Hp} {st : Store}
end
section
variable {X : Cx} {W : WX} {tg e : Expr} {fe : F U}
end
section
variable {X : Cx} {W : WX} {elt tg iter : Expr} {ifs : List Expr} {scope : Scope} {own : List (Str × Nat)} {pos : Pos} {is : List Nat} {g : U → G} {gt : F Bool} {fe : F U} {fi : F Itb}
end
end VL
namespace VL
open PySem PySem.Spec PyProof.Rows L2
section
variable {Q : U → Store → Prop} {QI : Itb → Store → Prop} {E : Value → XF → Store → Prop} {env : VEnv} {st : Store}
end
end VL
namespace VL
open PySem PySem.Spec PyProof.Rows L2
section
variable {X : Cx}
end
end VL
namespace VL
open PySem PySem.Spec PyProof.Rows L2
mutual
noncomputable def plD : D → Bool
 | .non=>true
 | .int _=>true
 | .str s=>PyData.strOk s
 | .tup ds=>plDs ds
 | .lst ds=>plDs ds
 | _=>false
noncomputable def plDs : List D → Bool
 | []=>true
 | d :: ds=>plD d && plDs ds
end
mutual
noncomputable def dpD : D → Nat
 | .tup ds=>dpDs ds + 1
 | .lst ds=>dpDs ds + 1
 | _=>0
noncomputable def dpDs : List D → Nat
 | []=>0
 | d :: ds=>max (dpD d) (dpDs ds)
end
mutual
noncomputable def pD : D → PyData
 | .int i=>.int i
 | .str s=>.str s
 | .tup ds=>.tuple (pDs ds)
 | .lst ds=>.list (pDs ds)
 | _=>.none
noncomputable def pDs : List D → List PyData
 | []=>[]
 | d :: ds=>pD d :: pDs ds
end
theorem plDs_iff : ∀ {ds : List D},plDs ds = true ↔ ∀ d ∈ ds,plD d = true
 | []=>by simp [plDs]
 | d :: ds=>by simp [plDs,plDs_iff]
theorem plDs_map {α : Type} {f : α → D} {xs : List α} (h : ∀ x ∈ xs,plD (f x) = true) : plDs (xs.map f) = true:=plDs_iff.mpr fun d hd=>by
 obtain ⟨x,hx,rfl⟩:=List.mem_map.mp hd
 exact h x hx
theorem dpDs_le {k : Nat} : ∀ {ds : List D},(∀ d ∈ ds,dpD d ≤ k) → dpDs ds ≤ k
 | [],_=>by simp [dpDs]
 | d :: ds,h=>by
  have h1:=h d (List.mem_cons_self ..)
  have h2:=dpDs_le fun x hx=>h x (List.mem_cons_of_mem d hx)
  simp only [dpDs]
  omega
theorem dpDs_map {α : Type} {f : α → D} {xs : List α} {k : Nat} (h : ∀ x ∈ xs,dpD (f x) ≤ k) : dpDs (xs.map f) ≤ k:=dpDs_le fun d hd=>by
 obtain ⟨x,hx,rfl⟩:=List.mem_map.mp hd
 exact h x hx
theorem pDs_map : ∀ ds : List D,pDs ds = ds.map pD
 | []=>rfl
 | d :: ds=>by rw [pDs,pDs_map ds]; rfl
mutual
theorem toP_pl : ∀ {d : D},plD d = true → toP d = some (pD d)
 | .non,_=>rfl
 | .int _,_=>rfl
 | .str _,_=>rfl
 | .tup ds,h=>by
  have:=toPs_pl (ds:=ds) (by simpa [plD] using h)
  simp [toP,pD,this]
 | .lst ds,h=>by
  have:=toPs_pl (ds:=ds) (by simpa [plD] using h)
  simp [toP,pD,this]
 | .bl _,h | .ty _,h | .obj _,h | .dct _,h | .ins _ _,h | .scr _,h | .exc _ _ _ _,h | .kdc _ _,h=>by simp [plD] at h
theorem toPs_pl : ∀ {ds : List D},plDs ds = true → toPs ds = some (pDs ds)
 | [],_=>rfl
 | d :: ds,h=>by
  simp only [plDs,Bool.and_eq_true] at h
  simp [toPs,pDs,toP_pl h.1,toPs_pl h.2]
end
mutual
theorem lay_pl : ∀ {d : D},plD d = true → (pD d).canLay0 = true
 | .non,_=>by simp [pD,PyData.canLay0]
 | .int _,_=>by simp [pD,PyData.canLay0]
 | .str _,h=>by simpa [pD,PyData.canLay0,plD] using h
 | .tup ds,h=>by simpa [pD,PyData.canLay0] using lays_pl (ds:=ds) (by simpa [plD] using h)
 | .lst ds,h=>by simpa [pD,PyData.canLay0] using lays_pl (ds:=ds) (by simpa [plD] using h)
 | .bl _,h | .ty _,h | .obj _,h | .dct _,h | .ins _ _,h | .scr _,h | .exc _ _ _ _,h | .kdc _ _,h=>by simp [plD] at h
theorem lays_pl : ∀ {ds : List D},plDs ds = true → PyData.canLayAll0 (pDs ds) = true
 | [],_=>by simp [pDs,PyData.canLayAll0]
 | d :: ds,h=>by
  simp only [plDs,Bool.and_eq_true] at h
  simp [pDs,PyData.canLayAll0,lay_pl h.1,lays_pl h.2]
end
mutual
theorem depth_pl : ∀ (d : D),(pD d).depth ≤ dpD d
 | .tup ds=>by simpa [pD,PyData.depth,dpD] using depths_pl ds
 | .lst ds=>by simpa [pD,PyData.depth,dpD] using depths_pl ds
 | .non | .int _ | .str _ | .bl _ | .ty _ | .obj _ | .dct _ | .ins _ _ | .scr _ | .exc _ _ _ _ | .kdc _ _=>by simp [pD,PyData.depth]
theorem depths_pl : ∀ (ds : List D),PyData.depthAll (pDs ds) ≤ dpDs ds
 | []=>by simp [pDs,PyData.depthAll,dpDs]
 | d :: ds=>by
  have h1:=depth_pl d
  have h2:=depths_pl ds
  simp only [pDs,PyData.depthAll,dpDs]
  omega
end
mutual
theorem eqv_pl : ∀ (x y : D),plD x = true → plD y = true → (PyData.eqv (pD x) (pD y) = true ↔ x = y)
 | .non,y,_,hy=>by cases y <;> simp_all [plD,pD,PyData.eqv]
 | .int i,y,_,hy=>by cases y <;> simp_all [plD,pD,PyData.eqv]
 | .str s,y,_,hy=>by cases y <;> simp_all [plD,pD,PyData.eqv]
 | .tup xs,y,hx,hy=>by
  cases y with
  | tup ys =>
   have:=eqvs_pl xs ys (by simpa [plD] using hx) (by simpa [plD] using hy)
   simp [pD,PyData.eqv,this]
  | _=>simp_all [plD,pD,PyData.eqv]
 | .lst xs,y,hx,hy=>by
  cases y with
  | lst ys =>
   have:=eqvs_pl xs ys (by simpa [plD] using hx) (by simpa [plD] using hy)
   simp [pD,PyData.eqv,this]
  | _=>simp_all [plD,pD,PyData.eqv]
 | .bl _,_,h,_ | .ty _,_,h,_ | .obj _,_,h,_ | .dct _,_,h,_ | .ins _ _,_,h,_ | .scr _,_,h,_ | .exc _ _ _ _,_,h,_ | .kdc _ _,_,h,_=>by simp [plD] at h
theorem eqvs_pl : ∀ (xs ys : List D),plDs xs = true → plDs ys = true → (PyData.eqvAll (pDs xs) (pDs ys) = true ↔ xs = ys)
 | [],[],_,_=>by simp [pDs,PyData.eqvAll]
 | [],y :: ys,_,_=>by simp [pDs,PyData.eqvAll]
 | x :: xs,[],_,_=>by simp [pDs,PyData.eqvAll]
 | x :: xs,y :: ys,hx,hy=>by
  simp only [plDs,Bool.and_eq_true] at hx hy
  simp [pDs,PyData.eqvAll,eqv_pl x y hx.1 hy.1,eqvs_pl xs ys hx.2 hy.2]
end
theorem shaped_pl {d : D} (h : plD d = true) (k : dpD d ≤ 60) : SeqAt.shaped (pD d) = true:=by
 have:=depth_pl d
 unfold SeqAt.shaped
 rw [lay_pl h,Bool.true_and,decide_eq_true_eq]
 omega
/-- a list that is data,or a cell of data -/
noncomputable def LsU (st : Store) (u : U) (ds : List D) : Prop:=u = .d (.lst ds) ∨ ∃ n,u = .ref n ∧ st[n]? = some (.lst (ds.map U.d))
theorem LsU.d (st : Store) (ds : List D) : LsU st (.d (.lst ds)) ds:=.inl rfl
theorem LsU.r {st : Store} {n : Nat} {ds : List D} (h : st[n]? = some (.lst (ds.map U.d))) : LsU st (.ref n) ds:=.inr ⟨n,rfl,h⟩
theorem LsU.asP {st : Store} {u : U} {ds : List D} (h : LsU st u ds) (hp : plDs ds = true) : asP st u = some (.list (pDs ds)):=by
 rcases h with rfl | ⟨n,rfl,h⟩
 ·rw [asP_d]
  have:=toP_pl (d:=.lst ds) (by simpa [plD] using hp)
  simpa [pD] using this
 ·rw [asP_ref h,toPs_pl hp]
  rfl
theorem LsU.getL {st : Store} {u : U} {ds : List D} (h : LsU st u ds) : getL st u = some (ds.map U.d):=by
 rcases h with rfl | ⟨n,rfl,h⟩
 ·rfl
 ·unfold VL.getL
  simp only [h]
section
variable {st : Store}
theorem eqB_ls {u v : U} {xs ys : List D} [Decidable (xs = ys)] (hu : LsU st u xs) (hv : LsU st v ys) (hx : plDs xs = true) (hy : plDs ys = true) (kx : dpDs xs ≤ 59) (ky : dpDs ys ≤ 59) : eqB st u v = some (decide (xs = ys)):=by
 have e1:=hu.asP hx
 have e2:=hv.asP hy
 have s1 : SeqAt.shaped (.list (pDs xs)) = true:=by simpa [pD] using shaped_pl (d:=.lst xs) (by simpa [plD] using hx) (by simp [dpD]; omega)
 have s2 : SeqAt.shaped (.list (pDs ys)) = true:=by simpa [pD] using shaped_pl (d:=.lst ys) (by simpa [plD] using hy) (by simp [dpD]; omega)
 have e : PyData.eqv (.list (pDs xs)) (.list (pDs ys)) = decide (xs = ys):=by
  rw [Bool.eq_iff_iff,decide_eq_true_eq,← eqvs_pl xs ys hx hy]
  simp [PyData.eqv]
 rcases hu with rfl | ⟨n,rfl,hn⟩
 ·rcases hv with rfl | ⟨m,rfl,hm⟩
  ·unfold eqB
   simp only [e1,e2,s1,s2,and_self,if_true,e]
  ·unfold eqB
   simp only [e1,e2,s1,s2,and_self,if_true,e]
 ·unfold eqB
  simp only [e1,e2,s1,s2,and_self,if_true,e]
theorem any_pl {x : D} (hx : plD x = true) {ds : List D} [Decidable (x ∈ ds)] (h : plDs ds = true) : (pDs ds).any (fun q=>PyData.eqv q (pD x)) = decide (x ∈ ds):=by
 rw [Bool.eq_iff_iff,List.any_eq_true,decide_eq_true_eq,pDs_map]
 constructor
 ·rintro ⟨q,hq,e⟩
  obtain ⟨d,hd,rfl⟩:=List.mem_map.mp hq
  have:=(eqv_pl d x (plDs_iff.mp h d hd) hx).mp e
  rw [← this]; exact hd
 ·intro hm
  exact ⟨pD x,List.mem_map.mpr ⟨x,hm,rfl⟩,(eqv_pl x x hx hx).mpr rfl⟩
theorem inB_ls {u : U} {x : D} {ds : List D} [Decidable (x ∈ ds)] (hu : LsU st u ds) (hx : plD x = true) (hd : plDs ds = true) (kx : dpD x ≤ 60) (kd : dpDs ds ≤ 59) : inB st (.d x) u = some (decide (x ∈ ds)):=by
 have e1:=hu.asP hd
 have s1 : SeqAt.shaped (.list (pDs ds)) = true:=by simpa [pD] using shaped_pl (d:=.lst ds) (by simpa [plD] using hd) (by simp [dpD]; omega)
 have s2:=shaped_pl hx kx
 have e : (pDs ds).any (fun q=>PyData.eqv q (pD x)) = decide (x ∈ ds):=any_pl hx hd
 have e2 : asP st (.d x) = some (pD x):=by rw [asP_d,toP_pl hx]
 rcases hu with rfl | ⟨n,rfl,hn⟩
 ·unfold inB
  simp only [e1,e2,s1,s2,and_self,if_true,e]
 ·unfold inB
  simp only [e1,e2,s1,s2,and_self,if_true,e]
end
end VL
namespace VL
open PySem PySem.Spec PyProof.Rows L2
section
variable {X : Cx} {W : WX} {e : Expr} {fe : F U} {p p2 pos pos2 : Pos}
end
end VL
namespace VL
open PySem PySem.Spec PyProof.Rows L2
section
variable {P : Program} {w : World} {A : Around} {E : Value → Shared → Prop} {s : Shared}
end
end VL
namespace VL
open PySem PySem.Spec PyProof.Rows L2
section
variable {X : Cx}
end
end VL
namespace VL
open PySem PySem.Spec PyProof.Rows L2
namespace Hd
noncomputable def refsF (o : Obj) : List Addr:=match o.data with
 | .func fd=>He.refV fd.code ++ (He.refV fd.kwdefaults ++ He.refV fd.defaults)
 | .cls cd=>[cd.ns]
 | .dict es _=>es.toList.flatMap fun e=>He.refV e.val
 | .fields vs=>if o.cls == .type "property" || o.cls == .type "staticmethod" then vs.toList.flatMap He.refV else []
 | _=>[]
noncomputable def nextF (g : Addr → Option Obj) (as : List Addr) : List Addr:=as.flatMap fun a=>match g a with
 | some o=>refsF o
 | none=>[]
noncomputable def fragF (names : List Str) (g : Addr → Option Obj) : PySem.W.Frag :=
 (fun A1=>(fun A2=>(fun A3=>(fun A4=>(fun A5=>He.frG g (mainGlobals :: cStatics :: (A1 ++ (A2 ++ (A3 ++ (A4 ++ A5)))))) (nextF g A4)) (nextF g A3)) (nextF g A2)) (nextF g A1)) (names.map (He.ga (He.frG g [mainGlobals])))
noncomputable def fnV (K : PySem.W.Frag) (f : Addr) : He.FnV:=match K.lookup f with
 | some ⟨_,_,.func fd,_⟩=>some (fd.name,fd.qualname,fd.params,fd.body,fd.scope,fd.globals,fd.closure,fd.defaults,fd.builtins)
 | _=>none
noncomputable def fnT (x q : Str) (st : Stmt) : He.FnV:=some (x,q,defArgs st,.stmts (defBody st),defScope st,mainGlobals,[],.none,builtinsNs)
noncomputable def codeB (K : PySem.W.Frag) (f : Addr) (q : Str) : Bool:=match K.lookup f with
 | some ⟨_,_,.func fd,_⟩=>PySem.W.codeIn K fd.code q
 | _=>false
section
variable {K : PySem.W.Frag} {f : Addr} {x q : Str} {st : Stmt}
theorem fn_of (e : fnV K f = fnT x q st) (c : codeB K f q = true) :
  ∃ oc od osl kV doc pm an cdv ct,K.lookup f = some ⟨oc,od,.func (PySem.W.fnOf x q (defArgs st) (defBody st) (defScope st) .none kV doc pm an cdv ct),osl⟩ ∧ PySem.W.codeIn K cdv q = true:=by
 unfold codeB at c
 unfold fnV fnT at e
 cases r : K.lookup f with
 | none=>rw [r] at c; cases c
 | some o =>
  obtain ⟨oc,od,dt,osl⟩:=o
  rw [r] at c e
  cases dt with
  | func fd =>
   obtain ⟨n1,n2,n3,n4,n5,n6,n7,n8,n9,n10,n11,n12,n13,n14,n15⟩:=fd
   have e2 : (some (n1,n2,n3,n4,n5,n6,n7,n8,n15) : He.FnV) = some (x,q,defArgs st,.stmts (defBody st),defScope st,mainGlobals,[],.none,builtinsNs):=e
   simp only [Option.some.injEq,Prod.mk.injEq] at e2
   obtain ⟨h1,h2,h3,h4,h5,h6,h7,h8,h9⟩:=e2
   subst h1 h2 h3 h4 h5 h6 h7 h8 h9
   exact ⟨oc,od,osl,n9,n10,n11,n12,n13,n14,rfl,c⟩
  | _=>cases c
end
noncomputable def strB (K : PySem.W.Frag) (x z : Str) : Bool:=match PySem.W.nsIn K mainGlobals x with
 | some (some (.str y _))=>decide (y = z)
 | _=>false
section
variable {K : PySem.W.Frag}
theorem ba {a b : Bool} (h : (a && b) = true) : a = true ∧ b = true:=Bool.and_eq_true_iff.mp h
theorem str_ok {x z : Str} (h : strB K x z = true) : ∃ t,PySem.W.nsIn K mainGlobals x = some (some (.str z t)):=by
 unfold strB at h
 split at h
 ·rename_i y t e
  exact ⟨t,by rw [e,of_decide_eq_true h]⟩
 ·cases h
end
noncomputable def tabB (g : Addr → Option Obj) (P : Addr) : Bool:=match g P with
 | some ⟨.none,none,.fields vs,sl⟩=>vs.isEmpty && sl.isEmpty
 | _=>false
theorem tab_ok {g : Addr → Option Obj} {P : Addr} (h : tabB g P = true) : g P = some (PySem.W.tabObj #[]):=by
 unfold tabB at h
 split at h
 ·rename_i vs sl e
  obtain ⟨h1,h2⟩:=ba h
  rw [e,Array.isEmpty_iff.mp h1,Array.isEmpty_iff.mp h2]
 ·cases h
noncomputable def allB : List (List Bool) → Bool
 | []=>true
 | l :: r=>l.all id && allB r
theorem allB_at : ∀ {l : List (List Bool)},allB l = true → ∀ {i j : Nat} {r : List Bool} {b : Bool},l[i]? = some r → r[j]? = some b → b = true
 | [],_,i,j,r,b,h,_=>by cases h
 | l :: rs,h,0,j,r,b,h1,h2=>by
  cases h1
  exact List.all_eq_true.mp (ba h).1 b (List.mem_of_getElem? h2)
 | l :: rs,h,i + 1,j,r,b,h1,h2=>allB_at (ba h).2 (i:=i) h1 h2
structure Says (names : List Str) (bs : PySem.W.Frag → List (List Bool)) (fns : PySem.W.Frag → List He.FnV) (fv : List He.FnV) (tb : PySem.W.Frag → List Addr) (h : Heap) (K : PySem.W.Frag) : Prop where
 b : allB (bs K) = true
 f : fns K = fv
 t : ∀ P ∈ tb K,h.get? P = some (PySem.W.tabObj #[])
noncomputable abbrev Al : Type:=Bool × (Bool × List He.FnV)
noncomputable def obsV (names : List Str) (bs : PySem.W.Frag → List (List Bool)) (fns : PySem.W.Frag → List He.FnV) (tb : PySem.W.Frag → List Addr) (g : Addr → Option Obj) : Al :=
 (fun K : PySem.W.Frag=>(allB (bs K),((tb K).all (tabB g),fns K))) (fragF names g)
noncomputable def valV (fv : List He.FnV) : Al:=(true,(true,fv))
theorem says_of {names : List Str} {bs : PySem.W.Frag → List (List Bool)} {fns : PySem.W.Frag → List He.FnV} {fv : List He.FnV} {tb : PySem.W.Frag → List Addr} {h : Heap} (e : obsV names bs fns tb h.get? = valV fv) : Says names bs fns fv tb h (fragF names h.get?):=by
 have e1 : allB (bs (fragF names h.get?)) = true:=congrArg (fun z : Al=>z.1) e
 have e2 : (tb (fragF names h.get?)).all (tabB h.get?) = true:=congrArg (fun z : Al=>z.2.1) e
 have e3 : fns (fragF names h.get?) = fv:=congrArg (fun z : Al=>z.2.2) e
 exact ⟨e1,e3,fun P hP=>tab_ok (List.all_eq_true.mp e2 P hP)⟩
noncomputable def hookV (names : List Str) (bs : PySem.W.Frag → List (List Bool)) (fns : PySem.W.Frag → List He.FnV) (fv : List He.FnV) (tb : PySem.W.Frag → List Addr) : PySem.W.Hook where
 α:=Al
 obs:=fun s=>obsV names bs fns tb s.heap.get?
 val:=fun _=>valV fv
 says:=fun _ h=>∃ K : PySem.W.Frag,K.In h ∧ Says names bs fns fv tb h K
 of:=fun _ _ e=>⟨_,He.frG_in,says_of e⟩
 keeps:=fun _ _ _ ⟨K,hK,c⟩ k=>⟨K,PySem.W.Frag.In.keeps hK k,⟨c.b,c.f,fun P hP=>k _ _ (c.t P hP)⟩⟩
theorem obsV_eq {names : List Str} {bs : PySem.W.Frag → List (List Bool)} {fns : PySem.W.Frag → List He.FnV} {fv : List He.FnV} {tb : PySem.W.Frag → List Addr} {g : Addr → Option Obj} {s : Shared} (h : ∀ a,g a = s.heap.get? a) : obsV names bs fns tb g = (hookV names bs fns fv tb).obs s:=by
 have e : g = s.heap.get?:=funext h
 rw [e] <;> rfl
section
variable {names : List Str} {bs : PySem.W.Frag → List (List Bool)} {fns : PySem.W.Frag → List He.FnV} {fv : List He.FnV} {tb : PySem.W.Frag → List Addr} {h : Heap} {K : PySem.W.Frag}
theorem Says.at (c : Says names bs fns fv tb h K) (i j : Nat) {r : List Bool} {b : Bool} (h1 : (bs K)[i]? = some r:=by rfl) (h2 : r[j]? = some b:=by rfl) : b = true:=allB_at c.b h1 h2
theorem Says.fn (c : Says names bs fns fv tb h K) (i : Nat) {x y : He.FnV} (h1 : (fns K)[i]? = some x:=by rfl) (h2 : fv[i]? = some y:=by rfl) : x = y:=by
 rw [c.f,h2] at h1
 exact (Option.some.inj h1).symm
end
end Hd
section
/-- the law's walk,over a head by facts -/
theorem walk_ofGE {l : PySem.W.OpenLaw} {n k : Nat} {q : Program} {loose : List Str} {XP : (Str → Option Value) → Heap → Prop} {YP : World → Heap → Prop} {d : DefRec} {x : Str} (hn : l.most = some n) (hn2 : n ≤ sizeLine)
  (hdf : d.params.defaults = []) (hr : RoomG k callerA)
  (F : ∀ (w : World) (mg : Str → Option Value) (fa : Addr) (h : Heap),YP w h → h.Ns mainGlobals mg → mg d.name = some (.ref fa) →
   ∃ (K : PySem.W.Frag) (sp : Sp) (fd : FuncData),K.In h ∧ (∀ (H : Hp) (a : Addr) (ns : List Int),ns.length ≤ n → Only H → SqL K H a (ns.map V.int) → sp [.ref a] H (fun v _=>v = .bl true) fun _ _ _=>False) ∧
    (∀ (s : Shared) (u : Value),BindsTo s fd { pos:=[u] } [(x,u)]) ∧ ∀ base : Heap,PySem.W.Frag.In K base → base.Ns mainGlobals mg → FnG l.prog w K mg base k fa fd [x] sp) :
  PySem.W.WalkO q loose XP YP l.row.toRowW d [] fun f vs=>call f vs :=
 Att.attach_call hn hdf fun w s₀ s₁ mg mb fa o pm cd doc a vs ns G Y ho hd hcd hmg hobj hints hlen hg=>by
  obtain ⟨K,sp,fd,KX,hsp,hb,hF⟩:=F w mg fa s₁.heap Y G.T.g hmg
  exact law_callG KX G.T.g G.T.b G.T.builtins G.T.nolimit hg hobj hints (Nat.le_trans hlen hn2) hr hF hb fun H hO hS=>hsp H a ns hlen hO hS
end
end VL
namespace VL
open PySem PySem.Spec PyProof.Rows L2
section
variable {X : Cx}
end
end VL
namespace PySem.W
open PySem PyProof.Rows
open PySem.Sem (wp)
section
variable {prog : Program} {w : World} {A : Around} {E : Value → Shared → Prop} {s : Shared}
end
end PySem.W
namespace VL
open PySem PySem.Spec PyProof.Rows L2 PySem.W
section
variable {X : Cx}
end
section
variable {X : Cx} {e : Expr} {te : TE} {p apos cpos pos : Pos}
end
section
variable {X : Cx} {W : WX} {x ek e1 : Expr} {fx fk f1 : F U}
end
end VL
namespace VL
open PySem PySem.Spec PyProof.Rows L2
noncomputable abbrev MTup:=Addr × List Key
section
variable (P : Program) (w : World)
noncomputable def mH (k : List Key) : Int:=tupleKeyHash (mixKind P w) k
noncomputable def MT (h : Heap) (k : List Key) (a : Addr) : Prop:=IsTupleKey (mixKind P w) h k a
noncomputable def mRows (L : List MTup) : List (Int × Value):=L.map fun q=>(mH P w q.2,.ref q.1)
noncomputable def mHs (L : List MTup) : List Int:=L.map fun q=>mH P w q.2
/-- the set at a holds the tuples L,in the order of its table -/
structure MSet (h : Heap) (a : Addr) (L : List MTup) (es : Array (Int × Value)) (ep : Nat) (t : SetTable) : Prop where
 obj : ∃ o,h.get? a = some o ∧ o.ExactSet ∧ o.data = .set es ep t
 rw' : es.toList = mRows P w L
 tb : TabOk t (mHs P w L)
 dis : (L.map (·.2)).Nodup
 tu : ∀ q ∈ L,MT P w h q.2 q.1
 le' : w.params.followText "set-order" = true ∨ t.led = true
 rm : L.length * 5 < t.mask * 3
 fw : L.length < 64
end
section
variable {P : Program} {w : World} {A : Around} {E : Value → Shared → Prop} {s : Shared} {k : List Key} {b : Addr}
theorem mt_items {vs : List Value} (g : ItemsAre (mixKind P w) k vs) : ∀ v ∈ vs,(∃ i t,v = .int i t) ∨ ∃ x t,v = .str x t:=by
 induction g with
 | nil=>exact fun v hv=>nomatch hv
 | @cons k0 v0 ks vs g1 _ ih =>
  intro v hv
  rcases List.mem_cons.mp hv with rfl | hv
  ·rcases keyIs_shape g1 with ⟨i,t,-,e⟩ | ⟨x,t,-,e⟩
   ·exact .inl ⟨i,t,e⟩
   ·exact .inr ⟨x,t,e⟩
  ·exact ih v hv
theorem quiet_item {n : Nat} {v : Value} (g : (∃ i t,v = .int i t) ∨ ∃ x t,v = .str x t) : ofAClassStatement n v = pure false ∧ (hashByValue n v = pure true ∨ hashByValue n v = pure false):=by
 rcases g with ⟨i,t,rfl⟩ | ⟨x,t,rfl⟩ <;> cases n <;> first | exact ⟨rfl,.inl rfl⟩ | exact ⟨rfl,.inr rfl⟩
theorem mt_class (g : MT P w s.heap k b) {Q : Bool → Shared → Prop} (q : Q false s) : wpAny (model P w) A (ofAClassStatement 8 (.ref b)) Q E s:=by
 have ty:=IsTupleKey.typeIs g
 obtain ⟨o,its,n,go,-,gd,gi⟩:=g
 unfold ofAClassStatement
 refine wpAny_bind (wpAny_typeOf ty ?_)
 dsimp only
 have e : (("tuple" : String) == "tuple") = true:=by decide
 simp only [e,if_true,Bool.not_true,Bool.false_eq_true,if_false]
 try refine wpAny_bind (wpAny_pure ?_)
 try simp only [Bool.not_true,Bool.false_eq_true,if_false]
 show wpAny _ _ (seqItems? (.ref b) >>= _) _ _ s
 refine wpAny_bind (wpAny_seqItems go gd ?_)
 dsimp only
 refine wpAny_bind ?_
 show wpAny _ _ (forIn its _ _) _ _ s
 rw [← Array.forIn_toList]
 refine wpAny_forIn_list _ (fun rest r s1=>r.1 = none ∧ s1 = s ∧ ∀ v ∈ rest,(∃ i t,v = Value.int i t) ∨ ∃ x t,v = Value.str x t) _ ?_ ?_ _ _ ⟨rfl,rfl,mt_items gi⟩
 ·rintro v rest r s1 ⟨-,rfl,al⟩
  rw [(quiet_item (al v List.mem_cons_self)).1]
  refine wpAny_bind (wpAny_pure ?_)
  simp only [Bool.false_eq_true,if_false]
  exact wpAny_pure ⟨rfl,rfl,fun u hu=>al u (List.mem_cons_of_mem _ hu)⟩
 ·rintro ⟨r1,r2⟩ s1 ⟨hr,rfl,-⟩
  simp only at hr
  subst hr
  exact wpAny_pure q
theorem mt_hashes (g : MT P w s.heap k b) {Q : Bool → Shared → Prop} (q : ∀ y,Q y s) : wpAny (model P w) A (hashByValue 8 (.ref b)) Q E s:=by
 have ty:=IsTupleKey.typeIs g
 obtain ⟨o,its,n,go,-,gd,gi⟩:=g
 unfold hashByValue
 refine wpAny_bind (wpAny_specialOf ty F.slot_tuple_hash.lookup ?_)
 show wpAny _ _ (seqItems? (.ref b) >>= _) _ _ s
 refine wpAny_bind (wpAny_seqItems go gd ?_)
 refine wpAny_bind ?_
 show wpAny _ _ (forIn its _ _) _ _ s
 rw [← Array.forIn_toList]
 refine wpAny_forIn_list _ (fun rest r s1=>r.1 = none ∧ s1 = s ∧ ∀ v ∈ rest,(∃ i t,v = Value.int i t) ∨ ∃ x t,v = Value.str x t) _ ?_ ?_ _ _ ⟨rfl,rfl,mt_items gi⟩
 ·rintro v rest r s1 ⟨-,rfl,al⟩
  rcases (quiet_item (n:=7) (al v List.mem_cons_self)).2 with e | e
  ·rw [e]
   refine wpAny_bind (wpAny_pure ?_)
   simp only [Bool.not_true,Bool.false_eq_true,if_false]
   exact wpAny_pure ⟨rfl,rfl,fun u hu=>al u (List.mem_cons_of_mem _ hu)⟩
  ·rw [e]
   refine wpAny_bind (wpAny_pure ?_)
   simp only [Bool.not_false,if_true]
   exact wpAny_pure (wpAny_pure (q _))
 ·rintro ⟨r1,r2⟩ s1 ⟨hr,rfl,-⟩
  simp only at hr
  subst hr
  exact wpAny_pure (q _)
theorem mt_unseen (g : MT P w s.heap k b) {ys : List Value} (gy : ∀ y ∈ ys,∃ k1 c,y = Value.ref c ∧ MT P w s.heap k1 c) {Q : Bool → Shared → Prop} (q : Q false s) :
  wpAny (model P w) A (searchCouldBeSeen (.ref b) ys) Q E s:=by
 unfold searchCouldBeSeen
 refine wpAny_bind ?_
 refine wpAny_forIn_list _ (fun rest r s1=>r.1 = none ∧ s1 = s ∧ ∀ y ∈ rest,∃ k1 c,y = Value.ref c ∧ MT P w s.heap k1 c) _ ?_ ?_ _ _ ⟨rfl,rfl,gy⟩
 ·rintro v rest r s1 ⟨-,rfl,al⟩
  obtain ⟨k1,c,rfl,gc⟩:=al v List.mem_cons_self
  have more : ∀ y ∈ rest,∃ k1 c,y = Value.ref c ∧ MT P w s1.heap k1 c:=fun u hu=>al u (List.mem_cons_of_mem _ hu)
  dsimp only
  by_cases hv : (b == c || (carriedByValue (.ref b) && carriedByValue (.ref c))) = true
  ·exact wp_if_pos hv (wpAny_pure ⟨rfl,rfl,more⟩)
  ·refine wp_if_neg hv ?_
   refine wpAny_bind (wpAny_eqIsQuiet_tuple g ?_)
   simp only [Bool.not_true,Bool.false_eq_true,if_false]
   refine wpAny_bind (wpAny_eqIsQuiet_tuple gc ?_)
   simp only [Bool.not_true,Bool.false_eq_true,if_false]
   refine wpAny_bind (mt_class g ?_)
   simp only [Bool.false_eq_true,if_false]
   refine wpAny_bind (mt_class gc ?_)
   simp only [Bool.false_eq_true,if_false]
   exact wpAny_pure ⟨rfl,rfl,more⟩
 ·rintro ⟨r1,r2⟩ s1 ⟨hr,rfl,-⟩
  simp only at hr
  subst hr
  exact wpAny_pure q
end
section
variable {P : Program} {w : World} {A : Around} {E : Value → Shared → Prop} {s : Shared} {a : Addr} {L : List MTup} {es : Array (Int × Value)} {ep : Nat} {t : SetTable}
theorem rows_size {h : es.toList = mRows P w L} : es.size = L.length:=by
 have q:=congrArg List.length h
 unfold mRows at q
 rwa [Array.length_toList,List.length_map] at q
theorem mset_size (Z : MSet P w s.heap a L es ep t) : es.size = L.length:=rows_size (h:=Z.rw')
theorem mset_fits (Z : MSet P w s.heap a L es ep t) : t.fits es.size = true:=by
 have q1:=Z.tb.sz
 unfold mHs at q1
 rw [List.length_map] at q1
 have q2:=mset_size Z
 have q3:=Z.rm
 unfold SetTable.fits SetTable.fill
 rw [Z.tb.dm,Bool.and_eq_true,beq_iff_eq,decide_eq_true_eq]
 show t.place.size = es.size ∧ t.place.size + 0 ≤ t.mask
 omega
theorem mset_at (Z : MSet P w s.heap a L es ep t) {i : Nat} {q : MTup} (e : L[i]? = some q) : es[i]? = some (mH P w q.2,Value.ref q.1):=by
 rw [← Array.getElem?_toList,Z.rw']
 unfold mRows
 rw [List.getElem?_map,e]
 rfl
/-- the state of the search behind c steps -/
noncomputable abbrev prb (t : SetTable) (h : Int) (c : Nat) : SetTable.Probe:=nth t.mask (runAt t.mask (SetTable.bits h % (t.mask + 1)) (SetTable.bits h)) c
theorem prb_clean (t : SetTable) (h : Int) (c : Nat) : (prb t h c).dummy = none:=by
 have go : ∀ (n : Nat) (q : SetTable.Probe),q.dummy = none → (nth t.mask q n).dummy = none:=by
  intro n
  induction n with
  | zero=>exact fun q e=>e
  | succ n ih =>
   intro q e
   refine ih (adv t.mask q) ?_
   unfold adv
   split <;> exact e
 exact go c _ rfl
theorem prb_add (t : SetTable) (h : Int) (c n : Nat) : nth t.mask (prb t h c) n = prb t h (c + n):=(nth_add t.mask c _ n).symm
theorem prb_j (t : SetTable) (h : Int) (c n : Nat) : (nth t.mask (prb t h c) n).j = way t.mask h (c + n):=congrArg SetTable.Probe.j (prb_add t h c n)
theorem m_search (Z : MSet P w s.heap a L es ep t) {x : Addr} {k : List Key} (hx : MT P w s.heap k x) (room : A.units < cLine) {F : Nat} (hF : F < 10 * SetTable.turns t.mask)
  (free : way t.mask (mH P w k) F ∉ t.place.toList) (full : ∀ c,c < F → way t.mask (mH P w k) c ∈ t.place.toList) {Q : SetFound → Shared → Prop}
  (yes : k ∈ L.map (·.2) → Q (.there none) s) (no : k ∉ L.map (·.2) → Q (.free (way t.mask (mH P w k) F) false) s) :
  ∀ (f c : Nat) (from? : Option SetTable.Probe),from?.getD (t.probeStart (mH P w k)) = prb t (mH P w k) c → c ≤ F → F - c < f →
   (∀ (i : Nat) q,L[i]? = some q → q.2 = k → ∃ d,c ≤ d ∧ d < F ∧ t.place.toList[i]? = some (way t.mask (mH P w k) d)) →
   wpAny (model P w) A (setSearchFrom a (.ref x) (mH P w k) true f from?) Q E s
 | 0,c,from?,_,_,lt,_=>absurd lt (Nat.not_lt_zero _)
 | f + 1,c,from?,st,le,lt,ahead=>by
  obtain ⟨o,go,gx,gd⟩:=Z.obj
  rw [setSearchFrom_succ]
  refine wpAny_bind (wpAny_setState_of go gd (mset_fits Z) ?_)
  dsimp only
  have gw : ¬ t.gaveWay = true:=by
   unfold SetTable.gaveWay
   rw [mask_odd Z.tb.mok]
   decide
  refine wp_if_neg gw ?_
  try refine wpAny_bind (wpAny_pure ?_)
  have ej:=prb_j t (mH P w k) c
  have ea:=prb_add t (mH P w k) c
  have hash : ∀ (i : Nat) q,L[i]? = some q → (fun i=>(es[i]?.map (·.1)).getD 0) i = mH P w q.2:=fun i q e=>by
   show (es[i]?.map (·.1)).getD 0 = _
   rw [mset_at Z e]
   rfl
  rcases go_spec t Z.tb.ris Z.tb.dm (fun i=>(es[i]?.map (·.1)).getD 0) (mH P w k) (10 * SetTable.turns t.mask) (F - c) (prb t (mH P w k) c) (prb_clean t _ c) (by omega)
   (fun n hn=>by rw [ej]; exact full (c + n) (by omega)) (by rw [ej,Nat.add_sub_cancel' le]; exact free) with ⟨n,i,hn,hi,hh,none',pr⟩ | ⟨none',pr⟩
  ·have pr' : t.probe (fun i=>(es[i]?.map (·.1)).getD 0) (mH P w k) (from?.getD (t.probeStart (mH P w k))) = some (.candidate (way t.mask (mH P w k) (c + n)) i (prb t (mH P w k) (c + (n + 1)))):=by
    rw [st,← ej,← ea]
    exact pr
   rw [pr']
   dsimp only
   rw [ej] at hi
   have il : i < L.length:=by
    have q1 : i < t.place.toList.length:=(List.getElem?_eq_some_iff.mp hi).1
    have q2:=Z.tb.sz
    unfold mHs at q2
    rw [List.length_map] at q2
    rw [Array.length_toList] at q1
    omega
   obtain ⟨q,hq⟩ : ∃ q,L[i]? = some q:=⟨_,List.getElem?_eq_getElem il⟩
   have mq : q ∈ L:=List.mem_of_getElem? hq
   have gq:=Z.tu q mq
   have cont : wpAny (model P w) A (searchRest a (.ref x) (mH P w k) true f es t (way t.mask (mH P w k) (c + n)) i (prb t (mH P w k) (c + (n + 1)))) Q E s:=by
    unfold searchRest
    rw [mset_at Z hq]
    dsimp only
    refine wpAny_bind (wpAny_holding (wpAny_eqBool_tuple room gq hx ?_))
    refine wpAny_bind (wpAny_setState_of go gd (mset_fits Z) ?_)
    dsimp only
    by_cases same : q.2 = k
    ·exact wp_if_pos (by simp [same]) (wpAny_pure (yes (List.mem_map.mpr ⟨q,mq,same⟩)))
    ·refine wp_if_neg (by simp [same]) ?_
     try refine wpAny_bind (wpAny_pure ?_)
     rw [sameMem]
     dsimp only
     have live : t.slot (way t.mask (mH P w k) (c + n)) = .live i:=slot_live Z.tb.ris hi
     simp only [if_true,live,mset_at Z hq]
     refine wpAny_bind (wpAny_isSame_ref_self (wpAny_bind (wpAny_pure ?_)))
     simp only [if_true]
     refine wp_if_neg (by simp [same]) ?_
     refine m_search Z hx room hF free full yes no f (c + (n + 1)) _ rfl (by omega) (by omega) fun i0 q0 g0 e0=>?_
     obtain ⟨d,d1,d2,d3⟩:=ahead i0 q0 g0 e0
     refine ⟨d,?_,d2,d3⟩
     rcases Nat.lt_trichotomy d (c + n) with z | z | z
     ·exact absurd ((hash i0 q0 g0).trans (congrArg (mH P w) e0)) (none' (d - c) i0 (by omega) (by rw [ej,Nat.add_sub_cancel' d1]; exact d3))
     ·rw [z] at d3
      have s0:=slot_live Z.tb.ris d3
      rw [live] at s0
      injection s0 with s0
      rw [← s0,hq] at g0
      exact absurd ((congrArg Prod.snd (Option.some.inj g0)).trans e0) same
     ·omega
   by_cases led : t.led = true
   ·refine wp_if_neg (by simp [led]) ?_
    try refine wpAny_bind (wpAny_pure ?_)
    exact cont
   ·refine wp_if_pos (by simp [led]) ?_
    refine wpAny_bind (mt_unseen hx (fun y hy=>?_) ?_)
    ·obtain ⟨e,he,ee⟩:=List.mem_map.mp hy
     have he1 : e ∈ es ∧ e.1 = mH P w k:=by simpa using he
     have he2 : e ∈ es.toList:=by simpa using he1.1
     rw [Z.rw'] at he2
     obtain ⟨q2,m2,e2⟩:=List.mem_map.mp he2
     exact ⟨q2.2,q2.1,by rw [← ee,← e2],Z.tu q2 m2⟩
    ·refine wp_if_neg (by decide) ?_
     try refine wpAny_bind (wpAny_pure ?_)
     exact cont
  ·have pr' : t.probe (fun i=>(es[i]?.map (·.1)).getD 0) (mH P w k) (from?.getD (t.probeStart (mH P w k))) = some (.empty (way t.mask (mH P w k) F) none):=by
    have e2 : way t.mask (mH P w k) F = (nth t.mask (prb t (mH P w k) c) (F - c)).j:=by rw [ej,Nat.add_sub_cancel' le]
    rw [st,e2]
    exact pr
   rw [pr']
   dsimp only
   refine wpAny_pure (no fun hm=>?_)
   obtain ⟨q0,m0,e0⟩:=List.mem_map.mp hm
   obtain ⟨i0,hi0,g0⟩:=List.getElem_of_mem m0
   have g00 : L[i0]? = some q0:=by rw [List.getElem?_eq_getElem hi0,g0]
   obtain ⟨d,d1,d2,d3⟩:=ahead i0 q0 g00 e0
   exact none' (d - c) i0 (by omega) (by rw [ej,Nat.add_sub_cancel' d1]; exact d3) ((hash i0 q0 g00).trans (congrArg (mH P w) e0))
theorem m_find (Z : MSet P w s.heap a L es ep t) {x : Addr} {k : List Key} (hx : MT P w s.heap k x) (room : A.units < cLine) {Q : SetFound → Shared → Prop} (yes : k ∈ L.map (·.2) → Q (.there none) s)
  (no : ∀ F,k ∉ L.map (·.2) → way t.mask (mH P w k) F ∉ t.place.toList → (∀ c,c < F → way t.mask (mH P w k) c ∈ t.place.toList) → Q (.free (way t.mask (mH P w k) F) false) s) :
  wpAny (model P w) A (setSearch a (.ref x) (mH P w k) true) Q E s:=by
 have rm:=Z.rm
 have hl : (mHs P w L).length = L.length:=List.length_map ..
 obtain ⟨F,hF,free,full⟩:=Z.tb.first (by rw [hl]; omega) (mH P w k)
 have few : F < 100000:=by
  have : 10 * SetTable.turns t.mask ≤ 1420:=by
   unfold SetTable.turns
   rcases Z.tb.mok with e | e | e <;> omega
  omega
 unfold setSearch
 refine m_search Z hx room hF free full yes (fun hn=>no F hn free full) 100000 0 none rfl (Nat.zero_le _) (by omega) fun i q hq e=>?_
 have hi : (mHs P w L)[i]? = some (mH P w k):=by
  unfold mHs
  rw [List.getElem?_map,hq,← e]
  rfl
 have il : i < t.place.toList.length:=by
  have q1 : i < L.length:=(List.getElem?_eq_some_iff.mp hq).1
  have q2:=Z.tb.sz
  rw [hl] at q2
  rw [Array.length_toList]
  omega
 obtain ⟨d,hd,e2⟩:=Z.tb.before free hi (List.getElem?_eq_getElem il)
 exact ⟨d,Nat.zero_le _,hd,by rw [List.getElem?_eq_getElem il,e2]⟩
/-- tuples are not the set -/
theorem mt_other {h h' : Heap} {k : List Key} {b : Addr} {o : Obj} (g : MT P w h k b) (go : h.get? a = some o) (gd : o.data = .set es ep t) (sb : Heap.SameBut a h h') : MT P w h' k b:=by
 obtain ⟨o2,its,n,g2,gc,gd2,gi⟩:=g
 refine ⟨o2,its,n,(sb.2 b fun e=>?_).trans g2,gc,gd2,gi⟩
 rw [e,go] at g2
 rw [← Option.some.inj g2,gd] at gd2
 exact nomatch gd2
theorem mt_keep {h h' : Heap} {k : List Key} {b : Addr} (g : MT P w h k b) (keep : ∀ c o,h.get? c = some o → h'.get? c = some o) : MT P w h' k b:=by
 obtain ⟨o,its,n,go,r⟩:=g
 exact ⟨o,its,n,keep b o go,r⟩
theorem MSet.keep {h h' : Heap} (Z : MSet P w h a L es ep t) (ka : ∀ o,h.get? a = some o → h'.get? a = some o) (kt : ∀ q ∈ L,MT P w h' q.2 q.1) : MSet P w h' a L es ep t:=by
 obtain ⟨o,go,r⟩:=Z.obj
 exact ⟨⟨o,ka o go,r⟩,Z.rw',Z.tb,Z.dis,kt,Z.le',Z.rm,Z.fw⟩
theorem mset_new {h : Heap} (go : h.get? a = some { cls:=.type "set",dict:=none,data:=.set #[] 0 (.fresh 0 0 (!w.params.followText "set-order")) }) : MSet P w h a [] #[] 0 (.fresh 0 0 (!w.params.followText "set-order")):=by
 refine ⟨⟨_,go,⟨rfl,rfl,rfl⟩,rfl⟩,rfl,⟨List.Pairwise.nil,rfl,rfl,.inl rfl,fun x hx=>(by cases hx),fun i h j hi=>(by simp [mHs] at hi)⟩,List.nodup_nil,fun q hq=>(by cases hq),?_,?_,?_⟩
 ·show _ ∨ (!w.params.followText "set-order") = true
  cases w.params.followText "set-order"
  ·exact .inr rfl
  ·exact .inl rfl
 ·show 0 * 5 < 7 * 3
  decide
 ·show 0 < 64
  decide
/-- the rows in another order -/
theorem m_order {order : Array Nat} (hr : es.toList = mRows P w L) (hp : order.toList.Perm (List.range L.length)) :
  ∃ L2,(order.filterMap (es[·]?)).toList = mRows P w L2 ∧ L2.Perm L ∧ mHs P w L2 = order.toList.map fun i=>(es.map (·.1)).getD i 0:=by
 have hsz : es.size = L.length:=rows_size (h:=hr)
 have ent : ∀ i (h : i < L.length),es[i]? = some (mH P w (L[i]).2,Value.ref (L[i]).1):=fun i h=>by
  rw [← Array.getElem?_toList,hr]
  unfold mRows
  rw [List.getElem?_map,List.getElem?_eq_getElem h]
  rfl
 have all : ∀ l : List Nat,(∀ i ∈ l,i < L.length) → l.filterMap (fun i=>es[i]?) = mRows P w (l.filterMap fun i=>L[i]?) ∧ mHs P w (l.filterMap fun i=>L[i]?) = l.map fun i=>(es.map (·.1)).getD i 0:=by
  intro l
  induction l with
  | nil=>exact fun _=>⟨rfl,rfl⟩
  | cons i l ih =>
   intro hl
   have hi:=hl i List.mem_cons_self
   obtain ⟨e1,e2⟩:=ih fun j hj=>hl j (List.mem_cons_of_mem _ hj)
   have e4 : (es.map (·.1)).getD i 0 = mH P w (L[i]).2:=by
    have e5 : (es.map (·.1))[i]? = some (mH P w (L[i]).2):=by rw [Array.getElem?_map,ent i hi]; rfl
    simp [Array.getD_eq_getD_getElem?,e5]
   rw [List.filterMap_cons_some (ent i hi),List.filterMap_cons_some (List.getElem?_eq_getElem hi),e1,List.map_cons,← e2,e4]
   exact ⟨rfl,rfl⟩
 obtain ⟨e1,e2⟩:=all order.toList fun i hi=>List.mem_range.mp (hp.mem_iff.mp hi)
 refine ⟨order.toList.filterMap fun i=>L[i]?,by first | (rw [Array.toList_filterMap]; exact e1) | simpa using e1,?_,e2⟩
 refine (hp.filterMap fun i=>L[i]?).trans ?_
 have whole : ∀ n,n ≤ L.length → (List.range n).filterMap (fun i=>L[i]?) = L.take n:=by
  intro n
  induction n with
  | zero=>exact fun _=>rfl
  | succ n ih =>
   intro hn
   have lt : n < L.length:=hn
   rw [List.range_succ,List.filterMap_append,ih (Nat.le_of_lt lt),List.take_succ,List.getElem?_eq_getElem lt,List.filterMap_cons_some (List.getElem?_eq_getElem lt)]
   rfl
 rw [whole L.length (Nat.le_refl _),List.take_length]
theorem m_relay {o : Obj} (go : s.heap.get? a = some o) (gx : o.ExactSet) (gd : o.data = .set es ep t) (hr : es.toList = mRows P w L) (sz : t.place.size = es.size) (dm : t.dummies = #[]) (fl : es.size ≤ t.mask)
  (dis : (L.map (·.2)).Nodup) (tu : ∀ q ∈ L,MT P w s.heap q.2 q.1) (ld : w.params.followText "set-order" = true ∨ t.led = true) (few : L.length < 64) {want M : Nat}
  (hw : SetTable.sizeAbove want - 1 = M) (hM : MaskOk M) (hw2 : SetTable.sizeAbove want ≤ 128) (rm : L.length * 5 < M * 3) {Q : Unit → Shared → Prop}
  (q : ∀ h' L' es' ep' t',Heap.SameBut a s.heap h' → MSet P w h' a L' es' ep' t' → L'.Perm L → Q () { s with heap:=h' }) : wpAny (model P w) A (setRelay a want) Q E s:=by
 have hsl : es.size = L.length:=rows_size (h:=hr)
 have fits : t.fits es.size = true:=by
  unfold SetTable.fits SetTable.fill
  rw [dm,Bool.and_eq_true,beq_iff_eq,decide_eq_true_eq]
  show t.place.size = es.size ∧ t.place.size + 0 ≤ t.mask
  omega
 obtain ⟨t',order,e,hp,T,em,el,ep',ed⟩:=relaid_ok t (hs:=es.map (·.1)) (wanted:=want) hw hM (by rw [Array.size_map,hsl]; omega)
 rw [Array.size_map,hsl] at hp
 obtain ⟨L2,r1,r2,r3⟩:=m_order hr hp
 rw [← r3] at T
 have sz2 : (order.filterMap (es[·]?)).size = L.length:=by
  rw [rows_size (h:=r1),r2.length_eq]
 rw [setRelay_eq]
 refine wpAny_bind (wpAny_setState_of go gd fits ?_)
 dsimp only
 refine wp_if_neg (by rw [sizeLine_eq]; omega) ?_
 try refine wpAny_bind (wpAny_pure ?_)
 rw [e]
 dsimp only
 refine wpAny_bind ?_
 refine wp_if_neg (by rw [sz2,hsl]; simp) ?_
 try refine wpAny_bind (wpAny_pure ?_)
 refine wpAny_pure ?_
 dsimp only
 refine wpAny_storeSet_of go gd ?_ (by rw [sz2,sizeLine_eq]; omega)
 have sb : Heap.SameBut a s.heap (s.heap.update a (Obj.putSet (order.filterMap (es[·]?)) t')):=Heap.SameBut.update ..
 exact q _ L2 (order.filterMap (es[·]?)) (ep + 1) t' sb ⟨⟨_,store_at go gd,⟨gx.1,gx.2.1,gx.2.2⟩,rfl⟩,r1,T,(r2.map (·.2)).nodup_iff.mpr dis,fun q hq=>mt_other (tu q (r2.mem_iff.mp hq)) go gd sb,by rw [el]; exact ld,by rw [r2.length_eq,em]; exact rm,by rw [r2.length_eq]; exact few⟩ r2
theorem ite_bind2 {β : Type} {c : Prop} [Decidable c] {m1 m2 : Sem Bool} {f : Bool → Sem β} {Q : β → Shared → Prop} (h1 : ∀ {R : Bool → Shared → Prop},(∀ y,R y s) → wpAny (model P w) A m1 R E s)
  (h2 : ∀ {R : Bool → Shared → Prop},(∀ y,R y s) → wpAny (model P w) A m2 R E s) (q : ∀ y,wpAny (model P w) A (f y) Q E s) : wpAny (model P w) A (if c then m1 >>= f else m2 >>= f) Q E s:=by
 split
 ·exact wpAny_bind (h1 q)
 ·exact wpAny_bind (h2 q)
/-- a tuple more -/
theorem m_add (Z : MSet P w s.heap a L es ep t) {x : Addr} {k : List Key} (hx : MT P w s.heap k x) (room : A.units < cLine) (few : L.length + 1 < 64) {Q : Bool → Shared → Prop}
  (q : ∀ b h' L' es' ep' t',Heap.SameBut a s.heap h' → MSet P w h' a L' es' ep' t' → (k ∈ L.map (·.2) → L' = L) → (k ∉ L.map (·.2) → L'.Perm ((x,k) :: L)) → Q b { s with heap:=h' }) :
  wpAny (model P w) A (setAddHashed a (.ref x) (mH P w k)) Q E s:=by
 obtain ⟨o,go,gx,gd⟩:=Z.obj
 have hsl:=mset_size Z
 have rm:=Z.rm
 have hlh : (mHs P w L).length = L.length:=List.length_map ..
 unfold setAddHashed
 refine wpAny_holding ?_
 rw [show (100000 : Nat) = 99999 + 1 from rfl,setAddHashedIn_succ]
 refine wpAny_bind (wpAny_setState_of go gd (mset_fits Z) ?_)
 dsimp only
 refine wp_if_neg (by simp [byScan,Value.scannable]) ?_
 try refine wpAny_bind (wpAny_pure ?_)
 refine wpAny_bind (m_find Z hx room (fun hm=>?_) fun F hm free full=>?_)
 ·dsimp only
  exact wpAny_pure (q false s.heap L es ep t (Heap.SameBut.refl a s.heap) Z (fun _=>rfl) fun z=>absurd hm z)
 ·dsimp only
  refine wpAny_bind (wpAny_setState_of go gd (mset_fits Z) ?_)
  dsimp only
  obtain ⟨q1,q2,q3,q4,q5,q6,q7,q8,q9⟩:=Z.tb.put free full
  generalize t.put (way t.mask (mH P w k) F) = pt at q1 q3 q4 q5 q6 q7 q8 q9 ⊢
  obtain ⟨t0,p⟩:=pt
  dsimp only at q1 q3 q4 q5 q6 q7 q8 q9 ⊢
  subst q1
  refine ite_bind2 (fun q=>mt_hashes hx q) (fun q=>wpAny_pure (q _)) fun y=>?_
  obtain ⟨t1,ht1⟩ : ∃ t1 : SetTable,t1 = (if y = true then t0 else { t0 with plain:=false }):=⟨_,rfl⟩
  rw [← ht1]
  have facts : TabOk t1 ((mHs P w L).take (SetTable.below t.place (way t.mask (mH P w k) F)) ++ mH P w k :: (mHs P w L).drop (SetTable.below t.place (way t.mask (mH P w k) F))) ∧ t1.mask = t.mask ∧ t1.led = t.led ∧ t1.fill = (mHs P w L).length + 1:=by
   cases y
   ·rw [ht1,if_neg Bool.false_ne_true]
    exact ⟨⟨q3.ris,q3.dm,q3.sz,q3.mok,q3.bd,q3.reach⟩,q4,q5,q9⟩
   ·rw [ht1,if_pos rfl]
    exact ⟨q3,q4,q5,q9⟩
  clear q3 q4 q5 q6 q7 q8 q9 ht1
  obtain ⟨q3,q4,q5,q9⟩:=facts
  have put : ∀ p,mRows P w (L.take p ++ (x,k) :: L.drop p) = (mRows P w L).take p ++ (mH P w k,Value.ref x) :: (mRows P w L).drop p:=fun p=>by
   unfold mRows
   rw [List.map_append,List.map_cons,List.map_take,List.map_drop]
  have rows1 : (SetTable.insertAt es (SetTable.below t.place (way t.mask (mH P w k) F)) (mH P w k,Value.ref x)).toList = mRows P w (L.take (SetTable.below t.place (way t.mask (mH P w k) F)) ++ (x,k) :: L.drop (SetTable.below t.place (way t.mask (mH P w k) F))):=by
   rw [SetTable.toList_insertAt,put,Z.rw']
  generalize SetTable.below t.place (way t.mask (mH P w k) F) = p at q2 q3 rows1 ⊢
  have pm:=put_perm L p (x,k)
  have len1 : (L.take p ++ (x,k) :: L.drop p).length = L.length + 1:=pm.length_eq
  have hs1 : mHs P w (L.take p ++ (x,k) :: L.drop p) = (mHs P w L).take p ++ mH P w k :: (mHs P w L).drop p:=by
   unfold mHs
   rw [List.map_append,List.map_cons,List.map_take,List.map_drop]
  rw [← hs1] at q3
  have dis1 : ((L.take p ++ (x,k) :: L.drop p).map (·.2)).Nodup:=by
   refine (pm.map (·.2)).nodup_iff.mpr ?_
   rw [List.map_cons]
   exact List.nodup_cons.mpr ⟨hm,Z.dis⟩
  have es1z : (SetTable.insertAt es p (mH P w k,Value.ref x)).size = L.length + 1:=by rw [rows_size (h:=rows1),len1]
  generalize SetTable.insertAt es p (mH P w k,Value.ref x) = es1 at rows1 es1z ⊢
  generalize L.take p ++ (x,k) :: L.drop p = L1 at pm len1 q3 dis1 rows1
  refine wpAny_bind (wpAny_storeSet_of go gd ?_ (by rw [es1z,sizeLine_eq]; omega))
  have sb : Heap.SameBut a s.heap (s.heap.update a (Obj.putSet es1 t1)):=Heap.SameBut.update ..
  have go1:=store_at (es':=es1) (t':=t1) go gd
  generalize s.heap.update a (Obj.putSet es1 t1) = h1 at sb go1 ⊢
  have tu1 : ∀ q ∈ L1,MT P w h1 q.2 q.1:=fun q hq=>by
   rcases List.mem_cons.mp (pm.mem_iff.mp hq) with e | hq
   ·rw [e]; exact mt_other hx go gd sb
   ·exact mt_other (Z.tu q hq) go gd sb
  have ld1 : w.params.followText "set-order" = true ∨ t1.led = true:=by rw [q5]; exact Z.le'
  by_cases hf : t1.tooFull = true
  ·first
    | (refine wpAny_bind ?_; refine wp_if_pos (by simp [hf]) ?_)
    | (refine wp_if_pos (by simp [hf]) ?_; refine wpAny_bind ?_)
   have much : (L.length + 1) * 5 ≥ t1.mask * 3:=by
    have z:=hf
    unfold SetTable.tooFull at z
    rw [decide_eq_true_eq,q9,hlh] at z
    exact z
   rw [hsl]
   have sz1 : t1.place.size = es1.size:=by
    have z:=q3.sz
    unfold mHs at z
    rw [List.length_map,len1] at z
    rw [z,es1z]
   have two : (t.mask = 7 ∧ L.length = 4) ∨ (t.mask = 31 ∧ L.length = 18):=by
    rcases Z.tb.mok with e | e | e
    ·rw [q4,e] at much; rw [e] at rm; exact .inl ⟨e,by omega⟩
    ·rw [q4,e] at much; rw [e] at rm; exact .inr ⟨e,by omega⟩
    ·rw [q4,e] at much; omega
   have go' : ∀ M,SetTable.sizeAbove (SetTable.grown (L.length + 1)) - 1 = M → MaskOk M → SetTable.sizeAbove (SetTable.grown (L.length + 1)) ≤ 128 → (L.length + 1) * 5 < M * 3 →
     wpAny (model P w) A (setRelay a (SetTable.grown (L.length + 1))) (fun _ s2=>wpAny (model P w) A (pure true) Q E s2) E { s with heap:=h1 }:=fun M m1 m2 m3 m4=>by
    refine m_relay (s:={ s with heap:=h1 }) go1 ⟨gx.1,gx.2.1,gx.2.2⟩ rfl rows1 sz1 q3.dm (by rw [es1z,q4]; rcases two with ⟨e,e2⟩ | ⟨e,e2⟩ <;> omega) dis1 tu1 ld1 (by rw [len1]; exact few) m1 m2 m3 (by rw [len1]; exact m4) ?_
    intro h2 L2 es2 ep2 t2 sb2 R2 pm2
    exact wpAny_pure (q true h2 L2 es2 ep2 t2 (sb.trans sb2) R2 (fun z=>absurd z hm) fun _=>pm2.trans pm)
   rcases two with ⟨_,e2⟩ | ⟨_,e2⟩
   ·exact go' 31 (by rw [e2,size_20]) (.inr (.inl rfl)) (by rw [e2,size_20]; decide) (by omega)
   ·exact go' 127 (by rw [e2,size_76]) (.inr (.inr rfl)) (by rw [e2,size_76]; decide) (by omega)
  ·first
    | refine wp_if_neg (by simp [hf]) ?_
    | (refine wpAny_bind ?_; refine wp_if_neg (by simp [hf]) ?_; refine wpAny_pure ?_)
   have z:=hf
   unfold SetTable.tooFull at z
   rw [decide_eq_true_eq,q9,hlh] at z
   exact wpAny_pure (q true h1 L1 es1 (ep + 1) t1 sb ⟨⟨_,go1,⟨gx.1,gx.2.1,gx.2.2⟩,rfl⟩,rows1,q3,dis1,tu1,ld1,by rw [len1]; omega,by rw [len1]; exact few⟩ (fun z=>absurd z hm) fun _=>pm)
end
end VL
namespace VL
open PySem PySem.Spec PyProof.Rows L2
/-- a kind of sets: the tracked thing at an address,the empty one,what may be added and what it gives -/
structure SKd (X : Cx) (ι : Type) where
 O : Addr → ι → HO
 e0 : ι
 can : V → Hp → ι → ι → Prop
 new : ∀ {H : Hp} {h : Heap},ObjOk X.prog X.w H (h.push { cls:=.type "set",dict:=none,data:=.set #[] 0 (.fresh 0 0 (!X.w.params.followText "set-order")) }) h.objs.size (O h.objs.size e0)
 add : ∀ (s0 : Shared) (H0 : Hp) (sc : Scope) (env : Env) (fp : List Addr) {pins : List (Addr × Obj)} {σ : L2.St} {H : Hp} {s : Shared} {E : Value → Shared → Prop} {D : Addr} {i i2 : ι} {y : V} {v : Value} {Q : Value → Shared → Prop},
  Inv (X.blk s0 H0 sc env fp) pins σ H s → H D = some (O D i) → can y H i i2 → RelV y v → (∀ s2,Inv (X.blk s0 H0 sc env fp) pins σ (upd H D (O D i2)) s2 → Q .none s2) →
   wpAny (model X.prog X.w) X.A (call (.builtin "set.add") [.ref D,v]) Q E s
section
variable {elt tA iA tB iB : Expr} {cA cB : List Expr} {sc : Scope} {ps : Pos} {it acc : Value}
theorem turnS_out (env : Env) : compTurn (.SetComp elt [⟨tA,iA,cA,0⟩,⟨tB,iB,cB,0⟩] sc ps) 0 it acc env = (do
   standAt iA.pos
   match ← pyNext it with
   | none=>pure (.done .next)
   | some v =>
    letOwnedTupleGo tA it v
    assign tA env v
    let mut ok:=true
    for c in cA do
     if ok then ok ← isTrue c env (eval c env)
    if ok then
     let x ← eval iB env
     standAt iB.pos
     let x ← foldedSetIterable iB env x
     let _ ← runOwn (.compStart (.SetComp elt [⟨tA,iA,cA,0⟩,⟨tB,iB,cB,0⟩] sc ps) 1 (← holding [x] (pyIter x)) acc env) env
    again (.compLoop (.SetComp elt [⟨tA,iA,cA,0⟩,⟨tB,iB,cB,0⟩] sc ps) 0 it acc env)):=by rfl
theorem turnS_in (env : Env) : compTurn (.SetComp elt [⟨tA,iA,cA,0⟩,⟨tB,iB,cB,0⟩] sc ps) 1 it acc env = (do
   standAt iB.pos
   match ← pyNext it with
   | none=>pure (.done .next)
   | some v =>
    letOwnedTupleGo tB it v
    assign tB env v
    let mut ok:=true
    for c in cB do
     if ok then ok ← isTrue c env (eval c env)
    if ok then
     (do let v ← eval elt env; standAt elt.pos; let _ ← call (.builtin "set.add") [acc,v])
    again (.compLoop (.SetComp elt [⟨tA,iA,cA,0⟩,⟨tB,iB,cB,0⟩] sc ps) 1 it acc env)):=by rfl
variable {prog : Program} {w : World} {A : Around} {R : Result → Shared → Prop} {s : Shared} {env : Env}
noncomputable abbrev nB (prog : Program) (w : World) (A : Around) (env : Env) (R : Result → Shared → Prop) : Value → Shared → Prop:=notedBy (model prog w) A env fun e t=>R (.error e) t
noncomputable abbrev tsts (cs : List Expr) (env : Env) : Sem Bool:=forIn cs true fun c r=>if r = true then do let ok ← isTrue c env (eval c env); pure (ForInStep.yield ok) else pure (ForInStep.yield r)
theorem loopS_out (fold : ∀ x,foldedSetIterable iB env x = pure x) (Iv : Nat → Shared → Prop)
  (turn : ∀ n s,Iv n s → wpAny (model prog w) A (pyNext it) (fun r s1=>match r with
   | none=>R (.ok .next) s1
   | some v=>wpAny (model prog w) A (letOwnedTupleGo tA it v) (fun _ s2=>wpAny (model prog w) A (assign tA env v) (fun _ s3=>wpAny (model prog w) A (tsts cA env) (fun ok s4 =>
     if ok = true then wpAny (model prog w) A (eval iB env) (fun x s5=>wpAny (model prog w) A (pyIter x) (fun jt s6=>codeAny (model prog w) A (.compStart (.SetComp elt [⟨tA,iA,cA,0⟩,⟨tB,iB,cB,0⟩] sc ps) 1 jt acc env) (fun r t=>match r with
      | .ok _=>∃ m,m < n ∧ Iv m t
      | .error _=>False) s6) (nB prog w A env R) s5) (nB prog w A env R) s4
     else ∃ m,m < n ∧ Iv m s4) (nB prog w A env R) s3) (nB prog w A env R) s2) (nB prog w A env R) s1) (nB prog w A env R) s)
  (n : Nat) (h : Iv n s) : codeAny (model prog w) A (.compLoop (.SetComp elt [⟨tA,iA,cA,0⟩,⟨tB,iB,cB,0⟩] sc ps) 0 it acc env) R s:=by
 refine codeAny_loop rfl Iv (fun n s hI=>?_) n h
 show wpAny _ A ((compTurn (.SetComp elt [⟨tA,iA,cA,0⟩,⟨tB,iB,cB,0⟩] sc ps) 0 it acc env).onRaise (fun x=>do noteFrame x env; theTreesLotGoes x)) _ _ s
 refine wpAny_noted ?_
 rw [turnS_out]
 refine wpAny_bind (wpAny_standAt (wpAny_bind (wpAny_mono (turn n s hI) (fun r s1 q1=>?_) fun _ _ z=>z)))
 cases r with
 | none=>exact wpAny_pure q1
 | some v =>
  refine wpAny_bind (wpAny_mono q1 (fun _ s2 q2=>?_) fun _ _ z=>z)
  refine wpAny_bind (wpAny_mono q2 (fun _ s3 q3=>wpAny_bind (wpAny_mono q3 (fun ok s4 q4=>?_) fun _ _ z=>z)) fun _ _ z=>z)
  cases ok with
  | false=>exact wpAny_pure ⟨rfl,q4⟩
  | true =>
   refine wpAny_bind (wpAny_mono q4 (fun x s5 q5=>?_) fun _ _ z=>z)
   refine wpAny_bind (wpAny_standAt (wpAny_bind (wpAny_of_eq (fold x) (wpAny_bind (wpAny_holding (wpAny_mono q5 (fun jt s6 q6=>?_) fun _ _ z=>z))))))
   refine wpAny_bind (wpAny_runOwn ?_)
   rw [Around.mark_none]
   refine codeAny_mono q6 fun r t hr=>?_
   cases r with
   | ok f=>first | exact wpAny_pure ⟨rfl,hr⟩ | exact wpAny_bind (wpAny_pure (wpAny_pure ⟨rfl,hr⟩))
   | error e=>exact hr.elim
theorem loopS_in (Iv : Nat → Shared → Prop)
  (turn : ∀ n s,Iv n s → wpAny (model prog w) A (pyNext it) (fun r s1=>match r with
   | none=>R (.ok .next) s1
   | some v=>wpAny (model prog w) A (letOwnedTupleGo tB it v) (fun _ s2=>wpAny (model prog w) A (assign tB env v) (fun _ s3=>wpAny (model prog w) A (tsts cB env) (fun ok s4 =>
     if ok = true then wpAny (model prog w) A (eval elt env) (fun x s5=>wpAny (model prog w) A (call (.builtin "set.add") [acc,x]) (fun _ s6=>∃ m,m < n ∧ Iv m s6) (nB prog w A env R) s5) (nB prog w A env R) s4
     else ∃ m,m < n ∧ Iv m s4) (nB prog w A env R) s3) (nB prog w A env R) s2) (nB prog w A env R) s1) (nB prog w A env R) s)
  (n : Nat) (h : Iv n s) : codeAny (model prog w) A (.compLoop (.SetComp elt [⟨tA,iA,cA,0⟩,⟨tB,iB,cB,0⟩] sc ps) 1 it acc env) R s:=by
 refine codeAny_loop rfl Iv (fun n s hI=>?_) n h
 show wpAny _ A ((compTurn (.SetComp elt [⟨tA,iA,cA,0⟩,⟨tB,iB,cB,0⟩] sc ps) 1 it acc env).onRaise (fun x=>do noteFrame x env; theTreesLotGoes x)) _ _ s
 refine wpAny_noted ?_
 rw [turnS_in]
 refine wpAny_bind (wpAny_standAt (wpAny_bind (wpAny_mono (turn n s hI) (fun r s1 q1=>?_) fun _ _ z=>z)))
 cases r with
 | none=>exact wpAny_pure q1
 | some v =>
  refine wpAny_bind (wpAny_mono q1 (fun _ s2 q2=>?_) fun _ _ z=>z)
  refine wpAny_bind (wpAny_mono q2 (fun _ s3 q3=>wpAny_bind (wpAny_mono q3 (fun ok s4 q4=>?_) fun _ _ z=>z)) fun _ _ z=>z)
  cases ok with
  | false=>exact wpAny_pure ⟨rfl,q4⟩
  | true=>exact wpAny_bind (wpAny_bind (wpAny_mono q4 (fun x s5 q5=>wpAny_bind (wpAny_standAt (wpAny_bind (wpAny_mono q5 (fun _ s6 q6=>wpAny_pure (wpAny_pure ⟨rfl,q6⟩)) fun _ _ z=>z)))) fun _ _ z=>z))
theorem startS_in (h0 : codeAny (model prog w) A (.compLoop (.SetComp elt [⟨tA,iA,cA,0⟩,⟨tB,iB,cB,0⟩] sc ps) 1 it acc env) R s)
  (h : wpAny (model prog w) A (pyIter it) (fun jt t=>codeAny (model prog w) A (.compLoop (.SetComp elt [⟨tA,iA,cA,0⟩,⟨tB,iB,cB,0⟩] sc ps) 1 jt acc env) R t) (nB prog w A env R) s) :
  codeAny (model prog w) A (.compStart (.SetComp elt [⟨tA,iA,cA,0⟩,⟨tB,iB,cB,0⟩] sc ps) 1 it acc env) R s:=by
 refine codeAny_of_tree ?_
 show wpAny _ _ ((compStart (.SetComp elt [⟨tA,iA,cA,0⟩,⟨tB,iB,cB,0⟩] sc ps) 1 it acc env).onRaise (fun x=>do noteFrame x env; standAt theWindowsPlace)) _ _ s
 refine wpAny_notedAt ?_
 unfold compStart
 show wpAny _ _ (ask >>= _) _ _ s
 refine wpAny_bind (wpAny_askSetting (wpAny_ite ?_))
 split
 ·first | exact wpAny_bind (wpAny_pure (wpAny_pure (And.intro rfl h0))) | exact wpAny_pure (And.intro rfl h0)
 ·first
   | exact wpAny_bind (wpAny_rule (wpAny_bind (wpAny_standAt (wpAny_bind (wpAny_mono h (fun jt t q=>wpAny_pure (And.intro rfl q)) fun _ _ z=>z)))))
   | (refine wpAny_bind (wpAny_rule ?_); show wpAny _ _ (standAt iB.pos >>= _) _ _ s; exact wpAny_bind (wpAny_standAt (wpAny_bind (wpAny_mono h (fun jt t q=>wpAny_pure (And.intro rfl q)) fun _ _ z=>z))))
end
section
variable {X : Cx} {ι : Type}
noncomputable def tSg (S : SKd X ι) (wi : TI) (g : TG) (tt : TT) (te : TE) (vs : List Nat) : TE:=fun σ H Q=>wi σ H fun J H1=>∀ D,H1 D = none → ∃ W : Nat → Nat → Hp → Prop,(∃ m,W 0 m (upd H1 D (S.O D S.e0))) ∧ ∀ i m H,W i m H →
 (J.stop i H ∧ Q (.ref D) H) ∨ (J.go i H ∧ ∃ Nx : Hp → Prop,(∀ H2,Nx H2 → ∃ n,n < m ∧ W (i + 1) n H2) ∧ ∀ x H2,J.yld i H x H2 → g x (wipe σ vs) H2 fun σ3 H3=>wipe σ3 vs = wipe σ vs ∧ tt σ3 H3 fun b H4 =>
  if b = true then te σ3 H4 fun y H5=>∃ c d,H5 D = some (S.O D c) ∧ S.can y H5 c d ∧ Nx (upd H5 D (S.O D d)) else Nx H4)
noncomputable def tSg2 (S : SKd X ι) (wi : TI) (g : TG) (tt : TT) (wj : TI) (gj : TG) (tj : TT) (te : TE) (vs us : List Nat) : TE:=fun σ H Q=>wi σ H fun J H1=>∀ D,H1 D = none → ∃ W : Nat → Nat → Hp → Prop,(∃ m,W 0 m (upd H1 D (S.O D S.e0))) ∧ ∀ i m H,W i m H →
 (J.stop i H ∧ Q (.ref D) H) ∨ (J.go i H ∧ ∃ Nx : Hp → Prop,(∀ H2,Nx H2 → ∃ n,n < m ∧ W (i + 1) n H2) ∧ ∀ x H2,J.yld i H x H2 → g x (wipe σ vs) H2 fun σ3 H3=>wipe σ3 vs = wipe σ vs ∧ tt σ3 H3 fun b H4 =>
  if b = true then wj σ3 H4 fun J1 H5=>∃ W1 : Nat → Nat → Hp → Prop,(∃ m,W1 0 m H5) ∧ ∀ j k H,W1 j k H →
   (J1.stop j H ∧ Nx H) ∨ (J1.go j H ∧ ∃ Ny : Hp → Prop,(∀ H6,Ny H6 → ∃ n,n < k ∧ W1 (j + 1) n H6) ∧ ∀ x H6,J1.yld j H x H6 → gj x (wipe σ3 us) H6 fun σ7 H7=>wipe σ7 us = wipe σ3 us ∧ tj σ7 H7 fun b H8 =>
    if b = true then te σ7 H8 fun y H9=>∃ c d,H9 D = some (S.O D c) ∧ S.can y H9 c d ∧ Ny (upd H9 D (S.O D d)) else Ny H8)
  else Nx H4)
variable {elt tA iA tB iB : Expr} {cA cB : List Expr} {sc : Scope} {own : List (Str × Nat)} {us : List Nat} {ps pp : Pos} {wi wj : TI} {g gj : TG} {tt tj : TT} {te : TE} {S : SKd X ι}
noncomputable abbrev inBlk (X : Cx) (sc : Scope) (F : Cx → Prop) : Prop:=∀ (s : Shared) (H : Hp) (C : Addr) (cl : List (Str × Addr)) (fp : List Addr),F (X.blk s H sc (compEnvC sc cl C X.env) fp)
theorem pe_sg2 (hc : X.calm = true) (hN : X.N.Nodup) (hi : PI X tA iA wi) (ok : BlkOk X.N X.env.scope sc own) (hu : ∀ i ∈ us,i ∈ own.map (·.2)) (hg : inBlk X sc fun Y=>PG Y tA g) (ht : inBlk X sc fun Y=>PTs Y cA tt)
  (hj : inBlk X sc fun Y=>PI Y tB iB wj) (hgj : inBlk X sc fun Y=>PG Y tB gj) (htj : inBlk X sc fun Y=>PTs Y cB tj) (he : inBlk X sc fun Y=>PE Y elt te)
  (fA : ∀ x,foldedSetIterable iA X.env x = pure x:=by intro _; rfl) (fB : ∀ env x,foldedSetIterable iB env x = pure x:=by intro _ _; rfl) :
  PE X (.SetComp elt [⟨tA,iA,cA,0⟩,⟨tB,iB,cB,0⟩] sc ps) (tSg2 S wi g tt wj gj tj te (own.map (·.2)) us):=by
 refine ⟨fun pins s σ H Q I h=>?_⟩
 rw [PpSet.eval_SetComp]
 have free : ∀ y ∈ sc.names,y.2 = .free → ∃ c,X.env.cells.lookup y.1 = some c:=fun y hy e=>(ok.free y hy e).elim (fun z=>I.ok.has _ (.inl z)) fun z=>I.ok.has _ (.inr z)
 refine wpAny_comprehension_free rfl fA (closure_ok free) ok.kind (fun y hy e=>by rw [ok.uniq y hy,e]) (thn (hi.run pins s σ H _ I h) fun xv s1 hx=>thn hx fun itv t2 h2=>?_)
 obtain ⟨it,fp,tn,J,H2,e,J2,T,st2,f2,q⟩:=h2
 subst e
 refine PpSet.newSet_ok (newEnv_comp ?_)
 obtain ⟨D,hD⟩ : ∃ D,D = t2.heap.objs.size:=⟨_,rfl⟩
 rw [← hD]
 obtain ⟨W,⟨m0,w0⟩,turn⟩:=q D (J2.hok.fresh (Nat.le_of_eq hD.symm))
 obtain ⟨t3,e3⟩ : ∃ t3 : Shared,t3 = { t2 with heap:=t2.heap.push { cls:=.type "set",dict:=none,data:=.set #[] 0 (.fresh 0 0 (!X.w.params.followText "set-order")) } }:=⟨_,rfl⟩
 rw [← e3]
 obtain ⟨G3,eG⟩ : ∃ G3,G3 = upd H2 D (S.O D S.e0):=⟨_,rfl⟩
 rw [← eG] at w0
 have hp3 : t3.heap = t2.heap.push { cls:=.type "set",dict:=none,data:=.set #[] 0 (.fresh 0 0 (!X.w.params.followText "set-order")) }:=by rw [e3]
 have J3 : Inv X pins σ G3 t3:=by
  rw [e3,eG,hD]
  exact J2.laid (t':=t2.toks) (fun b o e=>Heap.get?_push_of_some _ e) (Nat.le_refl _) S.new
 have f3 : ∀ b ∈ fp,FpOk X pins G3 b ∧ b < t3.heap.objs.size:=fun b hb=>by
  obtain ⟨o,e,-⟩:=T.obj _ _ st2 b hb
  have lt:=Heap.lt_size e
  refine ⟨⟨?_,(f2 b hb).2⟩,by rw [hp3,Heap.size_push]; exact Nat.lt_succ_of_lt lt⟩
  rw [eG,upd_ne (by rw [hD]; exact Nat.ne_of_lt lt)]
  exact (f2 b hb).1
 have st3 : tn 0 t3.heap:=T.keep _ _ _ st2 fun b _ o e=>by rw [hp3]; exact Heap.get?_push_of_some _ e
 have J4:=block_start J3 ok hN f3
 have ag:=hg t3 G3 t3.heap.objs.size (cellsFrom (t3.heap.objs.size + 1) sc.names (cloFrom X.env.cells sc.names [])) fp
 have at':=ht t3 G3 t3.heap.objs.size (cellsFrom (t3.heap.objs.size + 1) sc.names (cloFrom X.env.cells sc.names [])) fp
 have ae:=he t3 G3 t3.heap.objs.size (cellsFrom (t3.heap.objs.size + 1) sc.names (cloFrom X.env.cells sc.names [])) fp
 have bi:=hj t3 G3 t3.heap.objs.size (cellsFrom (t3.heap.objs.size + 1) sc.names (cloFrom X.env.cells sc.names [])) fp
 have bg:=hgj t3 G3 t3.heap.objs.size (cellsFrom (t3.heap.objs.size + 1) sc.names (cloFrom X.env.cells sc.names [])) fp
 have bt:=htj t3 G3 t3.heap.objs.size (cellsFrom (t3.heap.objs.size + 1) sc.names (cloFrom X.env.cells sc.names [])) fp
 show codeAny _ _ (.compStart _ 0 (.ref it) (.ref D) (compEnvC sc (cellsFrom (t3.heap.objs.size + 1) sc.names (cloFrom X.env.cells sc.names [])) t3.heap.objs.size X.env)) (compPost (model X.prog X.w) X.A X.xe none _ (.ref D) t3.heap.objs.size) { t3 with heap:=pushCells (t3.heap.push { cls:=.type "dict",data:=.dict #[] }) sc.names }
 have nfp : ∀ b ∈ fp,G3 b = none:=fun b hb=>(f3 b hb).1.1
 have hloc : (compEnvC sc (cellsFrom (t3.heap.objs.size + 1) sc.names (cloFrom X.env.cells sc.names [])) t3.heap.objs.size X.env).locals = t3.heap.objs.size:=rfl
 generalize compEnvC sc (cellsFrom (t3.heap.objs.size + 1) sc.names (cloFrom X.env.cells sc.names [])) t3.heap.objs.size X.env = ce at J4 ag at' ae bi bg bt hloc ⊢
 obtain ⟨t4,e4⟩ : ∃ t4 : Shared,t4 = { t3 with heap:=pushCells (t3.heap.push { cls:=.type "dict",data:=.dict #[] }) sc.names }:=⟨_,rfl⟩
 rw [← e4] at J4 ⊢
 have st4 : tn 0 t4.heap:=T.keep _ _ _ st3 fun b _ o e=>by rw [e4]; exact pushCells_keeps _ _ _ _ (Heap.get?_push_of_some _ e)
 have stay : ∀ {σ' : L2.St} {H' : Hp} {s' : Shared},Inv (X.blk t3 G3 sc ce fp) [] σ' H' s' → (∀ b ∈ fp,H' b = none) → ∀ b ∈ fp,FpOk (X.blk t3 G3 sc ce fp) [] H' b:=fun {σ' H' s'} I' hn b hb =>
  ⟨hn b hb,(I'.ok.exf b hb).1,I'.ok.exfs b hb,.inl hb,fun x c e=>(I'.ok.exf b hb).2 x c e,fun p hp=>absurd (show p ∈ ([] : List (Addr × Obj)) ++ [] from hp) (by simp)⟩
 have loop : codeAny (model X.prog X.w) X.A (.compLoop (.SetComp elt [⟨tA,iA,cA,0⟩,⟨tB,iB,cB,0⟩] sc ps) 0 (.ref it) (.ref D) ce) (compPost (model X.prog X.w) X.A X.xe none (EP X pins σ Q) (.ref D) t3.heap.objs.size) t4:=by
  refine loopS_out (fB ce) (fun n t=>∃ i H',Inv (X.blk t3 G3 sc ce fp) [] (wipe σ (own.map (·.2))) H' t ∧ tn i t.heap ∧ (∀ b ∈ fp,H' b = none) ∧ W i n H') ?_ m0 ⟨0,G3,J4,st4,nfp,w0⟩
  rintro n t5 ⟨i,H5,J5,st5,n5,w5⟩
  rcases turn i n H5 w5 with ⟨stop,qq⟩ | ⟨go,Nx,hNx,step⟩
  ·refine thnF (T.done (X.blk t3 G3 sc ce fp) rfl rfl rfl hc i [] t5 _ H5 (fun _ _=>False) J5 (stay J5 n5) st5 stop) fun r t6 ⟨hr,J6⟩=>?_
   subst hr
   have J7 : Inv X pins σ H5 t6:=J3.call' (ch:=fp) J6.os J6.base J6.hok J6.bare fun b hb=>⟨(f3 b hb).1.2.2.2.1,(f3 b hb).1.2.1,(f3 b hb).1.2.2.2.2.1,(f3 b hb).1.2.2.2.2.2⟩
   have nC : H5 t3.heap.objs.size = none:=by
    have z : H5 ce.locals = none:=J6.free
    rwa [hloc] at z
   obtain ⟨m,hn,-⟩:=J6.loc
   have hn : t6.heap.Ns ce.locals m:=hn
   rw [hloc] at hn
   refine ⟨m,hn,fun h'' sb=>?_⟩
   obtain ⟨f0,f1,f2',f3',f4,f5⟩:=J3.fpOk (Nat.le_refl _) nC
   exact ⟨.ref D,H5,J7.turned (t':=t6.toks) (fun b o hb e=>(sb.2 b hb).trans e) f0 f1 f3' f4 f5,rfl,qq⟩
  ·refine thnF (T.item (X.blk t3 G3 sc ce fp) rfl rfl rfl hc i [] t5 _ H5 (fun _ _=>False) J5 (stay J5 n5) st5 go) fun r t6 ⟨u,hr,h6⟩=>?_
   subst hr
   refine thnF h6 fun _ t7 ⟨x,H7,J7,r7,y7,st7,n7⟩=>?_
   have J7':=J7.pinned (stay J7 n7) (T.obj _ _ st7)
   refine thnF (ag.run _ t7 _ H7 x u _ J7' r7 (step x H7 y7)) fun _ t8 ⟨σ8,H8,J8,hw8,q8⟩=>?_
   refine thnF (at'.run _ t8 σ8 H8 _ J8 q8) fun b t9 ⟨H9,J9,q9⟩=>?_
   have back : ∀ {σ9 : L2.St} {t : Shared} {H' : Hp},Inv (X.blk t3 G3 sc ce fp) ([] ++ pinsAt fp t7.heap) σ9 H' t → (wipe σ (own.map (·.2))).length = σ9.length → (∀ (j : Nat) v,(wipe σ (own.map (·.2)))[j]? = some (some v) → σ9[j]? = some (some v)) → Nx H' →
     ∃ m,m < n ∧ ∃ i H',Inv (X.blk t3 G3 sc ce fp) [] (wipe σ (own.map (·.2))) H' t ∧ tn i t.heap ∧ (∀ b ∈ fp,H' b = none) ∧ W i m H':=fun {σ9 t H'} I' hl hk nx=>by
    obtain ⟨m',hm,w'⟩:=hNx H' nx
    have pin : ∀ b ∈ fp,∀ o,t7.heap.get? b = some o → t.heap.get? b = some o ∧ H' b = none:=fun b hb o e =>
     let z:=I'.pin (b,o) (List.mem_append_right _ (List.mem_append_right _ (mem_pinsAt hb e)))
     ⟨z.1,z.2.1⟩
    refine ⟨m',hm,i + 1,H',(I'.unpinned (pins:=[])).weak hl hk,T.keep _ _ _ st7 fun b hb o e=>(pin b hb o e).1,fun b hb=>?_,w'⟩
    obtain ⟨o,e,-⟩:=T.obj _ _ st7 b hb
    exact (pin b hb o e).2
   have hl8 : (wipe σ (own.map (·.2))).length = σ8.length:=by rw [← hw8,wipe_length]
   cases b with
   | false =>
    simp only [Bool.false_eq_true,if_false] at q9 ⊢
    exact back J9 hl8 (fun j v e=>by rw [← hw8] at e; exact (wipe_some e).1) q9
   | true =>
    simp only [if_true] at q9 ⊢
    refine thnF (bi.run _ t9 σ8 H9 _ J9 q9) fun xv t10 hx=>thnF hx fun itv t11 h11=>?_
    obtain ⟨jt,fq,tm,J1,H11,ej,J11,T1,st11,f11,W1,⟨m1,w1⟩,turn1⟩:=h11
    subst ej
    have stay1 : ∀ {H' : Hp},(∀ b ∈ fq,H' b = none) → ∀ b ∈ fq,FpOk (X.blk t3 G3 sc ce fp) ([] ++ pinsAt fp t7.heap) H' b:=fun hn b hb=>⟨hn b hb,(f11 b hb).2⟩
    have inner : codeAny (model X.prog X.w) X.A (.compLoop (.SetComp elt [⟨tA,iA,cA,0⟩,⟨tB,iB,cB,0⟩] sc ps) 1 (.ref jt) (.ref D) ce)
      (fun r t=>match r with
       | .ok _=>∃ m,m < n ∧ ∃ i H',Inv (X.blk t3 G3 sc ce fp) [] (wipe σ (own.map (·.2))) H' t ∧ tn i t.heap ∧ (∀ b ∈ fp,H' b = none) ∧ W i m H'
       | .error _=>False) t11:=by
     refine loopS_in (fun k t=>∃ j H',Inv (X.blk t3 G3 sc ce fp) ([] ++ pinsAt fp t7.heap) (wipe σ8 us) H' t ∧ tm j t.heap ∧ (∀ b ∈ fq,H' b = none) ∧ W1 j k H') ?_ m1 ⟨0,H11,J11.weak (wipe_length _ _) (fun j v e=>(wipe_some e).1),st11,fun b hb=>(f11 b hb).1,w1⟩
     rintro k t12 ⟨j,H12,J12,st12,n12,w12⟩
     rcases turn1 j k H12 w12 with ⟨stop1,nx1⟩ | ⟨go1,Ny,hNy,step1⟩
     ·refine thnF (T1.done (X.blk t3 G3 sc ce fp) rfl rfl rfl hc j _ t12 (wipe σ8 us) H12 (fun _ _=>False) J12 (stay1 n12) st12 stop1) fun r t13 ⟨hr,J13⟩=>?_
      subst hr
      refine back J13 (hl8.trans (wipe_length σ8 us).symm) (fun j v e=>?_) nx1
      rw [← hw8] at e
      obtain ⟨e1,e2⟩:=wipe_some e
      rw [L2.wipe_out (vs:=us) (fun z=>e2 (hu _ z))]
      exact e1
     ·refine thnF (T1.item (X.blk t3 G3 sc ce fp) rfl rfl rfl hc j _ t12 (wipe σ8 us) H12 (fun _ _=>False) J12 (stay1 n12) st12 go1) fun r t13 ⟨u1,hr,h13⟩=>?_
      subst hr
      refine thnF h13 fun _ t14 ⟨x1,H14,J14,r14,y14,st14,n14⟩=>?_
      have J14':=J14.pinned (stay1 n14) (T1.obj _ _ st14)
      refine thnF (bg.run _ t14 (wipe σ8 us) H14 x1 u1 _ J14' r14 (step1 x1 H14 y14)) fun _ t15 ⟨σ15,H15,J15,hw15,q15⟩=>?_
      refine thnF (bt.run _ t15 σ15 H15 _ J15 q15) fun b1 t16 ⟨H16,J16,q16⟩=>?_
      have back1 : ∀ {t : Shared} {H' : Hp},Inv (X.blk t3 G3 sc ce fp) (([] ++ pinsAt fp t7.heap) ++ pinsAt fq t14.heap) σ15 H' t → Ny H' → ∃ m,m < k ∧ ∃ j H',Inv (X.blk t3 G3 sc ce fp) ([] ++ pinsAt fp t7.heap) (wipe σ8 us) H' t ∧ tm j t.heap ∧ (∀ b ∈ fq,H' b = none) ∧ W1 j m H':=fun {t H'} I' nx=>by
       obtain ⟨m',hm,w'⟩:=hNy H' nx
       have pin : ∀ b ∈ fq,∀ o,t14.heap.get? b = some o → t.heap.get? b = some o ∧ H' b = none:=fun b hb o e =>
        let z:=I'.pin (b,o) (List.mem_append_right _ (List.mem_append_right _ (mem_pinsAt hb e)))
        ⟨z.1,z.2.1⟩
       refine ⟨m',hm,j + 1,H',I'.unpinned.weak (by rw [← hw15,wipe_length]) (fun j v e=>by rw [← hw15] at e; exact (wipe_some e).1),T1.keep _ _ _ st14 fun b hb o e=>(pin b hb o e).1,fun b hb=>?_,w'⟩
       obtain ⟨o,e,-⟩:=T1.obj _ _ st14 b hb
       exact (pin b hb o e).2
      cases b1 with
      | false =>
       simp only [Bool.false_eq_true,if_false] at q16 ⊢
       exact back1 J16 q16
      | true =>
       simp only [if_true] at q16 ⊢
       refine thnF (ae.run _ t16 σ15 H16 _ J16 q16) fun z t17 ⟨yv,H17,J17,r17,c,d,hD17,can17,nx⟩=>?_
       exact S.add t3 G3 sc ce fp J17 hD17 can17 r17 fun t18 J18=>back1 J18 nx
    exact startS_in inner (T1.self X.A 0 _ _ _ st11 inner)
 exact PpSet.codeAny_compStart_set loop (T.self X.A 0 _ _ _ st4 loop)
theorem pe_sg (hc : X.calm = true) (hN : X.N.Nodup) (hi : PI X tA iA wi) (ok : BlkOk X.N X.env.scope sc own) (hg : inBlk X sc fun Y=>PG Y tA g) (ht : inBlk X sc fun Y=>PTs Y cA tt) (he : inBlk X sc fun Y=>PE Y elt te)
  (fA : ∀ x,foldedSetIterable iA X.env x = pure x:=by intro _; rfl) : PE X (.SetComp elt [⟨tA,iA,cA,0⟩] sc ps) (tSg S wi g tt te (own.map (·.2))):=by
 refine ⟨fun pins s σ H Q I h=>?_⟩
 rw [PpSet.eval_SetComp]
 have free : ∀ y ∈ sc.names,y.2 = .free → ∃ c,X.env.cells.lookup y.1 = some c:=fun y hy e=>(ok.free y hy e).elim (fun z=>I.ok.has _ (.inl z)) fun z=>I.ok.has _ (.inr z)
 refine wpAny_comprehension_free rfl fA (closure_ok free) ok.kind (fun y hy e=>by rw [ok.uniq y hy,e]) (thn (hi.run pins s σ H _ I h) fun xv s1 hx=>thn hx fun itv t2 h2=>?_)
 obtain ⟨it,fp,tn,J,H2,e,J2,T,st2,f2,q⟩:=h2
 subst e
 refine PpSet.newSet_ok (newEnv_comp ?_)
 obtain ⟨D,hD⟩ : ∃ D,D = t2.heap.objs.size:=⟨_,rfl⟩
 rw [← hD]
 obtain ⟨W,⟨m0,w0⟩,turn⟩:=q D (J2.hok.fresh (Nat.le_of_eq hD.symm))
 obtain ⟨t3,e3⟩ : ∃ t3 : Shared,t3 = { t2 with heap:=t2.heap.push { cls:=.type "set",dict:=none,data:=.set #[] 0 (.fresh 0 0 (!X.w.params.followText "set-order")) } }:=⟨_,rfl⟩
 rw [← e3]
 obtain ⟨G3,eG⟩ : ∃ G3,G3 = upd H2 D (S.O D S.e0):=⟨_,rfl⟩
 rw [← eG] at w0
 have hp3 : t3.heap = t2.heap.push { cls:=.type "set",dict:=none,data:=.set #[] 0 (.fresh 0 0 (!X.w.params.followText "set-order")) }:=by rw [e3]
 have J3 : Inv X pins σ G3 t3:=by
  rw [e3,eG,hD]
  exact J2.laid (t':=t2.toks) (fun b o e=>Heap.get?_push_of_some _ e) (Nat.le_refl _) S.new
 have f3 : ∀ b ∈ fp,FpOk X pins G3 b ∧ b < t3.heap.objs.size:=fun b hb=>by
  obtain ⟨o,e,-⟩:=T.obj _ _ st2 b hb
  have lt:=Heap.lt_size e
  refine ⟨⟨?_,(f2 b hb).2⟩,by rw [hp3,Heap.size_push]; exact Nat.lt_succ_of_lt lt⟩
  rw [eG,upd_ne (by rw [hD]; exact Nat.ne_of_lt lt)]
  exact (f2 b hb).1
 have st3 : tn 0 t3.heap:=T.keep _ _ _ st2 fun b _ o e=>by rw [hp3]; exact Heap.get?_push_of_some _ e
 have J4:=block_start J3 ok hN f3
 have ag:=hg t3 G3 t3.heap.objs.size (cellsFrom (t3.heap.objs.size + 1) sc.names (cloFrom X.env.cells sc.names [])) fp
 have at':=ht t3 G3 t3.heap.objs.size (cellsFrom (t3.heap.objs.size + 1) sc.names (cloFrom X.env.cells sc.names [])) fp
 have ae:=he t3 G3 t3.heap.objs.size (cellsFrom (t3.heap.objs.size + 1) sc.names (cloFrom X.env.cells sc.names [])) fp
 show codeAny _ _ (.compStart _ 0 (.ref it) (.ref D) (compEnvC sc (cellsFrom (t3.heap.objs.size + 1) sc.names (cloFrom X.env.cells sc.names [])) t3.heap.objs.size X.env)) (compPost (model X.prog X.w) X.A X.xe none _ (.ref D) t3.heap.objs.size) { t3 with heap:=pushCells (t3.heap.push { cls:=.type "dict",data:=.dict #[] }) sc.names }
 have nfp : ∀ b ∈ fp,G3 b = none:=fun b hb=>(f3 b hb).1.1
 have hloc : (compEnvC sc (cellsFrom (t3.heap.objs.size + 1) sc.names (cloFrom X.env.cells sc.names [])) t3.heap.objs.size X.env).locals = t3.heap.objs.size:=rfl
 generalize compEnvC sc (cellsFrom (t3.heap.objs.size + 1) sc.names (cloFrom X.env.cells sc.names [])) t3.heap.objs.size X.env = ce at J4 ag at' ae hloc ⊢
 obtain ⟨t4,e4⟩ : ∃ t4 : Shared,t4 = { t3 with heap:=pushCells (t3.heap.push { cls:=.type "dict",data:=.dict #[] }) sc.names }:=⟨_,rfl⟩
 rw [← e4] at J4 ⊢
 have st4 : tn 0 t4.heap:=T.keep _ _ _ st3 fun b _ o e=>by rw [e4]; exact pushCells_keeps _ _ _ _ (Heap.get?_push_of_some _ e)
 have stay : ∀ {σ' : L2.St} {H' : Hp} {s' : Shared},Inv (X.blk t3 G3 sc ce fp) [] σ' H' s' → (∀ b ∈ fp,H' b = none) → ∀ b ∈ fp,FpOk (X.blk t3 G3 sc ce fp) [] H' b:=fun {σ' H' s'} I' hn b hb =>
  ⟨hn b hb,(I'.ok.exf b hb).1,I'.ok.exfs b hb,.inl hb,fun x c e=>(I'.ok.exf b hb).2 x c e,fun p hp=>absurd (show p ∈ ([] : List (Addr × Obj)) ++ [] from hp) (by simp)⟩
 have loop : codeAny (model X.prog X.w) X.A (.compLoop (.SetComp elt [⟨tA,iA,cA,0⟩] sc ps) 0 (.ref it) (.ref D) ce) (compPost (model X.prog X.w) X.A X.xe none (EP X pins σ Q) (.ref D) t3.heap.objs.size) t4:=by
  refine PpSet.compLoopS_any (fun n t=>∃ i H',Inv (X.blk t3 G3 sc ce fp) [] (wipe σ (own.map (·.2))) H' t ∧ tn i t.heap ∧ (∀ b ∈ fp,H' b = none) ∧ W i n H') ?_ m0 ⟨0,G3,J4,st4,nfp,w0⟩
  rintro n t5 ⟨i,H5,J5,st5,n5,w5⟩
  rcases turn i n H5 w5 with ⟨stop,qq⟩ | ⟨go,Nx,hNx,step⟩
  ·refine thnF (T.done (X.blk t3 G3 sc ce fp) rfl rfl rfl hc i [] t5 _ H5 (fun _ _=>False) J5 (stay J5 n5) st5 stop) fun r t6 ⟨hr,J6⟩=>?_
   subst hr
   have J7 : Inv X pins σ H5 t6:=J3.call' (ch:=fp) J6.os J6.base J6.hok J6.bare fun b hb=>⟨(f3 b hb).1.2.2.2.1,(f3 b hb).1.2.1,(f3 b hb).1.2.2.2.2.1,(f3 b hb).1.2.2.2.2.2⟩
   have nC : H5 t3.heap.objs.size = none:=by
    have z : H5 ce.locals = none:=J6.free
    rwa [hloc] at z
   obtain ⟨m,hn,-⟩:=J6.loc
   have hn : t6.heap.Ns ce.locals m:=hn
   rw [hloc] at hn
   refine ⟨m,hn,fun h'' sb=>?_⟩
   obtain ⟨f0,f1,f2',f3',f4,f5⟩:=J3.fpOk (Nat.le_refl _) nC
   exact ⟨.ref D,H5,J7.turned (t':=t6.toks) (fun b o hb e=>(sb.2 b hb).trans e) f0 f1 f3' f4 f5,rfl,qq⟩
  ·refine thnF (T.item (X.blk t3 G3 sc ce fp) rfl rfl rfl hc i [] t5 _ H5 (fun _ _=>False) J5 (stay J5 n5) st5 go) fun r t6 ⟨u,hr,h6⟩=>?_
   subst hr
   refine thnF h6 fun _ t7 ⟨x,H7,J7,r7,y7,st7,n7⟩=>?_
   have J7':=J7.pinned (stay J7 n7) (T.obj _ _ st7)
   refine thnF (ag.run _ t7 _ H7 x u _ J7' r7 (step x H7 y7)) fun _ t8 ⟨σ8,H8,J8,hw8,q8⟩=>?_
   refine thnF (at'.run _ t8 σ8 H8 _ J8 q8) fun b t9 ⟨H9,J9,q9⟩=>?_
   have back : ∀ {t : Shared} {H' : Hp},Inv (X.blk t3 G3 sc ce fp) ([] ++ pinsAt fp t7.heap) σ8 H' t → Nx H' →
     ∃ m,m < n ∧ ∃ i H',Inv (X.blk t3 G3 sc ce fp) [] (wipe σ (own.map (·.2))) H' t ∧ tn i t.heap ∧ (∀ b ∈ fp,H' b = none) ∧ W i m H':=fun {t H'} I' nx=>by
    obtain ⟨m',hm,w'⟩:=hNx H' nx
    have pin : ∀ b ∈ fp,∀ o,t7.heap.get? b = some o → t.heap.get? b = some o ∧ H' b = none:=fun b hb o e =>
     let z:=I'.pin (b,o) (List.mem_append_right _ (List.mem_append_right _ (mem_pinsAt hb e)))
     ⟨z.1,z.2.1⟩
    refine ⟨m',hm,i + 1,H',(I'.unpinned (pins:=[])).weak (by rw [← hw8,wipe_length]) (fun j v e=>by rw [← hw8] at e; exact (wipe_some e).1),T.keep _ _ _ st7 fun b hb o e=>(pin b hb o e).1,fun b hb=>?_,w'⟩
    obtain ⟨o,e,-⟩:=T.obj _ _ st7 b hb
    exact (pin b hb o e).2
   cases b with
   | false =>
    simp only [Bool.false_eq_true,if_false] at q9 ⊢
    exact back J9 q9
   | true =>
    simp only [if_true] at q9 ⊢
    refine thnF (ae.run _ t9 σ8 H9 _ J9 q9) fun z t10 ⟨yv,H10,J10,r10,c,d,hD10,can10,nx⟩=>?_
    exact S.add t3 G3 sc ce fp J10 hD10 can10 r10 fun t11 J11=>back J11 nx
 exact PpSet.codeAny_compStart_set loop (T.self X.A 0 _ _ _ st4 loop)
end
end VL
namespace VL
open PySem PySem.Spec PyProof.Rows L2
section
variable {P : Program} {w : World} {A : Around} {E : Value → Shared → Prop} {s : Shared} {a : Addr} {L : List MTup} {es : Array (Int × Value)} {ep : Nat} {t : SetTable}
theorem MSet.typeIs (Z : MSet P w s.heap a L es ep t) : s.TypeIs (.ref a) "set":=by
 obtain ⟨o,go,gx,-⟩:=Z.obj
 exact ⟨o,go,gx.1⟩
theorem m_addCall (Z : MSet P w s.heap a L es ep t) {x : Addr} {k : List Key} (hx : MT P w s.heap k x) (room : A.units + 3 < cLine) (few : L.length + 1 < 64) {Q : Value → Shared → Prop}
  (q : ∀ h' L' es' ep' t' tk,Heap.SameBut a s.heap h' → MSet P w h' a L' es' ep' t' → (k ∈ L.map (·.2) → L' = L) → (k ∉ L.map (·.2) → L'.Perm ((x,k) :: L)) → Q .none { s with heap:=h',toks:=tk }) :
  wpAny (model P w) A (call (.builtin "set.add") [.ref a,.ref x]) Q E s:=by
 refine wpAny_call_entry F.slot_set_add Z.typeIs F.entry_set_add ?_ (F.args_set_add_2 _ _)
 unfold Builtin.«set.add» Builtin.Frozenset.oneOther
 simp only [List.isEmpty_nil,bind_assoc]
 unfold Builtin.Frozenset.addrOf setAdd
 refine wpAny_bind (wpAny_pure ?_)
 try dsimp only
 refine wpAny_bind (wpAny_pure ?_)
 try dsimp only
 refine wpAny_bind ?_
 refine wpAny_holding ?_
 refine wpAny_bind (wpAny_pyHash_tuple (by show A.units + 1 < cLine; omega) hx ?_)
 refine m_add (s:={ s with toks:=s.toks + (k.length + 1) }) Z hx (by show A.units + 1 < cLine; omega) few fun b h' L' es' ep' t' sb r c1 c2=>?_
 show wpAny _ _ (ret Value.none) _ _ _
 exact wpAny_pure ⟨_,rfl,q h' L' es' ep' t' _ sb r c1 c2⟩
end
noncomputable def MSet0 (P : Program) (w : World) (h : Heap) (a : Addr) (L : List MTup) : Prop:=∃ (M : List MTup) (es : Array (Int × Value)) (ep : Nat) (t : SetTable),M.Perm L ∧ (∃ o,h.get? a = some o ∧ o.ExactSet ∧ o.data = .set es ep t) ∧ es.toList = mRows P w M ∧ TabOk t (mHs P w M) ∧ (M.map (·.2)).Nodup ∧
 (w.params.followText "set-order" = true ∨ t.led = true) ∧ M.length * 5 < t.mask * 3 ∧ M.length < 64
noncomputable def MSO (P : Program) (w : World) (a : Addr) (L : List MTup) : HO:=.ext fun h=>MSet0 P w h a L
section
variable {P : Program} {w : World} {h : Heap} {a : Addr} {L : List MTup} {es : Array (Int × Value)} {ep : Nat} {t : SetTable}
theorem MSet.low {M : List MTup} (Z : MSet P w h a M es ep t) (pm : M.Perm L) : MSet0 P w h a L:=⟨M,es,ep,t,pm,Z.obj,Z.rw',Z.tb,Z.dis,Z.le',Z.rm,Z.fw⟩
theorem MSet0.full (Z : MSet0 P w h a L) (tu : ∀ q ∈ L,MT P w h q.2 q.1) : ∃ M es ep t,M.Perm L ∧ MSet P w h a M es ep t:=by
 obtain ⟨M,es,ep,t,pm,z1,z2,z3,z4,z5,z6,z7⟩:=Z
 exact ⟨M,es,ep,t,pm,⟨z1,z2,z3,z4,fun q hq=>tu q (pm.mem_iff.mp hq),z5,z6,z7⟩⟩
theorem MSet0.dist (Z : MSet0 P w h a L) : (L.map (·.2)).Nodup ∧ L.length < 64:=by
 obtain ⟨M,es,ep,t,pm,-,-,-,z4,-,-,z7⟩:=Z
 exact ⟨(pm.map (·.2)).nodup_iff.mp z4,by rw [← pm.length_eq]; exact z7⟩
theorem mso_new {H : Hp} (Z : MSet0 P w h a L) : ObjOk P w H h a (MSO P w a L):=by
 have ⟨_,_,_,_,_,⟨o,go,_⟩,_⟩:=Z
 refine ⟨Z,⟨o,go⟩,fun h1 h2 p k=>?_⟩
 obtain ⟨M,es,ep,t,pm,⟨o,go,r⟩,z⟩:=p
 exact ⟨M,es,ep,t,pm,⟨o,k o go,r⟩,z⟩
end
noncomputable def keyV : Key → V
 | .inl i=>.int i
 | .inr x=>.str x
theorem items_keys {P : Program} {w : World} : ∀ {k : List Key} {us : List Value},Vals (k.map keyV) us → ItemsAre (mixKind P w) k us
 | [],_,.nil=>.nil
 | .inl i :: k,_,.cons r z=>by
  obtain ⟨tk,rfl⟩:=r
  exact .cons (keyIs_int i tk) (items_keys z)
 | .inr x :: k,_,.cons r z=>by
  obtain ⟨tk,rfl⟩:=r
  exact .cons (keyIs_str x tk) (items_keys z)
section
variable {X : Cx} {pins : List (Addr × Obj)} {σ : L2.St} {H : Hp} {s : Shared}
theorem inv_mt (I : Inv X pins σ H s) {b : Addr} {k : List Key} (g : SqT X.K H b (k.map keyV)) : MT X.prog X.w s.heap k b:=by
 obtain ⟨its,r,⟨o,go,gc,n,gd⟩,-⟩:=I.tuple g
 exact ⟨o,its.toArray,n,go,gc,gd,by simpa using items_keys r⟩
/-- a tuple more,in the order of coming -/
noncomputable def hasK (ks : List (List Key)) (k : List Key) : Bool:=ks.any fun j=>decide (j = k)
theorem hasK_iff {ks : List (List Key)} {k : List Key} : hasK ks k = true ↔ k ∈ ks:=by
 unfold hasK
 rw [List.any_eq_true]
 exact ⟨fun ⟨j,h,e⟩=>of_decide_eq_true e ▸ h,fun h=>⟨k,h,decide_eq_true rfl⟩⟩
noncomputable def mPut (L : List MTup) (x : Addr) (k : List Key) : List MTup:=if hasK (L.map (·.2)) k = true then L else L ++ [(x,k)]
noncomputable def canM (K : PySem.W.Frag) : V → Hp → List MTup → List MTup → Prop:=fun y H L M=>∃ x k,y = .ref x ∧ SqT K H x (k.map keyV) ∧ (∀ q ∈ L,SqT K H q.1 (q.2.map keyV)) ∧ L.length + 1 < 64 ∧ M = mPut L x k
noncomputable def skM (X : Cx) (hu : X.A.units + 65 < cLine) : SKd X (List MTup) where
 O:=MSO X.prog X.w
 e0:=[]
 can:=canM X.K
 new:=fun {H h}=>mso_new (MSet.low (mset_new (Heap.get?_push_size _ rfl)) (List.Perm.refl _))
 add:=fun s0 H0 sc env fp {pins σ H s E D L M y v Q} I hD hc r q=>by
  obtain ⟨x,k,rfl,hx,hL,few,rfl⟩:=hc
  cases r
  have Z0 : MSet0 X.prog X.w s.heap D L:=(I.hok D _ hD).1
  obtain ⟨M1,es,ep,t,pm,Z⟩:=Z0.full fun q hq=>inv_mt I (hL q hq)
  refine m_addCall (P:=X.prog) (w:=X.w) (A:=X.A) Z (inv_mt I hx) (by omega) (by rw [pm.length_eq]; exact few) fun h' L' es' ep' t' tk sb R c1 c2=>?_
  have hp : L'.Perm (mPut L x k):=by
   have hm : k ∈ M1.map (·.2) ↔ k ∈ L.map (·.2):=(pm.map (·.2)).mem_iff
   unfold mPut
   split
   ·rename_i z
    rw [c1 (hm.mpr (hasK_iff.mp z))]
    exact pm
   ·rename_i z
    exact (c2 (fun y=>z (hasK_iff.mpr (hm.mp y)))).trans ((pm.cons (x,k)).trans (List.perm_append_singleton _ _).symm)
  have R0:=R.low hp
  have he : ∃ u,h'.get? D = some u:=by
   obtain ⟨o,go,-⟩:=R.obj
   exact ⟨o,go⟩
  exact q _ (I.write (e:=D) (t':=tk) (by rw [hD]; trivial) (.inl rfl) (fun b u hb hu=>(sb.2 b hb).trans hu) he (mso_new R0))
end
noncomputable def keyP : Key → PyData
 | .inl i=>.int i
 | .inr x=>.str x
noncomputable def encM (b : MTup) : PyData:=.tuple (b.2.map keyP)
theorem depth_keys : ∀ k : List Key,PyData.depthAll (k.map keyP) ≤ 1
 | []=>Nat.zero_le _
 | .inl i :: k=>by
  have h:=depth_keys k
  simp only [List.map_cons,keyP,PyData.depthAll,PyData.depth]
  omega
 | .inr i :: k=>by
  have h:=depth_keys k
  simp only [List.map_cons,keyP,PyData.depthAll,PyData.depth]
  omega
theorem reads_items {P : Program} {w : World} {h : Heap} : ∀ {k : List Key} {vs : List Value},ItemsAre (mixKind P w) k vs → ReadsAll h vs (k.map keyP) []
 | _,_,.nil=>.nil
 | k0 :: k,v :: vs,.cons g z=>by
  have q:=reads_items (h:=h) z
  rcases keyIs_shape g with ⟨i,t,rfl,rfl⟩ | ⟨x,t,rfl,rfl⟩
  ·exact ReadsAll.cons (as:=[]) (bs:=[]) (.int i t) q
  ·exact ReadsAll.cons (as:=[]) (bs:=[]) (.str x t) q
theorem mt_reads {P : Program} {w : World} {h : Heap} {k : List Key} {b : Addr} (g : MT P w h k b) : Reads h (.ref b) (.tuple (k.map keyP)) []:=by
 obtain ⟨o,its,n,go,gc,gd,gi⟩:=g
 exact .tuple go gc gd (reads_items gi)
noncomputable abbrev leM : MTup → MTup → Bool:=PySem.W.dataLe false encM
theorem each_refs {h : Heap} : ∀ {M : List MTup},(∀ q ∈ M,Reads h (.ref q.1) (encM q) []) → ∀ a : Addr,PySem.W.EachIs (fun v b=>∃ as,Reads h v (encM b) as ∧ a ∉ as) (M.map fun q=>Value.ref q.1) M
 | [],_,_=>.nil
 | q :: M,g,a=>.cons ⟨[],g q List.mem_cons_self,by simp⟩ (each_refs (fun r hr=>g r (List.mem_cons_of_mem _ hr)) a)
theorem each_is : ∀ M : List MTup,PySem.W.EachIs (fun v b=>v = Value.ref b.1) (M.map fun q=>Value.ref q.1) M
 | []=>.nil
 | _ :: M=>.cons rfl (each_is M)
theorem is_each : ∀ {out : List Value} {M : List MTup},PySem.W.EachIs (fun v b=>v = Value.ref b.1) out M → out = M.map fun q=>Value.ref q.1
 | _,_,.nil=>rfl
 | _,_,.cons e r=>by rw [is_each r,e]; rfl
section
variable {P : Program} {w : World} {A : Around} {E : Value → Shared → Prop} {s : Shared} {a : Addr} {M : List MTup} {es : Array (Int × Value)} {ep : Nat} {t : SetTable}
theorem m_sorted (Z : MSet P w s.heap a M es ep t) (hh : A.handled = none) (hu : A.units + 65 < cLine) (al : ∀ p ∈ M,∀ q ∈ M,PySem.W.alike (encM p) (encM q) = true) (ne : ∀ p ∈ M,p.2 ≠ []) {Q : Value → Shared → Prop}
  (q : ∀ s' p (out : Array Value) (c : Nat) (M1 : List MTup),(∀ b o,s.heap.get? b = some o → s'.heap.get? b = some o) → s'.gens = s.gens → s'.os = s.os → s.heap.objs.size ≤ p → s'.heap.get? p = some (seqObj "list" out c) → M1.Perm M → out.toList = (M1.mergeSort leM).map (fun q=>Value.ref q.1) → Q (.ref p) s') :
  wpAny (model P w) A (call (.builtin "sorted") [.ref a]) Q E s:=by
 obtain ⟨o,go,gx,gd⟩:=Z.obj
 have fw:=Z.fw
 have hsz:=mset_size Z
 refine Calls.call_function_entry kind_sorted plain_sorted entry_sorted (args_sorted1 _) ?_
 unfold Builtin.«sorted»
 refine wpAny_bind (m:=checkCount "sorted" 1 1 _) (wpAny_pure ?_)
 refine wpAny_bind (collect_set (A:=A.in1) hh ⟨o,go,gx.1,gd⟩ (mset_fits Z) (by unfold scanBound; omega) Z.tb.ris Z.le' fun s1 vs k1 hz g1 o1 pm=>?_)
 have eq' : es.toList.map (·.2) = M.map fun q=>Value.ref q.1:=by
  rw [Z.rw']
  unfold mRows
  rw [List.map_map]
  rfl
 rw [eq'] at pm
 obtain ⟨M1,rfl,pM⟩ : ∃ M1 : List MTup,vs = M1.map (fun q=>Value.ref q.1) ∧ M1.Perm M:=by
  have inj : ∀ p ∈ M,∀ q ∈ M,p.1 = q.1 → p = q:=fun p hp q hq e=>by
   have a1:=Z.tu p hp
   have a2:=Z.tu q hq
   rw [e] at a1
   exact Prod.ext e (IsTupleKey.inj a1 a2)
  have some' : ∀ l : List Value,(∀ v ∈ l,∃ q ∈ M,v = Value.ref q.1) → ∃ M1 : List MTup,l = M1.map (fun q=>Value.ref q.1) ∧ ∀ q ∈ M1,q ∈ M:=by
   intro l
   induction l with
   | nil=>exact fun _=>⟨[],rfl,nofun⟩
   | cons v l ih =>
    intro hv
    obtain ⟨q,hq,e⟩:=hv v List.mem_cons_self
    obtain ⟨M1,e1,hs⟩:=ih fun u hu=>hv u (List.mem_cons_of_mem _ hu)
    exact ⟨q :: M1,by rw [List.map_cons,e,e1],fun r hr=>(List.mem_cons.mp hr).elim (fun z=>z ▸ hq) (hs r)⟩
  obtain ⟨M1,e,hs⟩:=some' vs fun v hv=>by
   obtain ⟨q,hq,e⟩:=List.mem_map.mp (pm.mem_iff.mp hv)
   exact ⟨q,hq,e.symm⟩
  refine ⟨M1,e,?_⟩
  rw [e] at pm
  have nd : M.Nodup:=L2.nodup_of_map Z.dis
  have ndr : (M.map fun q=>Value.ref q.1).Nodup:=List.pairwise_map.mpr (List.Pairwise.imp_of_mem (fun {p q} hp hq hne e=>by injection e with e; exact hne (inj p hp q hq e)) nd)
  refine (List.perm_ext_iff_of_nodup (L2.nodup_of_map (pm.nodup_iff.mpr ndr)) nd).mpr fun q=>⟨hs q,fun hq=>?_⟩
  obtain ⟨r,hr,e⟩:=List.mem_map.mp (pm.mem_iff.mpr (List.mem_map.mpr ⟨q,hq,rfl⟩))
  injection e with e
  rw [← inj r (hs r hr) q hq e]
  exact hr
 have ml:=pM.length_eq
 refine wpAny_bind (wpAny_newList ?_ (by rw [List.length_map,sizeLine_eq]; omega))
 obtain ⟨vs,hvs⟩ : ∃ vs,vs = M1.map fun q=>Value.ref q.1:=⟨_,rfl⟩
 rw [← hvs]
 have goL : (s1.heap.push (seqObj "list" vs.toArray 0)).get? s1.heap.objs.size = some (seqObj "list" vs.toArray 0):=Heap.get?_push_size _ rfl
 have rds : ∀ q ∈ M1,Reads (s1.heap.push (seqObj "list" vs.toArray 0)) (.ref q.1) (encM q) []:=fun q hq=>mt_reads (mt_keep (Z.tu q (pM.mem_iff.mp hq)) fun b u e=>Heap.get?_push_of_some _ (k1 b u e))
 refine wpAny_bind (wpAny_holding (PySem.W.list_sort_data (s:={ s1 with heap:=s1.heap.push (seqObj "list" vs.toArray 0) }) (vs:=vs) (bs:=M1) (enc:=encM) (R:=fun v b=>v = Value.ref b.1) goL (by rw [hvs]; exact each_is M1) (by rw [hvs] at rds ⊢; exact each_refs rds _)
  (fun d hd d' hd'=>?_) (.inl fun d hd=>?_) (by rw [sizeLine_eq]; omega) (fun b hb=>?_) fun out ho eo=>?_))
 ·obtain ⟨p,hp,rfl⟩:=List.mem_map.mp hd
  obtain ⟨r,hr,rfl⟩:=List.mem_map.mp hd'
  exact al p (pM.mem_iff.mp hp) r (pM.mem_iff.mp hr)
 ·obtain ⟨p,hp,rfl⟩:=List.mem_map.mp hd
  unfold encM
  cases e : p.2 with
  | nil=>exact absurd e (ne p (pM.mem_iff.mp hp))
  | cons x r=>exact ⟨keyP x,r.map keyP,rfl⟩
 ·have hd:=depth_keys b.2
  show A.units + 1 + 1 + PyData.depth (.tuple (b.2.map keyP)) < cLine
  simp only [PyData.depth]
  omega
 ·have eo':=is_each eo
  obtain ⟨c,hc⟩:=sortedHeap_at (vs:=vs) (out:=out.toArray) goL
  refine wpAny_pure ⟨_,rfl,q _ s1.heap.objs.size out.toArray c M1 (fun b u e=>?_) g1 o1 hz hc pM (by simpa using eo')⟩
  have q1:=k1 b u e
  have lt:=Heap.lt_size q1
  show (sortedHeap (s1.heap.push (seqObj "list" vs.toArray 0)) s1.heap.objs.size vs out.toArray).get? b = some u
  rw [sortedHeap_old (Nat.ne_of_lt lt) (by rw [size_push']; exact Nat.lt_succ_of_lt lt)]
  exact Heap.get?_push_of_some _ q1
end
end VL
namespace VL
open PySem PySem.Spec PyProof.Rows L2
noncomputable def Soft (o : HO) : Prop:=(∃ f,o = .ext f ∧ (∀ c q,o ≠ LamX.CodeO c q) ∧ ∀ (a : Addr) (ob : Obj) (es : Array DictEntry) (ep : Nat),ob.data = .dict es ep → o ≠ PinO a ob) ∨ ∃ S n,o = .set S n
/-- all but one soft thing stays -/
structure But (D : Addr) (H H' : Hp) : Prop where
 oth : ∀ a,a ≠ D → H' a = H a
 was : ∃ o,H D = some o ∧ Soft o
section
variable {K : PySem.W.Frag} {m : List Addr} {H H' : Hp} {D : Addr}
theorem But.at' (b : But D H H') {a : Addr} {o : HO} (h : H a = some o) (n : ¬ Soft o) : H' a = some o:=by
 rw [b.oth a fun e=>?_,h]
 obtain ⟨u,e1,e2⟩:=b.was
 rw [e,e1] at h
 cases h
 exact n e2
theorem ns_l {vs : List V} : ¬ Soft (.lst vs):=by rintro (⟨f,e,_⟩ | ⟨S,n,e⟩) <;> cases e
theorem ns_t {vs : List V} : ¬ Soft (.tup vs):=by rintro (⟨f,e,_⟩ | ⟨S,n,e⟩) <;> cases e
theorem ns_k {vs : List (Key × V)} : ¬ Soft (.dK vs):=by rintro (⟨f,e,_⟩ | ⟨S,n,e⟩) <;> cases e
theorem ns_f {o : Obj} {u : HO} : ¬ Soft (.frz o u):=by rintro (⟨f,e,_⟩ | ⟨S,n,e⟩) <;> cases e
theorem ns_i {C x : Addr} {fs : List (Str × V)} : ¬ Soft (.ins C x fs):=by rintro (⟨f,e,_⟩ | ⟨S,n,e⟩) <;> cases e
theorem ns_x {fs : List (Str × V)} : ¬ Soft (.xd fs):=by rintro (⟨f,e,_⟩ | ⟨S,n,e⟩) <;> cases e
theorem ns_b {ps : Array Value} : ¬ Soft (.tbl ps):=by rintro (⟨f,e,_⟩ | ⟨S,n,e⟩) <;> cases e
theorem ns_c {c : Addr} {q : Str} : ¬ Soft (LamX.CodeO c q):=by
 rintro (⟨f,e,h⟩ | ⟨S,n,e⟩)
 ·exact h.1 c q rfl
 ·cases e
theorem ns_p {w : World} {a : Addr} {o : Obj} {es : List (NestedKey × Addr × V)} (h : KdOk w a o es) : ¬ Soft (PinO a o):=by
 obtain ⟨-,-,xs,-,-,en,ep,-,hd,-⟩:=h
 rintro (⟨f,e,h⟩ | ⟨S,n,e⟩)
 ·exact h.2 a o en ep hd rfl
 ·cases e
mutual
theorem RpD.but (b : But D H H') : ∀ (d : VL.D) (v : V),RpD K m H d v → RpD K m H' d v
 | .non,_,h=>h
 | .bl _,_,h=>h
 | .int _,_,h=>h
 | .str _,_,h=>h
 | .ty _,_,h=>h
 | .obj _,_,h=>h
 | .tup ds,_,⟨a,vs,e,t,r⟩=>⟨a,vs,e,t.elim (fun z=>.inl ⟨z.1,b.at' z.2 ns_t⟩) .inr,RpDs.but b ds vs r⟩
 | .lst ds,_,⟨a,vs,e,t,r⟩=>⟨a,vs,e,⟨t.1,b.at' t.2 ns_l⟩,RpDs.but b ds vs r⟩
 | .dct ks,_,⟨a,vs,e,t,r⟩=>⟨a,vs,e,⟨t.1,t.2.elim (fun z=>.inl (b.at' z ns_k)) fun ⟨o,z⟩=>.inr ⟨o,b.at' z ns_f⟩⟩,RpK.but b ks vs r⟩
 | .ins C fs,_,⟨a,dx,vs,e,t,r⟩=>⟨a,dx,vs,e,⟨t.1,b.at' t.2 ns_i⟩,RpF.but b fs vs r⟩
 | .scr ns,_,⟨a,e,t⟩=>⟨a,e,t.elim (fun ⟨n,o,z⟩=>.inl ⟨n,o,b.at' z ns_f⟩) .inr⟩
 | .kdc w ks,_,⟨a,o,es,e,t,z,r⟩=>⟨a,o,es,e,⟨t.1,b.at' t.2 (ns_p z)⟩,z,RpKd.but b ks es r⟩
 | .exc _ _ _ fs,_,⟨e,.inl h⟩=>⟨e,.inl h⟩
 | .exc _ _ _ fs,_,⟨e,.inr ⟨dd,vs,q,t,r⟩⟩=>⟨e,.inr ⟨dd,vs,q,⟨t.1,b.at' t.2 ns_x⟩,RpF.but b fs vs r⟩⟩
theorem RpDs.but (b : But D H H') : ∀ (ds : List VL.D) (vs : List V),RpDs K m H ds vs → RpDs K m H' ds vs
 | [],_,h=>h
 | d :: ds,_,⟨v,r,e,h1,h2⟩=>⟨v,r,e,RpD.but b d v h1,RpDs.but b ds r h2⟩
theorem RpK.but (b : But D H H') : ∀ (ds : List (Key × VL.D)) (vs : List (Key × V)),RpK K m H ds vs → RpK K m H' ds vs
 | [],_,h=>h
 | (_,d) :: ds,_,⟨v,r,e,h1,h2⟩=>⟨v,r,e,RpD.but b d v h1,RpK.but b ds r h2⟩
theorem RpKd.but (b : But D H H') : ∀ (ds : List (VL.D × VL.D)) (vs : List (NestedKey × Addr × V)),RpKd K m H ds vs → RpKd K m H' ds vs
 | [],_,h=>h
 | (k,d) :: ds,_,⟨n,c,v,r,e,q,h0,h1,h2⟩=>⟨n,c,v,r,e,q,RpD.but b k _ h0,RpD.but b d v h1,RpKd.but b ds r h2⟩
theorem RpF.but (b : But D H H') : ∀ (ds : List (Str × VL.D)) (vs : List (Str × V)),RpF K m H ds vs → RpF K m H' ds vs
 | [],_,h=>h
 | (_,d) :: ds,_,⟨v,r,e,h1,h2⟩=>⟨v,r,e,RpD.but b d v h1,RpF.but b ds r h2⟩
end
theorem RpU.but (b : But D H H') : ∀ (u : U) (v : V),RpU K m H u v → RpU K m H' u v
 | .d x,v,h=>RpD.but b x v h
 | .ref _,_,h=>h
theorem RpUs.but (b : But D H H') : ∀ (us : List U) (vs : List V),RpUs K m H us vs → RpUs K m H' us vs
 | [],_,h=>h
 | u :: us,_,⟨v,r,e,h1,h2⟩=>⟨v,r,e,RpU.but b u v h1,RpUs.but b us r h2⟩
theorem RpUK.but (b : But D H H') : ∀ (us : List (Key × U)) (vs : List (Key × V)),RpUK K m H us vs → RpUK K m H' us vs
 | [],_,h=>h
 | (_,u) :: us,_,⟨v,r,e,h1,h2⟩=>⟨v,r,e,RpU.but b u v h1,RpUK.but b us r h2⟩
theorem RpUKd.but (b : But D H H') : ∀ (us : List (VL.D × U)) (vs : List (NestedKey × Addr × V)),RpUKd K m H us vs → RpUKd K m H' us vs
 | [],_,h=>h
 | (k,u) :: us,_,⟨n,c,v,r,e,q,h0,h1,h2⟩=>⟨n,c,v,r,e,q,RpD.but b k _ h0,RpU.but b u v h1,RpUKd.but b us r h2⟩
theorem RpUF.but (b : But D H H') : ∀ (us : List (Str × U)) (vs : List (Str × V)),RpUF K m H us vs → RpUF K m H' us vs
 | [],_,h=>h
 | (_,u) :: us,_,⟨v,r,e,h1,h2⟩=>⟨v,r,e,RpU.but b u v h1,RpUF.but b us r h2⟩
theorem RpO.but (b : But D H H') {x : Addr} : ∀ (o : O) (ho : HO),RpO K m H x o ho → RpO K m H' x o ho ∧ ¬ Soft ho
 | .lst us,_,⟨vs,e,r⟩=>⟨⟨vs,e,RpUs.but b us vs r⟩,e ▸ ns_l⟩
 | .tup us,_,⟨vs,e,r⟩=>⟨⟨vs,e,RpUs.but b us vs r⟩,e ▸ ns_t⟩
 | .dct us,_,⟨vs,e,r⟩=>⟨⟨vs,e,RpUK.but b us vs r⟩,e ▸ ns_k⟩
 | .lck us,_,⟨ob,vs,e,r⟩=>⟨⟨ob,vs,e,RpUK.but b us vs r⟩,e ▸ ns_f⟩
 | .kdc w us,_,⟨ob,vs,e,z,r⟩=>⟨⟨ob,vs,e,z,RpUKd.but b us vs r⟩,e ▸ ns_p z⟩
 | .ins C us,_,⟨dx,vs,e,r⟩=>⟨⟨dx,vs,e,RpUF.but b us vs r⟩,e ▸ ns_i⟩
 | .tbl P q,_,⟨e,ps,e1,e2,h⟩=>⟨⟨e,ps,e1,e2,fun pos cv hc=>let ⟨c,g1,g2,g3⟩:=h pos cv hc; ⟨c,g1,g2,b.at' g3 ns_c⟩⟩,e1 ▸ ns_b⟩
theorem Rep.but {st : Store} (b : But D H H') (r : Rep K m st H) : Rep K m st H':=⟨r.len,r.nd,fun n o a h1 h2=>by
 obtain ⟨ho,e,q⟩:=r.cell n o a h1 h2
 obtain ⟨q1,q2⟩:=RpO.but b o ho q
 exact ⟨ho,b.at' e q2,q1⟩⟩
theorem RpEnv.but (b : But D H H') {env : VEnv} {σ : L2.St} (h : RpEnv K m H env σ) : RpEnv K m H' env σ :=
 ⟨h.len,fun i u hi=>let ⟨v,h1,h2⟩:=h.at' i u hi; ⟨v,h1,RpU.but b u v h2⟩⟩
theorem but_upd {o p : HO} (h : H D = some o) (s : Soft o) : But D H (upd H D p):=⟨fun a n=>upd_ne n,o,h,s⟩
end
/-- a kind of sets,as the mirrors see it -/
structure VSet (X : Cx) (ι : Type) extends SKd X ι where
 okd : List D → D → Bool
 soft : ∀ D i,Soft (O D i)
 R : List Addr → Hp → ι → List D → Prop
 r0 : ∀ m H,R m H e0 []
 rext : ∀ {m m' H H' i acc},Stay m H m' H' → R m H i acc → R m' H' i acc
 rbut : ∀ {D m H H' i acc},But D H H' → R m H i acc → R m H' i acc
 put : ∀ {m H i acc d y},R m H i acc → okd acc d = true → RpD X.K m H d y → ∃ i2,can y H i i2 ∧ R m H i2 (acc ++ [d])
noncomputable def sgStep (okd : List D → D → Bool) (tg : U → G) (tt : F Bool) (fe : F U) (env0 : VEnv) (u : U) (acc : List D) : Store → R (List D):=fun st=>match tg u env0 st with
 | .ok env1 .nx st1=>match tt env1 st1 with
  | .ok true st2=>match fe env1 st2 with
   | .ok (.d x) st3=>if okd acc x = true then .ok (acc ++ [x]) st3 else .bad
   | _=>.bad
  | .ok false st2=>.ok acc st2
  | _=>.bad
 | _=>.bad
noncomputable def sgL (okd : List D → D → Bool) (tg : U → G) (tt : F Bool) (fe : F U) (env0 : VEnv) : List U → List D → Store → R (List D)
 | [],acc=>fun st=>.ok acc st
 | u :: us,acc=>fun st=>match sgStep okd tg tt fe env0 u acc st with
  | .ok acc1 st1=>sgL okd tg tt fe env0 us acc1 st1
  | _=>.bad
/-- two fors -/
noncomputable def sgL2 (okd : List D → D → Bool) (tg : U → G) (tt : F Bool) (fj : F U) (gj : U → G) (tj : F Bool) (fe : F U) (env0 : VEnv) (ws : List Nat) : List U → List D → Store → R (List D)
 | [],acc=>fun st=>.ok acc st
 | u :: us,acc=>fun st=>match tg u env0 st with
  | .ok env1 .nx st1=>match tt env1 st1 with
   | .ok true st2=>match fj env1 st2 with
    | .ok (.d (.lst xs)) st3=>match sgL okd gj tj fe (wipeE env1 ws) (xs.map U.d) acc st3 with
     | .ok acc1 st4=>sgL2 okd tg tt fj gj tj fe env0 ws us acc1 st4
     | _=>.bad
    | _=>.bad
   | .ok false st2=>sgL2 okd tg tt fj gj tj fe env0 ws us acc st2
   | _=>.bad
  | _=>.bad
noncomputable def sgEnd (k : Nat) : R (List D) → R (List D)
 | .ok acc st=>match cutS k st with
  | some s=>.ok acc s
  | none=>.bad
 | _=>.bad
noncomputable def fSg (okd : List D → D → Bool) (fi : F Itb) (tg : U → G) (tt : F Bool) (fe : F U) (vs : List Nat) : F (List D):=bnd fi fun t=>fun env st=>match t with
 | .lst us=>sgEnd st.length (sgL okd tg tt fe (wipeE env vs) us [] st)
 | _=>.bad
noncomputable def fSg2 (okd : List D → D → Bool) (fi : F Itb) (tg : U → G) (tt : F Bool) (fj : F U) (gj : U → G) (tj : F Bool) (fe : F U) (vs ws : List Nat) : F (List D):=bnd fi fun t=>fun env st=>match t with
 | .lst us=>sgEnd st.length (sgL2 okd tg tt fj gj tj fe (wipeE env vs) ws us [] st)
 | _=>.bad
/-- what a set comprehension hands on -/
noncomputable def tSet {X : Cx} {ι : Type} (S : VSet X ι) (W : WX) (f : F (List D)) : TE:=fun σ H Q=>∃ m env st,Rep X.K m st H ∧ RpEnv X.K m H env σ ∧ PO' X.K m H (fun m' H' acc v=>∃ D i,v = V.ref D ∧ H' D = some (S.O D i) ∧ D ∉ m' ∧ S.R m' H' i acc) Q (fun c d H'=>W c d σ H') (f env st)
section
variable {X : Cx} {ι : Type} {S : VSet X ι} {W : WX} {elt tg iter : Expr} {ifs : List Expr} {scope : Scope} {own : List (Str × Nat)} {pos : Pos} {is : List Nat} {g : U → G} {gt : F Bool} {fe : F U} {fi : F Itb}
/-- what holds between two turns -/
structure SgI (S : VSet X ι) (m1 : List Addr) (H1 : Hp) (D0 : Addr) (m' : List Addr) (st' : Store) (H' : Hp) (acc : List D) : Prop where
 rep : Rep X.K m' st' H'
 ext : Ext m1 H1 m' H'
 out : D0 ∉ m'
 at' : ∃ i,H' D0 = some (S.O D0 i) ∧ S.R m' H' i acc
theorem soft_nk {o : HO} (h : Soft o) : (∀ kvs,o ≠ .dK kvs) ∧ ∀ ps,o ≠ .tbl ps:=⟨fun k e=>ns_k (e ▸ h),fun k e=>ns_b (e ▸ h)⟩
theorem SgI.go {m1 m' m2 : List Addr} {H1 H' H2 : Hp} {D0 : Addr} {st' st2 : Store} {acc : List D} (I : SgI S m1 H1 D0 m' st' H' acc) (r : Rep X.K m2 st2 H2) (x : Ext m' H' m2 H2) : SgI S m1 H1 D0 m2 st2 H2 acc:=by
 obtain ⟨i,e,q⟩:=I.at'
 have s:=soft_nk (S.soft D0 i)
 obtain ⟨e2,n2⟩:=x.toStay.ex D0 _ I.out e s.1 s.2
 exact ⟨r,I.ext.trans x,n2,i,e2,S.rext x.toStay q⟩
theorem ext_upd {m1 m' : List Addr} {H1 H' : Hp} {D0 : Addr} {p : HO} (x : Ext m1 H1 m' H') (h0 : H1 D0 = none) : Ext m1 H1 m' (upd H' D0 p) :=
 ⟨x.pre,fun a o n h nk nt=>by
  obtain ⟨e,q⟩:=x.toStay.ex a o n h nk nt
  exact ⟨by rw [upd_ne (ne_of_none h h0)]; exact e,q⟩,fun a ks n h=>by
  obtain ⟨e,q⟩:=x.toStay.dk a ks n h
  have ne : a ≠ D0:=fun z=>by subst z; rcases h with h | ⟨o,h⟩ <;> rw [h0] at h <;> cases h
  exact ⟨e.elim (fun z=>.inl (by rw [upd_ne ne]; exact z)) fun ⟨o,z⟩=>.inr ⟨o,by rw [upd_ne ne]; exact z⟩,q⟩,fun a o u h=>by
  rw [upd_ne (ne_of_none h h0)]
  exact x.toStay.fz a o u h⟩
/-- one turn -/
theorem sg_turn {σ : L2.St} {env : VEnv} {m1 m' : List Addr} {H1 H'' : Hp} {st' : Store} {u : U} {x : V} {D0 : Addr} {Nx : Hp → Prop} {vs is : List Nat} {acc : List D} {ok' : List D → Store → Prop} (C : List Addr → Hp → Prop) (cx : ∀ {m m' H H'},Ext m H m' H' → C m H → C m' H') (cb : ∀ {D m H H'},But D H H' → C m H → C m H') (c0 : C m' H'')
  (hvs : ∀ i ∈ is,i ∈ vs) (I : SgI S m1 H1 D0 m' st' H'' acc) (h0 : H1 D0 = none) (re : RpEnv X.K m' H'' (wipeE env vs) (L2.wipe σ vs)) (ru : RpU X.K m' H'' u x)
  (p : ∃ acc1 st1,sgStep S.okd g gt fe (wipeE env vs) u acc st' = .ok acc1 st1 ∧ ok' acc1 st1)
  (hN : ∀ m2 st2 H2 acc2,SgI S m1 H1 D0 m2 st2 H2 acc2 → RpEnv X.K m2 H2 (wipeE env vs) (L2.wipe σ vs) → C m2 H2 → ok' acc2 st2 → Nx H2) :
  tTg X.K is g x (L2.wipe σ vs) H'' fun σ2 H2=>L2.wipe σ2 vs = L2.wipe σ vs ∧ tFB X.K W0 gt σ2 H2 fun b H3 =>
   if b = true then tF X.K W0 fe σ2 H3 fun y H4=>∃ c d,H4 D0 = some (S.O D0 c) ∧ S.can y H4 c d ∧ Nx (upd H4 D0 (S.O D0 d)) else Nx H3:=by
 obtain ⟨acc1,stE,p,pk⟩:=p
 refine ⟨m',_,st',u,I.rep,re,ru,?_⟩
 unfold sgStep at p
 split
 ·rename_i env1 st1 e1
  simp only [e1] at p
  intro σ2 m2 H2 re2 r2 x2 o2
  refine ⟨VL.wipe_out hvs o2,m2,env1,st1,r2,re2,?_⟩
  cases e2 : gt env1 st1 with
  | bad=>simp only [e2] at p; cases p
  | ex c fs st2=>simp only [e2] at p; cases p
  | ok b st2 =>
   simp only [e2] at p
   intro b' m3 H3 hb r3 x3
   subst hb
   cases b' with
   | false =>
    simp only at p
    cases p
    exact iteF (hN m3 _ H3 _ ((I.go r2 x2).go r3 x3) (re.ext (x2.trans x3)) (cx (x2.trans x3) c0) pk)
   | true =>
    simp only at p
    refine iteT ⟨m3,env1,st2,r3,re2.ext x3,?_⟩
    cases e3 : fe env1 st2 with
    | bad=>simp only [e3] at p; cases p
    | ex c fs st3=>simp only [e3] at p; cases p
    | ok z st3 =>
     simp only [e3] at p
     cases z with
     | ref n=>cases p
     | d z =>
      simp only at p
      split at p
      ·rename_i hk
       cases p
       intro y m4 H4 ry r4 x4
       have I4:=((I.go r2 x2).go r3 x3).go r4 x4
       obtain ⟨i,ei,qi⟩:=I4.at'
       obtain ⟨i2,c2,q2⟩:=S.put qi hk ry
       have b4 : But D0 H4 (upd H4 D0 (S.O D0 i2)):=but_upd ei (S.soft D0 i)
       exact ⟨i,i2,ei,c2,hN m4 _ _ _ ⟨r4.but b4,ext_upd I4.ext h0,I4.out,i2,upd_same,S.rbut b4 q2⟩ ((re.ext (x2.trans (x3.trans x4))).but b4) (cb b4 (cx (x2.trans (x3.trans x4)) c0)) pk⟩
      ·cases p
 ·rename_i hn
  split at p
  ·rename_i env1 st1 e1
   exact (hn env1 st1 e1).elim
  ·cases p
theorem sg_fin {m1 m' : List Addr} {H1 H' : Hp} {st' : Store} {D0 : Addr} {Q : VK} {E : XK} {acc : List D} (I : SgI S m1 H1 D0 m' st' H' acc)
  (p : PO' X.K m1 H1 (fun m' H' acc v=>∃ D i,v = V.ref D ∧ H' D = some (S.O D i) ∧ D ∉ m' ∧ S.R m' H' i acc) Q E (sgEnd m1.length (.ok acc st'))) : Q (.ref D0) H':=by
 unfold sgEnd at p
 simp only at p
 split at p
 ·rename_i s hs
  obtain ⟨i,e,q⟩:=I.at'
  exact p _ (m'.take m1.length) H' ⟨D0,i,rfl,e,fun z=>I.out (List.mem_of_mem_take z),S.rext ⟨fun a o n e _ _=>⟨e,fun z=>n (List.mem_of_mem_take z)⟩,fun a kvs n e=>⟨e,fun z=>n (List.mem_of_mem_take z)⟩,fun _ _ _ e=>e⟩ q⟩ (I.rep.cut hs) (ext_cut I.ext (Nat.le_refl _))
 ·exact p.elim
theorem ds_get {K : PySem.W.Frag} {m : List Addr} {H : Hp} : ∀ {ds : List D} {vs : List V} {j : Nat} {d : D},RpDs K m H ds vs → ds[j]? = some d → ∃ v,vs[j]? = some v ∧ RpD K m H d v
 | [],_,_,_,_,e=>by simp at e
 | d0 :: ds,_,0,d,⟨v,r,e,h1,h2⟩,q=>by
  rw [List.getElem?_cons_zero] at q
  cases q
  exact ⟨v,by rw [e]; rfl,h1⟩
 | d0 :: ds,_,j + 1,d,⟨v,r,e,h1,h2⟩,q=>by
  rw [List.getElem?_cons_succ] at q
  obtain ⟨v',e',h'⟩:=ds_get h2 q
  exact ⟨v',by rw [e,List.getElem?_cons_succ]; exact e',h'⟩
theorem sg_start {m1 : List Addr} {H1 : Hp} {D0 : Addr} {st0 : Store} (h : H1 D0 = none) (r : Rep X.K m1 st0 H1) : SgI S m1 H1 D0 m1 st0 (upd H1 D0 (S.O D0 S.e0)) [] :=
 ⟨r.new h _,ext_new r h _,r.fresh h,S.e0,upd_same,S.r0 _ _⟩
theorem t_sg {vs : List Nat} (hvs : ∀ i ∈ is,i ∈ vs) {σ : L2.St} {H : Hp} {Q : VK} (q : tSet S W (fSg S.okd fi g gt fe vs) σ H Q) :
  tSg S.toSKd (tI X.K W fi) (tTg X.K is g) (tFB X.K W0 gt) (tF X.K W0 fe) vs σ H Q:=by
 obtain ⟨m,env,st,r,re,p⟩:=q
 refine ⟨m,env,st,r,re,?_⟩
 unfold fSg bnd at p
 cases e : fi env st with
 | bad=>rw [e] at p; exact p.elim
 | ex c fs st1=>rw [e] at p; exact p
 | ok t st1 =>
  rw [e] at p
  intro t' m0 H0 ht r0 e0 m1 st1' he r1 e1 J hJ D0 hD0
  subst ht
  cases he
  have re1:=re.ext e1
  have p1:=PO'.from e1 p
  cases t' with
  | cell n f=>exact p1.elim
  | lst us =>
   simp only [← r1.len] at p1
   obtain ⟨go,stop,yld⟩:=hJ
   refine ⟨fun i n H=>∃ m' st' acc,SgI S m1 H0 D0 m' st' H acc ∧ RpEnv X.K m' H (wipeE env vs) (L2.wipe σ vs) ∧ n = us.length - i ∧ i ≤ us.length ∧ PO' X.K m1 H0 (fun m' H' acc v=>∃ D i,v = V.ref D ∧ H' D = some (S.O D i) ∧ D ∉ m' ∧ S.R m' H' i acc) Q (fun c d H'=>W c d σ H') (sgEnd m1.length (sgL S.okd g gt fe (wipeE env vs) (us.drop i) acc st')),
    ⟨us.length,m1,st1,[],sg_start hD0 r1,(re1.ext (ext_new r1 hD0 _)).wipe vs,by simp,Nat.zero_le _,p1⟩,?_⟩
   rintro i n H' ⟨m',st',acc,I,re',rfl,hi,p'⟩
   by_cases hlt : i < us.length
   ·have hu : us[i]? = some us[i]:=List.getElem?_eq_getElem hlt
    rw [List.drop_eq_getElem_cons hlt] at p'
    refine .inr ⟨go i m' st' H' hlt I.rep I.ext,fun H2=>∃ m2 st2 acc2,SgI S m1 H0 D0 m2 st2 H2 acc2 ∧ RpEnv X.K m2 H2 (wipeE env vs) (L2.wipe σ vs) ∧ PO' X.K m1 H0 (fun m' H' acc v=>∃ D i,v = V.ref D ∧ H' D = some (S.O D i) ∧ D ∉ m' ∧ S.R m' H' i acc) Q (fun c d H'=>W c d σ H') (sgEnd m1.length (sgL S.okd g gt fe (wipeE env vs) (us.drop (i + 1)) acc2 st2)),?_,?_⟩
    ·rintro H2 ⟨m2,st2,acc2,I2,re2,p2⟩
     exact ⟨us.length - (i + 1),by omega,m2,st2,acc2,I2,re2,rfl,hlt,p2⟩
    ·intro x H'' hy
     obtain ⟨r2,e2,ru⟩:=yld i _ m' st' H' x H'' hu I.rep I.ext hy
     unfold sgL at p'
     refine sg_turn (ok':=fun acc2 st2=>PO' X.K m1 H0 (fun m' H' acc v=>∃ D i,v = V.ref D ∧ H' D = some (S.O D i) ∧ D ∉ m' ∧ S.R m' H' i acc) Q (fun c d H'=>W c d σ H') (sgEnd m1.length (sgL S.okd g gt fe (wipeE env vs) (us.drop (i + 1)) acc2 st2))) (fun _ _=>True) (fun _ _=>trivial) (fun _ _=>trivial) trivial hvs (I.go r2 e2) hD0 (re'.ext e2) ru ?_ fun m2 st2 H2 acc2 I2 re2 _ p2=>⟨m2,st2,acc2,I2,re2,p2⟩
     cases es : sgStep S.okd g gt fe (wipeE env vs) us[i] acc st' with
     | bad=>simp only [es] at p'; exact p'.elim
     | ex c fs st3=>simp only [es] at p'; exact p'.elim
     | ok acc1 st3=>simp only [es] at p'; exact ⟨acc1,st3,rfl,p'⟩
   ·have : i = us.length:=by omega
    subst this
    rw [List.drop_length] at p'
    exact .inl ⟨stop m' st' H' I.rep I.ext,sg_fin I p'⟩
variable {tj ij : Expr} {cj : List Expr} {js : List Nat} {gj : U → G} {gtj : F Bool} {fj : F U}
theorem t_sg2 {vs ws : List Nat} (hvs : ∀ i ∈ is,i ∈ vs) (hws : ∀ i ∈ js,i ∈ ws) {σ : L2.St} {H : Hp} {Q : VK} (q : tSet S W (fSg2 S.okd fi g gt fj gj gtj fe vs ws) σ H Q) :
  tSg2 S.toSKd (tI X.K W fi) (tTg X.K is g) (tFB X.K W0 gt) (iList X.K (tF X.K W0 fj)) (tTg X.K js gj) (tFB X.K W0 gtj) (tF X.K W0 fe) vs ws σ H Q:=by
 obtain ⟨m,env,st,r,re,p⟩:=q
 refine ⟨m,env,st,r,re,?_⟩
 unfold fSg2 bnd at p
 cases e : fi env st with
 | bad=>rw [e] at p; exact p.elim
 | ex c fs st1=>rw [e] at p; exact p
 | ok t st1 =>
  rw [e] at p
  intro t' m0 H0 ht r0 e0 m1 st1' he r1 e1 J hJ D0 hD0
  subst ht
  cases he
  have re1:=re.ext e1
  have p1:=PO'.from e1 p
  cases t' with
  | cell n f=>exact p1.elim
  | lst us =>
   simp only [← r1.len] at p1
   obtain ⟨go,stop,yld⟩:=hJ
   obtain ⟨Pk,hPk⟩ : ∃ Pk : R (List D) → Prop,Pk = fun rr=>PO' X.K m1 H0 (fun m' H' acc v=>∃ D i,v = V.ref D ∧ H' D = some (S.O D i) ∧ D ∉ m' ∧ S.R m' H' i acc) Q (fun c d H'=>W c d σ H') (sgEnd m1.length rr):=⟨_,rfl⟩
   have hbad : ∀ {rr},Pk rr → ∃ acc st,rr = .ok acc st:=fun {rr} h=>by
    rw [hPk] at h
    cases rr with
    | ok a s=>exact ⟨a,s,rfl⟩
    | ex c fs s=>exact h.elim
    | bad=>exact h.elim
   have fin : ∀ {m' st' H' acc},SgI S m1 H0 D0 m' st' H' acc → Pk (.ok acc st') → Q (.ref D0) H':=fun I h=>by rw [hPk] at h; exact sg_fin I h
   have p1 : Pk (sgL2 S.okd g gt fj gj gtj fe (wipeE env vs) ws us [] st1):=by rw [hPk]; exact p1
   refine ⟨fun i n H=>∃ m' st' acc,SgI S m1 H0 D0 m' st' H acc ∧ RpEnv X.K m' H (wipeE env vs) (L2.wipe σ vs) ∧ n = us.length - i ∧ i ≤ us.length ∧ Pk (sgL2 S.okd g gt fj gj gtj fe (wipeE env vs) ws (us.drop i) acc st'),
    ⟨us.length,m1,st1,[],sg_start hD0 r1,(re1.ext (ext_new r1 hD0 _)).wipe vs,by simp,Nat.zero_le _,p1⟩,?_⟩
   rintro i n H' ⟨m',st',acc,I,re',rfl,hi,p'⟩
   by_cases hlt : i < us.length
   ·have hu : us[i]? = some us[i]:=List.getElem?_eq_getElem hlt
    rw [List.drop_eq_getElem_cons hlt] at p'
    refine .inr ⟨go i m' st' H' hlt I.rep I.ext,fun H2=>∃ m2 st2 acc2,SgI S m1 H0 D0 m2 st2 H2 acc2 ∧ RpEnv X.K m2 H2 (wipeE env vs) (L2.wipe σ vs) ∧ Pk (sgL2 S.okd g gt fj gj gtj fe (wipeE env vs) ws (us.drop (i + 1)) acc2 st2),?_,?_⟩
    ·rintro H2 ⟨m2,st2,acc2,I2,re2,p2⟩
     exact ⟨us.length - (i + 1),by omega,m2,st2,acc2,I2,re2,rfl,hlt,p2⟩
    ·intro x H'' hy
     obtain ⟨r2,e2,ru⟩:=yld i _ m' st' H' x H'' hu I.rep I.ext hy
     have I2:=I.go r2 e2
     have re2:=re'.ext e2
     unfold sgL2 at p'
     refine ⟨m',_,st',us[i],r2,re2,ru,?_⟩
     split
     ·rename_i env1 sta ea
      simp only [ea] at p'
      intro σ3 m3 H3 re3 r3 x3 o3
      refine ⟨VL.wipe_out hvs o3,m3,env1,sta,r3,re3,?_⟩
      cases eb : gt env1 sta with
      | bad=>simp only [eb] at p'; obtain ⟨_,_,z⟩:=hbad p'; cases z
      | ex c fs st2=>simp only [eb] at p'; obtain ⟨_,_,z⟩:=hbad p'; cases z
      | ok b stb =>
       simp only [eb] at p'
       intro b' m4 H4 hb r4 x4
       subst hb
       have I4:=(I2.go r3 x3).go r4 x4
       have re4:=re2.ext (x3.trans x4)
       cases b' with
       | false=>exact iteF ⟨m4,stb,acc,I4,re4,p'⟩
       | true =>
        simp only at p'
        refine iteT ⟨m4,env1,stb,r4,re3.ext x4,?_⟩
        cases ec : fj env1 stb with
        | bad=>simp only [ec] at p'; obtain ⟨_,_,z⟩:=hbad p'; cases z
        | ex c fs st2=>simp only [ec] at p'; obtain ⟨_,_,z⟩:=hbad p'; cases z
        | ok lj stc =>
         simp only [ec] at p'
         intro vj m6 H6 hj r6 x6
         match lj,hj,p' with
         | .d (.lst xs),hj,p' =>
          obtain ⟨aj,ys,rfl,hls,hds⟩:=hj
          refine ⟨aj,rfl,⟨ys,hls.sq⟩,?_⟩
          have hlen : ys.length = xs.length:=hds.length
          have I6:=I4.go r6 x6
          obtain ⟨Pj,hPj⟩ : ∃ Pj : R (List D) → Prop,Pj = fun rr=>Pk (match rr with
           | .ok acc1 st4=>sgL2 S.okd g gt fj gj gtj fe (wipeE env vs) ws (us.drop (i + 1)) acc1 st4
           | _=>.bad):=⟨_,rfl⟩
          have hj : ∀ {rr},Pj rr → ∃ acc st,rr = .ok acc st:=fun {rr} h=>by
           rw [hPj] at h
           cases rr with
           | ok a s=>exact ⟨a,s,rfl⟩
           | ex c fs s=>obtain ⟨_,_,z⟩:=hbad h; cases z
           | bad=>obtain ⟨_,_,z⟩:=hbad h; cases z
          have pj : Pj (sgL S.okd gj gtj fe (wipeE env1 ws) (xs.map U.d) acc stc):=by rw [hPj]; exact p'
          obtain ⟨C,hC⟩ : ∃ C : List Addr → Hp → Prop,C = fun m H=>RpEnv X.K m H (wipeE env vs) (L2.wipe σ vs) ∧ LsV m H aj ys ∧ RpDs X.K m H xs ys:=⟨_,rfl⟩
          have cx : ∀ {m m' H H'},Ext m H m' H' → C m H → C m' H':=fun {m m' H H'} x h=>by
           rw [hC] at h ⊢
           exact ⟨h.1.ext x,h.2.1.stay x.toStay,h.2.2.ext x⟩
          have cb : ∀ {D m H H'},But D H H' → C m H → C m H':=fun {D m H H'} b h=>by
           rw [hC] at h ⊢
           exact ⟨h.1.but b,⟨h.2.1.1,b.at' h.2.1.2 ns_l⟩,RpDs.but b _ _ h.2.2⟩
          have c6 : C m6 H6:=by rw [hC]; exact ⟨re4.ext x6,hls,hds⟩
          refine ⟨fun j k H=>∃ m' st' acc,SgI S m1 H0 D0 m' st' H acc ∧ RpEnv X.K m' H (wipeE env1 ws) (L2.wipe σ3 ws) ∧ C m' H ∧ k = xs.length - j ∧ j ≤ xs.length ∧ Pj (sgL S.okd gj gtj fe (wipeE env1 ws) ((xs.map U.d).drop j) acc st'),
           ⟨xs.length,m6,stc,acc,I6,((re3.ext x4).ext x6).wipe ws,c6,by simp,Nat.zero_le _,pj⟩,?_⟩
          rintro j k H7 ⟨m7,st7,acc7,I7,rj7,c7,rfl,hj7,p7⟩
          have c7':=c7
          rw [hC] at c7'
          obtain ⟨re7,hls7,hds7⟩:=c7'
          by_cases hlj : j < xs.length
          ·have hxu : j < (xs.map U.d).length:=by rw [List.length_map]; exact hlj
           rw [List.drop_eq_getElem_cons hxu] at p7
           refine .inr ⟨⟨ys,ys[j]'(by rw [hlen]; exact hlj),hls7.sq,List.getElem?_eq_getElem _⟩,fun H2=>∃ m2 st2 acc2,SgI S m1 H0 D0 m2 st2 H2 acc2 ∧ RpEnv X.K m2 H2 (wipeE env1 ws) (L2.wipe σ3 ws) ∧ C m2 H2 ∧ Pj (sgL S.okd gj gtj fe (wipeE env1 ws) ((xs.map U.d).drop (j + 1)) acc2 st2),?_,?_⟩
           ·rintro H2 ⟨m2,st2,acc2,I2',rj2,c2,p2⟩
            exact ⟨xs.length - (j + 1),by omega,m2,st2,acc2,I2',rj2,c2,rfl,hlj,p2⟩
           ·rintro x H8 ⟨rfl,hx⟩
            obtain ⟨v,ev,rv⟩:=ds_get hds7 (List.getElem?_eq_getElem hlj)
            have exv:=hx ys hls7.sq
            rw [ev] at exv
            cases exv
            unfold sgL at p7
            refine sg_turn (u:=.d xs[j]) (ok':=fun acc2 st2=>Pj (sgL S.okd gj gtj fe (wipeE env1 ws) ((xs.map U.d).drop (j + 1)) acc2 st2)) C cx cb c7 hws I7 hD0 rj7 rv ?_ fun m2 st2 H2 acc2 I2' rj2 c2 p2=>⟨m2,st2,acc2,I2',rj2,c2,p2⟩
            have eu : (xs.map U.d)[j] = U.d xs[j]:=List.getElem_map ..
            rw [eu] at p7
            obtain ⟨_,_,z⟩:=hj p7
            cases es : sgStep S.okd gj gtj fe (wipeE env1 ws) (U.d xs[j]) acc7 st7 with
            | bad=>simp only [es] at z; cases z
            | ex c fs st3=>simp only [es] at z; cases z
            | ok acc1 st3=>simp only [es] at p7; exact ⟨acc1,st3,rfl,p7⟩
          ·have : j = xs.length:=by omega
           subst this
           rw [List.drop_eq_nil_of_le (by rw [List.length_map]; exact Nat.le_refl _)] at p7
           refine .inl ⟨⟨ys,hls7.sq,by rw [hlen]; exact Nat.le_refl _⟩,m7,st7,acc7,I7,re7,?_⟩
           rw [hPj] at p7
           exact p7
         | .ref _,_,p'=>obtain ⟨_,_,z⟩:=hbad p'; cases z
         | .d .non,_,p'=>obtain ⟨_,_,z⟩:=hbad p'; cases z
         | .d (.bl _),_,p'=>obtain ⟨_,_,z⟩:=hbad p'; cases z
         | .d (.int _),_,p'=>obtain ⟨_,_,z⟩:=hbad p'; cases z
         | .d (.str _),_,p'=>obtain ⟨_,_,z⟩:=hbad p'; cases z
         | .d (.ty _),_,p'=>obtain ⟨_,_,z⟩:=hbad p'; cases z
         | .d (.obj _),_,p'=>obtain ⟨_,_,z⟩:=hbad p'; cases z
         | .d (.tup _),_,p'=>obtain ⟨_,_,z⟩:=hbad p'; cases z
         | .d (.dct _),_,p'=>obtain ⟨_,_,z⟩:=hbad p'; cases z
         | .d (.ins _ _),_,p'=>obtain ⟨_,_,z⟩:=hbad p'; cases z
         | .d (.scr _),_,p'=>obtain ⟨_,_,z⟩:=hbad p'; cases z
         | .d (.exc _ _ _ _),_,p'=>obtain ⟨_,_,z⟩:=hbad p'; cases z
         | .d (.kdc _ _),_,p'=>obtain ⟨_,_,z⟩:=hbad p'; cases z
     ·rename_i hn
      obtain ⟨acc2,st2,z⟩:=hbad p'
      split at z
      ·rename_i env1 st1 e1
       exact (hn env1 st1 e1).elim
      ·cases z
   ·have : i = us.length:=by omega
    subst this
    rw [List.drop_length] at p'
    exact .inl ⟨stop m' st' H' I.rep I.ext,fin I p'⟩
end
end VL
namespace VL
open PySem PySem.Spec PyProof.Rows L2
noncomputable def ltK1 : Key → Key → Bool
 | .inl i,.inl j=>decide (i < j)
 | .inr x,.inr y=>decide (x.cps.toList < y.cps.toList)
 | _,_=>false
noncomputable def ltK : List Key → List Key → Bool
 | a :: as,b :: bs=>if a = b then ltK as bs else ltK1 a b
 | _,_=>false
noncomputable def leK (a b : List Key) : Bool:=!ltK b a
noncomputable def shpK (k : List Key) : List Bool:=k.map fun x=>x.isLeft
theorem alike_k {a b : Key} (h : a.isLeft = b.isLeft) : PySem.W.alike (keyP a) (keyP b) = true:=by
 cases a <;> cases b <;> first | rfl | (cases h)
theorem eqv_k {a b : Key} (h : a.isLeft = b.isLeft) : PyData.eqv (keyP a) (keyP b) = decide (a = b):=by
 cases a with
 | inl i=>cases b with
  | inl j =>
   rw [show PyData.eqv (keyP (.inl i)) (keyP (.inl j)) = (i == j) from rfl,← key_ll]
  | inr y=>cases h
 | inr x=>cases b with
  | inl j=>cases h
  | inr y =>
   have e : PyData.eqv (keyP (.inr x)) (keyP (.inr y)) = decide (x = y):=by
    by_cases z : x = y <;> simp [keyP,PyData.eqv,z]
   rw [e,← key_rr]
theorem lt_k {a b : Key} (h : a.isLeft = b.isLeft) : PySem.W.dataLt (keyP a) (keyP b) = ltK1 a b:=by
 cases a with
 | inl i=>cases b with
  | inl j=>exact PySem.W.dataLt_int i j
  | inr y=>cases h
 | inr x=>cases b with
  | inl j=>cases h
  | inr y=>exact PySem.W.dataLt_str x y
theorem lex_keys : ∀ {as bs : List Key},shpK as = shpK bs → PyProof.Rows.lexLt PyProof.Rows.itemOrd (PySem.W.keyToksAll (as.map keyP)) (PySem.W.keyToksAll (bs.map keyP)) = ltK as bs
 | [],[],_=>PyProof.Rows.lex_irrefl _
 | [],_ :: _,h=>by cases h
 | _ :: _,[],h=>by cases h
 | a :: as,b :: bs,h=>by
  unfold shpK at h
  rw [List.map_cons,List.map_cons,List.cons.injEq] at h
  rw [List.map_cons,List.map_cons,PySem.W.dataLt_cons (alike_k h.1),eqv_k h.1,lt_k h.1,lex_keys (as:=as) (bs:=bs) h.2]
  have e2 : ltK (a :: as) (b :: bs) = if a = b then ltK as bs else ltK1 a b:=by rw [ltK]
  rw [e2]
  by_cases e : a = b
  ·rw [if_pos e,if_pos (decide_eq_true e)]
  ·rw [if_neg e,if_neg (by rw [decide_eq_false e]; exact Bool.false_ne_true)]
theorem alike_all : ∀ {as bs : List Key},shpK as = shpK bs → PySem.W.alikeAll (as.map keyP) (bs.map keyP) = true
 | [],[],_=>rfl
 | [],_ :: _,h=>by cases h
 | _ :: _,[],h=>by cases h
 | a :: as,b :: bs,h=>by
  unfold shpK at h
  rw [List.map_cons,List.map_cons,List.cons.injEq] at h
  rw [List.map_cons,List.map_cons,PySem.W.alikeAll,alike_k h.1,alike_all (as:=as) (bs:=bs) h.2]
  rfl
theorem le_keys {p q : MTup} (h : shpK p.2 = shpK q.2) : leM p q = leK p.2 q.2:=by
 show (!PySem.W.dataLt (encM q) (encM p)) = _
 unfold encM leK
 rw [PySem.W.dataLt_tuple,lex_keys h.symm]
theorem lt1_tri {a b : Key} (h : a.isLeft = b.isLeft) (h1 : ltK1 a b = false) (h2 : ltK1 b a = false) : a = b:=by
 cases a with
 | inl i=>cases b with
  | inl j =>
   have q1 : ¬ i < j:=of_decide_eq_false h1
   have q2 : ¬ j < i:=of_decide_eq_false h2
   rw [show i = j by omega]
  | inr y=>cases h
 | inr x=>cases b with
  | inl j=>cases h
  | inr y =>
   have q1 : ¬ x.cps.toList < y.cps.toList:=of_decide_eq_false h1
   have q2 : ¬ y.cps.toList < x.cps.toList:=of_decide_eq_false h2
   have e : x.cps.toList = y.cps.toList:=List.le_antisymm (α:=Nat) q2 q1
   cases x; cases y
   simp only at e
   rw [Array.toList_inj.mp e]
theorem ltK_tri : ∀ {as bs : List Key},shpK as = shpK bs → ltK as bs = false → ltK bs as = false → as = bs
 | [],[],_,_,_=>rfl
 | [],_ :: _,h,_,_=>by cases h
 | _ :: _,[],h,_,_=>by cases h
 | a :: as,b :: bs,h,h1,h2=>by
  unfold shpK at h
  rw [List.map_cons,List.map_cons,List.cons.injEq] at h
  unfold ltK at h1 h2
  by_cases e : a = b
  ·subst e
   simp only [if_true] at h1 h2
   rw [ltK_tri (as:=as) (bs:=bs) h.2 h1 h2]
  ·rw [if_neg e] at h1
   rw [if_neg fun z=>e z.symm] at h2
   exact absurd (lt1_tri h.1 h1 h2) e
/-- the sorted members do not tell the order in which they came -/
theorem sort_keys {L M : List MTup} (pm : M.Perm L) (sh : ∀ p ∈ L,∀ q ∈ L,shpK p.2 = shpK q.2) : (M.mergeSort leM).map (·.2) = (L.map (·.2)).mergeSort leK:=by
 have T:=PySem.W.sortLe_total (PyProof.Rows.listOrd PyProof.Rows.itemOrd) false fun b : MTup=>PySem.W.keyToks (encM b)
 have e1 : (L.mergeSort leM).map (·.2) = (L.map (·.2)).mergeSort leK:=PySem.W.sort_maps (fun q : MTup=>q.2) fun p hp q hq=>le_keys (sh p hp q hq)
 rw [← e1]
 have pw : ∀ N : List MTup,N.Perm L → ((N.mergeSort leM).map (·.2)).Pairwise fun a b=>leK a b = true:=fun N pN=>by
  rw [List.pairwise_map]
  refine List.Pairwise.imp_of_mem (fun {p q} hp hq h=>?_) (PySem.W.sort_pairwise T N)
  have hp' : p ∈ L:=pN.mem_iff.mp ((List.mergeSort_perm N leM).mem_iff.mp hp)
  have hq' : q ∈ L:=pN.mem_iff.mp ((List.mergeSort_perm N leM).mem_iff.mp hq)
  rw [← le_keys (sh p hp' q hq')]
  exact h
 refine List.Perm.eq_of_pairwise (le:=fun a b=>leK a b = true) (fun a b ha hb h1 h2=>?_) (pw M pm) (pw L (List.Perm.refl _)) ?_
 ·obtain ⟨p,hp,rfl⟩:=List.mem_map.mp ha
  obtain ⟨q,hq,rfl⟩:=List.mem_map.mp hb
  have hp' : p ∈ L:=pm.mem_iff.mp ((List.mergeSort_perm M leM).mem_iff.mp hp)
  have hq' : q ∈ L:=(List.mergeSort_perm L leM).mem_iff.mp hq
  unfold leK at h1 h2
  rw [Bool.not_eq_true'] at h1 h2
  exact ltK_tri (sh p hp' q hq') h2 h1
 ·exact (((List.mergeSort_perm M leM).trans pm).trans (List.mergeSort_perm L leM).symm).map _
noncomputable def rSortM (X : Cx) : List V → Hp → VK → Prop:=fun vs H Q=>∃ (a : Addr) (L : List MTup),vs = [V.ref a] ∧ H a = some (MSO X.prog X.w a L) ∧ (∀ q ∈ L,SqT X.K H q.1 (q.2.map keyV)) ∧ (∀ p ∈ L,∀ q ∈ L,shpK p.2 = shpK q.2) ∧ (∀ p ∈ L,p.2 ≠ []) ∧
 ∀ (N : List MTup) (p : Addr),N.Perm L → N.map (·.2) = (L.map (·.2)).mergeSort leK → H p = none → Q (.ref p) (upd H p (.lst (N.map fun q=>V.ref q.1)))
theorem refs_vals : ∀ N : List MTup,Vals (N.map fun q=>V.ref q.1) (N.map fun q=>Value.ref q.1)
 | []=>.nil
 | _ :: N=>.cons rfl (refs_vals N)
theorem cr_sortM {X : Cx} (hc : X.calm = true) (hu : X.A.units + 65 < cLine) : CallR X (.builtin "sorted") (rSortM X):=by
 intro pins s σ H vs us Q I r h
 obtain ⟨a,L,rfl,ha,hL,sh,ne,q⟩:=h
 have Z0 : MSet0 X.prog X.w s.heap a L:=(I.hok a _ ha).1
 obtain ⟨M,es,ep,t,pm,Z⟩:=Z0.full fun q hq=>inv_mt I (hL q hq)
 rw [Vals.ref1 r]
 have few:=Z0.dist.2
 refine m_sorted Z (I.ok.hd hc) hu (fun p hp q hq=>alike_all (sh p (pm.mem_iff.mp hp) q (pm.mem_iff.mp hq))) (fun p hp=>ne p (pm.mem_iff.mp hp)) fun s' p out c M1 k g o hp hg hM hout=>?_
 have pN : (M1.mergeSort leM).Perm L:=(List.mergeSort_perm M1 leM).trans (hM.trans pm)
 have hn : H p = none:=I.hok.fresh hp
 have hlen : ((M1.mergeSort leM).map fun q=>V.ref q.1).length ≤ sizeLine:=by rw [List.length_map,pN.length_eq,sizeLine_eq]; omega
 have J : Inv X pins σ (upd H p (.lst ((M1.mergeSort leM).map fun q=>V.ref q.1))) { s with heap:=s'.heap,gens:=s'.gens,drawn:=s'.drawn,toks:=s'.toks } :=
  I.call (ch:=[]) (Un.laid k hp hn) (I.hok.laid k hp ⟨hlen,out.toList,c,by rw [hout]; exact refs_vals _,hg⟩) (by rw [g]; exact I.bare) (fun _ z=>nomatch z)
 have e : s' = { s with heap:=s'.heap,gens:=s'.gens,drawn:=s'.drawn,toks:=s'.toks }:=by
  cases s'
  cases s
  cases o
  rfl
 rw [e]
 exact ⟨.ref p,_,J,rfl,q _ p pN (sort_keys (hM.trans pm) sh) hn⟩
noncomputable def kyD : Key → D
 | .inl i=>.int i
 | .inr x=>.str x
noncomputable def keyOf : D → Option Key
 | .int i=>some (.inl i)
 | .str x=>some (.inr x)
 | _=>none
noncomputable def keysD : D → Option (List Key)
 | .tup ds=>allM keyOf ds
 | _=>none
noncomputable def distF (ks : List (List Key)) : List (List Key):=ks.foldl (fun l k=>if hasK l k = true then l else l ++ [k]) []
theorem distF_snoc (ks : List (List Key)) (k : List Key) : distF (ks ++ [k]) = if hasK (distF ks) k = true then distF ks else distF ks ++ [k]:=by
 unfold distF
 rw [List.foldl_append]
 rfl
theorem distF_len (ks : List (List Key)) : (distF ks).length ≤ ks.length:=by
 suffices h : ∀ (n : Nat) (ks : List (List Key)),ks.length = n → (distF ks).length ≤ ks.length from h _ ks rfl
 intro n
 induction n with
 | zero=>intro ks h; rw [List.length_eq_zero_iff.mp h]; exact Nat.le_refl _
 | succ n ih =>
  intro ks h
  obtain ⟨ys,y,rfl⟩ : ∃ ys y,ks = ys ++ [y]:=⟨ks.dropLast,ks.getLast (by intro z; rw [z] at h; cases h),(List.dropLast_concat_getLast _).symm⟩
  rw [distF_snoc]
  rw [List.length_append,List.length_singleton] at h ⊢
  have:=ih ys (by omega)
  split
  ·omega
  ·rw [List.length_append,List.length_singleton]; omega
theorem mem_distF {k : List Key} : ∀ {ks : List (List Key)},k ∈ distF ks ↔ k ∈ ks:=by
 suffices h : ∀ (n : Nat) (ks : List (List Key)),ks.length = n → (k ∈ distF ks ↔ k ∈ ks) from fun {ks}=>h _ ks rfl
 intro n
 induction n with
 | zero=>intro ks h; rw [List.length_eq_zero_iff.mp h]; exact Iff.rfl
 | succ n ih =>
  intro ks h
  obtain ⟨ys,y,rfl⟩ : ∃ ys y,ks = ys ++ [y]:=⟨ks.dropLast,ks.getLast (by intro z; rw [z] at h; cases h),(List.dropLast_concat_getLast _).symm⟩
  rw [List.length_append,List.length_singleton] at h
  have i:=ih ys (by omega)
  rw [distF_snoc,List.mem_append,List.mem_singleton]
  split
  ·rename_i z
   have z':=hasK_iff.mp z
   constructor
   ·exact fun q=>.inl (i.mp q)
   ·rintro (q | rfl)
    ·exact i.mpr q
    ·exact z'
  ·rw [List.mem_append,List.mem_singleton,i]
theorem rp_key {K : PySem.W.Frag} {m : List Addr} {H : Hp} {d : D} {v : V} {k : Key} (h : RpD K m H d v) (e : keyOf d = some k) : v = keyV k:=by
 cases d <;> cases e <;> exact h
theorem rp_keys {K : PySem.W.Frag} {m : List Addr} {H : Hp} : ∀ {ds : List D} {vs : List V} {k : List Key},RpDs K m H ds vs → allM keyOf ds = some k → vs = k.map keyV
 | [],_,_,h,e=>by cases e; exact h
 | d :: ds,_,k,⟨v,r,e1,h1,h2⟩,e=>by
  unfold allM at e
  cases q1 : keyOf d with
  | none=>rw [q1] at e; cases e
  | some k0 =>
   rw [q1] at e
   cases q2 : allM keyOf ds with
   | none=>rw [q2] at e; cases e
   | some ks =>
    rw [q2] at e
    cases e
    rw [e1,rp_key h1 q1,rp_keys h2 q2]
    rfl
theorem allM_snoc {α β : Type} {g : α → Option β} {x : α} {y : β} (hx : g x = some y) : ∀ {l : List α} {r : List β},allM g l = some r → allM g (l ++ [x]) = some (r ++ [y])
 | [],_,e=>by cases e; simp [allM,hx]
 | a :: l,r,e=>by
  unfold allM at e
  cases q1 : g a with
  | none=>rw [q1] at e; cases e
  | some b =>
   rw [q1] at e
   cases q2 : allM g l with
   | none=>rw [q2] at e; cases e
   | some bs =>
    rw [q2] at e
    cases e
    rw [List.cons_append,allM,q1,allM_snoc hx q2]
    rfl
/-- a heap of code objects alone -/
noncomputable def codesH (q : Str) : Nat → Heap
 | 0=>{}
 | n + 1=>(codesH q n).push { cls:=.none,data:=.fields #[.none,.str q 0] }
theorem codes_size (q : Str) : ∀ n,(codesH q n).objs.size = n
 | 0=>rfl
 | n + 1=>by
  unfold codesH
  rw [Heap.size_push,codes_size q n]
theorem codes_get (q : Str) {a : Addr} {o : Obj} : ∀ n,(codesH q n).get? a = some o → o.data = .fields #[.none,.str q 0]
 | 0,h=>by
  have lt:=Heap.lt_size h
  rw [codes_size] at lt
  exact absurd lt (Nat.not_lt_zero _)
 | n + 1,h=>by
  unfold codesH at h
  by_cases e : a = (codesH q n).objs.size
  ·rw [e,Heap.get?_push_size _ rfl] at h
   cases h
   rfl
  ·rw [Heap.get?_push_ne _ _ _ e] at h
   exact codes_get q n h
theorem mso_soft {P : Program} {w : World} {D : Addr} {L : List MTup} : Soft (MSO P w D L):=.inl ⟨_,rfl,fun c q e=>(by
 have e' : (fun h=>MSet0 P w h D L) = (fun h=>∃ (oc : Obj) (vs : Array Value) (t : Tok),h.get? c = some oc ∧ oc.data = .fields vs ∧ vs[1]? = some (.str q t)):=HO.ext.inj e
 have hc : (codesH q (c + 1)).get? c = some { cls:=.none,data:=.fields #[.none,.str q 0] }:=by
  have h:=Heap.get?_push_size (codesH q c) (o:={ cls:=.none,data:=.fields #[.none,.str q 0] }) rfl
  rw [codes_size] at h
  exact h
 have h1 : MSet0 P w (codesH q (c + 1)) D L:=by
  have:=congrFun e' (codesH q (c + 1))
  rw [this]
  exact ⟨_,_,0,hc,rfl,rfl⟩
 obtain ⟨M,es,ep,t,-,⟨o,go,-,gd⟩,-⟩:=h1
 have:=codes_get q _ go
 rw [gd] at this
 cases this),fun a ob en ep0 hd e=>by
 have e' : (fun h=>MSet0 P w h D L) = (fun h : Heap=>h.get? a = some ob):=HO.ext.inj e
 have h1 : MSet0 P w (oneH ob (a + 1)) D L:=by
  have:=congrFun e' (oneH ob (a + 1))
  rw [this]
  exact oneH_at hd a
 obtain ⟨M,es,ep,t,-,⟨o,go,-,gd⟩,-⟩:=h1
 have:=oneH_get hd _ go
 rw [this,hd] at gd
 cases gd⟩
theorem allM_none {α β : Type} {g : α → Option β} {x : α} (hx : g x = none) : ∀ l : List α,allM g (l ++ [x]) = none
 | []=>by
  show allM g [x] = none
  unfold allM
  rw [hx]
 | y :: l=>by
  show allM g (y :: (l ++ [x])) = none
  unfold allM
  rw [allM_none hx l]
  cases g y <;> rfl
/-- the set with one more has few members -/
noncomputable def okM (acc : List D) (d : D) : Bool:=match allM keysD (acc ++ [d]) with
 | some ks=>decide ((distF ks).length < 63)
 | none=>false
theorem okM_at {acc : List D} {d : D} {ks : List (List Key)} (h : okM acc d = true) (h1 : allM keysD acc = some ks) : ∃ k,keysD d = some k ∧ (distF ks).length + 1 < 64:=by
 unfold okM at h
 cases e : keysD d with
 | none=>rw [allM_none e] at h; cases h
 | some k =>
  rw [allM_snoc e h1] at h
  have h : (distF (ks ++ [k])).length < 63:=of_decide_eq_true h
  refine ⟨k,rfl,?_⟩
  rw [distF_snoc] at h
  split at h
  ·omega
  ·rw [List.length_append,List.length_singleton] at h
   omega
noncomputable def vsM (X : Cx) (hu : X.A.units + 65 < cLine) : VSet X (List MTup) where
 toSKd:=skM X hu
 okd:=okM
 soft:=fun D L=>mso_soft
 R:=fun m H L acc=>∃ ks,allM keysD acc = some ks ∧ L.map (·.2) = distF ks ∧ ∀ q ∈ L,TpV X.K m H q.1 (q.2.map keyV)
 r0:=fun m H=>⟨[],rfl,rfl,nofun⟩
 rext:=fun s ⟨ks,h1,h2,h3⟩=>⟨ks,h1,h2,fun q hq=>(h3 q hq).stay s⟩
 rbut:=fun b ⟨ks,h1,h2,h3⟩=>⟨ks,h1,h2,fun q hq=>(h3 q hq).elim (fun z=>.inl ⟨z.1,b.at' z.2 ns_t⟩) .inr⟩
 put:=fun {m H L acc d y} ⟨ks,h1,h2,h3⟩ hk hr=>by
  obtain ⟨k,ek,few⟩:=okM_at hk h1
  cases d with
  | tup ds =>
   obtain ⟨a,vs,rfl,ht,hds⟩:=hr
   have ev : vs = k.map keyV:=rp_keys hds ek
   subst ev
   have hL : L.length = (distF ks).length:=by
    have:=congrArg List.length h2
    rw [List.length_map] at this
    exact this
   refine ⟨mPut L a k,⟨a,k,rfl,ht.sq,fun q hq=>(h3 q hq).sq,by omega,rfl⟩,ks ++ [k],?_,?_,?_⟩
   ·exact allM_snoc (by exact ek) h1
   ·unfold mPut
    rw [distF_snoc,← h2]
    split
    ·rfl
    ·rw [List.map_append]; rfl
   ·intro q hq
    unfold mPut at hq
    split at hq
    ·exact h3 q hq
    ·rcases List.mem_append.mp hq with z | z
     ·exact h3 q z
     ·rw [List.mem_singleton.mp z]; exact ht
  | _=>cases ek
noncomputable def sortD (acc : List D) : Option (List D):=match allM keysD acc with
 | some ks=>if (ks.all fun k=>decide (shpK k = shpK (ks.headD [])) && !k.isEmpty) = true then some (((distF ks).mergeSort leK).map fun k=>.tup (k.map kyD)) else none
 | none=>none
noncomputable def fSortS (f : F (List D)) : F U:=bnd f fun acc=>fun _ st=>match sortD acc with
 | some ds=>.ok (.d (.lst ds)) st
 | none=>.bad
theorem rp_items {K : PySem.W.Frag} {m : List Addr} {H : Hp} : ∀ k : List Key,RpDs K m H (k.map kyD) (k.map keyV)
 | []=>rfl
 | .inl i :: k=>⟨_,_,rfl,rfl,rp_items k⟩
 | .inr x :: k=>⟨_,_,rfl,rfl,rp_items k⟩
theorem rp_tups {K : PySem.W.Frag} {m : List Addr} {H : Hp} : ∀ {N : List MTup},(∀ q ∈ N,TpV K m H q.1 (q.2.map keyV)) → RpDs K m H (N.map fun q=>.tup (q.2.map kyD)) (N.map fun q=>V.ref q.1)
 | [],_=>rfl
 | q :: N,h=>⟨_,_,rfl,⟨q.1,_,rfl,h q List.mem_cons_self,rp_items _⟩,rp_tups fun r hr=>h r (List.mem_cons_of_mem _ hr)⟩
theorem d_sortedS {X : Cx} {W : WX} {p pos : Pos} {e : Expr} {f : F (List D)} (hc : X.calm = true) (hu : X.A.units + 65 < cLine) (hm : X.mg "sorted" = none) (h : PE X e (tSet (vsM X hu) W f)) (hg : Gl X "sorted":=by rfl)
  (he : starEach [e] X.env = (false,eval e X.env) :: starEach [] X.env:=by rfl) : DE X W (.Call (.Name "sorted" p) [e] [] pos) (fSortS f) :=
 ⟨PE.imp (pe_callB (cr_sortM hc hu) hg hm (by rfl) (pa_cons h pa_nil he) (he:=he)) fun σ H Q q=>by
  obtain ⟨m,env,st,r,re,p⟩:=q
  refine ⟨m,env,st,r,re,?_⟩
  unfold fSortS bnd at p
  cases hf : f env st with
  | bad=>rw [hf] at p; exact p.elim
  | ex c fs st1=>rw [hf] at p; exact p
  | ok acc st1 =>
   rw [hf] at p
   simp only at p
   unfold sortD at p
   intro v m1 H1 hv r1 x1
   obtain ⟨D,L,rfl,hD,nD,ks,h1,h2,h3⟩:=hv
   rw [h1] at p
   simp only at p
   split at p
   ·rename_i ds hds
    split at hds
    ·rename_i hall
     cases hds
     have hk : ∀ k ∈ ks,shpK k = shpK (ks.headD []) ∧ k ≠ []:=fun k hk=>by
      have:=List.all_eq_true.mp hall k hk
      rw [Bool.and_eq_true,decide_eq_true_eq] at this
      exact ⟨this.1,fun z=>by rw [z] at this; cases this.2⟩
     have hm : ∀ q ∈ L,q.2 ∈ ks:=fun q hq=>by
      rw [← mem_distF,← h2]
      exact List.mem_map.mpr ⟨q,hq,rfl⟩
     refine ⟨D,L,rfl,hD,fun q hq=>(h3 q hq).sq,fun p hp q hq=>(hk _ (hm p hp)).1.trans (hk _ (hm q hq)).1.symm,fun p hp=>(hk _ (hm p hp)).2,fun N pp pN hN hpp=>?_⟩
     rw [h2] at hN
     have hds : ((distF ks).mergeSort leK).map (fun k=>VL.D.tup (k.map kyD)) = N.map fun q=>VL.D.tup (q.2.map kyD):=by
      rw [← hN,List.map_map]
      rfl
     rw [hds] at p
     have xn:=ext_new r1 hpp (.lst (N.map fun q=>V.ref q.1))
     exact p _ m1 _ ⟨pp,_,rfl,⟨r1.fresh hpp,upd_same⟩,rp_tups fun q hq=>(h3 q (pN.mem_iff.mp hq)).stay xn.toStay⟩ (r1.new hpp _) (x1.trans xn)
    ·cases hds
   ·exact p.elim⟩
section
variable {X : Cx} {ι : Type} {S : VSet X ι} {W : WX} {elt tg iter tj ij : Expr} {ifs cj : List Expr} {scope : Scope} {own : List (Str × Nat)} {pos : Pos} {is js ws : List Nat} {g gj : U → G} {gt gtj : F Bool} {fe fj : F U} {fi : F Itb}
theorem s_set (hc : X.calm = true) (hN : X.N.Nodup) (hi : DI X W tg iter fi) (ok : BlkOk X.N X.env.scope scope own) (hg : inBlk X scope fun Y=>DG Y tg is g) (ht : inBlk X scope fun Y=>DTs Y W0 ifs gt) (he : inBlk X scope fun Y=>DE Y W0 elt fe)
  (hvs : ∀ i ∈ is,i ∈ own.map (·.2):=by decide) (hs : ∀ x,foldedSetIterable iter X.env x = pure x:=by intro _; rfl) :
  PE X (.SetComp elt [⟨tg,iter,ifs,0⟩] scope pos) (tSet S W (fSg S.okd fi g gt fe (own.map (·.2)))) :=
 PE.imp (pe_sg (S:=S.toSKd) hc hN hi.pi ok (fun s H C cl fp=>(hg s H C cl fp).pg) (fun s H C cl fp=>(ht s H C cl fp).pts) (fun s H C cl fp=>(he s H C cl fp).pe) hs) fun _ _ _ q=>t_sg hvs q
theorem s_set2 (hc : X.calm = true) (hN : X.N.Nodup) (hi : DI X W tg iter fi) (ok : BlkOk X.N X.env.scope scope own) (hg : inBlk X scope fun Y=>DG Y tg is g) (ht : inBlk X scope fun Y=>DTs Y W0 ifs gt)
  (hj : inBlk X scope fun Y=>DE Y W0 ij fj) (hgj : inBlk X scope fun Y=>DG Y tj js gj) (htj : inBlk X scope fun Y=>DTs Y W0 cj gtj) (he : inBlk X scope fun Y=>DE Y W0 elt fe)
  (hvs : ∀ i ∈ is,i ∈ own.map (·.2):=by decide) (hws : ∀ i ∈ js,i ∈ ws:=by decide) (hwv : ∀ i ∈ ws,i ∈ own.map (·.2):=by decide) (hs : ∀ x,foldedSetIterable iter X.env x = pure x:=by intro _; rfl) (hs2 : ∀ env x,foldedSetIterable ij env x = pure x:=by intro _ _; rfl) :
  PE X (.SetComp elt [⟨tg,iter,ifs,0⟩,⟨tj,ij,cj,0⟩] scope pos) (tSet S W (fSg2 S.okd fi g gt fj gj gtj fe (own.map (·.2)) ws)) :=
 PE.imp (pe_sg2 (S:=S.toSKd) hc hN hi.pi ok hwv (fun s H C cl fp=>(hg s H C cl fp).pg) (fun s H C cl fp=>(ht s H C cl fp).pts) (fun s H C cl fp=>pi_list (hj s H C cl fp).pe) (fun s H C cl fp=>(hgj s H C cl fp).pg) (fun s H C cl fp=>(htj s H C cl fp).pts) (fun s H C cl fp=>(he s H C cl fp).pe) hs hs2) fun _ _ _ q=>t_sg2 hvs hws q
end
end VL
namespace VL
open PySem PySem.Spec PyProof.Rows L2
noncomputable def mAll (ks : List MTup) : List MTup:=ks.foldl (fun L q=>mPut L q.1 q.2) []
theorem mAll_snoc (ks : List MTup) (q : MTup) : mAll (ks ++ [q]) = mPut (mAll ks) q.1 q.2:=by
 unfold mAll
 rw [List.foldl_append]
 rfl
theorem mAll_sub : ∀ {n : Nat} {ks : List MTup},ks.length = n → (∀ q ∈ mAll ks,q ∈ ks) ∧ (mAll ks).length ≤ ks.length ∧ (mAll ks).map (·.2) = distF (ks.map (·.2))
 | 0,ks,h=>by rw [List.length_eq_zero_iff.mp h]; exact ⟨nofun,Nat.le_refl _,rfl⟩
 | n + 1,ks,h=>by
  obtain ⟨ys,y,rfl⟩ : ∃ ys y,ks = ys ++ [y]:=⟨ks.dropLast,ks.getLast (by intro z; rw [z] at h; cases h),(List.dropLast_concat_getLast _).symm⟩
  rw [List.length_append,List.length_singleton] at h
  obtain ⟨h1,h2,h3⟩:=mAll_sub (n:=n) (ks:=ys) (by omega)
  rw [mAll_snoc,List.map_append,List.map_cons,List.map_nil,distF_snoc,← h3]
  unfold mPut
  split
  ·exact ⟨fun q hq=>List.mem_append_left _ (h1 q hq),by rw [List.length_append]; omega,rfl⟩
  ·refine ⟨fun q hq=>?_,by rw [List.length_append,List.length_append]; simp only [List.length_singleton]; omega,by rw [List.map_append]; rfl⟩
   rcases List.mem_append.mp hq with z | z
   ·exact List.mem_append_left _ (h1 q z)
   ·rw [List.mem_singleton.mp z]; exact List.mem_append_right _ (List.mem_singleton.mpr rfl)
theorem mPut_len (L : List MTup) (a : Addr) (k : List Key) : L.length ≤ (mPut L a k).length:=by
 unfold mPut
 split
 ·exact Nat.le_refl _
 ·rw [List.length_append]
  exact Nat.le_add_right _ _
theorem mAll_take (ks : List MTup) (i : Nat) : (mAll (ks.take i)).length ≤ (mAll ks).length:=by
 have go : ∀ (xs : List MTup) (L : List MTup),L.length ≤ (xs.foldl (fun L q=>mPut L q.1 q.2) L).length:=fun xs=>by
  induction xs with
  | nil=>exact fun L=>Nat.le_refl _
  | cons x xs ih=>exact fun L=>Nat.le_trans (mPut_len L x.1 x.2) (ih _)
 have e : mAll ks = (ks.drop i).foldl (fun L q=>mPut L q.1 q.2) (mAll (ks.take i)):=by
  unfold mAll
  rw [← List.foldl_append,List.take_append_drop]
 rw [e]
 exact go _ _
section
variable {P : Program} {w : World} {A : Around} {E : Value → Shared → Prop} {s : Shared}
theorem m_update {I : Addr} {fp wr : List Addr} {G : Array GenState → Array GenState → Prop} {n : Nat} {Pv : Nat → Value → Prop} {Sx : Nat → Shared → Prop} {R : Result → Shared → Prop} (W : WalksS P w A.in1 I fp wr G n Pv Sx) (S : Addr) (hSf : S ∉ fp) (ks : List MTup) (hn : n = ks.length) (few : (mAll ks).length < 63)
  (hval : ∀ i v,Pv i v → ∃ q,ks[i]? = some q ∧ v = .ref q.1) (h0 : Heap) (hk : ∀ q ∈ ks,MT P w h0 q.2 q.1) (hS0 : h0.get? S = none) (hw0 : ∀ b ∈ wr,h0.get? b = none) (room : A.in1.units < cLine) :
  ∀ (k i : Nat) (s : Shared),n - i = k → i ≤ n → Sx i s → (∀ b o,h0.get? b = some o → s.heap.get? b = some o) → (∃ M es ep t,MSet P w s.heap S M es ep t ∧ M.Perm (mAll (ks.take i))) →
   (∀ s' M es ep t,Moved (S :: wr) G s s' → MSet P w s'.heap S M es ep t → M.Perm (mAll ks) → (∀ b o,h0.get? b = some o → s'.heap.get? b = some o) → R (.ok (.ret .none)) s') →
   codeAny (model P w) A (.builtin "set.update.loop" ⟨[.ref S,.ref I],[]⟩) R s:=by
 have nw : S ∉ wr:=fun z=>hSf (W.sub _ z)
 have more : ∀ b ∈ wr,b ∈ S :: wr:=fun b hb=>List.mem_cons_of_mem _ hb
 have keep : ∀ {s s' : Shared},Moved wr G s s' → (∀ b o,h0.get? b = some o → s.heap.get? b = some o) → ∀ b o,h0.get? b = some o → s'.heap.get? b = some o:=fun hm kp b o e =>
  hm.heap b o (fun hb=>by rw [hw0 b hb] at e; cases e) (kp b o e)
 intro k
 induction k with
 | zero =>
  intro i s hk' hi sx kp ⟨M,es,ep,t,hS,pm⟩ hR
  have hin : i = n:=by omega
  subst hin
  refine codeAny_builtin F.entry_set_update_loop ?_
  rw [Around.under_plainId F.plain_set_update_loop _]
  show wpAny _ A.in1 (pyNext (.ref I) >>= _) _ _ s
  refine wpAny_bind (W.done s _ _ sx fun s' hm=>?_)
  show wpAny _ A.in1 (ret Value.none) _ _ s'
  have kp':=keep hm kp
  rw [List.take_of_length_le (by omega)] at pm
  exact wpAny_pure (hR s' M es ep t (hm.mono more) (hS.keep (fun o e=>hm.heap S o nw e) fun q hq=>mt_keep (hk q ((mAll_sub rfl).1 q (pm.mem_iff.mp hq))) kp') pm kp')
 | succ k ih =>
  intro i s hk' hi sx kp ⟨M,es,ep,t,hS,pm⟩ hR
  have lt : i < n:=by omega
  refine codeAny_builtin F.entry_set_update_loop ?_
  rw [Around.under_plainId F.plain_set_update_loop _]
  show wpAny _ A.in1 (pyNext (.ref I) >>= _) _ _ s
  refine wpAny_bind (W.item i s _ _ lt sx fun v s' hP sx' hm=>?_)
  obtain ⟨q,hq,rfl⟩:=hval i v hP
  have kp':=keep hm kp
  have sub:=mAll_sub (ks:=ks.take i) rfl
  have hS' : MSet P w s'.heap S M es ep t:=hS.keep (fun o e=>hm.heap S o nw e) fun r hr=>mt_keep (hk r (List.mem_of_mem_take (sub.1 r (pm.mem_iff.mp hr)))) kp'
  have hx : MT P w s'.heap q.2 q.1:=mt_keep (hk q (List.mem_of_getElem? hq)) kp'
  show wpAny _ A.in1 (holding [Value.ref q.1] (setAdd S (.ref q.1)) >>= _) _ _ s'
  refine wpAny_bind (wpAny_holding ?_)
  unfold setAdd
  refine wpAny_holding ?_
  refine wpAny_bind (wpAny_pyHash_tuple room hx ?_)
  have ml:=pm.length_eq
  have tl:=mAll_take ks i
  refine m_add (s:={ s' with toks:=s'.toks + (q.2.length + 1) }) hS' hx room (by omega) fun b h' L' es' ep' t' sb S2 c1 c2=>?_
  have pm' : L'.Perm (mAll (ks.take (i + 1))):=by
   rw [List.take_add_one,hq]
   show L'.Perm (mAll (ks.take i ++ [q]))
   rw [mAll_snoc]
   have hmem : q.2 ∈ M.map (·.2) ↔ q.2 ∈ (mAll (ks.take i)).map (·.2):=(pm.map (·.2)).mem_iff
   unfold mPut
   split
   ·rename_i z
    rw [c1 (hmem.mpr (hasK_iff.mp z))]
    exact pm
   ·rename_i z
    exact (c2 (fun y=>z (hasK_iff.mpr (hmem.mp y)))).trans ((pm.cons q).trans (List.perm_append_singleton _ _).symm)
  have kp2 : ∀ b o,h0.get? b = some o → h'.get? b = some o:=fun b o e=>(sb.2 b (fun z=>by rw [z,hS0] at e; cases e)).trans (kp' b o e)
  refine wpAny_pure ⟨plainId_quiet F.plain_set_update_loop _,ih (i + 1) _ (by omega) lt (W.frame _ s' _ _ sx' (Nat.le_add_right _ _) fun b hb o e=>?_) kp2 ⟨L',es',ep',t',S2,pm'⟩ fun s'' M2 es2 ep2 t2 hm'' hS'' pm'' kp''=>?_⟩
  ·rw [sb.2 b (fun z : b = S=>hSf (by rw [← z]; exact hb))]; exact e
  ·refine hR s'' M2 es2 ep2 t2 (Moved.trans W.gtrans ((hm.mono more).then_heap (Nat.le_add_right _ _) fun b o hb e=>?_) hm'') hS'' pm'' kp''
   rw [sb.2 b (fun z : b = S=>hb (by rw [z]; exact List.mem_cons_self))]; exact e
set_option maxHeartbeats 3200000 in
theorem call_setM {l : Addr} {items : Array Value} (ks : List MTup) {Q : Value → Shared → Prop} (hh : A.handled = none) (hl : s.heap.IsList l items) (hit : items.toList = ks.map fun q=>Value.ref q.1) (hk : ∀ q ∈ ks,MT P w s.heap q.2 q.1) (few : (mAll ks).length < 63) (hu : A.units + 65 < cLine)
  (h : ∀ (h' : Heap) (tk : Nat) M es ep t,MSet P w h' s.heap.objs.size M es ep t → M.Perm (mAll ks) → (∀ b o,s.heap.get? b = some o → h'.get? b = some o) → Q (.ref s.heap.objs.size) { s with heap:=h',toks:=tk }) :
  wpAny (model P w) A (call (.type "set") [.ref l]) Q E s:=by
 have isz : items.size = ks.length:=by
  have q:=congrArg List.length hit
  rwa [Array.length_toList,List.length_map] at q
 obtain ⟨c,tl,mro⟩:=F.called_set.mro
 have made:=F.called_set.made
 have sub:=F.called_set.sub
 refine wpAny_call (codeAny_of_tree ?_)
 show wpAny _ _ (callAny (.type "set") _) _ _ _
 refine wpAny_pure ⟨Code.quiet_builtin _ (by decide +kernel),codeAny_builtin F.entry_type_call ?_⟩
 rw [Around.under_plain (weight_type_call_type "set" [.ref l] []) rfl]
 have f1:=F.called_set.notType
 have f2:=F.called_set.canCreate
 have f3:=F.typeCall_set_1 (.ref l)
 repeat (any_goals (first | assumption | wp_step))
 refine codeAny_mono (code_set_led1 (.ref l) (E:=E) (Q₁:=fun obj s₁=>obj = .ref s.heap.objs.size ∧ s₁ = { s with heap:=s.heap.push { cls:=.type "set",dict:=none,data:=.set #[] 0 (.fresh 0 0 (!w.params.followText "set-order")) } }) ⟨rfl,rfl⟩) fun r s₁ hr=>?_
 cases r with
 | error e=>exact hr
 | ok fl =>
  cases fl with
  | ret obj =>
   obtain ⟨rfl,rfl⟩:=hr
   have gS : (s.heap.push { cls:=.type "set",dict:=none,data:=.set #[] 0 (.fresh 0 0 (!w.params.followText "set-order")) }).get? s.heap.objs.size = some { cls:=.type "set",dict:=none,data:=.set #[] 0 (.fresh 0 0 (!w.params.followText "set-order")) }:=Heap.get?_push_size _ rfl
   have gT : Shared.TypeIs { s with heap:=s.heap.push { cls:=.type "set",dict:=none,data:=.set #[] 0 (.fresh 0 0 (!w.params.followText "set-order")) } } (.ref s.heap.objs.size) "set":=⟨_,gS,rfl⟩
   have li:=F.called_set.init.lookup
   have bi:=F.called_set.init.bind (.ref s.heap.objs.size)
   repeat (any_goals (first | assumption | wp_step))
   refine codeAny_mono (codeAny_call_builtin (R:=wants (fun r t=>r = .none ∧ ∃ h' tk M es ep t0,t = { s with heap:=h',toks:=tk } ∧ MSet P w h' s.heap.objs.size M es ep t0 ∧ M.Perm (mAll ks) ∧ (∀ b o,s.heap.get? b = some o → h'.get? b = some o)) E) F.called_set.init.plain F.entry_set_init (check_set_init_1 gT ?_)) fun r₂ s₂ hr₂=>?_
   ·obtain ⟨ol,hol,hcl,nl,hdl⟩:=hl
    obtain ⟨ocls,odict,odata,oslots⟩:=ol
    simp only at hcl hdl
    subst hcl; subst hdl
    have gl : (s.heap.push { cls:=.type "set",dict:=none,data:=.set #[] 0 (.fresh 0 0 (!w.params.followText "set-order")) }).get? l = some { cls:=.type "list",dict:=odict,data:=.seq items nl,slots:=oslots }:=Heap.get?_push_of_some _ hol
    have sls:=F.sub_list_set
    have slf:=F.sub_list_frozenset
    have hne : (Value.type "list" == Value.type "dict") = false:=by decide
    have l1 : (s.heap.push { cls:=.type "set",dict:=none,data:=.set #[] 0 (.fresh 0 0 (!w.params.followText "set-order")) }).IsList l items:=⟨_,gl,rfl,nl,rfl⟩
    unfold Builtin.«set.__init__» noKeywords Builtin.Frozenset.updateFrom
    generalize hPI : pyIter = PI
    wp_walk
    subst hPI
    refine wpAny_pyIter_list l1 ?_
    refine wpAny_bind (wpAny_runValue ?_)
    have lS : l < s.heap.objs.size:=Heap.lt_size hol
    have h3 : A.in1.in1.in1.handled = none:=by simp [hh]
    have neI : l ≠ (s.heap.push { cls:=.type "set",dict:=none,data:=.set #[] 0 (.fresh 0 0 (!w.params.followText "set-order")) }).objs.size:=by
     rw [Heap.size_push]; exact Nat.ne_of_lt (Nat.lt_succ_of_lt lS)
    have Sf : s.heap.objs.size ∉ [(s.heap.push { cls:=.type "set",dict:=none,data:=.set #[] 0 (.fresh 0 0 (!w.params.followText "set-order")) }).objs.size,l]:=by
     rw [Heap.size_push]; simp only [List.mem_cons,List.mem_singleton,List.not_mem_nil,or_false,not_or]
     exact ⟨Nat.ne_of_lt (Nat.lt_succ_self _),Nat.ne_of_gt lS⟩
    have val : ∀ (i : Nat) (v : Value),items[i]? = some v → ∃ q,ks[i]? = some q ∧ v = .ref q.1:=fun i v hv=>by
     have q : items.toList[i]? = some v:=by rw [Array.getElem?_toList]; exact hv
     rw [hit,List.getElem?_map] at q
     obtain ⟨r,e1,e2⟩:=Option.map_eq_some_iff.mp q
     exact ⟨r,e1,e2.symm⟩
    have gone : ∀ b,s.heap.objs.size ≤ b → s.heap.get? b = none:=fun b hb=>by
     cases q : s.heap.get? b with
     | none=>rfl
     | some o=>exact absurd (Nat.lt_of_lt_of_le (Heap.lt_size q) hb) (Nat.lt_irrefl _)
    refine m_update ((Walks.list h3 _ l neI items).toS) s.heap.objs.size Sf ks isz few val s.heap hk (gone _ (Nat.le_refl _)) (fun b hb=>gone b (by
      rw [List.mem_singleton.mp hb,Heap.size_push]
      exact Nat.le_succ _)) (by show A.units + 3 < cLine; omega) (items.size - 0) 0 _ (by omega) (Nat.zero_le _)
     ⟨⟨_,Heap.get?_push_size _ rfl,rfl,rfl⟩,(l1.push _)⟩ (fun b o e=>Heap.get?_push_of_some _ (Heap.get?_push_of_some _ e)) ?z1 ?z2
    case z1 =>
     have g0 : ((s.heap.push { cls:=.type "set",dict:=none,data:=.set #[] 0 (.fresh 0 0 (!w.params.followText "set-order")) }).push { cls:=.type "list_iterator",data:=.fields #[.ref l,.int 0 0] }).get? s.heap.objs.size
       = some { cls:=.type "set",dict:=none,data:=.set #[] 0 (.fresh 0 0 (!w.params.followText "set-order")) }:=Heap.get?_push_of_some _ gS
     exact ⟨[],#[],0,_,mset_new g0,List.Perm.refl _⟩
    case z2 =>
     intro s' M es ep t hm hS' pm kp
     obtain ⟨h',g2,d',tk',os'⟩:=s'
     have eg : g2 = s.gens:=hm.gens
     have ed : d' = s.drawn:=hm.drawn
     have eo : os' = s.os:=hm.os
     subst eg; subst ed; subst eo
     show wpAny _ _ _ _ _ _
     refine wpAny_pure ?_
     show wpAny _ _ (ret Value.none) _ _ _
     exact wpAny_pure ⟨rfl,h',tk',M,es,ep,t,rfl,hS',pm,kp⟩
   ·cases r₂ with
    | error e=>exact hr₂
    | ok fl₂ =>
     cases fl₂ with
     | ret r =>
      obtain ⟨rfl,h',tk,M,es,ep,t,rfl,hS',pm,kp⟩:=hr₂
      repeat (any_goals (first | assumption | wp_step))
      exact h _ _ _ _ _ _ hS' pm kp
     | _=>exact hr₂.elim
  | _=>exact hr.elim
end
noncomputable def rSetM (X : Cx) : List V → Hp → VK → Prop:=fun xs H Q=>∃ (l : Addr) (ks : List MTup),xs = [V.ref l] ∧ SqL X.K H l (ks.map fun q=>V.ref q.1) ∧ (∀ q ∈ ks,SqT X.K H q.1 (q.2.map keyV)) ∧ (mAll ks).length < 63 ∧ ∀ a,H a = none → Q (.ref a) (upd H a (MSO X.prog X.w a (mAll ks)))
theorem vals_refs : ∀ {ks : List MTup} {us : List Value},Vals (ks.map fun q=>V.ref q.1) us → us = ks.map fun q=>Value.ref q.1
 | [],_,.nil=>rfl
 | q :: ks,_,.cons r z=>by
  cases r
  rw [vals_refs z]
  rfl
theorem cr_setM {X : Cx} (hc : X.calm = true) (hu : X.A.units + 65 < cLine) : CallR X (.type "set") (rSetM X):=by
 intro pins s σ H xs us Q I r h
 obtain ⟨l,ks,rfl,hl,hk,few,q⟩:=h
 rw [Vals.ref1 r]
 obtain ⟨its,rv,pl,hz⟩:=I.list hl
 have hn : H s.heap.objs.size = none:=I.hok.fresh (Nat.le_refl _)
 refine call_setM (P:=X.prog) (w:=X.w) ks (I.ok.hd hc) pl.isList (by simpa using vals_refs rv) (fun q hq=>inv_mt I (hk q hq)) few hu fun h' tk M es ep t R pm kp=>?_
 exact ⟨.ref s.heap.objs.size,upd H s.heap.objs.size (MSO X.prog X.w s.heap.objs.size (mAll ks)),I.laid (t':=tk) kp (Nat.le_refl _) (mso_new (R.low pm)),rfl,q _ hn⟩
theorem rp_refs {K : PySem.W.Frag} {m : List Addr} {H : Hp} : ∀ {ds : List D} {vs : List V} {ks : List (List Key)},RpDs K m H ds vs → allM keysD ds = some ks → ∃ L : List MTup,vs = L.map (fun q=>V.ref q.1) ∧ L.map (·.2) = ks ∧ ∀ q ∈ L,TpV K m H q.1 (q.2.map keyV)
 | [],_,_,h,e=>by cases e; exact ⟨[],h,rfl,nofun⟩
 | d :: ds,_,ks,⟨v,r,e1,h1,h2⟩,e=>by
  unfold allM at e
  cases q1 : keysD d with
  | none=>rw [q1] at e; cases e
  | some k0 =>
   rw [q1] at e
   cases q2 : allM keysD ds with
   | none=>rw [q2] at e; cases e
   | some k1 =>
    rw [q2] at e
    cases e
    obtain ⟨L,e2,e3,e4⟩:=rp_refs h2 q2
    cases d with
    | tup xs =>
     obtain ⟨a,us,rfl,ht,hds⟩:=h1
     rw [rp_keys hds q1] at ht
     exact ⟨(a,k0) :: L,by rw [e1,e2]; rfl,by rw [List.map_cons,e3],fun q hq=>(List.mem_cons.mp hq).elim (fun z=>z ▸ ht) (e4 q)⟩
    | _=>cases q1
noncomputable def fewM (ds : List D) : Bool:=match allM keysD ds with
 | some ks=>decide ((distF ks).length < 63)
 | none=>false
noncomputable def oSortSM : List U → Store → Option U:=fun us st=>match us with
 | [u]=>match getL st u with
  | some us=>match pureL us with
   | some ds=>if fewM ds = true then (sortD ds).map fun ds=>.d (.lst ds) else none
   | none=>none
  | none=>none
 | _=>none
theorem d_sortSM {X : Cx} {W : WX} {p p2 pos pos2 : Pos} {e : Expr} {fs : F (List U)} (hc : X.calm = true) (hu : X.A.units + 65 < cLine) (hm : X.mg "sorted" = none) (hm2 : X.mg "set" = none) (ha : DA X W [e] fs) (hg : Gl X "sorted":=by rfl) (hg2 : Gl X "set":=by rfl)
  (he : starEach [e] X.env = [(false,eval e X.env)]:=by rfl) : DE X W (.Call (.Name "sorted" p) [.Call (.Name "set" p2) [e] [] pos2] [] pos) (fB (pu oSortSM) fs) :=
 ⟨PE.imp (pe_callB (cr_sortM hc hu) hg hm (by rfl) (pa_cons (pe_callTy (cr_setM hc hu) hg2 hm2 (by rfl) ha.pa (he:=he) (hpl:=by rfl)) pa_nil)) fun σ H Q h=>by
  obtain ⟨m,env,st,r,re,p⟩:=h
  refine tFs_step r re p fun us st1 vs m1 H1 h1 r1 re1 e1 p1=>?_
  have p2:=PV2.of p1
  obtain ⟨u,e,p3⟩:=PV2.pu p2
  unfold oSortSM at e
  split at e
  ·obtain ⟨v,rfl,hv⟩:=h1.one
   split at e
   ·rename_i us' hl
    obtain ⟨a,ws,rfl,t,q⟩:=getL_rp r1 hv hl
    split at e
    ·rename_i ds hds
     split at e
     ·rename_i h64
      have qd:=pureL_rp q hds
      unfold sortD at e
      split at e
      ·rename_i ks hks
       obtain ⟨L,rfl,eL,tL⟩:=rp_refs qd hks
       split at e
       ·rename_i hall
        cases e
        have sub:=mAll_sub (ks:=L) rfl
        have hlen : (mAll L).length < 63:=by
         unfold fewM at h64
         rw [hks] at h64
         have h64 : (distF ks).length < 63:=of_decide_eq_true h64
         rw [← eL,← sub.2.2,List.length_map] at h64
         exact h64
        have hk : ∀ k ∈ ks,shpK k = shpK (ks.headD []) ∧ k ≠ []:=fun k hk=>by
         have:=List.all_eq_true.mp hall k hk
         rw [Bool.and_eq_true,decide_eq_true_eq] at this
         exact ⟨this.1,fun z=>by rw [z] at this; cases this.2⟩
        have hm : ∀ q ∈ mAll L,q.2 ∈ ks:=fun q hq=>by rw [← eL]; exact List.mem_map.mpr ⟨q,sub.1 q hq,rfl⟩
        refine ⟨a,L,rfl,t,fun q hq=>(tL q hq).sq,hlen,fun b hb=>?_⟩
        have x1:=ext_new r1 hb (MSO X.prog X.w b (mAll L))
        refine ⟨b,mAll L,rfl,upd_same,fun q hq=>((tL q (sub.1 q hq)).stay x1.toStay).sq,fun p hp q hq=>(hk _ (hm p hp)).1.trans (hk _ (hm q hq)).1.symm,fun p hp=>(hk _ (hm p hp)).2,fun N pp pN hN hpp=>?_⟩
        rw [sub.2.2,eL] at hN
        have hds2 : ((distF ks).mergeSort leK).map (fun k=>VL.D.tup (k.map kyD)) = N.map fun q=>VL.D.tup (q.2.map kyD):=by
         rw [← hN,List.map_map]
         rfl
        rw [hds2] at p3
        have r2:=r1.new hb (MSO X.prog X.w b (mAll L))
        have x2:=ext_new r2 hpp (.lst (N.map fun q=>V.ref q.1))
        exact p3 _ m1 _ ⟨pp,_,rfl,⟨r2.fresh hpp,upd_same⟩,rp_tups fun q hq=>(tL q (sub.1 q (pN.mem_iff.mp hq))).stay (x1.trans x2).toStay⟩ (r2.new hpp _) (x1.trans x2)
       ·cases e
      ·cases e
     ·cases e
    ·cases e
   ·cases e
  ·cases e⟩
end VL
namespace VL
open PySem PySem.Spec PyProof.Rows L2
noncomputable def intD : D → Option Int
 | .int i=>some i
 | _=>none
noncomputable def distI (ks : List Int) : List Int:=ks.foldl (fun l k=>if l.any (· == k) = true then l else l ++ [k]) []
theorem distI_snoc (ks : List Int) (k : Int) : distI (ks ++ [k]) = if (distI ks).any (· == k) = true then distI ks else distI ks ++ [k]:=by
 unfold distI
 rw [List.foldl_append]
 rfl
theorem anyI {l : List Int} {k : Int} : l.any (· == k) = true ↔ k ∈ l:=by
 rw [List.any_eq_true]
 exact ⟨fun ⟨j,h,e⟩=>by rw [← beq_iff_eq.mp e]; exact h,fun h=>⟨k,h,beq_self_eq_true k⟩⟩
theorem snocI {n : Nat} {ks : List Int} (h : ks.length = n + 1) : ∃ ys y,ks = ys ++ [y] ∧ ys.length = n:=by
 refine ⟨ks.dropLast,ks.getLast (by intro z; rw [z] at h; cases h),(List.dropLast_concat_getLast _).symm,by rw [List.length_dropLast]; omega⟩
theorem distI_facts : ∀ {n : Nat} {ks : List Int},ks.length = n → (∀ k,k ∈ distI ks ↔ k ∈ ks) ∧ (distI ks).length ≤ ks.length ∧ (distI ks).Nodup
 | 0,ks,h=>by rw [List.length_eq_zero_iff.mp h]; exact ⟨fun _=>Iff.rfl,Nat.le_refl _,List.nodup_nil⟩
 | n + 1,ks,h=>by
  obtain ⟨ys,y,rfl,hy⟩:=snocI h
  obtain ⟨h1,h2,h3⟩:=distI_facts hy
  rw [distI_snoc,List.length_append,List.length_singleton]
  split
  ·rename_i z
   have zm:=(h1 y).mp (anyI.mp z)
   refine ⟨fun k=>?_,by omega,h3⟩
   rw [h1,List.mem_append,List.mem_singleton]
   exact ⟨.inl,fun q=>q.elim id fun e=>e ▸ zm⟩
  ·rename_i z
   refine ⟨fun k=>?_,by rw [List.length_append,List.length_singleton]; omega,?_⟩
   ·rw [List.mem_append,List.mem_append,h1]
   ·rw [List.nodup_append]
    exact ⟨h3,by simp,fun a ha b hb e=>z (anyI.mpr (by rw [List.mem_singleton.mp hb] at e; exact e ▸ ha))⟩
theorem first_dist (ns : List Int) : ∀ i,i ≤ ns.length → firstMet (fun i=>ns.getD i 0) i = distI (ns.take i)
 | 0,_=>rfl
 | i + 1,hi=>by
  have lt : i < ns.length:=hi
  have e : ns.getD i 0 = ns[i]:=by rw [List.getD_eq_getElem?_getD,List.getElem?_eq_getElem lt]; rfl
  rw [firstMet_succ,first_dist ns i (Nat.le_of_lt lt),List.take_add_one,List.getElem?_eq_getElem lt]
  show step_dedup _ _ = distI (ns.take i ++ [ns[i]])
  rw [distI_snoc,e]
  rfl
theorem setO_soft {w : World} {D : Addr} {S : Int → Bool} {n : Nat} : Soft (SetO w D S n):=.inl ⟨_,rfl,fun c q e=>(by
 have e' : (fun h=>SetR w h D S n) = (fun h=>∃ (oc : Obj) (vs : Array Value) (t : Tok),h.get? c = some oc ∧ oc.data = .fields vs ∧ vs[1]? = some (.str q t)):=HO.ext.inj e
 have hc : (codesH q (c + 1)).get? c = some { cls:=.none,data:=.fields #[.none,.str q 0] }:=by
  unfold codesH
  have h:=Heap.get?_push_size (codesH q c) (o:={ cls:=.none,data:=.fields #[.none,.str q 0] }) rfl
  rw [codes_size] at h
  exact h
 have h1 : SetR w (codesH q (c + 1)) D S n:=by
  have:=congrFun e' (codesH q (c + 1))
  rw [this]
  exact ⟨_,_,0,hc,rfl,rfl⟩
 obtain ⟨o,es,ep,t,go,-,gd,-⟩:=h1
 have:=codes_get q _ go
 rw [gd] at this
 cases this),fun a ob en ep0 hd e=>by
 have e' : (fun h=>SetR w h D S n) = (fun h : Heap=>h.get? a = some ob):=HO.ext.inj e
 have h1 : SetR w (oneH ob (a + 1)) D S n:=by
  have:=congrFun e' (oneH ob (a + 1))
  rw [this]
  exact oneH_at hd a
 obtain ⟨o,es,ep,t,go,-,gd,-⟩:=h1
 have:=oneH_get hd _ go
 rw [this,hd] at gd
 cases gd⟩
noncomputable abbrev IS:=(Int → Bool) × Nat
/-- sets of numbers -/
noncomputable def okI (acc : List D) (d : D) : Bool:=(intD d).isSome && decide (acc.length + 1 < 64)
noncomputable def vsI (X : Cx) : VSet X IS where
 O:=fun D i=>SetO X.w D i.1 i.2
 e0:=(fun _=>false,0)
 can:=fun y _ i j=>∃ k,y = .int k ∧ i.2 + 1 < scanBound ∧ j = (fun x=>i.1 x || decide (x = k),if i.1 k = true then i.2 else i.2 + 1)
 new:=fun {H h}=>setO_new (setR_fresh X.w)
 add:=fun s0 H0 sc env fp {pins σ H s E D i j y v Q} I hD hc r q=>by
  obtain ⟨k,rfl,room,rfl⟩:=hc
  obtain ⟨tk,rfl⟩:=r
  have R : SetR X.w s.heap D i.1 i.2:=(I.hok D _ hD).1
  refine setR_add (P:=X.prog) (A:=X.A) R room fun h' sb R'=>?_
  have he : ∃ u,h'.get? D = some u:=by
   obtain ⟨o,_,_,_,go,-⟩:=R'
   exact ⟨o,go⟩
  exact q _ (I.write (e:=D) (t':=s.toks + 1) (by rw [hD]; trivial) (.inl rfl) (fun b u hb hu=>(sb.2 b hb).trans hu) he (setO_new R'))
 okd:=okI
 soft:=fun D i=>setO_soft
 R:=fun m H i acc=>∃ ks,allM intD acc = some ks ∧ (∀ k,i.1 k = true ↔ k ∈ distI ks) ∧ i.2 = (distI ks).length
 r0:=fun m H=>⟨[],rfl,fun k=>by simp [distI],rfl⟩
 rext:=fun _ h=>h
 rbut:=fun _ h=>h
 put:=fun {m H i acc d y} ⟨ks,h1,h2,h3⟩ hk hr=>by
  have hk:=Bool.and_eq_true_iff.mp hk
  have hl:=of_decide_eq_true hk.2
  obtain ⟨k,ek⟩:=Option.isSome_iff_exists.mp hk.1
  cases d with
  | int j =>
   have ek' : j = k:=Option.some.inj ek
   subst ek'
   have hr : y = .int j:=hr
   subst hr
   have ha : acc.length = ks.length:=(allM_get h1).1.symm
   have hd:=(distI_facts (ks:=ks) rfl).2.1
   refine ⟨_,⟨j,rfl,by unfold scanBound; omega,rfl⟩,ks ++ [j],allM_snoc (g:=intD) rfl h1,fun x=>?_,?_⟩
   ·rw [distI_snoc,Bool.or_eq_true,decide_eq_true_eq,h2 x]
    split
    ·rename_i z
     exact ⟨fun q=>q.elim id fun e=>e ▸ anyI.mp z,.inl⟩
    ·rw [List.mem_append,List.mem_singleton]
   ·rw [distI_snoc]
    by_cases z : j ∈ distI ks
    ·rw [if_pos ((h2 j).mpr z),if_pos (anyI.mpr z)]
     exact h3
    ·rw [if_neg fun q=>z ((h2 j).mp q),if_neg fun q=>z (anyI.mp q),List.length_append,h3]
     rfl
  | _=>cases ek
noncomputable def rLenI (w : World) : List V → Hp → VK → Prop:=fun vs H Q=>∃ (a : Addr) (S : Int → Bool) (n : Nat),vs = [V.ref a] ∧ H a = some (SetO w a S n) ∧ n < 64 ∧ Q (.int n) H
theorem cr_lenI {X : Cx} : CallR X (.builtin "len") (rLenI X.w):=by
 intro pins s σ H vs us Q I r h
 obtain ⟨a,S,n,rfl,ha,h64,q⟩:=h
 have R : SetR X.w s.heap a S n:=(I.hok a _ ha).1
 rw [Vals.ref1 r]
 obtain ⟨o,es,ep,t,go,gx,gd,-,-,-,-,gf,gn,-⟩:=R
 exact call_len_set go gx gd gf (by rw [gn]; omega) ⟨.int n,H,I.tok _,⟨_,by rw [gn]⟩,q⟩
noncomputable def fLenS (f : F (List D)) : F U:=bnd f fun acc=>fun _ st=>match allM intD acc with
 | some ks=>.ok (.d (.int ((distI ks).length : Nat))) st
 | none=>.bad
theorem d_lenS {X : Cx} {W : WX} {p pos : Pos} {e : Expr} {f : F (List D)} (hm : X.mg "len" = none) (h : PE X e (tSet (vsI X) W f)) (hl : ∀ env st acc st1,f env st = .ok acc st1 → acc.length < 64) (hg : Gl X "len":=by rfl)
  (he : starEach [e] X.env = (false,eval e X.env) :: starEach [] X.env:=by rfl) : DE X W (.Call (.Name "len" p) [e] [] pos) (fLenS f) :=
 ⟨PE.imp (pe_callB cr_lenI hg hm (by rfl) (pa_cons h pa_nil he) (he:=he)) fun σ H Q q=>by
  obtain ⟨m,env,st,r,re,p⟩:=q
  refine ⟨m,env,st,r,re,?_⟩
  unfold fLenS bnd at p
  cases hf : f env st with
  | bad=>rw [hf] at p; exact p.elim
  | ex c fs st1=>rw [hf] at p; exact p
  | ok acc st1 =>
   rw [hf] at p
   simp only at p
   intro v m1 H1 hv r1 x1
   obtain ⟨D,i,rfl,hD,nD,ks,h1,h2,h3⟩:=hv
   rw [h1] at p
   simp only at p
   have ha : acc.length = ks.length:=(allM_get h1).1.symm
   have hd:=(distI_facts (ks:=ks) rfl).2.1
   have h64:=hl _ _ _ _ hf
   refine ⟨D,i.1,i.2,rfl,hD,by omega,?_⟩
   rw [h3]
   exact p _ m1 H1 rfl r1 x1⟩
theorem sgStep_len {tg : U → G} {tt : F Bool} {fe : F U} {env0 : VEnv} {u : U} {acc acc1 : List D} {st st1 : Store} (h : sgStep okI tg tt fe env0 u acc st = .ok acc1 st1) (hl : acc.length < 64) : acc1.length < 64:=by
 unfold sgStep at h
 split at h
 ·split at h
  ·split at h
   ·split at h
    ·rename_i z
     cases h
     rw [List.length_append,List.length_singleton]
     exact of_decide_eq_true (Bool.and_eq_true_iff.mp z).2
    ·cases h
   ·cases h
  ·cases h
   exact hl
  ·cases h
 ·cases h
theorem sgL_len {tg : U → G} {tt : F Bool} {fe : F U} {env0 : VEnv} : ∀ {us : List U} {acc acc1 : List D} {st st1 : Store},sgL okI tg tt fe env0 us acc st = .ok acc1 st1 → acc.length < 64 → acc1.length < 64
 | [],_,_,_,_,h,hl=>by cases h; exact hl
 | u :: us,acc,acc1,st,st1,h,hl=>by
  unfold sgL at h
  split at h
  ·rename_i a2 s2 e2
   exact sgL_len h (sgStep_len e2 hl)
  ·cases h
theorem fSg_len {fi : F Itb} {tg : U → G} {tt : F Bool} {fe : F U} {vs : List Nat} (env : VEnv) (st : Store) (acc : List D) (st1 : Store) (h : fSg okI fi tg tt fe vs env st = .ok acc st1) : acc.length < 64:=by
 unfold fSg bnd at h
 split at h
 ·dsimp only at h
  split at h
  ·unfold sgEnd at h
   split at h
   ·rename_i e
    split at h
    ·cases h
     exact sgL_len e (by decide)
    ·cases h
   ·cases h
  ·cases h
 ·cases h
 ·cases h
noncomputable def tLenSet (K : PySem.W.Frag) (ta : TE) : TE:=fun σ H Q=>ta σ H fun x H1=>∃ (l : Addr) (ns : List Int),x = V.ref l ∧ SqL K H1 l (ns.map V.int) ∧ ns.length < 64 ∧ Q (.int (distI ns).length) H1
theorem pe_lenSet {X : Cx} {a : Expr} {ta : TE} {p p2 q pos : Pos} (hc : X.calm = true) (hg : Gl X "len") (hm : X.mg "len" = none) (hg2 : Gl X "set") (hm2 : X.mg "set" = none) (ha : PE X a ta)
  (na : starEach [a] X.env = (false,eval a X.env) :: starEach [] X.env:=by rfl) : PE X (.Call (.Name "len" p) [.Call (.Name "set" p2) [a] [] q] [] pos) (tLenSet X.K ta):=by
 refine ⟨fun pins s σ H Q I h=>?_⟩
 refine Call_ (ld_blt I hg hm PySem.boot_len ?_)
 refine PyProof.Rows.callWith_builtin1 (PyProof.Rows.args_cons ?_ rfl) rfl rfl
 refine Call_ (ld_blt I hg2 hm2 PyProof.Rows.boot_set ?_)
 refine PyProof.Rows.callWith_type1 (PyProof.Rows.args_cons (thn (ha.run pins s σ H _ I h) fun v s1 ⟨x,H1,I1,r1,q1⟩=>PyProof.Rows.args_nil ?_) na) na rfl
 obtain ⟨l,ns,rfl,hq,h64,q1⟩:=q1
 cases r1
 obtain ⟨its,r,pl,hz⟩:=I1.list hq
 have hl : its.toArray.size = ns.length:=by rw [List.size_toArray,← r.length,List.length_map]
 refine call_set_list (I1.ok.hd hc) pl.isList (ns:=ns) (by simpa using r.ints) (by unfold scanBound; omega) fun h' tk hS hk=>?_
 rw [hl,first_dist ns ns.length (Nat.le_refl _),List.take_length] at hS
 refine PyProof.Rows.args_nil ?_
 obtain ⟨o,es,ep,t,go,gx,gd,_,_,_,gf,gn⟩:=hS
 have I2 : Inv X pins σ H1 { s1 with heap:=h',toks:=tk }:=I1.kept fun b o e=>hk b o (Heap.lt_size e) e
 have hd:=(distI_facts (ks:=ns) rfl).2.1
 refine call_len_set go gx gd gf (by rw [gn]; omega) ⟨.int (distI ns).length,H1,I2.tok _,⟨_,by rw [gn]⟩,q1⟩
noncomputable def oLenSet : U → Store → Option U:=fun u st=>match getL st u with
 | some us=>match intsU us with
  | some ns=>if ns.length < 64 then some (.d (.int ((distI ns).length : Nat))) else none
  | none=>none
 | none=>none
theorem d_lenSet {X : Cx} {W : WX} {p p2 q pos : Pos} {e : Expr} {fe : F U} (hc : X.calm = true) (hm : X.mg "len" = none) (hm2 : X.mg "set" = none) (h : DE X W e fe) (hg : Gl X "len":=by rfl) (hg2 : Gl X "set":=by rfl)
  (na : starEach [e] X.env = (false,eval e X.env) :: starEach [] X.env:=by rfl) : DE X W (.Call (.Name "len" p) [.Call (.Name "set" p2) [e] [] q] [] pos) (f1 oLenSet fe) :=
 ⟨PE.imp (pe_lenSet hc hg hm hg2 hm2 h.pe na) fun σ H Q q=>by
  obtain ⟨m,env,st,r,re,p⟩:=q
  refine ⟨m,env,st,r,re,?_⟩
  unfold f1 bnd at p
  cases hf : fe env st with
  | bad=>rw [hf] at p; exact p.elim
  | ex c fs st1=>rw [hf] at p; exact p
  | ok u st1 =>
   rw [hf] at p
   simp only at p
   intro v m1 H1 hv r1 x1
   unfold oLenSet at p
   cases hl : getL st1 u with
   | none=>rw [hl] at p; exact p.elim
   | some us =>
    rw [hl] at p
    obtain ⟨a,ws,rfl,t,q⟩:=getL_rp r1 hv hl
    cases hns : intsU us with
    | none=>simp only [hns] at p; exact p.elim
    | some ns =>
     simp only [hns] at p
     by_cases h64 : ns.length < 64
     ·rw [if_pos h64] at p
      have:=ints_rp q hns
      subst this
      exact ⟨a,ns,rfl,t,h64,p _ m1 H1 rfl r1 x1⟩
     ·rw [if_neg h64] at p; exact p.elim⟩
end VL
namespace VL
open PySem PySem.Spec PyProof.Rows L2
noncomputable def noNone : PyData → Bool
 | .none=>false
 | _=>true
noncomputable def cmpP (st : Store) (a b : U) : Option (PyData × PyData):=match asP st a,asP st b with
 | some p,some q=>if PySem.W.alike p q = true ∧ noNone p = true ∧ p.depth ≤ 60 then some (p,q) else none
 | _,_=>none
noncomputable def oCmpD (z : PyData → PyData → Bool) : P2:=fun a b st=>(cmpP st a b).map fun pq=>.d (.bl (z pq.1 pq.2))
theorem op_cmpD {X : Cx} {f : Value → Value → Sem Value} {z : PyData → PyData → Bool} (hu : X.A.units + 64 < cLine)
  (hf : ∀ {s : Shared} {a b : Value} {da db : PyData} {as bs : List Addr} {Q E : Value → Shared → Prop},Reads s.heap a da as → Reads s.heap b db bs → PySem.W.alike da db = true → da ≠ .none → X.A.units + min da.depth db.depth < cLine → Q (.bool (z da db)) s → wpAny (model X.prog X.w) X.A (f a b) Q E s) :
  OpR X f (rG X.K (oCmpD z)):=by
 intro pins s σ H x y v u Q I rx ry h
 obtain ⟨m,st,a,b,r,ha,hb,p⟩:=h
 replace p : PV X.K m st H Q (oCmpD z a b st):=p
 unfold oCmpD cmpP at p
 split at p
 ·rename_i d1 d2 h1 h2
  split at p
  ·rename_i hz
   obtain ⟨as,ra⟩:=Dp.reads I d1 _ _ (asP_dp r ha h1) rx
   obtain ⟨bs,rb⟩:=Dp.reads I d2 _ _ (asP_dp r hb h2) ry
   refine hf ra rb hz.1 (fun e=>by rw [e] at hz; cases hz.2.1) (by have:=hz.2.2; omega) ?_
   exact ⟨.bl (z d1 d2),H,I,rfl,p _ H rfl r (Ext.refl _ _)⟩
  ·exact p.elim
 ·exact p.elim
theorem op_ltD {X : Cx} (hu : X.A.units + 64 < cLine) : OpR X (compareOp .Lt) (rG X.K (oCmpD fun a b=>PySem.W.dataLt a b)):=op_cmpD hu fun a b c d e f=>PySem.W.lt_data a b c d e f
/-- flat tuples compared -/
theorem toP_keys : ∀ {ds : List D} {k : List Key},allM keyOf ds = some k → toPs ds = some (k.map keyP)
 | [],k,e=>by cases e; rfl
 | d :: ds,k,e=>by
  unfold allM at e
  cases q1 : keyOf d with
  | none=>rw [q1] at e; cases e
  | some k0 =>
   rw [q1] at e
   cases q2 : allM keyOf ds with
   | none=>rw [q2] at e; cases e
   | some ks =>
    rw [q2] at e
    cases e
    have h0 : toP d = some (keyP k0):=by cases d <;> cases q1 <;> rfl
    rw [toPs,h0,toP_keys q2]
    rfl
theorem cmp_keys {a b : D} {j k : List Key} {st : Store} (ha : keysD a = some j) (hb : keysD b = some k) (sh : shpK j = shpK k) : cmpP st (.d a) (.d b) = some (.tuple (j.map keyP),.tuple (k.map keyP)):=by
 have ta : ∀ {d : D} {k : List Key},keysD d = some k → toP d = some (.tuple (k.map keyP)):=fun {d k} h=>by
  cases d with
  | tup ds =>
   have:=toP_keys (show allM keyOf ds = some k from h)
   show (toPs ds).map PyData.tuple = _
   rw [this]
   rfl
  | _=>cases h
 have hd:=depth_keys j
 have dp : PyData.depth (.tuple (j.map keyP)) ≤ 60:=by simp only [PyData.depth]; omega
 have al : PySem.W.alike (.tuple (j.map keyP)) (.tuple (k.map keyP)) = true:=alike_all sh
 unfold cmpP
 simp only [asP_d,ta ha,ta hb]
 rw [if_pos ⟨al,rfl,dp⟩]
theorem lt_keysD {j k : List Key} (sh : shpK j = shpK k) : PySem.W.dataLt (.tuple (j.map keyP)) (.tuple (k.map keyP)) = ltK j k:=by rw [PySem.W.dataLt_tuple,lex_keys sh]
noncomputable abbrev PD:=PyData × D
noncomputable def leP (a b : PD) : Bool:=!PySem.W.dataLt b.1 a.1
noncomputable def isTupP : PyData → Bool
 | .tuple (_ :: _)=>true
 | _=>false
noncomputable def othP : PyData → Bool
 | .none=>false
 | .tuple _=>false
 | _=>true
noncomputable def sortP (ds : List D) : Option (List D):=match allM toP ds with
 | some ps=>if (ps.all fun p=>ps.all fun q=>PySem.W.alike p q) = true ∧ (ps.all isTupP = true ∨ ps.all othP = true) ∧ (ps.all fun p=>decide (p.depth ≤ 60)) = true then some (((ps.zip ds).mergeSort leP).map (·.2)) else none
 | none=>none
noncomputable def oSortP : List U → Store → Option U:=fun us st=>match us with
 | [u]=>match getL st u with
  | some us=>match pureL us with
   | some ds=>if ds.length < 1000 then (sortP ds).map fun ds=>.d (.lst ds) else none
   | none=>none
  | none=>none
 | _=>none
noncomputable abbrev PDV:=(PyData × D) × V
noncomputable def encV (b : PDV) : PyData:=b.1.1
noncomputable def rSortP (K : PySem.W.Frag) : List V → Hp → VK → Prop:=fun vs H Q=>∃ (a : Addr) (bs : List PDV),vs = [V.ref a] ∧ SqL K H a (bs.map (·.2)) ∧ (∀ b ∈ bs,Dp K H b.2 (encV b)) ∧ bs.length < 1000 ∧ (∀ b ∈ bs,∀ c ∈ bs,PySem.W.alike (encV b) (encV c) = true) ∧ ((∀ b ∈ bs,isTupP (encV b) = true) ∨ ∀ b ∈ bs,othP (encV b) = true) ∧ (∀ b ∈ bs,(encV b).depth ≤ 60) ∧
 ∀ p,H p = none → Q (.ref p) (upd H p (.lst ((bs.mergeSort (PySem.W.dataLe false encV)).map (·.2))))
theorem each_vals : ∀ {bs : List PDV} {us : List Value},Vals (bs.map (·.2)) us → PySem.W.EachIs (fun u b=>RelV b.2 u) us bs
 | [],_,.nil=>.nil
 | _ :: _,_,.cons r t=>.cons r (each_vals t)
theorem vals_each : ∀ {bs : List PDV} {us : List Value},PySem.W.EachIs (fun u b=>RelV b.2 u) us bs → Vals (bs.map (·.2)) us
 | _,_,.nil=>.nil
 | _,_,.cons r t=>.cons r (vals_each t)
theorem cr_sortP {X : Cx} (hu : X.A.units + 65 < cLine) : CallR X (.builtin "sorted") (rSortP X.K):=by
 intro pins s σ H vs us Q I r h
 obtain ⟨a,bs,rfl,hl,hd,hz,al,kd,dp,q⟩:=h
 obtain ⟨its,rv,pl,hsz⟩:=I.list hl
 rw [Vals.ref1 r]
 have ee:=each_vals rv
 have er : PySem.W.EachIs (fun v b=>∃ as,Reads s.heap v (encV b) as) its bs:=(PySem.W.each_mem ee).mono fun v b ⟨h1,h2⟩=>Dp.reads I _ _ _ (hd b h2) h1
 refine PySem.W.sorted_data (vs:=its) (bs:=bs) (enc:=encV) (R:=fun u b=>RelV b.2 u) pl.isList ee er (fun d hd d' hd'=>?_) ?_ (by rw [sizeLine_eq]; omega) (fun b hb=>by have:=dp b hb; omega) fun out ho eo=>?_
 ·obtain ⟨b,hb,rfl⟩:=List.mem_map.mp hd
  obtain ⟨c,hc,rfl⟩:=List.mem_map.mp hd'
  exact al b hb c hc
 ·rcases kd with kd | kd
  ·refine .inl fun d hd=>?_
   obtain ⟨b,hb,rfl⟩:=List.mem_map.mp hd
   have:=kd b hb
   generalize encV b = e at this
   cases e with
   | tuple xs=>cases xs with
    | nil=>cases this
    | cons x r=>exact ⟨x,r,rfl⟩
   | _=>cases this
  ·refine .inr fun d hd=>?_
   obtain ⟨b,hb,rfl⟩:=List.mem_map.mp hd
   have:=kd b hb
   generalize encV b = e at this
   cases e <;> first | (cases this; done) | exact ⟨nofun,nofun⟩
 ·obtain ⟨ep,he'⟩:=PyProof.Rows.sortedAll_at s.heap its out.toArray
  have hlen : ((bs.mergeSort (PySem.W.dataLe false encV)).map (·.2)).length ≤ sizeLine:=by rw [List.length_map,List.length_mergeSort,sizeLine_eq]; omega
  refine ⟨.ref _,upd H (s.heap.objs.size + 1) (.lst ((bs.mergeSort (PySem.W.dataLe false encV)).map (·.2))),I.laid (t':=s.toks) (fun _ _=>PyProof.Rows.sortedAll_old) (Nat.le_succ _) ⟨hlen,out,ep,vals_each eo,?_⟩,rfl,q _ (I.hok.fresh (Nat.le_succ _))⟩
  simpa using he'
theorem mk_bs {K : PySem.W.Frag} {m : List Addr} {H : Hp} : ∀ {ds : List D} {ws : List V} {ps : List PyData},RpDs K m H ds ws → allM toP ds = some ps → ∃ bs : List PDV,bs.map (·.1) = ps.zip ds ∧ bs.map (·.2) = ws ∧ bs.length = ds.length ∧ ∀ b ∈ bs,RpD K m H b.1.2 b.2 ∧ toP b.1.2 = some b.1.1 ∧ b.1.1 ∈ ps
 | [],ws,ps,h,e=>by cases e; exact ⟨[],rfl,h.symm,rfl,nofun⟩
 | d :: ds,ws,ps,⟨v,r,e1,h1,h2⟩,e=>by
  unfold allM at e
  cases q1 : toP d with
  | none=>rw [q1] at e; cases e
  | some p0 =>
   rw [q1] at e
   cases q2 : allM toP ds with
   | none=>rw [q2] at e; cases e
   | some p1 =>
    rw [q2] at e
    cases e
    obtain ⟨bs,a1,a2,a3,a4⟩:=mk_bs h2 q2
    refine ⟨((p0,d),v) :: bs,by rw [List.map_cons,a1]; rfl,by rw [List.map_cons,a2,e1],by rw [List.length_cons,a3]; rfl,fun b hb=>?_⟩
    rcases List.mem_cons.mp hb with rfl | hb
    ·exact ⟨h1,q1,List.mem_cons_self⟩
    ·obtain ⟨z1,z2,z3⟩:=a4 b hb
     exact ⟨z1,z2,List.mem_cons_of_mem _ z3⟩
theorem rp_maps {K : PySem.W.Frag} {m : List Addr} {H : Hp} : ∀ {bs : List PDV},(∀ b ∈ bs,RpD K m H b.1.2 b.2) → RpDs K m H (bs.map fun b=>b.1.2) (bs.map (·.2))
 | [],_=>rfl
 | b :: bs,h=>⟨_,_,rfl,h b List.mem_cons_self,rp_maps fun c hc=>h c (List.mem_cons_of_mem _ hc)⟩
theorem cr_sortPD {X : Cx} (hu : X.A.units + 65 < cLine) : CallR X (.builtin "sorted") (rM X.K (pu oSortP)):=by
 refine CallR.imp (cr_sortP hu) fun vs H Q ⟨m,st,us,r,ru,p⟩=>?_
 obtain ⟨u,e,p⟩:=p.pu
 unfold oSortP at e
 split at e
 ·obtain ⟨v,rfl,hv⟩:=ru.one
  split at e
  ·rename_i us hl
   obtain ⟨a,ws,rfl,t,q⟩:=getL_rp r hv hl
   split at e
   ·rename_i ds hds
    split at e
    ·rename_i hz
     have qd:=pureL_rp q hds
     unfold sortP at e
     split at e
     ·rename_i ps hps
      split at e
      ·rename_i hc
       cases e
       obtain ⟨bs,b1,b2,b3,b4⟩:=mk_bs qd hps
       subst b2
       have hal : ∀ p ∈ ps,∀ q ∈ ps,PySem.W.alike p q = true:=fun p hp q hq=>List.all_eq_true.mp (List.all_eq_true.mp hc.1 p hp) q hq
       refine ⟨a,bs,rfl,t,fun b hb=>asP_dp r (u:=.d b.1.2) (b4 b hb).1 (b4 b hb).2.1,by omega,fun b hb c hc'=>hal _ (b4 b hb).2.2 _ (b4 c hc').2.2,hc.2.1.imp (fun z b hb=>List.all_eq_true.mp z _ (b4 b hb).2.2) (fun z b hb=>List.all_eq_true.mp z _ (b4 b hb).2.2),fun b hb=>of_decide_eq_true (List.all_eq_true.mp hc.2.2 _ (b4 b hb).2.2),fun pp hpp=>?_⟩
       have e1 : ((ps.zip ds).mergeSort leP).map (·.2) = (bs.mergeSort (PySem.W.dataLe false encV)).map fun b=>b.1.2:=by
        have:=PySem.W.sort_maps (r:=PySem.W.dataLe false encV) (s:=leP) (fun b : PDV=>b.1) (l:=bs) fun b hb c hc=>rfl
        rw [← b1,← this,List.map_map]
        rfl
       rw [e1] at p
       have xn:=ext_new r hpp (.lst ((bs.mergeSort (PySem.W.dataLe false encV)).map (·.2)))
       exact p (.ref pp) m (upd H pp (.lst ((bs.mergeSort (PySem.W.dataLe false encV)).map (·.2)))) ⟨pp,_,rfl,⟨r.fresh hpp,upd_same⟩,rp_maps fun b hb=>(b4 b ((List.mergeSort_perm bs _).mem_iff.mp hb)).1.ext xn⟩ (r.new hpp _) xn
      ·cases e
     ·cases e
    ·cases e
   ·cases e
  ·cases e
 ·cases e
end VL
namespace VL
open PySem PySem.Spec L2
noncomputable def itZA (us : List U) : Option Itb:=match us with
 | [.d (.lst xs),.d (.lst ys)]=>some (.lst (zipD xs ys))
 | [.d (.tup xs),.d (.tup ys)]=>some (.lst (zipD xs ys))
 | _=>none
theorem walk_zipT {K : PySem.W.Frag} {a b : Addr} {xs ys : List V} {n : Nat} (hn : n = min xs.length ys.length) : Walk (RZ.ItzT K a b) n (fun H=>SqT K H a xs ∧ SqT K H b ys) (YPair (fun i=>xs[i]?) (fun i=>ys[i]?)):=by
 subst hn
 refine ⟨fun i _ hi q=>?_,fun _ q=>⟨xs,ys,q.1,q.2,by omega⟩,fun i H v H' _ q y=>?_⟩
 ·have h1 : i < xs.length:=by omega
  have h2 : i < ys.length:=by omega
  exact ⟨xs,ys,xs[i],ys[i],q.1,q.2,by simp [h1],by simp [h2]⟩
 ·obtain ⟨T,x,z,h1,h2,h3,h4,h5⟩:=y
  exact ⟨T,x,z,h1,h2,h3,h4 xs q.1,h5 ys q.2⟩
section
variable {K : PySem.W.Frag} {m : List Addr} {H : Hp} {st : Store}
theorem isIt_zipT {a b : Addr} {xs ys : List D} {vs ws : List V} (hs : ∀ m' H',Ext m H m' H' → SqT K H' a vs ∧ SqT K H' b ws) (hx : RpDs K m H xs vs) (hy : RpDs K m H ys ws) : IsIt K m H (RZ.ItzT K a b) (.lst (zipD xs ys)):=by
 have hl:=hx.length
 have hl':=hy.length
 have hl2:=zipD_length xs ys
 have wz:=walk_zipT (K:=K) (a:=a) (b:=b) (xs:=vs) (ys:=ws) (n:=min vs.length ws.length) rfl
 refine ⟨fun i m' st' H' hi r e=>wz.goes i H' (by omega) (hs m' H' e),fun m' st' H' r e=>(by rw [hl2,← hl,← hl']; exact wz.stops H' (hs m' H' e)),fun i u m' st' H' x H'' hu r e y=>?_⟩
 have hi:=(List.getElem?_eq_some_iff.mp hu).1
 obtain ⟨T,x1,y1,rfl,nT,rfl,e1,e2⟩:=wz.yields i H' x H'' (by omega) (hs m' H' e) y
 obtain ⟨d1,d2,hd1,hd2,rfl⟩:=zipD_get xs ys i u hu
 obtain ⟨v,hv,rv⟩:=hx.get hd1
 obtain ⟨w,hw,rw'⟩:=hy.get hd2
 cases hv.symm.trans e1
 cases hw.symm.trans e2
 exact pair_new r nT (rv.ext e) (rw'.ext e)
end
section
variable {X : Cx} {W : WX} {e e2 : Expr} {fs : F (List U)} {pos p tpos : Pos} {elts : List Expr} {kk : Nat}
theorem d_zipA (hm : X.mg "zip" = none) (ha : DA X W [e,e2] fs) (hg : Gl X "zip":=by rfl) (hs : starEach [e,e2] X.env = (false,eval e X.env) :: starEach [e2] X.env:=by rfl) (hpl : (backTo pos (starEach [e2] X.env)).any (·.1) = false:=by rfl) : DI X W (.Tuple elts kk tpos) (.Call (.Name "zip" p) [e,e2] [] pos) (fItN itZA fs) :=
 ⟨PI.imp (RZ.pi_zipA hg hm ha.pa hs hpl) fun σ H R h=>t_itN h fun us vs m1 st1 H1 t h1 r1 ht q=>by
  unfold itZA at ht
  split at ht
  ·cases ht
   obtain ⟨v,_,rfl,⟨a,ws,rfl,g1,g2⟩,w,_,rfl,⟨b,xs,rfl,g3,g4⟩,rfl⟩:=h1
   exact ⟨a,b,ws,xs,rfl,.inl ⟨g1.sq,g3.sq,q _ (isIt_zip (fun m' H' e'=>⟨(g1.stay e'.toStay).sq,(g3.stay e'.toStay).sq⟩) g2 g4)⟩⟩
  ·cases ht
   obtain ⟨v,_,rfl,⟨a,ws,rfl,g1,g2⟩,w,_,rfl,⟨b,xs,rfl,g3,g4⟩,rfl⟩:=h1
   exact ⟨a,b,ws,xs,rfl,.inr ⟨g1.sq,g3.sq,q _ (isIt_zipT (fun m' H' e'=>⟨(g1.stay e'.toStay).sq,(g3.stay e'.toStay).sq⟩) g2 g4)⟩⟩
  ·cases ht⟩
end
section
variable {X : Cx} {W : WX} {elt tg iter tj ij : Expr} {ifs cj : List Expr} {scope : Scope} {own : List (Str × Nat)} {pos : Pos} {is js ws vs : List Nat} {g gj : U → G} {gt gtj : F Bool} {fe fj : F U} {fi : F Itb}
theorem s_setM2 (hu : X.A.units + 65 < cLine) (hc : X.calm = true) (hN : X.N.Nodup) (hi : DI X W tg iter fi) (ok : BlkOk X.N X.env.scope scope own) (hg : inBlk X scope fun Y=>DG Y tg is g) (ht : inBlk X scope fun Y=>DTs Y W0 ifs gt) (hj : inBlk X scope fun Y=>DE Y W0 ij fj) (hgj : inBlk X scope fun Y=>DG Y tj js gj) (htj : inBlk X scope fun Y=>DTs Y W0 cj gtj) (he : inBlk X scope fun Y=>DE Y W0 elt fe)
  (hvv : own.map (·.2) = vs:=by rfl) (hvs : ∀ i ∈ is,i ∈ vs:=by decide) (hws : ∀ i ∈ js,i ∈ ws:=by decide) (hwv : ∀ i ∈ ws,i ∈ vs:=by decide) (hs : ∀ x,foldedSetIterable iter X.env x = pure x:=by intro _; rfl) (hs2 : ∀ env x,foldedSetIterable ij env x = pure x:=by intro _ _; rfl) :
  PE X (.SetComp elt [⟨tg,iter,ifs,0⟩,⟨tj,ij,cj,0⟩] scope pos) (tSet (vsM X hu) W (fSg2 okM fi g gt fj gj gtj fe vs ws)):=by
 subst hvv; exact s_set2 (S:=(vsM X hu)) hc hN hi ok hg ht hj hgj htj he hvs hws hwv hs hs2
theorem s_setI (hc : X.calm = true) (hN : X.N.Nodup) (hi : DI X W tg iter fi) (ok : BlkOk X.N X.env.scope scope own) (hg : inBlk X scope fun Y=>DG Y tg is g) (ht : inBlk X scope fun Y=>DTs Y W0 ifs gt) (he : inBlk X scope fun Y=>DE Y W0 elt fe)
  (hvv : own.map (·.2) = vs:=by rfl) (hvs : ∀ i ∈ is,i ∈ vs:=by decide) (hs : ∀ x,foldedSetIterable iter X.env x = pure x:=by intro _; rfl) :
  PE X (.SetComp elt [⟨tg,iter,ifs,0⟩] scope pos) (tSet (vsI X) W (fSg okI fi g gt fe vs)):=by
 subst hvv; exact s_set (S:=(vsI X)) hc hN hi ok hg ht he hvs hs
end
end VL
namespace VL
open PySem PySem.Spec PyProof.Rows L2
noncomputable def inTD (st : Store) (a b : U) : Option Bool:=match asP st a,asP st b with
 | some p,some (.tuple qs)=>if p.plain = true ∧ PyData.plainAll qs = true ∧ p.depth ≤ 60 then some (qs.any fun q=>PyData.eqv q p) else none
 | _,_=>none
noncomputable def oNotInT : P2:=fun a b st=>(inTD st a b).map fun k=>.d (.bl (!k))
theorem op_notInT {X : Cx} (hu : X.A.units + 65 < cLine) : OpR X (compareOp .NotIn) (rG X.K oNotInT):=by
 intro pins s σ H x y v u Q I rx ry h
 obtain ⟨m,st,a,b,r,ha,hb,p⟩:=h
 replace p : PV X.K m st H Q (oNotInT a b st):=p
 unfold oNotInT inTD at p
 split at p
 ·rename_i d1 d2 h1 h2
  split at p
  ·rename_i hz
   obtain ⟨as,ra⟩:=Dp.reads I d1 _ _ (asP_dp r ha h1) rx
   obtain ⟨bs,rb⟩:=Dp.reads I (.tuple d2) _ _ (asP_dp r hb h2) ry
   refine SeqAt.notIn_tuple_data rb ra hz.2.1 hz.1 (by have:=hz.2.2; omega) ?_
   exact ⟨.bl _,H,I,rfl,p _ H rfl r (Ext.refl _ _)⟩
  ·exact p.elim
 ·exact p.elim
noncomputable def intKs (kvs : List (Key × U)) : Option (List Int):=allM (fun kv=>match kv.1 with
 | .inl i=>some i
 | .inr _=>none) kvs
noncomputable def oSortDI : List U → Store → Option U:=fun us st=>match us with
 | [u]=>match getD st u with
  | some kvs=>match intKs kvs with
   | some ks=>if ks.length < 64 then some (.d (.lst ((ks.mergeSort fun a b=>decide (a ≤ b)).map D.int))) else none
   | none=>none
  | none=>none
 | _=>none
theorem ks_rp {K : PySem.W.Frag} {m : List Addr} {H : Hp} : ∀ {us : List (Key × U)} {vs : List (Key × V)} {ks : List Int},RpUK K m H us vs → intKs us = some ks → vs.map (·.1) = ks.map Sum.inl
 | [],vs,ks,h,e=>by cases e; rw [show vs = [] from h]; rfl
 | (k,u) :: us,_,ks,⟨v,r,ev,h1,h2⟩,e=>by
  subst ev
  unfold intKs allM at e
  cases k with
  | inr x=>cases e
  | inl i =>
   simp only at e
   split at e
   ·rename_i b bs e1 e2
    cases e1
    cases e
    rw [List.map_cons,List.map_cons,ks_rp h2 (show intKs us = some bs from e2)]
   ·cases e
theorem cr_sortDI {X : Cx} (hc : X.calm = true) : CallR X (.builtin "sorted") (rM X.K (pu oSortDI)):=by
 refine CallR.imp (L2.call_sortedDI hc) fun vs H Q ⟨m,st,us,r,ru,p⟩=>?_
 obtain ⟨u,e,p⟩:=p.pu
 unfold oSortDI at e
 split at e
 ·obtain ⟨v,rfl,hv⟩:=ru.one
  split at e
  ·rename_i kvs hg
   obtain ⟨a,ws,rfl,t,q⟩:=getD_rp r hv hg
   split at e
   ·rename_i ks hk
    split at e
    ·rename_i h64
     cases e
     refine ⟨a,ws,ks,rfl,t,ks_rp q hk,h64,fun ys pp hp hs hpp=>?_⟩
     have : ys = ks.mergeSort (fun a b=>decide (a ≤ b)):=by
      refine List.Perm.eq_of_pairwise (le:=fun a b=>a ≤ b) (fun a b _ _ h1 h2=>Int.le_antisymm h1 h2) hs ?_ (hp.trans (List.mergeSort_perm _ _).symm)
      have:=List.pairwise_mergeSort (le:=fun a b : Int=>decide (a ≤ b)) (fun a b c h1 h2=>by simp at *; omega) (fun a b=>by simp; omega) ks
      exact this.imp fun h=>by simpa using h
     subst this
     exact p _ m _ (new_lst r hpp (RpDs.ints _)) (r.new hpp _) (ext_new r hpp _)
    ·cases e
   ·cases e
  ·cases e
 ·cases e
noncomputable def dKs (us : List (Key × U)) : Option (List (Key × D)):=allM (fun kv=>match kv.2 with
 | .d x=>some (kv.1,x)
 | _=>none) us
noncomputable def itemsCB (st : Store) : U → VL.R Itb
 | .d (.dct ds)=>.ok (kItems ds) st
 | .ref n=>match st[n]? with
  | some (.dct us)=>match dKs us with
   | some ds=>.ok (kItems ds) (st.set n (.lck us))
   | none=>.bad
  | some (.lck us)=>match dKs us with
   | some ds=>.ok (kItems ds) st
   | none=>.bad
  | _=>.bad
 | _=>.bad
noncomputable def fIkC (f : F U) : F Itb:=bnd f fun u=>fun _ st=>itemsCB st u
section
variable {K : PySem.W.Frag} {m : List Addr} {H : Hp} {st : Store}
theorem dks_rp : ∀ {us : List (Key × U)} {vs : List (Key × V)} {ds : List (Key × D)},RpUK K m H us vs → dKs us = some ds → RpK K m H ds vs
 | [],vs,ds,h,e=>by cases e; exact h
 | (k,u) :: us,_,ds,⟨v,r,ev,h1,h2⟩,e=>by
  subst ev
  unfold dKs allM at e
  cases u with
  | ref n=>cases e
  | d x =>
   simp only at e
   split at e
   ·rename_i b bs e1 e2
    cases e1
    cases e
    exact ⟨v,r,rfl,h1,dks_rp h2 (show dKs us = some bs from e2)⟩
   ·cases e
theorem isIt_itemsC {d : Addr} {o : Obj} {ds : List (Key × D)} {vs : List (Key × V)} (h : H d = some (.frz o (.dK vs))) (hr : RpK K m H ds vs) : IsIt K m H (Iti d o vs) (kItems ds):=by
 have hl:=hr.length
 refine ⟨fun i m' st' H' hi r e=>⟨e.toStay.fz _ _ _ h,by rw [List.length_map] at hi; omega⟩,fun m' st' H' r e=>⟨e.toStay.fz _ _ _ h,by rw [List.length_map]; omega⟩,fun i u m' st' H' x H'' hu r e y=>?_⟩
 obtain ⟨T,k,v,e1,rfl,nT,rfl⟩:=y
 rw [List.getElem?_map] at hu
 cases q : ds[i]? with
 | none=>rw [q] at hu; cases hu
 | some kd =>
  rw [q] at hu
  have hu:=Option.some.inj hu
  obtain ⟨w,hw,rw'⟩:=hr.get q
  rw [hw] at e1
  cases e1
  subst hu
  exact pair_new r nT (kD_rp _) (rw'.ext e)
end
theorem d_itemsC {X : Cx} {W : WX} {e : Expr} {fe : F U} {apos cpos : Pos} {elts : List Expr} {kk : Nat} {tpos : Pos} (he : DE X W e fe) (hbase : attributeBase e "items" X.env (eval e X.env) = eval e X.env:=by rfl) (hline : (apos.endLine == cpos.line) = true:=by rfl) :
  DI X W (.Tuple elts kk tpos) (.Call (.Attribute e "items" apos) [] [] cpos) (fIkC fe):=⟨PI.imp (pi_items (pe_lk he.pe) hbase hline) fun σ H R h=>by
 obtain ⟨m,env,st,r,re,p⟩:=h
 unfold fIkC at p
 refine ⟨m,env,st,r,re,?_⟩
 cases q : fe env st with
 | bad=>unfold bnd at p; simp only [q] at p; exact p.elim
 | ex c fs st1=>unfold bnd at p; simp only [q] at p; exact p
 | ok u st1 =>
  have pp:=p
  unfold bnd at p
  simp only [q] at p
  intro v m1 H1 h1 r1 x1
  have e2 : ∀ (t : Itb) (st2 : Store),itemsCB st1 u = .ok t st2 → ∀ (m2 : List Addr) (H2 : Hp),Rep X.K m2 st2 H2 → Ext m H m2 H2 → ∀ J,IsIt X.K m2 H2 J t → R J H2:=fun t st2 w m2 H2 r2 x2 J hJ=>by
   rw [w] at p
   exact p t m2 H2 rfl r2 x2 m2 st2 rfl r2 x2 J hJ
  have nb : itemsCB st1 u ≠ .bad:=fun w=>by rw [w] at p; exact p.elim
  clear p pp
  match u,e2,nb,h1 with
  | .d (.dct ds),e2,nb,h1 =>
   obtain ⟨d,vs,rfl,⟨hd,hr⟩,hk⟩:=h1
   refine ⟨d,vs,rfl,?_⟩
   rcases hr with hr | ⟨o,hr⟩
   ·refine .inr ⟨hr,fun o=>⟨d,o,vs,rfl,upd_same,?_⟩⟩
    obtain ⟨r2,x2⟩:=rep_lock r1 hd hr o
    exact e2 _ _ rfl _ _ r2 (x1.trans x2) _ (isIt_items hd upd_same (hk.ext x2))
   ·exact .inl ⟨o,hr,d,o,vs,rfl,hr,e2 _ _ rfl _ _ r1 x1 _ (isIt_items hd hr hk)⟩
  | .ref n,e2,nb,h1 =>
   obtain ⟨d,ha,rfl⟩:=h1
   have hm : d ∈ m1:=List.mem_of_getElem? ha
   unfold itemsCB at e2 nb
   cases hs : st1[n]? with
   | none=>simp only [hs] at nb; exact absurd rfl nb
   | some c =>
    simp only [hs] at nb e2
    match c,hs,nb,e2 with
    | .dct us,hs,nb,e2 =>
     obtain ⟨ho,g1,vs,g2,g3⟩:=r1.cell n _ d hs ha
     subst g2
     simp only at nb e2
     cases hds : dKs us with
     | none=>simp only [hds] at nb; exact absurd rfl nb
     | some ds =>
      simp only [hds] at e2
      refine ⟨d,vs,rfl,.inr ⟨g1,fun o=>⟨d,o,vs,rfl,upd_same,?_⟩⟩⟩
      have xw:=ext_write hm (.frz o (.dK vs)) (nf_d g1)
      exact e2 _ _ rfl _ _ (r1.write ha (c:=.lck us) ⟨o,vs,rfl,g3.ext xw⟩ (nf_d g1)) (x1.trans xw) _ (isIt_itemsC upd_same (dks_rp (g3.ext xw) hds))
    | .lck us,hs,nb,e2 =>
     obtain ⟨ho,g1,o,vs,g2,g3⟩:=r1.cell n _ d hs ha
     subst g2
     simp only at nb e2
     cases hds : dKs us with
     | none=>simp only [hds] at nb; exact absurd rfl nb
     | some ds =>
      simp only [hds] at e2
      exact ⟨d,vs,rfl,.inl ⟨o,g1,d,o,vs,rfl,g1,e2 _ _ rfl _ _ r1 x1 _ (isIt_itemsC g1 (dks_rp g3 hds))⟩⟩
    | .lst _,hs,nb,e2=>exact absurd rfl nb
    | .tup _,hs,nb,e2=>exact absurd rfl nb
    | .ins _ _,hs,nb,e2=>exact absurd rfl nb
    | .tbl _ _,hs,nb,e2=>exact absurd rfl nb
  | .d .non,e2,nb,h1=>exact absurd rfl nb
  | .d (.bl _),e2,nb,h1=>exact absurd rfl nb
  | .d (.int _),e2,nb,h1=>exact absurd rfl nb
  | .d (.str _),e2,nb,h1=>exact absurd rfl nb
  | .d (.ty _),e2,nb,h1=>exact absurd rfl nb
  | .d (.obj _),e2,nb,h1=>exact absurd rfl nb
  | .d (.tup _),e2,nb,h1=>exact absurd rfl nb
  | .d (.lst _),e2,nb,h1=>exact absurd rfl nb
  | .d (.ins _ _),e2,nb,h1=>exact absurd rfl nb
  | .d (.scr _),e2,nb,h1=>exact absurd rfl nb
  | .d (.exc _ _ _ _),e2,nb,h1=>exact absurd rfl nb
  | .d (.kdc _ _),e2,nb,h1=>exact absurd rfl nb⟩
section
variable {w : World} {h : Heap} {a : Addr}
end
section
variable {P : Program} {w : World} {A : Around} {E : Value → Shared → Prop} {s : Shared}
set_option maxHeartbeats 3200000 in
theorem call_setMt {l : Addr} {items : Array Value} (ks : List MTup) {Q : Value → Shared → Prop} (hh : A.handled = none) (hl : s.heap.IsTuple l items) (hit : items.toList = ks.map fun q=>Value.ref q.1) (hk : ∀ q ∈ ks,MT P w s.heap q.2 q.1) (few : (mAll ks).length < 63) (hu : A.units + 65 < cLine)
  (h : ∀ (h' : Heap) (tk : Nat) M es ep t,MSet P w h' s.heap.objs.size M es ep t → M.Perm (mAll ks) → (∀ b o,s.heap.get? b = some o → h'.get? b = some o) → Q (.ref s.heap.objs.size) { s with heap:=h',toks:=tk }) :
  wpAny (model P w) A (call (.type "set") [.ref l]) Q E s:=by
 have isz : items.size = ks.length:=by
  have q:=congrArg List.length hit
  rwa [Array.length_toList,List.length_map] at q
 obtain ⟨c,tl,mro⟩:=F.called_set.mro
 have made:=F.called_set.made
 have sub:=F.called_set.sub
 refine wpAny_call (codeAny_of_tree ?_)
 show wpAny _ _ (callAny (.type "set") _) _ _ _
 refine wpAny_pure ⟨Code.quiet_builtin _ (by decide +kernel),codeAny_builtin F.entry_type_call ?_⟩
 rw [Around.under_plain (weight_type_call_type "set" [.ref l] []) rfl]
 have f1:=F.called_set.notType
 have f2:=F.called_set.canCreate
 have f3:=F.typeCall_set_1 (.ref l)
 repeat (any_goals (first | assumption | wp_step))
 refine codeAny_mono (code_set_led1 (.ref l) (E:=E) (Q₁:=fun obj s₁=>obj = .ref s.heap.objs.size ∧ s₁ = { s with heap:=s.heap.push { cls:=.type "set",dict:=none,data:=.set #[] 0 (.fresh 0 0 (!w.params.followText "set-order")) } }) ⟨rfl,rfl⟩) fun r s₁ hr=>?_
 cases r with
 | error e=>exact hr
 | ok fl =>
  cases fl with
  | ret obj =>
   obtain ⟨rfl,rfl⟩:=hr
   have gS : (s.heap.push { cls:=.type "set",dict:=none,data:=.set #[] 0 (.fresh 0 0 (!w.params.followText "set-order")) }).get? s.heap.objs.size = some { cls:=.type "set",dict:=none,data:=.set #[] 0 (.fresh 0 0 (!w.params.followText "set-order")) }:=Heap.get?_push_size _ rfl
   have gT : Shared.TypeIs { s with heap:=s.heap.push { cls:=.type "set",dict:=none,data:=.set #[] 0 (.fresh 0 0 (!w.params.followText "set-order")) } } (.ref s.heap.objs.size) "set":=⟨_,gS,rfl⟩
   have li:=F.called_set.init.lookup
   have bi:=F.called_set.init.bind (.ref s.heap.objs.size)
   repeat (any_goals (first | assumption | wp_step))
   refine codeAny_mono (codeAny_call_builtin (R:=wants (fun r t=>r = .none ∧ ∃ h' tk M es ep t0,t = { s with heap:=h',toks:=tk } ∧ MSet P w h' s.heap.objs.size M es ep t0 ∧ M.Perm (mAll ks) ∧ (∀ b o,s.heap.get? b = some o → h'.get? b = some o)) E) F.called_set.init.plain F.entry_set_init (check_set_init_1 gT ?_)) fun r₂ s₂ hr₂=>?_
   ·obtain ⟨ol,hol,hcl,nl,hdl⟩:=hl
    obtain ⟨ocls,odict,odata,oslots⟩:=ol
    simp only at hcl hdl
    subst hcl; subst hdl
    have gl : (s.heap.push { cls:=.type "set",dict:=none,data:=.set #[] 0 (.fresh 0 0 (!w.params.followText "set-order")) }).get? l = some { cls:=.type "tuple",dict:=odict,data:=.seq items nl,slots:=oslots }:=Heap.get?_push_of_some _ hol
    have sls:=F.sub_tuple_set
    have slf:=F.sub_tuple_frozenset
    have hne : (Value.type "tuple" == Value.type "dict") = false:=by decide
    have l1 : (s.heap.push { cls:=.type "set",dict:=none,data:=.set #[] 0 (.fresh 0 0 (!w.params.followText "set-order")) }).IsTuple l items:=⟨_,gl,rfl,nl,rfl⟩
    unfold Builtin.«set.__init__» noKeywords Builtin.Frozenset.updateFrom
    generalize hPI : pyIter = PI
    wp_walk
    subst hPI
    refine wpAny_pyIter_tuple l1 ?_
    refine wpAny_bind (wpAny_runValue ?_)
    have lS : l < s.heap.objs.size:=Heap.lt_size hol
    have h3 : A.in1.in1.in1.handled = none:=by simp [hh]
    have neI : l ≠ (s.heap.push { cls:=.type "set",dict:=none,data:=.set #[] 0 (.fresh 0 0 (!w.params.followText "set-order")) }).objs.size:=by
     rw [Heap.size_push]; exact Nat.ne_of_lt (Nat.lt_succ_of_lt lS)
    have Sf : s.heap.objs.size ∉ [(s.heap.push { cls:=.type "set",dict:=none,data:=.set #[] 0 (.fresh 0 0 (!w.params.followText "set-order")) }).objs.size,l]:=by
     rw [Heap.size_push]; simp only [List.mem_cons,List.mem_singleton,List.not_mem_nil,or_false,not_or]
     exact ⟨Nat.ne_of_lt (Nat.lt_succ_self _),Nat.ne_of_gt lS⟩
    have val : ∀ (i : Nat) (v : Value),items[i]? = some v → ∃ q,ks[i]? = some q ∧ v = .ref q.1:=fun i v hv=>by
     have q : items.toList[i]? = some v:=by rw [Array.getElem?_toList]; exact hv
     rw [hit,List.getElem?_map] at q
     obtain ⟨r,e1,e2⟩:=Option.map_eq_some_iff.mp q
     exact ⟨r,e1,e2.symm⟩
    have gone : ∀ b,s.heap.objs.size ≤ b → s.heap.get? b = none:=fun b hb=>by
     cases q : s.heap.get? b with
     | none=>rfl
     | some o=>exact absurd (Nat.lt_of_lt_of_le (Heap.lt_size q) hb) (Nat.lt_irrefl _)
    refine m_update ((Walks.tuple h3 _ l neI items).toS) s.heap.objs.size Sf ks isz few val s.heap hk (gone _ (Nat.le_refl _)) (fun b hb=>gone b (by
      rw [List.mem_singleton.mp hb,Heap.size_push]
      exact Nat.le_succ _)) (by show A.units + 3 < cLine; omega) (items.size - 0) 0 _ (by omega) (Nat.zero_le _)
     ⟨⟨_,Heap.get?_push_size _ rfl,rfl,rfl⟩,(l1.push _)⟩ (fun b o e=>Heap.get?_push_of_some _ (Heap.get?_push_of_some _ e)) ?z1 ?z2
    case z1 =>
     have g0 : ((s.heap.push { cls:=.type "set",dict:=none,data:=.set #[] 0 (.fresh 0 0 (!w.params.followText "set-order")) }).push { cls:=.type "tuple_iterator",data:=.fields #[.ref l,.int 0 0] }).get? s.heap.objs.size
       = some { cls:=.type "set",dict:=none,data:=.set #[] 0 (.fresh 0 0 (!w.params.followText "set-order")) }:=Heap.get?_push_of_some _ gS
     exact ⟨[],#[],0,_,mset_new g0,List.Perm.refl _⟩
    case z2 =>
     intro s' M es ep t hm hS' pm kp
     obtain ⟨h',g2,d',tk',os'⟩:=s'
     have eg : g2 = s.gens:=hm.gens
     have ed : d' = s.drawn:=hm.drawn
     have eo : os' = s.os:=hm.os
     subst eg; subst ed; subst eo
     show wpAny _ _ _ _ _ _
     refine wpAny_pure ?_
     show wpAny _ _ (ret Value.none) _ _ _
     exact wpAny_pure ⟨rfl,h',tk',M,es,ep,t,rfl,hS',pm,kp⟩
   ·cases r₂ with
    | error e=>exact hr₂
    | ok fl₂ =>
     cases fl₂ with
     | ret r =>
      obtain ⟨rfl,h',tk,M,es,ep,t,rfl,hS',pm,kp⟩:=hr₂
      repeat (any_goals (first | assumption | wp_step))
      exact h _ _ _ _ _ _ hS' pm kp
     | _=>exact hr₂.elim
  | _=>exact hr.elim
end
theorem vals_ints {ns : List Int} : ∀ {us : List Value},Vals (ns.map V.int) us → us.length = ns.length ∧ ∀ (i : Nat) (v : Value),us[i]? = some v → ∃ k t,ns[i]? = some k ∧ v = .int k t:=by
 induction ns with
 | nil=>intro us h; cases h; exact ⟨rfl,fun i v e=>by cases e⟩
 | cons n ns ih =>
  intro us h
  cases h with
  | cons r z =>
   obtain ⟨tk,rfl⟩:=r
   obtain ⟨h1,h2⟩:=ih z
   refine ⟨by rw [List.length_cons,List.length_cons,h1],fun i v e=>?_⟩
   cases i with
   | zero=>rw [List.getElem?_cons_zero] at e; cases e; exact ⟨n,tk,rfl,rfl⟩
   | succ i=>rw [List.getElem?_cons_succ] at e; exact h2 i v e
noncomputable def rSetMt (X : Cx) : List V → Hp → VK → Prop:=fun xs H Q=>∃ (l : Addr) (ks : List MTup),xs = [V.ref l] ∧ SqT X.K H l (ks.map fun q=>V.ref q.1) ∧ (∀ q ∈ ks,SqT X.K H q.1 (q.2.map keyV)) ∧ (mAll ks).length < 63 ∧ ∀ a,H a = none → Q (.ref a) (upd H a (MSO X.prog X.w a (mAll ks)))
theorem cr_setMt {X : Cx} (hc : X.calm = true) (hu : X.A.units + 65 < cLine) : CallR X (.type "set") (rSetMt X):=by
 intro pins s σ H xs us Q I r h
 obtain ⟨l,ks,rfl,hl,hk,few,q⟩:=h
 rw [Vals.ref1 r]
 obtain ⟨its,rv,pl,hz⟩:=I.tuple hl
 have hn : H s.heap.objs.size = none:=I.hok.fresh (Nat.le_refl _)
 refine call_setMt (P:=X.prog) (w:=X.w) ks (I.ok.hd hc) (show s.heap.IsTuple l its.toArray from pl) (by simpa using vals_refs rv) (fun q hq=>inv_mt I (hk q hq)) few hu fun h' tk M es ep t R pm kp=>?_
 exact ⟨.ref s.heap.objs.size,upd H s.heap.objs.size (MSO X.prog X.w s.heap.objs.size (mAll ks)),I.laid (t':=tk) kp (Nat.le_refl _) (mso_new (R.low pm)),rfl,q _ hn⟩
noncomputable def oSortSMt : List U → Store → Option U:=fun us _=>match us with
 | [.d (.tup ds)]=>if fewM ds = true then (sortD ds).map fun ds=>.d (.lst ds) else none
 | _=>none
theorem d_sortSMt {X : Cx} {W : WX} {p p2 pos pos2 : Pos} {e : Expr} {fs : F (List U)} (hc : X.calm = true) (hu : X.A.units + 65 < cLine) (hm : X.mg "sorted" = none) (hm2 : X.mg "set" = none) (ha : DA X W [e] fs) (hg : Gl X "sorted":=by rfl) (hg2 : Gl X "set":=by rfl)
  (he : starEach [e] X.env = [(false,eval e X.env)]:=by rfl) : DE X W (.Call (.Name "sorted" p) [.Call (.Name "set" p2) [e] [] pos2] [] pos) (fB (pu oSortSMt) fs) :=
 ⟨PE.imp (pe_callB (cr_sortM hc hu) hg hm (by rfl) (pa_cons (pe_callTy (cr_setMt hc hu) hg2 hm2 (by rfl) ha.pa (he:=he) (hpl:=by rfl)) pa_nil)) fun σ H Q h=>by
  obtain ⟨m,env,st,r,re,p⟩:=h
  refine tFs_step r re p fun us st1 vs m1 H1 h1 r1 re1 e1 p1=>?_
  have p2:=PV2.of p1
  obtain ⟨u,e,p3⟩:=PV2.pu p2
  unfold oSortSMt at e
  split at e
  ·rename_i ds
   obtain ⟨v,rfl,a,ws,rfl,t,qd⟩:=h1.one
   split at e
   ·rename_i h64
    unfold sortD at e
    split at e
    ·rename_i ks hks
     obtain ⟨L,rfl,eL,tL⟩:=rp_refs qd hks
     split at e
     ·rename_i hall
      cases e
      have sub:=mAll_sub (ks:=L) rfl
      have hlen : (mAll L).length < 63:=by
       unfold fewM at h64
       rw [hks] at h64
       have h64 : (distF ks).length < 63:=of_decide_eq_true h64
       rw [← eL,← sub.2.2,List.length_map] at h64
       exact h64
      have hk : ∀ k ∈ ks,shpK k = shpK (ks.headD []) ∧ k ≠ []:=fun k hk=>by
       have:=List.all_eq_true.mp hall k hk
       rw [Bool.and_eq_true,decide_eq_true_eq] at this
       exact ⟨this.1,fun z=>by rw [z] at this; cases this.2⟩
      have hm : ∀ q ∈ mAll L,q.2 ∈ ks:=fun q hq=>by rw [← eL]; exact List.mem_map.mpr ⟨q,sub.1 q hq,rfl⟩
      refine ⟨a,L,rfl,t.sq,fun q hq=>(tL q hq).sq,hlen,fun b hb=>?_⟩
      have x1:=ext_new r1 hb (MSO X.prog X.w b (mAll L))
      refine ⟨b,mAll L,rfl,upd_same,fun q hq=>((tL q (sub.1 q hq)).stay x1.toStay).sq,fun p hp q hq=>(hk _ (hm p hp)).1.trans (hk _ (hm q hq)).1.symm,fun p hp=>(hk _ (hm p hp)).2,fun N pp pN hN hpp=>?_⟩
      rw [sub.2.2,eL] at hN
      have hds2 : ((distF ks).mergeSort leK).map (fun k=>VL.D.tup (k.map kyD)) = N.map fun q=>VL.D.tup (q.2.map kyD):=by
       rw [← hN,List.map_map]
       rfl
      rw [hds2] at p3
      have r2:=r1.new hb (MSO X.prog X.w b (mAll L))
      have x2:=ext_new r2 hpp (.lst (N.map fun q=>V.ref q.1))
      exact p3 _ m1 _ ⟨pp,_,rfl,⟨r2.fresh hpp,upd_same⟩,rp_tups fun q hq=>(tL q (sub.1 q (pN.mem_iff.mp hq))).stay (x1.trans x2).toStay⟩ (r2.new hpp _) (x1.trans x2)
     ·cases e
    ·cases e
   ·cases e
  ·cases e⟩
end VL
namespace VL.K45
theorem ls_1 {α : Type} {us : List α} (h : us.length = 1) : ∃ x0,us = [x0]:=match us,h with | [x0],_=>⟨x0,rfl⟩
theorem ls_2 {α : Type} {us : List α} (h : us.length = 2) : ∃ x0 x1,us = [x0,x1]:=match us,h with | [x0,x1],_=>⟨x0,x1,rfl⟩
theorem ls_4 {α : Type} {us : List α} (h : us.length = 4) : ∃ x0 x1 x2 x3,us = [x0,x1,x2,x3]:=match us,h with | [x0,x1,x2,x3],_=>⟨x0,x1,x2,x3,rfl⟩
open PySem PySem.Spec PyProof.Rows L2 VL
noncomputable def top (i : Nat) : Stmt:=PySem.Challenge.pw_settingsmerge_k45_whole_covers_and_match.main.body.getD i (.Pass ⟨0,0,0,0⟩)
noncomputable abbrev s_L_law_bag : Stmt:=(top 16)
noncomputable abbrev s_L_law_take : Stmt:=(top 17)
noncomputable abbrev s_L_law_shape : Stmt:=(top 18)
noncomputable abbrev s_rights_of : Stmt:=(top 6)
noncomputable abbrev s_is_placed : Stmt:=(top 7)
noncomputable abbrev s_matching : Stmt:=(top 8)
noncomputable abbrev s_claims_of : Stmt:=(top 5)
noncomputable abbrev s_bears : Stmt:=(top 4)
noncomputable abbrev s_least_cover : Stmt:=(top 9)
noncomputable abbrev s_L_law_claims_right : Stmt:=(top 19)
noncomputable abbrev s_is_integer : Stmt:=(top 3)
noncomputable abbrev s_is_claim : Stmt:=(top 10)
noncomputable abbrev s_is_ascending : Stmt:=(top 11)
noncomputable abbrev s_is_cover : Stmt:=(top 12)
noncomputable abbrev s_is_pair : Stmt:=(top 13)
noncomputable abbrev s_is_matching : Stmt:=(top 14)
noncomputable abbrev s_law : Stmt:=(top 20)
noncomputable def N_L_law_bag : List Str:=["_law_script","_law_at","_law_number","_law_mixed","_law_spot","_law_each"]
noncomputable def N_L_law_take : List Str:=["_law_bag_here","_law_many","_law_digit"]
noncomputable def N_L_law_shape : List Str:=["_law_bag_here","_law_way","_law_lefts","_law_x","_law_rights","_law_y","_law_found","_law_size","_law_k","_law_heart","_law_tips","_law_turn"]
noncomputable def N_rights_of : List Str:=["conflicts","found","x","y","row"]
noncomputable def N_is_placed : List Str:=["x","rights","partners","tried","y"]
noncomputable def N_matching : List Str:=["conflicts","rights","partners","x","y"]
noncomputable def N_claims_of : List Str:=["conflicts","x","y","claim"]
noncomputable def N_bears : List Str:=["conflict","claim","slot","side"]
noncomputable def N_least_cover : List Str:=["conflicts","left","found","many","claim","rest","conflict"]
noncomputable def N_L_law_claims_right : List Str:=["_law_claims","_law_conflicts","_law_known","_law_x","_law_y","_law_one","_law_bare"]
noncomputable def N_is_integer : List Str:=["thing"]
noncomputable def N_is_claim : List Str:=["thing"]
noncomputable def N_is_ascending : List Str:=["row","one","other"]
noncomputable def N_is_cover : List Str:=["conflicts","thing","claim","conflict"]
noncomputable def N_is_pair : List Str:=["thing"]
noncomputable def N_is_matching : List Str:=["conflicts","thing","pair","many","x","y"]
noncomputable def N_law : List Str:=["_law_script","_law_at","_law_bag_here","_law_turn","_law_conflicts","_law_k","_law_kept","_law_claims","_law_pairs","_law_one","_law_sides","_law_x","_law_y"]
theorem sc_L_law_bag : FnScope N_L_law_bag ["_law_script","_law_at"] (defScope s_L_law_bag):=⟨rfl,rfl,rfl,by decide +kernel,rfl,by decide +kernel,by decide +kernel⟩
theorem sc_L_law_take : FnScope N_L_law_take ["_law_bag_here","_law_many"] (defScope s_L_law_take):=⟨rfl,rfl,rfl,by decide +kernel,rfl,by decide +kernel,by decide +kernel⟩
theorem sc_L_law_shape : FnScope N_L_law_shape ["_law_bag_here"] (defScope s_L_law_shape):=⟨rfl,rfl,rfl,by decide +kernel,rfl,by decide +kernel,by decide +kernel⟩
theorem sc_rights_of : FnScope N_rights_of ["conflicts"] (defScope s_rights_of):=⟨rfl,rfl,rfl,by decide +kernel,rfl,by decide +kernel,by decide +kernel⟩
theorem sc_is_placed : FnScope N_is_placed ["x","rights","partners","tried"] (defScope s_is_placed):=⟨rfl,rfl,rfl,by decide +kernel,rfl,by decide +kernel,by decide +kernel⟩
theorem sc_matching : FnScope N_matching ["conflicts"] (defScope s_matching):=⟨rfl,rfl,rfl,by decide +kernel,rfl,by decide +kernel,by decide +kernel⟩
theorem sc_claims_of : FnScope N_claims_of ["conflicts"] (defScope s_claims_of):=⟨rfl,rfl,rfl,by decide +kernel,rfl,by decide +kernel,by decide +kernel⟩
theorem sc_bears : FnScope N_bears ["conflict","claim"] (defScope s_bears):=⟨rfl,rfl,rfl,by decide +kernel,rfl,by decide +kernel,by decide +kernel⟩
theorem sc_least_cover : FnScope N_least_cover ["conflicts"] (defScope s_least_cover):=⟨rfl,rfl,rfl,by decide +kernel,rfl,by decide +kernel,by decide +kernel⟩
theorem sc_L_law_claims_right : FnScope N_L_law_claims_right ["_law_claims","_law_conflicts"] (defScope s_L_law_claims_right):=⟨rfl,rfl,rfl,by decide +kernel,rfl,by decide +kernel,by decide +kernel⟩
theorem sc_is_integer : FnScope N_is_integer ["thing"] (defScope s_is_integer):=⟨rfl,rfl,rfl,by decide +kernel,rfl,by decide +kernel,by decide +kernel⟩
theorem sc_is_claim : FnScope N_is_claim ["thing"] (defScope s_is_claim):=⟨rfl,rfl,rfl,by decide +kernel,rfl,by decide +kernel,by decide +kernel⟩
theorem sc_is_ascending : FnScope N_is_ascending ["row"] (defScope s_is_ascending):=⟨rfl,rfl,rfl,by decide +kernel,rfl,by decide +kernel,by decide +kernel⟩
theorem sc_is_cover : FnScope N_is_cover ["conflicts","thing"] (defScope s_is_cover):=⟨rfl,rfl,rfl,by decide +kernel,rfl,by decide +kernel,by decide +kernel⟩
theorem sc_is_pair : FnScope N_is_pair ["thing"] (defScope s_is_pair):=⟨rfl,rfl,rfl,by decide +kernel,rfl,by decide +kernel,by decide +kernel⟩
theorem sc_is_matching : FnScope N_is_matching ["conflicts","thing"] (defScope s_is_matching):=⟨rfl,rfl,rfl,by decide +kernel,rfl,by decide +kernel,by decide +kernel⟩
theorem sc_law : FnScope N_law ["_law_script"] (defScope s_law):=⟨rfl,rfl,rfl,by decide +kernel,rfl,by decide +kernel,by decide +kernel⟩
set_option genInjectivity false in
/-- where the classes stand -/
structure Ad where
 f_L_law_bag : Addr
 f_L_law_take : Addr
 f_L_law_shape : Addr
 f_rights_of : Addr
 f_is_placed : Addr
 f_matching : Addr
 f_claims_of : Addr
 f_bears : Addr
 f_least_cover : Addr
 f_L_law_claims_right : Addr
 f_is_integer : Addr
 f_is_claim : Addr
 f_is_ascending : Addr
 f_is_cover : Addr
 f_is_pair : Addr
 f_is_matching : Addr
 f_law : Addr
noncomputable def Ad.own (a : Ad) : List Addr:=[]
/-! the mirrors -/
noncomputable section
noncomputable def b_L_law_bag_1 (K : PySem.W.Frag) (a : Ad) : G :=
  (sAsg (f2 oMod (fB (pu oInt) (fCons (f2 oAdd (f2 oAdd (f2 oAdd (f2 oMul (vVar 3) (vC (.int 59393))) (f2 oMod (fB (pu oInt) (fCons (vVar 5) fNil)) (vC (.int 2147483629)))) (f2 oMul (vC (.int 86)) (vVar 4))) (vC (.int 5))) fNil)) (vC (.int 2147483579))) (tgN 3))
noncomputable def g_L_law_bag (K : PySem.W.Frag) (a : Ad) : G :=
  (sSeq (sAsg (fIf (asB (f2 oLt (vVar 1) (fB (pu oLen) (fCons (vVar 0) fNil)))) (f2 oIx (vVar 0) (vVar 1)) (vC (.int 0))) (tgN 2))
  (sSeq (sAsg (f2 oAdd (f2 oMul (vC (.int 415)) (vVar 1)) (vC (.int 76))) (tgN 3))
  (sSeq (sFor (fItS itE (fCons (fSl (vVar 0) oNone (oSome (vC (.int 63)))) fNil)) (tgT 2 (tgCons (tgN 4) (tgCons (tgN 5) tgNil))) (b_L_law_bag_1 K a))
  (sRet (fLstC (fCons (fIf (asB (f2 oGe (fB (pu oAbs) (fCons (vVar 2) fNil)) (f2 oPow (vC (.int 10)) (vC (.int 18))))) (fB (pu oAbs) (fCons (vVar 2) fNil)) (vC (.int 0))) (fCons (vVar 3) fNil)))))))
noncomputable def m_L_law_bag (K : PySem.W.Frag) (a : Ad) : List U → M U:=fnM 6 (g_L_law_bag K a) wKeep
noncomputable def g_L_law_take (K : PySem.W.Frag) (a : Ad) : G :=
  (sSeq (sIf (asB (f2 oGt (f2 oIx (vVar 0) (vC (.int 0))) (vC (.int 0))))
  (sSeq (sAsg (f2 oMod (fB (pu oInt) (fCons (f2 oIx (vVar 0) (vC (.int 0))) fNil)) (vVar 1)) (tgN 2))
  (sSeq (sAsg (f2 oFdiv (f2 oIx (vVar 0) (vC (.int 0))) (vVar 1)) (tgSub (vVar 0) (vC (.int 0))))
  (sRet (vVar 2))))
  sNil)
  (sSeq (sAsg (f2 oMod (fB (pu oInt) (fCons (f2 oAdd (f2 oMul (f2 oIx (vVar 0) (vC (.int 1))) (vC (.int 52711))) (vC (.int 8201))) fNil)) (vC (.int 2147483543))) (tgSub (vVar 0) (vC (.int 1))))
  (sRet (f2 oMod (f2 oFdiv (f2 oMod (fB (pu oInt) (fCons (f2 oMul (f2 oFdiv (f2 oIx (vVar 0) (vC (.int 1))) (vC (.int 13))) (vC (.int 50707))) fNil)) (vC (.int 2147483587))) (vC (.int 64))) (vVar 1)))))
noncomputable def m_L_law_take (K : PySem.W.Frag) (a : Ad) : List U → M U:=fnM 3 (g_L_law_take K a) wCut
noncomputable def c_L_law_shape_1 (K : PySem.W.Frag) (a : Ad) : F U :=
  fLc (fItN itR (fCons (vC (.int 12)) fNil)) (tgN 3) (asB (f2 oEq (fCall 2 0 gPos (m_L_law_take K a) (fCW (fCons (vVar 0) (fCons (vC (.int 3)) fNil)) fNil)) (vC (.int 0)))) (vVar 3) [3]
noncomputable def c_L_law_shape_2 (K : PySem.W.Frag) (a : Ad) : F U :=
  fLc (fItN itR (fCons (vC (.int 12)) fNil)) (tgN 5) (asB (f2 oEq (fCall 2 0 gPos (m_L_law_take K a) (fCW (fCons (vVar 0) (fCons (vC (.int 3)) fNil)) fNil)) (vC (.int 0)))) (vVar 5) [5]
noncomputable def c_L_law_shape_3 (K : PySem.W.Frag) (a : Ad) : F U :=
  fLc (fIter (vVar 4)) (tgN 5) tYesB (fTup (fCons (vVar 3) (fCons (vVar 5) fNil))) [5]
noncomputable def b_L_law_shape_1 (K : PySem.W.Frag) (a : Ad) : G :=
  (sExpr (fM "list" mExtend (vVar 6) (fCons (c_L_law_shape_3 K a) fNil)))
noncomputable def c_L_law_shape_4 (K : PySem.W.Frag) (a : Ad) : F U :=
  fLc (fItN itR (fCons (vVar 7) fNil)) (tgN 8) tYesB (fTup (fCons (vVar 8) (fCons (vVar 8) fNil))) [8]
noncomputable def c_L_law_shape_5 (K : PySem.W.Frag) (a : Ad) : F U :=
  fLc (fItN itR (fCons (f2 oSub (vVar 7) (vC (.int 1))) fNil)) (tgN 8) tYesB (fTup (fCons (f2 oAdd (vVar 8) (vC (.int 1))) (fCons (vVar 8) fNil))) [8]
noncomputable def c_L_law_shape_6 (K : PySem.W.Frag) (a : Ad) : F U :=
  fLc (fItN itR (fCons (fCall 2 0 gPos (m_L_law_take K a) (fCW (fCons (vVar 0) (fCons (vC (.int 13)) fNil)) fNil)) fNil)) (tgN 5) tYesB (fTup (fCons (vVar 9) (fCons (vVar 5) fNil))) [5]
noncomputable def c_L_law_shape_7 (K : PySem.W.Frag) (a : Ad) : F U :=
  fLc (fItN itR (fCons (fCall 2 0 gPos (m_L_law_take K a) (fCW (fCons (vVar 0) (fCons (vC (.int 13)) fNil)) fNil)) fNil)) (tgN 3) tYesB (fTup (fCons (vVar 3) (fCons (fCall 2 0 gPos (m_L_law_take K a) (fCW (fCons (vVar 0) (fCons (vC (.int 3)) fNil)) fNil)) fNil))) [3]
noncomputable def c_L_law_shape_8 (K : PySem.W.Frag) (a : Ad) : F U :=
  fLc (fItN itR (fCons (fCall 2 0 gPos (m_L_law_take K a) (fCW (fCons (vVar 0) (fCons (f2 oIx (fN vLst (fCons (vC (.int 61)) (fCons (vC (.int 20)) fNil))) (f2 oSub (vVar 1) (vC (.int 3)))) fNil)) fNil)) fNil)) (tgN 11) tYesB (fTup (fCons (fCall 2 0 gPos (m_L_law_take K a) (fCW (fCons (vVar 0) (fCons (vC (.int 12)) fNil)) fNil)) (fCons (fCall 2 0 gPos (m_L_law_take K a) (fCW (fCons (vVar 0) (fCons (vC (.int 12)) fNil)) fNil)) fNil))) [11]
noncomputable def g_L_law_shape (K : PySem.W.Frag) (a : Ad) : G :=
  (sSeq (sAsg (fCall 2 0 gPos (m_L_law_take K a) (fCW (fCons (vVar 0) (fCons (vC (.int 5)) fNil)) fNil)) (tgN 1))
  (sSeq (sIf (asB (f2 oEq (vVar 1) (vC (.int 0))))
  (sSeq (sAsg (c_L_law_shape_1 K a) (tgN 2))
  (sSeq (sAsg (c_L_law_shape_2 K a) (tgN 4))
  (sSeq (sAsg (fLstC fNil) (tgN 6))
  (sSeq (sFor (fIter (vVar 2)) (tgN 3) (b_L_law_shape_1 K a))
  (sRet (vVar 6))))))
  sNil)
  (sSeq (sIf (asB (f2 oEq (vVar 1) (vC (.int 1))))
  (sSeq (sAsg (f2 oAdd (vC (.int 1)) (fCall 2 0 gPos (m_L_law_take K a) (fCW (fCons (vVar 0) (fCons (vC (.int 12)) fNil)) fNil))) (tgN 7))
  (sRet (f2 oAdd (c_L_law_shape_4 K a) (c_L_law_shape_5 K a))))
  sNil)
  (sSeq (sIf (asB (f2 oEq (vVar 1) (vC (.int 2))))
  (sSeq (sAsg (fCall 2 0 gPos (m_L_law_take K a) (fCW (fCons (vVar 0) (fCons (vC (.int 12)) fNil)) fNil)) (tgN 9))
  (sSeq (sAsg (c_L_law_shape_6 K a) (tgN 10))
  (sRet (f2 oAdd (vVar 10) (c_L_law_shape_7 K a)))))
  sNil)
  (sRet (c_L_law_shape_8 K a))))))
noncomputable def m_L_law_shape (K : PySem.W.Frag) (a : Ad) : List U → M U:=fnM 12 (g_L_law_shape K a) wFrz
noncomputable def b_rights_of_1 (K : PySem.W.Frag) (a : Ad) : G :=
  (sSeq (sAsg (fSetd (vVar 1) (vVar 2) (fLstC fNil)) (tgN 4))
  (sIf (asB (f2 oNotIn (vVar 3) (vVar 4)))
  (sExpr (fM "list" mAppend (vVar 4) (fCons (vVar 3) fNil)))
  sNil))
noncomputable def g_rights_of (K : PySem.W.Frag) (a : Ad) : G :=
  (sSeq (sAsg fDnew (tgN 1))
  (sSeq (sFor (fIter (vVar 0)) (tgT 2 (tgCons (tgN 2) (tgCons (tgN 3) tgNil))) (b_rights_of_1 K a))
  (sRet (vVar 1))))
noncomputable def m_rights_of (K : PySem.W.Frag) (a : Ad) : List U → M U:=fnM 5 (g_rights_of K a) wFrz
noncomputable def b_is_placed_1 (K : PySem.W.Frag) (a : Ad) (r : List U → M U) : G :=
  (sIf (asB (f2 oNotIn (vVar 4) (vVar 3)))
  (sSeq (sExpr (fM "list" mAppend (vVar 3) (fCons (vVar 4) fNil)))
  (sIf (bOr (asB (f2 oNotInD (vVar 4) (vVar 2))) (asT (fCall 4 0 gPos r (fCW (fCons (f2 oIx (vVar 2) (vVar 4)) (fCons (vVar 1) (fCons (vVar 2) (fCons (vVar 3) fNil)))) fNil))))
  (sSeq (sAsg (vVar 0) (tgSub (vVar 2) (vVar 4)))
  (sRet (vC (.bl true))))
  sNil))
  sNil)
noncomputable def g_is_placed (K : PySem.W.Frag) (a : Ad) (r : List U → M U) : G :=
  (sSeq (sFor (fIter (f2 oIx (vVar 1) (vVar 0))) (tgN 4) (b_is_placed_1 K a r))
  (sRet (vC (.bl false))))
noncomputable def mr_is_placed (K : PySem.W.Frag) (a : Ad) : Nat → List U → M U
 | 0=>fun _ _=>.bad
 | n + 1=>fnM 5 (g_is_placed K a (mr_is_placed K a n)) wCut
noncomputable def m_is_placed (K : PySem.W.Frag) (a : Ad) : List U → M U:=mr_is_placed K a 16
noncomputable def b_matching_1 (K : PySem.W.Frag) (a : Ad) : G :=
  (sExpr (fCall 4 0 gPos (m_is_placed K a) (fCW (fCons (vVar 3) (fCons (vVar 1) (fCons (vVar 2) (fCons (fLstC fNil) fNil)))) fNil)))
noncomputable def c_matching_1 (K : PySem.W.Frag) (a : Ad) : F U :=
  fLc (fIkC (vVar 2)) (tgT 2 (tgCons (tgN 4) (tgCons (tgN 3) tgNil))) tYesB (fTup (fCons (vVar 3) (fCons (vVar 4) fNil))) [4,3]
noncomputable def g_matching (K : PySem.W.Frag) (a : Ad) : G :=
  (sSeq (sPar 1 2 (fCons (fCall 1 0 gPos (m_rights_of K a) (fCW (fCons (vVar 0) fNil) fNil)) (fCons fDnew fNil)))
  (sSeq (sFor (fIter (fB (pu oSortDI) (fCons (vVar 1) fNil))) (tgN 3) (b_matching_1 K a))
  (sRet (fB (pu oTuple) (fCons (fB (pu oSortP) (fCons (c_matching_1 K a) fNil)) fNil)))))
noncomputable def m_matching (K : PySem.W.Frag) (a : Ad) : List U → M U:=fnM 5 (g_matching K a) wFrz
noncomputable def c_claims_of_1 (K : PySem.W.Frag) (a : Ad) : F U :=
  fSortS (fSg2 okM (fIter (vVar 0)) (tgT 2 (tgCons (tgN 1) (tgCons (tgN 2) tgNil))) tYesB (fN vLst (fCons (fTup (fCons (vVar 1) (fCons (vC (.str "own")) fNil))) (fCons (fTup (fCons (vVar 2) (fCons (vC (.str "shipped")) fNil))) fNil))) (tgN 3) tYesB (vVar 3) [1,2,3] [3])
noncomputable def g_claims_of (K : PySem.W.Frag) (a : Ad) : G :=
  (sRet (c_claims_of_1 K a))
noncomputable def m_claims_of (K : PySem.W.Frag) (a : Ad) : List U → M U:=fnM 4 (g_claims_of K a) wFrz
noncomputable def g_bears (K : PySem.W.Frag) (a : Ad) : G :=
  (sSeq (sAsg (vVar 1) (tgT 2 (tgCons (tgN 2) (tgCons (tgN 3) tgNil))))
  (sRet (fIf (asB (f2 oEq (vVar 3) (vC (.str "own")))) (f2 oEq (f2 oIx (vVar 0) (vC (.int 0))) (vVar 2)) (f2 oEq (f2 oIx (vVar 0) (vC (.int 1))) (vVar 2)))))
noncomputable def m_bears (K : PySem.W.Frag) (a : Ad) : List U → M U:=fnM 4 (g_bears K a) wFrz
noncomputable def c_least_cover_1 (K : PySem.W.Frag) (a : Ad) : F U :=
  fLc (fIter (vVar 1)) (tgN 6) (bNot (asT (fCall 2 0 gPos (m_bears K a) (fCW (fCons (vVar 6) (fCons (vVar 4) fNil)) fNil)))) (vVar 6) [6]
noncomputable def b_least_cover_1 (K : PySem.W.Frag) (a : Ad) : G :=
  (sSeq (sAsg (c_least_cover_1 K a) (tgN 5))
  (sIf (asB (f2 oLt (fB (pu oLen) (fCons (fCall 1 0 gPos (m_matching K a) (fCW (fCons (vVar 5) fNil) fNil)) fNil)) (vVar 3)))
  (sSeq (sExpr (fM "list" mAppend (vVar 2) (fCons (vVar 4) fNil)))
  (sPar 1 3 (fCons (vVar 5) (fCons (f2 oSub (vVar 3) (vC (.int 1))) fNil))))
  sNil))
noncomputable def g_least_cover (K : PySem.W.Frag) (a : Ad) : G :=
  (sSeq (sPar 1 2 (fCons (fB (pu oList) (fCons (vVar 0) fNil)) (fCons (fLstC fNil) fNil)))
  (sSeq (sAsg (fB (pu oLen) (fCons (fCall 1 0 gPos (m_matching K a) (fCW (fCons (vVar 1) fNil) fNil)) fNil)) (tgN 3))
  (sSeq (sFor (fIter (fCall 1 0 gPos (m_claims_of K a) (fCW (fCons (vVar 0) fNil) fNil))) (tgN 4) (b_least_cover_1 K a))
  (sRet (fB (pu oTuple) (fCons (vVar 2) fNil))))))
noncomputable def m_least_cover (K : PySem.W.Frag) (a : Ad) : List U → M U:=fnM 7 (g_least_cover K a) wFrz
noncomputable def c_L_law_claims_right_1 (K : PySem.W.Frag) (a : Ad) : F U :=
  fLc (fIter (vVar 1)) (tgT 2 (tgCons (tgN 3) (tgCons (tgN 4) tgNil))) tYesB (fTup (fCons (vVar 3) (fCons (vC (.str "own")) fNil))) [3,4]
noncomputable def c_L_law_claims_right_2 (K : PySem.W.Frag) (a : Ad) : F U :=
  fLc (fIter (vVar 1)) (tgT 2 (tgCons (tgN 3) (tgCons (tgN 4) tgNil))) tYesB (fTup (fCons (vVar 4) (fCons (vC (.str "shipped")) fNil))) [3,4]
noncomputable def c_L_law_claims_right_3 (K : PySem.W.Frag) (a : Ad) : F U :=
  fLc (fIter (vVar 0)) (tgN 5) (asB (f2 oNotIn (vVar 5) (vVar 2))) (vVar 5) [5]
noncomputable def c_L_law_claims_right_4 (K : PySem.W.Frag) (a : Ad) : F U :=
  fLc (fIter (vVar 0)) (tgN 5) (bOr (bNot (asT (fB (pu (oIsi K a.own)) (fCons (vVar 5) (fCons (vC (.ty "tuple")) fNil))))) (asT (fB (pu (oIsi K a.own)) (fCons (f2 oIx (vVar 5) (vC (.int 0))) (fCons (vC (.ty "bool")) fNil))))) (vVar 5) [5]
noncomputable def c_L_law_claims_right_5 (K : PySem.W.Frag) (a : Ad) : F U :=
  fLc (fIter (vVar 1)) (tgN 5) (bAnd (asB (f2 oNotInT (fTup (fCons (f2 oIx (vVar 5) (vC (.int 0))) (fCons (vC (.str "own")) fNil))) (vVar 0))) (asB (f2 oNotInT (fTup (fCons (f2 oIx (vVar 5) (vC (.int 1))) (fCons (vC (.str "shipped")) fNil))) (vVar 0)))) (vVar 5) [5]
noncomputable def g_L_law_claims_right (K : PySem.W.Frag) (a : Ad) : G :=
  (sSeq (sAsg (fB (pu oSortSM) (fCons (f2 oAdd (c_L_law_claims_right_1 K a) (c_L_law_claims_right_2 K a)) fNil)) (tgN 2))
  (sSeq (sIf (bOr (bNot (asT (fB (pu (oIsi K a.own)) (fCons (vVar 0) (fCons (vC (.ty "tuple")) fNil))))) (asB (f2 oNeE (c_L_law_claims_right_3 K a) (fN vLst fNil))))
  (sRet (vC (.bl false)))
  sNil)
  (sSeq (sIf (asB (f2 oNeE (c_L_law_claims_right_4 K a) (fN vLst fNil)))
  (sRet (vC (.bl false)))
  sNil)
  (sSeq (sAsg (c_L_law_claims_right_5 K a) (tgN 6))
  (sRet (fAnd (f2 oEqE (vVar 6) (fN vLst fNil)) (f2 oEq (fB (pu oList) (fCons (vVar 0) fNil)) (fB (pu oSortSMt) (fCons (vVar 0) fNil)))))))))
noncomputable def m_L_law_claims_right (K : PySem.W.Frag) (a : Ad) : List U → M U:=fnM 7 (g_L_law_claims_right K a) wFrz
noncomputable def g_is_integer (K : PySem.W.Frag) (a : Ad) : G :=
  (sRet (fAnd (fB (pu (oIsi K a.own)) (fCons (vVar 0) (fCons (vC (.ty "int")) fNil))) (fNot (fB (pu (oIsi K a.own)) (fCons (vVar 0) (fCons (vC (.ty "bool")) fNil))))))
noncomputable def m_is_integer (K : PySem.W.Frag) (a : Ad) : List U → M U:=fnM 1 (g_is_integer K a) wFrz
noncomputable def g_is_claim (K : PySem.W.Frag) (a : Ad) : G :=
  (sSeq (sIf (bOr (bNot (asT (fB (pu (oIsi K a.own)) (fCons (vVar 0) (fCons (vC (.ty "tuple")) fNil))))) (bOr (asB (f2 oNe (fB (pu oLen) (fCons (vVar 0) fNil)) (vC (.int 2)))) (bNot (asT (fCall 1 0 gPos (m_is_integer K a) (fCW (fCons (f2 oIx (vVar 0) (vC (.int 0))) fNil) fNil))))))
  (sRet (vC (.bl false)))
  sNil)
  (sRet (fAnd (fB (pu (oIsi K a.own)) (fCons (f2 oIx (vVar 0) (vC (.int 1))) (fCons (vC (.ty "str")) fNil))) (f2 oIn (f2 oIx (vVar 0) (vC (.int 1))) (fTup (fCons (vC (.str "own")) (fCons (vC (.str "shipped")) fNil)))))))
noncomputable def m_is_claim (K : PySem.W.Frag) (a : Ad) : List U → M U:=fnM 1 (g_is_claim K a) wFrz
noncomputable def c_is_ascending_1 (K : PySem.W.Frag) (a : Ad) : F U :=
  fLc (fItN itZA (fCons (vVar 0) (fCons (fSl (vVar 0) (oSome (vC (.int 1))) oNone) fNil))) (tgT 2 (tgCons (tgN 1) (tgCons (tgN 2) tgNil))) tYesB (f2 (oCmpD (fun a b=>PySem.W.dataLt a b)) (vVar 1) (vVar 2)) [1,2]
noncomputable def g_is_ascending (K : PySem.W.Frag) (a : Ad) : G :=
  (sRet (fB (pu oAll) (fCons (c_is_ascending_1 K a) fNil)))
noncomputable def m_is_ascending (K : PySem.W.Frag) (a : Ad) : List U → M U:=fnM 3 (g_is_ascending K a) wFrz
noncomputable def c_is_cover_1 (K : PySem.W.Frag) (a : Ad) : F U :=
  fLc (fIter (vVar 1)) (tgN 2) tYesB (fCall 1 0 gPos (m_is_claim K a) (fCW (fCons (vVar 2) fNil) fNil)) [2]
noncomputable def c_is_cover_2 (K : PySem.W.Frag) (a : Ad) : F U :=
  fLc (fIter (vVar 1)) (tgN 2) tYesB (f2 oIn (vVar 2) (fCall 1 0 gPos (m_claims_of K a) (fCW (fCons (vVar 0) fNil) fNil))) [2]
noncomputable def c_is_cover_3 (K : PySem.W.Frag) (a : Ad) : F U :=
  fLc (fIter (vVar 1)) (tgN 2) tYesB (fCall 2 0 gPos (m_bears K a) (fCW (fCons (vVar 3) (fCons (vVar 2) fNil)) fNil)) [2]
noncomputable def c_is_cover_4 (K : PySem.W.Frag) (a : Ad) : F U :=
  fLc (fIter (vVar 0)) (tgN 3) tYesB (fB (pu oAny) (fCons (c_is_cover_3 K a) fNil)) [3]
noncomputable def g_is_cover (K : PySem.W.Frag) (a : Ad) : G :=
  (sSeq (sIf (bOr (bNot (asT (fB (pu (oIsi K a.own)) (fCons (vVar 1) (fCons (vC (.ty "tuple")) fNil))))) (bOr (bNot (asT (fB (pu oAll) (fCons (c_is_cover_1 K a) fNil)))) (bNot (asT (fCall 1 0 gPos (m_is_ascending K a) (fCW (fCons (vVar 1) fNil) fNil))))))
  (sRet (vC (.bl false)))
  sNil)
  (sSeq (sIf (bNot (asT (fB (pu oAll) (fCons (c_is_cover_2 K a) fNil))))
  (sRet (vC (.bl false)))
  sNil)
  (sRet (fB (pu oAll) (fCons (c_is_cover_4 K a) fNil)))))
noncomputable def m_is_cover (K : PySem.W.Frag) (a : Ad) : List U → M U:=fnM 4 (g_is_cover K a) wFrz
noncomputable def g_is_pair (K : PySem.W.Frag) (a : Ad) : G :=
  (sRet (fAnd (fB (pu (oIsi K a.own)) (fCons (vVar 0) (fCons (vC (.ty "tuple")) fNil))) (fAnd (f2 oEq (fB (pu oLen) (fCons (vVar 0) fNil)) (vC (.int 2))) (fAnd (fCall 1 0 gPos (m_is_integer K a) (fCW (fCons (f2 oIx (vVar 0) (vC (.int 0))) fNil) fNil)) (fCall 1 0 gPos (m_is_integer K a) (fCW (fCons (f2 oIx (vVar 0) (vC (.int 1))) fNil) fNil))))))
noncomputable def m_is_pair (K : PySem.W.Frag) (a : Ad) : List U → M U:=fnM 1 (g_is_pair K a) wFrz
noncomputable def c_is_matching_1 (K : PySem.W.Frag) (a : Ad) : F U :=
  fLc (fIter (vVar 1)) (tgN 2) tYesB (fCall 1 0 gPos (m_is_pair K a) (fCW (fCons (vVar 2) fNil) fNil)) [2]
noncomputable def c_is_matching_2 (K : PySem.W.Frag) (a : Ad) : F U :=
  fLc (fIter (vVar 1)) (tgN 2) tYesB (f2 oIn (vVar 2) (vVar 0)) [2]
noncomputable def c_is_matching_3 (K : PySem.W.Frag) (a : Ad) : F U :=
  fLenS (fSg okI (fIter (vVar 1)) (tgT 2 (tgCons (tgN 4) (tgCons (tgN 5) tgNil))) tYesB (vVar 4) [4,5])
noncomputable def c_is_matching_4 (K : PySem.W.Frag) (a : Ad) : F U :=
  fLenS (fSg okI (fIter (vVar 1)) (tgT 2 (tgCons (tgN 4) (tgCons (tgN 5) tgNil))) tYesB (vVar 5) [4,5])
noncomputable def g_is_matching (K : PySem.W.Frag) (a : Ad) : G :=
  (sSeq (sIf (bOr (bNot (asT (fB (pu (oIsi K a.own)) (fCons (vVar 1) (fCons (vC (.ty "tuple")) fNil))))) (bOr (bNot (asT (fB (pu oAll) (fCons (c_is_matching_1 K a) fNil)))) (bNot (asT (fCall 1 0 gPos (m_is_ascending K a) (fCW (fCons (vVar 1) fNil) fNil))))))
  (sRet (vC (.bl false)))
  sNil)
  (sSeq (sIf (bNot (asT (fB (pu oAll) (fCons (c_is_matching_2 K a) fNil))))
  (sRet (vC (.bl false)))
  sNil)
  (sSeq (sAsg (fB (pu oLen) (fCons (vVar 1) fNil)) (tgN 3))
  (sRet (fAnd (f2 oEq (c_is_matching_3 K a) (vVar 3)) (f2 oEq (c_is_matching_4 K a) (vVar 3)))))))
noncomputable def m_is_matching (K : PySem.W.Frag) (a : Ad) : List U → M U:=fnM 6 (g_is_matching K a) wFrz
noncomputable def c_law_1 (K : PySem.W.Frag) (a : Ad) : F U :=
  fLc (fItN itR (fCons (fB (pu oLen) (fCons (vVar 4) fNil)) fNil)) (tgN 5) tYesB (f2 oIx (vVar 4) (f2 oSub (f1 oNeg (vC (.int 1))) (vVar 5))) [5]
noncomputable def c_law_2 (K : PySem.W.Frag) (a : Ad) : F U :=
  fLc (fIter (vVar 8)) (tgN 9) (asB (f2 oNotIn (vVar 9) (vVar 6))) (vVar 9) [9]
noncomputable def c_law_3 (K : PySem.W.Frag) (a : Ad) : F U :=
  fLc (fIter (vVar 8)) (tgT 2 (tgCons (tgN 11) (tgCons (tgN 12) tgNil))) tYesB (vVar 11) [11,12]
noncomputable def c_law_4 (K : PySem.W.Frag) (a : Ad) : F U :=
  fLc (fIter (vVar 8)) (tgT 2 (tgCons (tgN 11) (tgCons (tgN 12) tgNil))) tYesB (vVar 12) [11,12]
noncomputable def b_law_1 (K : PySem.W.Frag) (a : Ad) : G :=
  (sSeq (sAsg (fCall 1 0 gPos (m_L_law_shape K a) (fCW (fCons (vVar 2) fNil) fNil)) (tgN 4))
  (sSeq (sIf (asB (f2 oEq (fCall 2 0 gPos (m_L_law_take K a) (fCW (fCons (vVar 2) (fCons (vC (.int 2)) fNil)) fNil)) (vC (.int 0))))
  (sAsg (f2 oAdd (c_law_1 K a) (fSl (vVar 4) oNone (oSome (fCall 2 0 gPos (m_L_law_take K a) (fCW (fCons (vVar 2) (fCons (vC (.int 4)) fNil)) fNil))))) (tgN 4))
  sNil)
  (sSeq (sAsg (fB (pu oList) (fCons (vVar 4) fNil)) (tgN 6))
  (sSeq (sPar 7 8 (fCons (fCall 1 0 gPos (m_least_cover K a) (fCW (fCons (vVar 4) fNil) fNil)) (fCons (fCall 1 0 gPos (m_matching K a) (fCW (fCons (vVar 4) fNil) fNil)) fNil)))
  (sSeq (sIf (bOr (asB (f2 oNe (vVar 4) (vVar 6))) (bNot (asT (fCall 2 0 gPos (m_L_law_claims_right K a) (fCW (fCons (vVar 7) (fCons (vVar 6) fNil)) fNil)))))
  (sRet (vC (.bl false)))
  sNil)
  (sSeq (sIf (bOr (bNot (asT (fB (pu (oIsi K a.own)) (fCons (vVar 8) (fCons (vC (.ty "tuple")) fNil))))) (asB (f2 oNeE (c_law_2 K a) (fN vLst fNil))))
  (sRet (vC (.bl false)))
  sNil)
  (sSeq (sAsg (fN vLst (fCons (f1 oLenSet (c_law_3 K a)) (fCons (f1 oLenSet (c_law_4 K a)) fNil))) (tgN 10))
  (sSeq (sIf (bOr (asB (f2 oNe (vVar 10) (f2 oRep (fN vLst (fCons (fB (pu oLen) (fCons (vVar 8) fNil)) fNil)) (vC (.int 2))))) (bOr (asB (f2 oNe (fB (pu oLen) (fCons (vVar 7) fNil)) (fB (pu oLen) (fCons (vVar 8) fNil)))) (asB (f2 oNe (fB (pu oList) (fCons (vVar 8) fNil)) (fB (pu oSortSMt) (fCons (vVar 8) fNil))))))
  (sRet (vC (.bl false)))
  sNil)
  (sIf (bOr (bNot (asT (fCall 2 0 gPos (m_is_cover K a) (fCW (fCons (vVar 4) (fCons (vVar 7) fNil)) fNil)))) (bNot (asT (fCall 2 0 gPos (m_is_matching K a) (fCW (fCons (vVar 4) (fCons (vVar 8) fNil)) fNil)))))
  (sRet (vC (.bl false)))
  sNil)))))))))
noncomputable def b_law_2 (K : PySem.W.Frag) (a : Ad) : G :=
  (sSeq (sAsg (fCall 2 0 gPos (m_L_law_bag K a) (fCW (fCons (vVar 0) (fCons (vVar 1) fNil)) fNil)) (tgN 2))
  (sFor (fItN itR (fCons (vC (.int 2)) fNil)) (tgN 3) (b_law_1 K a)))
noncomputable def g_law (K : PySem.W.Frag) (a : Ad) : G :=
  (sSeq (sFor (fItN itR (fCons (fB (pu oMax) (fCons (vC (.int 2)) (fCons (fB (pu oMin) (fCons (vC (.int 4)) (fCons (fB (pu oLen) (fCons (vVar 0) fNil)) fNil))) fNil))) fNil)) (tgN 1) (b_law_2 K a))
  (sRet (vC (.bl true))))
noncomputable def m_law (K : PySem.W.Frag) (a : Ad) : List U → M U:=fnM 13 (g_law K a) wFrz
end
structure Tx (K : PySem.W.Frag) (mg : Str → Option Value) (base : Heap) (a : Ad) : Prop where
 z_abs : mg "abs" = none
 z_all : mg "all" = none
 z_any : mg "any" = none
 z_bool : mg "bool" = none
 z_enumerate : mg "enumerate" = none
 z_int : mg "int" = none
 z_isinstance : mg "isinstance" = none
 z_len : mg "len" = none
 z_list : mg "list" = none
 z_max : mg "max" = none
 z_min : mg "min" = none
 z_range : mg "range" = none
 z_set : mg "set" = none
 z_sorted : mg "sorted" = none
 z_str : mg "str" = none
 z_tuple : mg "tuple" = none
 z_zip : mg "zip" = none
 g_OWN : GStr mg "OWN" "own"
 g_SHIPPED : GStr mg "SHIPPED" "shipped"
 m_L_law_bag : mg "_law_bag" = some (.ref a.f_L_law_bag)
 k_L_law_bag : PySem.W.keepIn K (.ref a.f_L_law_bag) = true
 F_L_law_bag : ∃ fd,Fun K "_law_bag" "_law_bag" s_L_law_bag a.f_L_law_bag fd
 m_L_law_take : mg "_law_take" = some (.ref a.f_L_law_take)
 k_L_law_take : PySem.W.keepIn K (.ref a.f_L_law_take) = true
 F_L_law_take : ∃ fd,Fun K "_law_take" "_law_take" s_L_law_take a.f_L_law_take fd
 m_L_law_shape : mg "_law_shape" = some (.ref a.f_L_law_shape)
 k_L_law_shape : PySem.W.keepIn K (.ref a.f_L_law_shape) = true
 F_L_law_shape : ∃ fd,Fun K "_law_shape" "_law_shape" s_L_law_shape a.f_L_law_shape fd
 m_rights_of : mg "rights_of" = some (.ref a.f_rights_of)
 k_rights_of : PySem.W.keepIn K (.ref a.f_rights_of) = true
 F_rights_of : ∃ fd,Fun K "rights_of" "rights_of" s_rights_of a.f_rights_of fd
 m_is_placed : mg "is_placed" = some (.ref a.f_is_placed)
 k_is_placed : PySem.W.keepIn K (.ref a.f_is_placed) = true
 F_is_placed : ∃ fd,Fun K "is_placed" "is_placed" s_is_placed a.f_is_placed fd
 m_matching : mg "matching" = some (.ref a.f_matching)
 k_matching : PySem.W.keepIn K (.ref a.f_matching) = true
 F_matching : ∃ fd,Fun K "matching" "matching" s_matching a.f_matching fd
 m_claims_of : mg "claims_of" = some (.ref a.f_claims_of)
 k_claims_of : PySem.W.keepIn K (.ref a.f_claims_of) = true
 F_claims_of : ∃ fd,Fun K "claims_of" "claims_of" s_claims_of a.f_claims_of fd
 m_bears : mg "bears" = some (.ref a.f_bears)
 k_bears : PySem.W.keepIn K (.ref a.f_bears) = true
 F_bears : ∃ fd,Fun K "bears" "bears" s_bears a.f_bears fd
 m_least_cover : mg "least_cover" = some (.ref a.f_least_cover)
 k_least_cover : PySem.W.keepIn K (.ref a.f_least_cover) = true
 F_least_cover : ∃ fd,Fun K "least_cover" "least_cover" s_least_cover a.f_least_cover fd
 m_L_law_claims_right : mg "_law_claims_right" = some (.ref a.f_L_law_claims_right)
 k_L_law_claims_right : PySem.W.keepIn K (.ref a.f_L_law_claims_right) = true
 F_L_law_claims_right : ∃ fd,Fun K "_law_claims_right" "_law_claims_right" s_L_law_claims_right a.f_L_law_claims_right fd
 m_is_integer : mg "is_integer" = some (.ref a.f_is_integer)
 k_is_integer : PySem.W.keepIn K (.ref a.f_is_integer) = true
 F_is_integer : ∃ fd,Fun K "is_integer" "is_integer" s_is_integer a.f_is_integer fd
 m_is_claim : mg "is_claim" = some (.ref a.f_is_claim)
 k_is_claim : PySem.W.keepIn K (.ref a.f_is_claim) = true
 F_is_claim : ∃ fd,Fun K "is_claim" "is_claim" s_is_claim a.f_is_claim fd
 m_is_ascending : mg "is_ascending" = some (.ref a.f_is_ascending)
 k_is_ascending : PySem.W.keepIn K (.ref a.f_is_ascending) = true
 F_is_ascending : ∃ fd,Fun K "is_ascending" "is_ascending" s_is_ascending a.f_is_ascending fd
 m_is_cover : mg "is_cover" = some (.ref a.f_is_cover)
 k_is_cover : PySem.W.keepIn K (.ref a.f_is_cover) = true
 F_is_cover : ∃ fd,Fun K "is_cover" "is_cover" s_is_cover a.f_is_cover fd
 m_is_pair : mg "is_pair" = some (.ref a.f_is_pair)
 k_is_pair : PySem.W.keepIn K (.ref a.f_is_pair) = true
 F_is_pair : ∃ fd,Fun K "is_pair" "is_pair" s_is_pair a.f_is_pair fd
 m_is_matching : mg "is_matching" = some (.ref a.f_is_matching)
 k_is_matching : PySem.W.keepIn K (.ref a.f_is_matching) = true
 F_is_matching : ∃ fd,Fun K "is_matching" "is_matching" s_is_matching a.f_is_matching fd
 own : Own K a.own
section
variable {P : Program} {w : World} {K : PySem.W.Frag} {mg : Str → Option Value} {base : Heap} {a : Ad}
set_option maxHeartbeats 4000000 in
theorem fn_L_law_bag {fd : FuncData} (F : Fun K "_law_bag" "_law_bag" s_L_law_bag a.f_L_law_bag fd) (T : Tx K mg base a) : FnG P w K mg base 1 a.f_L_law_bag fd ["_law_script","_law_at"] (spM K 2 (m_L_law_bag K a)) :=
 fn_ok F sc_L_law_bag wKeep_ok fun cdv A outer s H E hr=>(show DB _ _ _ (g_L_law_bag K a) from
   (db_cons (ds_set 2 sc_L_law_bag.nd (d_if (dt_cmp op_lt' (d_var 1) (d_bi cr_len T.z_len bt_len (da_cons (d_var 0) da_nil))) (d_ix hr.u1 (d_var 0) (d_var 1)) d_int))
   (db_cons (ds_set 3 sc_L_law_bag.nd (d_op op_add' (d_op op_mul' d_int (d_var 1)) d_int))
   (db_cons (ds_for (passes_of rfl) rfl (d_enum T.z_enumerate (da_cons (d_sl (d_var 0) do_none (do_some d_int)) da_nil)) (dg_tup rfl (dgs_cons (dg_name 4 sc_L_law_bag.nd) (dgs_cons (dg_name 5 sc_L_law_bag.nd) dgs_nil))) (db_one (ds_set 3 sc_L_law_bag.nd (d_op op_mod' (d_bt cr_int T.z_int bt_int (da_cons (d_op op_add' (d_op op_add' (d_op op_add' (d_op op_mul' (d_var 3) d_int) (d_op op_mod' (d_bt cr_int T.z_int bt_int (da_cons (d_var 5) da_nil)) d_int)) (d_op op_mul' d_int (d_var 4))) d_int) da_nil)) d_int))))
   (db_one (ds_ret (d_lstC (da_cons (d_if (dt_cmp op_ge' (d_bi cr_abs T.z_abs bt_abs (da_cons (d_var 2) da_nil)) (d_op op_pow' d_int d_int)) (d_bi cr_abs T.z_abs bt_abs (da_cons (d_var 2) da_nil)) d_int) (da_cons (d_var 3) da_nil)))))))))
theorem ok_L_law_bag (T : Tx K mg base a) : Fd P w K mg base a.f_L_law_bag 1 2 [] gPos (m_L_law_bag K a):=by
 obtain ⟨fd,F⟩:=T.F_L_law_bag
 exact Fd.of (fn_L_law_bag F T) (bd_pos (F.binds (ps:=["_law_script","_law_at"]) fun _ _ _ _ _ _ us hl=>(by obtain ⟨_,_,rfl⟩:=ls_2 hl; rfl)))
set_option maxHeartbeats 4000000 in
theorem fn_L_law_take {fd : FuncData} (F : Fun K "_law_take" "_law_take" s_L_law_take a.f_L_law_take fd) (T : Tx K mg base a) : FnG P w K mg base 1 a.f_L_law_take fd ["_law_bag_here","_law_many"] (spM K 2 (m_L_law_take K a)) :=
 fn_ok F sc_L_law_take wCut_ok fun cdv A outer s H E hr=>(show DB _ _ _ (g_L_law_take K a) from
   (db_cons (ds_if (dt_cmp op_gt' (d_ix hr.u1 (d_var 0) d_int) d_int) (db_cons (ds_set 2 sc_L_law_take.nd (d_op op_mod' (d_bt cr_int T.z_int bt_int (da_cons (d_ix hr.u1 (d_var 0) d_int) da_nil)) (d_var 1)))
   (db_cons (ds_asg (d_op op_fdiv' (d_ix hr.u1 (d_var 0) d_int) (d_var 1)) (dg_sub (W:=W0) hr.u1 (d_var 0) d_int) nx_sub)
   (db_one (ds_ret (d_var 2))))) db_nil)
   (db_cons (ds_asg (d_op op_mod' (d_bt cr_int T.z_int bt_int (da_cons (d_op op_add' (d_op op_mul' (d_ix hr.u1 (d_var 0) d_int) d_int) d_int) da_nil)) d_int) (dg_sub (W:=W0) hr.u1 (d_var 0) d_int) nx_sub)
   (db_one (ds_ret (d_op op_mod' (d_op op_fdiv' (d_op op_mod' (d_bt cr_int T.z_int bt_int (da_cons (d_op op_mul' (d_op op_fdiv' (d_ix hr.u1 (d_var 0) d_int) d_int) d_int) da_nil)) d_int) d_int) (d_var 1)))))))
theorem ok_L_law_take (T : Tx K mg base a) : Fd P w K mg base a.f_L_law_take 1 2 [] gPos (m_L_law_take K a):=by
 obtain ⟨fd,F⟩:=T.F_L_law_take
 exact Fd.of (fn_L_law_take F T) (bd_pos (F.binds (ps:=["_law_bag_here","_law_many"]) fun _ _ _ _ _ _ us hl=>(by obtain ⟨_,_,rfl⟩:=ls_2 hl; rfl)))
set_option maxHeartbeats 4000000 in
theorem fn_L_law_shape {fd : FuncData} (F : Fun K "_law_shape" "_law_shape" s_L_law_shape a.f_L_law_shape fd) (T : Tx K mg base a) : FnG P w K mg base 2 a.f_L_law_shape fd ["_law_bag_here"] (spM K 1 (m_L_law_shape K a)) :=
 fn_ok F sc_L_law_shape wFrz_ok fun cdv A outer s H E hr=>(show DB _ _ _ (g_L_law_shape K a) from
   (db_cons (ds_set 1 sc_L_law_shape.nd (d_call (ok_L_law_take T) T.m_L_law_take T.k_L_law_take (hr.mono (by decide)) (takes_of rfl rfl rfl rfl) (cw_pos (da_cons (d_var 0) (da_cons d_int da_nil)))))
   (db_cons (ds_if (dt_cmp (op_eq' hr.u64) (d_var 1) d_int) (db_cons (ds_setLcV 2 rfl sc_L_law_shape.nd (sw_true rfl rfl rfl (by decide +kernel)) (d_range1 T.z_range (da_cons d_int da_nil)) (blkOk_by (N:=N_L_law_shape) (sc:=defScope s_L_law_shape) (own:=[("_law_x",3)]) (by decide +kernel)) (fun _ _ _ _ _=>(dg_name 3 sc_L_law_shape.nd)) (fun _ _ _ _ _=>(dts_one (dt_cmp (op_eq' hr.u64) (d_call (ok_L_law_take T) T.m_L_law_take T.k_L_law_take (hr.mono (by decide)) takes0 (cw_pos (da_cons (d_var 0) (da_cons d_int da_nil)))) d_int))) (fun _ _ _ _ _=>(d_var 3)))
   (db_cons (ds_setLcV 4 rfl sc_L_law_shape.nd (sw_true rfl rfl rfl (by decide +kernel)) (d_range1 T.z_range (da_cons d_int da_nil)) (blkOk_by (N:=N_L_law_shape) (sc:=defScope s_L_law_shape) (own:=[("_law_y",5)]) (by decide +kernel)) (fun _ _ _ _ _=>(dg_name 5 sc_L_law_shape.nd)) (fun _ _ _ _ _=>(dts_one (dt_cmp (op_eq' hr.u64) (d_call (ok_L_law_take T) T.m_L_law_take T.k_L_law_take (hr.mono (by decide)) takes0 (cw_pos (da_cons (d_var 0) (da_cons d_int da_nil)))) d_int))) (fun _ _ _ _ _=>(d_var 5)))
   (db_cons (ds_set 6 sc_L_law_shape.nd (d_lstC da_nil))
   (db_cons (ds_for (passes_of rfl) rfl (d_iter (d_var 2)) (dg_name 3 sc_L_law_shape.nd) (db_one (ds_expr (d_m PySem.F.plainAttrs_list PySem.F.slot_list_extend PySem.F.type_list_extend mt_extend' (d_var 6) (da_cons (d_lcV rfl sc_L_law_shape.nd (d_iter (d_var 4)) (blkOk_by (N:=N_L_law_shape) (sc:=defScope s_L_law_shape) (own:=[("_law_y",5)]) (by decide +kernel)) (fun _ _ _ _ _=>(dg_name 5 sc_L_law_shape.nd)) (fun _ _ _ _ _=>dts_nil) (fun _ _ _ _ _=>(d_tupC (da_cons (d_var 3) (da_cons (d_var 5) da_nil))))) da_nil)))))
   (db_one (ds_ret (d_var 6))))))) db_nil)
   (db_cons (ds_if (dt_cmp (op_eq' hr.u64) (d_var 1) d_int) (db_cons (ds_set 7 sc_L_law_shape.nd (d_op op_add' d_int (d_call (ok_L_law_take T) T.m_L_law_take T.k_L_law_take (hr.mono (by decide)) (takes_of rfl rfl rfl rfl) (cw_pos (da_cons (d_var 0) (da_cons d_int da_nil))))))
   (db_one (ds_ret (d_op op_add' (d_lcV rfl sc_L_law_shape.nd (d_range1 T.z_range (da_cons (d_var 7) da_nil)) (blkOk_by (N:=N_L_law_shape) (sc:=defScope s_L_law_shape) (own:=[("_law_k",8)]) (by decide +kernel)) (fun _ _ _ _ _=>(dg_name 8 sc_L_law_shape.nd)) (fun _ _ _ _ _=>dts_nil) (fun _ _ _ _ _=>(d_tupC (da_cons (d_var 8) (da_cons (d_var 8) da_nil))))) (d_lcV rfl sc_L_law_shape.nd (d_range1 T.z_range (da_cons (d_op op_sub' (d_var 7) d_int) da_nil)) (blkOk_by (N:=N_L_law_shape) (sc:=defScope s_L_law_shape) (own:=[("_law_k",8)]) (by decide +kernel)) (fun _ _ _ _ _=>(dg_name 8 sc_L_law_shape.nd)) (fun _ _ _ _ _=>dts_nil) (fun _ _ _ _ _=>(d_tupC (da_cons (d_op op_add' (d_var 8) d_int) (da_cons (d_var 8) da_nil))))))))) db_nil)
   (db_cons (ds_if (dt_cmp (op_eq' hr.u64) (d_var 1) d_int) (db_cons (ds_set 9 sc_L_law_shape.nd (d_call (ok_L_law_take T) T.m_L_law_take T.k_L_law_take (hr.mono (by decide)) (takes_of rfl rfl rfl rfl) (cw_pos (da_cons (d_var 0) (da_cons d_int da_nil)))))
   (db_cons (ds_setLcV 10 rfl sc_L_law_shape.nd (sw_true rfl rfl rfl (by decide +kernel)) (d_range1 T.z_range (da_cons (d_call (ok_L_law_take T) T.m_L_law_take T.k_L_law_take (hr.mono (by decide)) (takes_of rfl rfl rfl rfl) (cw_pos (da_cons (d_var 0) (da_cons d_int da_nil)))) da_nil)) (blkOk_by (N:=N_L_law_shape) (sc:=defScope s_L_law_shape) (own:=[("_law_y",5)]) (by decide +kernel)) (fun _ _ _ _ _=>(dg_name 5 sc_L_law_shape.nd)) (fun _ _ _ _ _=>dts_nil) (fun _ _ _ _ _=>(d_tupC (da_cons (d_var 9) (da_cons (d_var 5) da_nil)))))
   (db_one (ds_ret (d_op op_add' (d_var 10) (d_lcV rfl sc_L_law_shape.nd (d_range1 T.z_range (da_cons (d_call (ok_L_law_take T) T.m_L_law_take T.k_L_law_take (hr.mono (by decide)) (takes_of rfl rfl rfl rfl) (cw_pos (da_cons (d_var 0) (da_cons d_int da_nil)))) da_nil)) (blkOk_by (N:=N_L_law_shape) (sc:=defScope s_L_law_shape) (own:=[("_law_x",3)]) (by decide +kernel)) (fun _ _ _ _ _=>(dg_name 3 sc_L_law_shape.nd)) (fun _ _ _ _ _=>dts_nil) (fun _ _ _ _ _=>(d_tupC (da_cons (d_var 3) (da_cons (d_call (ok_L_law_take T) T.m_L_law_take T.k_L_law_take (hr.mono (by decide)) takes0 (cw_pos (da_cons (d_var 0) (da_cons d_int da_nil)))) da_nil)))))))))) db_nil)
   (db_one (ds_ret (d_lcV rfl sc_L_law_shape.nd (d_range1 T.z_range (da_cons (d_call (ok_L_law_take T) T.m_L_law_take T.k_L_law_take (hr.mono (by decide)) (takes_of rfl rfl rfl rfl) (cw_pos (da_cons (d_var 0) (da_cons (d_ix hr.u1 (d_lst (da_cons d_int (da_cons d_int da_nil))) (d_op op_sub' (d_var 1) d_int)) da_nil)))) da_nil)) (blkOk_by (N:=N_L_law_shape) (sc:=defScope s_L_law_shape) (own:=[("_law_turn",11)]) (by decide +kernel)) (fun _ _ _ _ _=>(dg_name 11 sc_L_law_shape.nd)) (fun _ _ _ _ _=>dts_nil) (fun _ _ _ _ _=>(d_tupC (da_cons (d_call (ok_L_law_take T) T.m_L_law_take T.k_L_law_take (hr.mono (by decide)) takes0 (cw_pos (da_cons (d_var 0) (da_cons d_int da_nil)))) (da_cons (d_call (ok_L_law_take T) T.m_L_law_take T.k_L_law_take (hr.mono (by decide)) takes0 (cw_pos (da_cons (d_var 0) (da_cons d_int da_nil)))) da_nil))))))))))))
theorem ok_L_law_shape (T : Tx K mg base a) : Fd P w K mg base a.f_L_law_shape 2 1 [] gPos (m_L_law_shape K a):=by
 obtain ⟨fd,F⟩:=T.F_L_law_shape
 exact Fd.of (fn_L_law_shape F T) (bd_pos (F.binds (ps:=["_law_bag_here"]) fun _ _ _ _ _ _ us hl=>(by obtain ⟨_,rfl⟩:=ls_1 hl; rfl)))
set_option maxHeartbeats 4000000 in
theorem fn_rights_of {fd : FuncData} (F : Fun K "rights_of" "rights_of" s_rights_of a.f_rights_of fd) (T : Tx K mg base a) : FnG P w K mg base 1 a.f_rights_of fd ["conflicts"] (spM K 1 (m_rights_of K a)) :=
 fn_ok F sc_rights_of wFrz_ok fun cdv A outer s H E hr=>(show DB _ _ _ (g_rights_of K a) from
   (db_cons (ds_set 1 sc_rights_of.nd d_dnew)
   (db_cons (ds_for (passes_of rfl) rfl (d_iter (d_var 0)) (dg_tup rfl (dgs_cons (dg_name 2 sc_rights_of.nd) (dgs_cons (dg_name 3 sc_rights_of.nd) dgs_nil))) (db_cons (ds_set 4 sc_rights_of.nd (d_setd (d_var 1) (d_var 2) (d_lstC da_nil) ⟨rfl,rfl,rfl,rfl⟩))
   (db_one (ds_if (dt_cmp (op_notIn' hr.u65) (d_var 3) (d_var 4)) (db_one (ds_expr (d_m PySem.F.plainAttrs_list PySem.F.slot_list_append PySem.F.type_list_append mt_append' (d_var 4) (da_cons (d_var 3) da_nil)))) db_nil))))
   (db_one (ds_ret (d_var 1))))))
theorem ok_rights_of (T : Tx K mg base a) : Fd P w K mg base a.f_rights_of 1 1 [] gPos (m_rights_of K a):=by
 obtain ⟨fd,F⟩:=T.F_rights_of
 exact Fd.of (fn_rights_of F T) (bd_pos (F.binds (ps:=["conflicts"]) fun _ _ _ _ _ _ us hl=>(by obtain ⟨_,rfl⟩:=ls_1 hl; rfl)))
set_option maxHeartbeats 4000000 in
theorem fr_is_placed {n : Nat} {fd : FuncData} (F : Fun K "is_placed" "is_placed" s_is_placed a.f_is_placed fd) (T : Tx K mg base a) (hk : Fd P w K mg base a.f_is_placed (0 + n) 4 [] gPos (mr_is_placed K a n)) : FnG P w K mg base (0 + n + 1) a.f_is_placed fd ["x","rights","partners","tried"] (spM K 4 (mr_is_placed K a (n + 1))) :=
 fn_ok F sc_is_placed wCut_ok fun cdv A outer s H E hr=>(show DB _ _ _ (g_is_placed K a (mr_is_placed K a n)) from
   (db_cons (ds_for (passes_of rfl) rfl (d_iter (d_ix hr.u1 (d_var 1) (d_var 0))) (dg_name 4 sc_is_placed.nd) (db_one (ds_if (dt_cmp (op_notIn' hr.u65) (d_var 4) (d_var 3)) (db_cons (ds_expr (d_m PySem.F.plainAttrs_list PySem.F.slot_list_append PySem.F.type_list_append mt_append' (d_var 3) (da_cons (d_var 4) da_nil)))
   (db_one (ds_if (dw_pt (dw_or (dt_cmp (op_notInDct hr.u1) (d_var 4) (d_var 2)) (dw_or1 (dt_truth (d_call hk T.m_is_placed T.k_is_placed (hr.mono (by omega)) (takes_of rfl rfl rfl rfl) (cw_pos (da_cons (d_ix hr.u1 (d_var 2) (d_var 4)) (da_cons (d_var 1) (da_cons (d_var 2) (da_cons (d_var 3) da_nil)))))))))) (db_cons (ds_asg (d_var 0) (dg_sub (W:=W0) hr.u1 (d_var 2) (d_var 4)) nx_sub)
   (db_one (ds_ret d_bl))) db_nil))) db_nil)))
   (db_one (ds_ret d_bl))))
theorem okr_is_placed (T : Tx K mg base a) : ∀ n,Fd P w K mg base a.f_is_placed (0 + n) 4 [] gPos (mr_is_placed K a n)
 | 0=>⟨fun _ _ _ _ _ _ _ _ _ _ _ _ _ _ _ _ _ _ _ _ _ _ _ h=>h.elim⟩
 | n + 1=>by
  obtain ⟨fd,F⟩:=T.F_is_placed
  exact Fd.of (fr_is_placed F T (okr_is_placed T n)) (bd_pos (F.binds (ps:=["x","rights","partners","tried"]) fun _ _ _ _ _ _ us hl=>(by obtain ⟨_,_,_,_,rfl⟩:=ls_4 hl; rfl)))
theorem ok_is_placed (T : Tx K mg base a) : Fd P w K mg base a.f_is_placed 16 4 [] gPos (m_is_placed K a):=okr_is_placed T 16
set_option maxHeartbeats 4000000 in
theorem fn_matching {fd : FuncData} (F : Fun K "matching" "matching" s_matching a.f_matching fd) (T : Tx K mg base a) : FnG P w K mg base 17 a.f_matching fd ["conflicts"] (spM K 1 (m_matching K a)) :=
 fn_ok F sc_matching wFrz_ok fun cdv A outer s H E hr=>(show DB _ _ _ (g_matching K a) from
   (db_cons (ds_par 1 2 rfl sc_matching.nd (da_cons (d_call (ok_rights_of T) T.m_rights_of T.k_rights_of (hr.mono (by decide)) (takes_of rfl rfl rfl rfl) (cw_pos (da_cons (d_var 0) da_nil))) (da_cons d_dnew da_nil)) (by decide) rfl)
   (db_cons (ds_for (passes_of rfl) rfl (d_iter (d_bi (cr_sortDI rfl) T.z_sorted bt_sorted (da_cons (d_var 1) da_nil))) (dg_name 3 sc_matching.nd) (db_one (ds_expr (d_call (ok_is_placed T) T.m_is_placed T.k_is_placed (hr.mono (by decide)) (takes_of rfl rfl rfl rfl) (cw_pos (da_cons (d_var 3) (da_cons (d_var 1) (da_cons (d_var 2) (da_cons (d_lstC da_nil) da_nil)))))))))
   (db_one (ds_ret (d_bt cr_tuple T.z_tuple bt_tuple (da_cons (d_bi (cr_sortPD hr.u65) T.z_sorted bt_sorted (da_cons (d_lcV rfl sc_matching.nd (d_itemsC (d_var 2)) (blkOk_by (N:=N_matching) (sc:=defScope s_matching) (own:=[("y",4),("x",3)]) (by decide +kernel)) (fun _ _ _ _ _=>(dg_tup rfl (dgs_cons (dg_name 4 sc_matching.nd) (dgs_cons (dg_name 3 sc_matching.nd) dgs_nil)))) (fun _ _ _ _ _=>dts_nil) (fun _ _ _ _ _=>(d_tupC (da_cons (d_var 3) (da_cons (d_var 4) da_nil))))) da_nil)) da_nil)))))))
theorem ok_matching (T : Tx K mg base a) : Fd P w K mg base a.f_matching 17 1 [] gPos (m_matching K a):=by
 obtain ⟨fd,F⟩:=T.F_matching
 exact Fd.of (fn_matching F T) (bd_pos (F.binds (ps:=["conflicts"]) fun _ _ _ _ _ _ us hl=>(by obtain ⟨_,rfl⟩:=ls_1 hl; rfl)))
set_option maxHeartbeats 4000000 in
theorem fn_claims_of {fd : FuncData} (F : Fun K "claims_of" "claims_of" s_claims_of a.f_claims_of fd) (T : Tx K mg base a) : FnG P w K mg base 1 a.f_claims_of fd ["conflicts"] (spM K 1 (m_claims_of K a)) :=
 fn_ok F sc_claims_of wFrz_ok fun cdv A outer s H E hr=>(show DB _ _ _ (g_claims_of K a) from
   (db_one (ds_ret (d_sortedS rfl hr.u65 T.z_sorted (s_setM2 hr.u65 rfl sc_claims_of.nd (d_iter (d_var 0)) (blkOk_by (N:=N_claims_of) (sc:=defScope s_claims_of) (own:=[("x",1),("y",2),("claim",3)]) (by decide +kernel)) (fun _ _ _ _ _=>(dg_tup rfl (dgs_cons (dg_name 1 sc_claims_of.nd) (dgs_cons (dg_name 2 sc_claims_of.nd) dgs_nil)))) (fun _ _ _ _ _=>dts_nil) (fun _ _ _ _ _=>(d_lst (da_cons (d_tupC (da_cons (d_var 1) (da_cons (d_gstr T.g_OWN) da_nil))) (da_cons (d_tupC (da_cons (d_var 2) (da_cons (d_gstr T.g_SHIPPED) da_nil))) da_nil)))) (fun _ _ _ _ _=>(dg_name 3 sc_claims_of.nd)) (fun _ _ _ _ _=>dts_nil) (fun _ _ _ _ _=>(d_var 3)))))))
theorem ok_claims_of (T : Tx K mg base a) : Fd P w K mg base a.f_claims_of 1 1 [] gPos (m_claims_of K a):=by
 obtain ⟨fd,F⟩:=T.F_claims_of
 exact Fd.of (fn_claims_of F T) (bd_pos (F.binds (ps:=["conflicts"]) fun _ _ _ _ _ _ us hl=>(by obtain ⟨_,rfl⟩:=ls_1 hl; rfl)))
set_option maxHeartbeats 4000000 in
theorem fn_bears {fd : FuncData} (F : Fun K "bears" "bears" s_bears a.f_bears fd) (T : Tx K mg base a) : FnG P w K mg base 1 a.f_bears fd ["conflict","claim"] (spM K 2 (m_bears K a)) :=
 fn_ok F sc_bears wFrz_ok fun cdv A outer s H E hr=>(show DB _ _ _ (g_bears K a) from
   (db_cons (ds_asg (d_var 1) (dg_tup rfl (dgs_cons (dg_name 2 sc_bears.nd) (dgs_cons (dg_name 3 sc_bears.nd) dgs_nil))) (nx_tup (nxs_cons (nx_name _) (nxs_cons (nx_name _) nxs_nil))))
   (db_one (ds_ret (d_if (dt_cmp (op_eq' hr.u64) (d_var 3) (d_gstr T.g_OWN)) (d_cmp (op_eq' hr.u64) (d_ix hr.u1 (d_var 0) d_int) (d_var 2)) (d_cmp (op_eq' hr.u64) (d_ix hr.u1 (d_var 0) d_int) (d_var 2)))))))
theorem ok_bears (T : Tx K mg base a) : Fd P w K mg base a.f_bears 1 2 [] gPos (m_bears K a):=by
 obtain ⟨fd,F⟩:=T.F_bears
 exact Fd.of (fn_bears F T) (bd_pos (F.binds (ps:=["conflict","claim"]) fun _ _ _ _ _ _ us hl=>(by obtain ⟨_,_,rfl⟩:=ls_2 hl; rfl)))
set_option maxHeartbeats 4000000 in
theorem fn_least_cover {fd : FuncData} (F : Fun K "least_cover" "least_cover" s_least_cover a.f_least_cover fd) (T : Tx K mg base a) : FnG P w K mg base 18 a.f_least_cover fd ["conflicts"] (spM K 1 (m_least_cover K a)) :=
 fn_ok F sc_least_cover wFrz_ok fun cdv A outer s H E hr=>(show DB _ _ _ (g_least_cover K a) from
   (db_cons (ds_par 1 2 rfl sc_least_cover.nd (da_cons (d_bt cr_list T.z_list bt_list (da_cons (d_var 0) da_nil)) (da_cons (d_lstC da_nil) da_nil)) (by decide) rfl)
   (db_cons (ds_set 3 sc_least_cover.nd (d_bi cr_len T.z_len bt_len (da_cons (d_call (ok_matching T) T.m_matching T.k_matching (hr.mono (by decide)) (takes_of rfl rfl rfl rfl) (cw_pos (da_cons (d_var 1) da_nil))) da_nil)))
   (db_cons (ds_for (passes_of rfl) rfl (d_iter (d_call (ok_claims_of T) T.m_claims_of T.k_claims_of (hr.mono (by decide)) (takes_of rfl rfl rfl rfl) (cw_pos (da_cons (d_var 0) da_nil)))) (dg_name 4 sc_least_cover.nd) (db_cons (ds_setLcV 5 rfl sc_least_cover.nd (sw_true rfl rfl rfl (by decide +kernel)) (d_iter (d_var 1)) (blkOk_by (N:=N_least_cover) (sc:=defScope s_least_cover) (own:=[("conflict",6)]) (by decide +kernel)) (fun _ _ _ _ _=>(dg_name 6 sc_least_cover.nd)) (fun _ _ _ _ _=>(dts_one (dt_not (dt_truth (d_call (ok_bears T) T.m_bears T.k_bears (hr.mono (by decide)) takes0 (cw_pos (da_cons (d_var 6) (da_cons (d_var 4) da_nil)))))))) (fun _ _ _ _ _=>(d_var 6)))
   (db_one (ds_if (dt_cmp op_lt' (d_bi cr_len T.z_len bt_len (da_cons (d_call (ok_matching T) T.m_matching T.k_matching (hr.mono (by decide)) (takes_of rfl rfl rfl rfl) (cw_pos (da_cons (d_var 5) da_nil))) da_nil)) (d_var 3)) (db_cons (ds_expr (d_m PySem.F.plainAttrs_list PySem.F.slot_list_append PySem.F.type_list_append mt_append' (d_var 2) (da_cons (d_var 4) da_nil)))
   (db_one (ds_par 1 3 rfl sc_least_cover.nd (da_cons (d_var 5) (da_cons (d_op op_sub' (d_var 3) d_int) da_nil)) (by decide) rfl))) db_nil))))
   (db_one (ds_ret (d_bt cr_tuple T.z_tuple bt_tuple (da_cons (d_var 2) da_nil))))))))
theorem ok_least_cover (T : Tx K mg base a) : Fd P w K mg base a.f_least_cover 18 1 [] gPos (m_least_cover K a):=by
 obtain ⟨fd,F⟩:=T.F_least_cover
 exact Fd.of (fn_least_cover F T) (bd_pos (F.binds (ps:=["conflicts"]) fun _ _ _ _ _ _ us hl=>(by obtain ⟨_,rfl⟩:=ls_1 hl; rfl)))
set_option maxHeartbeats 4000000 in
theorem fn_L_law_claims_right {fd : FuncData} (F : Fun K "_law_claims_right" "_law_claims_right" s_L_law_claims_right a.f_L_law_claims_right fd) (T : Tx K mg base a) : FnG P w K mg base 1 a.f_L_law_claims_right fd ["_law_claims","_law_conflicts"] (spM K 2 (m_L_law_claims_right K a)) :=
 fn_ok F sc_L_law_claims_right wFrz_ok fun cdv A outer s H E hr=>(show DB _ _ _ (g_L_law_claims_right K a) from
   (db_cons (ds_set 2 sc_L_law_claims_right.nd (d_sortSM rfl hr.u65 T.z_sorted T.z_set (da_cons (d_op op_add' (d_lcV rfl sc_L_law_claims_right.nd (d_iter (d_var 1)) (blkOk_by (N:=N_L_law_claims_right) (sc:=defScope s_L_law_claims_right) (own:=[("_law_x",3),("_law_y",4)]) (by decide +kernel)) (fun _ _ _ _ _=>(dg_tup rfl (dgs_cons (dg_name 3 sc_L_law_claims_right.nd) (dgs_cons (dg_name 4 sc_L_law_claims_right.nd) dgs_nil)))) (fun _ _ _ _ _=>dts_nil) (fun _ _ _ _ _=>(d_tupC (da_cons (d_var 3) (da_cons d_str da_nil))))) (d_lcV rfl sc_L_law_claims_right.nd (d_iter (d_var 1)) (blkOk_by (N:=N_L_law_claims_right) (sc:=defScope s_L_law_claims_right) (own:=[("_law_x",3),("_law_y",4)]) (by decide +kernel)) (fun _ _ _ _ _=>(dg_tup rfl (dgs_cons (dg_name 3 sc_L_law_claims_right.nd) (dgs_cons (dg_name 4 sc_L_law_claims_right.nd) dgs_nil)))) (fun _ _ _ _ _=>dts_nil) (fun _ _ _ _ _=>(d_tupC (da_cons (d_var 4) (da_cons d_str da_nil)))))) da_nil)))
   (db_cons (ds_if (dw_pt (dw_or (dt_not (dt_truth (d_bi (cr_isi T.own) T.z_isinstance bt_isinstance (da_cons (d_var 0) (da_cons (d_ty T.z_tuple bt_tuple) da_nil))))) (dw_or1 (dt_cmp (op_neE' hr.u64) (d_lcV rfl sc_L_law_claims_right.nd (d_iter (d_var 0)) (blkOk_by (N:=N_L_law_claims_right) (sc:=defScope s_L_law_claims_right) (own:=[("_law_one",5)]) (by decide +kernel)) (fun _ _ _ _ _=>(dg_name 5 sc_L_law_claims_right.nd)) (fun _ _ _ _ _=>(dts_one (dt_cmp (op_notIn' hr.u65) (d_var 5) (d_var 2)))) (fun _ _ _ _ _=>(d_var 5))) (d_lst da_nil))))) (db_one (ds_ret d_bl)) db_nil)
   (db_cons (ds_if (dt_cmp (op_neE' hr.u64) (d_lcV rfl sc_L_law_claims_right.nd (d_iter (d_var 0)) (blkOk_by (N:=N_L_law_claims_right) (sc:=defScope s_L_law_claims_right) (own:=[("_law_one",5)]) (by decide +kernel)) (fun _ _ _ _ _=>(dg_name 5 sc_L_law_claims_right.nd)) (fun _ _ _ _ _=>(dts_one (dw_pt (dw_or (dt_not (dt_truth (d_bi (cr_isi T.own) T.z_isinstance bt_isinstance (da_cons (d_var 5) (da_cons (d_ty T.z_tuple bt_tuple) da_nil))))) (dw_or1 (dt_truth (d_bi (cr_isi T.own) T.z_isinstance bt_isinstance (da_cons (d_ix hr.u1 (d_var 5) d_int) (da_cons (d_ty T.z_bool bt_bool) da_nil))))))))) (fun _ _ _ _ _=>(d_var 5))) (d_lst da_nil)) (db_one (ds_ret d_bl)) db_nil)
   (db_cons (ds_setLcV 6 rfl sc_L_law_claims_right.nd (sw_true rfl rfl rfl (by decide +kernel)) (d_iter (d_var 1)) (blkOk_by (N:=N_L_law_claims_right) (sc:=defScope s_L_law_claims_right) (own:=[("_law_one",5)]) (by decide +kernel)) (fun _ _ _ _ _=>(dg_name 5 sc_L_law_claims_right.nd)) (fun _ _ _ _ _=>(dts_one (dw_pt (dw_and (dt_cmp (op_notInT hr.u65) (d_tupC (da_cons (d_ix hr.u1 (d_var 5) d_int) (da_cons d_str da_nil))) (d_var 0)) (dw_and1 (dt_cmp (op_notInT hr.u65) (d_tupC (da_cons (d_ix hr.u1 (d_var 5) d_int) (da_cons d_str da_nil))) (d_var 0))))))) (fun _ _ _ _ _=>(d_var 5)))
   (db_one (ds_ret (d_and (d_cmp (op_eqE' hr.u64) (d_var 6) (d_lst da_nil)) (d_one (d_cmp (op_eq' hr.u64) (d_bt cr_list T.z_list bt_list (da_cons (d_var 0) da_nil)) (d_sortSMt rfl hr.u65 T.z_sorted T.z_set (da_cons (d_var 0) da_nil))))))))))))
theorem ok_L_law_claims_right (T : Tx K mg base a) : Fd P w K mg base a.f_L_law_claims_right 1 2 [] gPos (m_L_law_claims_right K a):=by
 obtain ⟨fd,F⟩:=T.F_L_law_claims_right
 exact Fd.of (fn_L_law_claims_right F T) (bd_pos (F.binds (ps:=["_law_claims","_law_conflicts"]) fun _ _ _ _ _ _ us hl=>(by obtain ⟨_,_,rfl⟩:=ls_2 hl; rfl)))
set_option maxHeartbeats 4000000 in
theorem fn_is_integer {fd : FuncData} (F : Fun K "is_integer" "is_integer" s_is_integer a.f_is_integer fd) (T : Tx K mg base a) : FnG P w K mg base 1 a.f_is_integer fd ["thing"] (spM K 1 (m_is_integer K a)) :=
 fn_ok F sc_is_integer wFrz_ok fun cdv A outer s H E hr=>(show DB _ _ _ (g_is_integer K a) from
   (db_one (ds_ret (d_and (d_bi (cr_isi T.own) T.z_isinstance bt_isinstance (da_cons (d_var 0) (da_cons (d_ty T.z_int bt_int) da_nil))) (d_one (d_not (d_bi (cr_isi T.own) T.z_isinstance bt_isinstance (da_cons (d_var 0) (da_cons (d_ty T.z_bool bt_bool) da_nil)))))))))
theorem ok_is_integer (T : Tx K mg base a) : Fd P w K mg base a.f_is_integer 1 1 [] gPos (m_is_integer K a):=by
 obtain ⟨fd,F⟩:=T.F_is_integer
 exact Fd.of (fn_is_integer F T) (bd_pos (F.binds (ps:=["thing"]) fun _ _ _ _ _ _ us hl=>(by obtain ⟨_,rfl⟩:=ls_1 hl; rfl)))
set_option maxHeartbeats 4000000 in
theorem fn_is_claim {fd : FuncData} (F : Fun K "is_claim" "is_claim" s_is_claim a.f_is_claim fd) (T : Tx K mg base a) : FnG P w K mg base 2 a.f_is_claim fd ["thing"] (spM K 1 (m_is_claim K a)) :=
 fn_ok F sc_is_claim wFrz_ok fun cdv A outer s H E hr=>(show DB _ _ _ (g_is_claim K a) from
   (db_cons (ds_if (dw_pt (dw_or (dt_not (dt_truth (d_bi (cr_isi T.own) T.z_isinstance bt_isinstance (da_cons (d_var 0) (da_cons (d_ty T.z_tuple bt_tuple) da_nil))))) (dw_or (dt_cmp (op_ne' hr.u64) (d_bi cr_len T.z_len bt_len (da_cons (d_var 0) da_nil)) d_int) (dw_or1 (dt_not (dt_truth (d_call (ok_is_integer T) T.m_is_integer T.k_is_integer (hr.mono (by decide)) (takes_of rfl rfl rfl rfl) (cw_pos (da_cons (d_ix hr.u1 (d_var 0) d_int) da_nil))))))))) (db_one (ds_ret d_bl)) db_nil)
   (db_one (ds_ret (d_and (d_bi (cr_isi T.own) T.z_isinstance bt_isinstance (da_cons (d_ix hr.u1 (d_var 0) d_int) (da_cons (d_ty T.z_str bt_str) da_nil))) (d_one (d_cmp (op_in' hr.u65) (d_ix hr.u1 (d_var 0) d_int) (d_tupC (da_cons (d_gstr T.g_OWN) (da_cons (d_gstr T.g_SHIPPED) da_nil))))))))))
theorem ok_is_claim (T : Tx K mg base a) : Fd P w K mg base a.f_is_claim 2 1 [] gPos (m_is_claim K a):=by
 obtain ⟨fd,F⟩:=T.F_is_claim
 exact Fd.of (fn_is_claim F T) (bd_pos (F.binds (ps:=["thing"]) fun _ _ _ _ _ _ us hl=>(by obtain ⟨_,rfl⟩:=ls_1 hl; rfl)))
set_option maxHeartbeats 4000000 in
theorem fn_is_ascending {fd : FuncData} (F : Fun K "is_ascending" "is_ascending" s_is_ascending a.f_is_ascending fd) (T : Tx K mg base a) : FnG P w K mg base 1 a.f_is_ascending fd ["row"] (spM K 1 (m_is_ascending K a)) :=
 fn_ok F sc_is_ascending wFrz_ok fun cdv A outer s H E hr=>(show DB _ _ _ (g_is_ascending K a) from
   (db_one (ds_ret (d_bi (cr_all' rfl) T.z_all bt_all (da_cons (d_lcV rfl sc_is_ascending.nd (d_zipA T.z_zip (da_cons (d_var 0) (da_cons (d_sl (d_var 0) (do_some d_int) do_none) da_nil))) (blkOk_by (N:=N_is_ascending) (sc:=defScope s_is_ascending) (own:=[("one",1),("other",2)]) (by decide +kernel)) (fun _ _ _ _ _=>(dg_tup rfl (dgs_cons (dg_name 1 sc_is_ascending.nd) (dgs_cons (dg_name 2 sc_is_ascending.nd) dgs_nil)))) (fun _ _ _ _ _=>dts_nil) (fun _ _ _ _ _=>(d_cmp (op_ltD hr.u64) (d_var 1) (d_var 2)))) da_nil)))))
theorem ok_is_ascending (T : Tx K mg base a) : Fd P w K mg base a.f_is_ascending 1 1 [] gPos (m_is_ascending K a):=by
 obtain ⟨fd,F⟩:=T.F_is_ascending
 exact Fd.of (fn_is_ascending F T) (bd_pos (F.binds (ps:=["row"]) fun _ _ _ _ _ _ us hl=>(by obtain ⟨_,rfl⟩:=ls_1 hl; rfl)))
set_option maxHeartbeats 4000000 in
theorem fn_is_cover {fd : FuncData} (F : Fun K "is_cover" "is_cover" s_is_cover a.f_is_cover fd) (T : Tx K mg base a) : FnG P w K mg base 3 a.f_is_cover fd ["conflicts","thing"] (spM K 2 (m_is_cover K a)) :=
 fn_ok F sc_is_cover wFrz_ok fun cdv A outer s H E hr=>(show DB _ _ _ (g_is_cover K a) from
   (db_cons (ds_if (dw_pt (dw_or (dt_not (dt_truth (d_bi (cr_isi T.own) T.z_isinstance bt_isinstance (da_cons (d_var 1) (da_cons (d_ty T.z_tuple bt_tuple) da_nil))))) (dw_or (dt_not (dt_truth (d_bi (cr_all' rfl) T.z_all bt_all (da_cons (d_lcV rfl sc_is_cover.nd (d_iter (d_var 1)) (blkOk_by (N:=N_is_cover) (sc:=defScope s_is_cover) (own:=[("claim",2)]) (by decide +kernel)) (fun _ _ _ _ _=>(dg_name 2 sc_is_cover.nd)) (fun _ _ _ _ _=>dts_nil) (fun _ _ _ _ _=>(d_call (ok_is_claim T) T.m_is_claim T.k_is_claim (hr.mono (by decide)) takes0 (cw_pos (da_cons (d_var 2) da_nil))))) da_nil)))) (dw_or1 (dt_not (dt_truth (d_call (ok_is_ascending T) T.m_is_ascending T.k_is_ascending (hr.mono (by decide)) (takes_of rfl rfl rfl rfl) (cw_pos (da_cons (d_var 1) da_nil))))))))) (db_one (ds_ret d_bl)) db_nil)
   (db_cons (ds_if (dt_not (dt_truth (d_bi (cr_all' rfl) T.z_all bt_all (da_cons (d_lcV rfl sc_is_cover.nd (d_iter (d_var 1)) (blkOk_by (N:=N_is_cover) (sc:=defScope s_is_cover) (own:=[("claim",2)]) (by decide +kernel)) (fun _ _ _ _ _=>(dg_name 2 sc_is_cover.nd)) (fun _ _ _ _ _=>dts_nil) (fun _ _ _ _ _=>(d_cmp (op_in' hr.u65) (d_var 2) (d_call (ok_claims_of T) T.m_claims_of T.k_claims_of (hr.mono (by decide)) takes0 (cw_pos (da_cons (d_var 0) da_nil)))))) da_nil)))) (db_one (ds_ret d_bl)) db_nil)
   (db_one (ds_ret (d_bi (cr_all' rfl) T.z_all bt_all (da_cons (d_lcV rfl sc_is_cover.nd (d_iter (d_var 0)) (blkOk_by (N:=N_is_cover) (sc:=defScope s_is_cover) (own:=[("conflict",3)]) (by decide +kernel)) (fun _ _ _ _ _=>(dg_name 3 sc_is_cover.nd)) (fun _ _ _ _ _=>dts_nil) (fun _ _ _ _ _=>(d_bi (cr_any' rfl) T.z_any bt_any (da_cons (d_lcV rfl sc_is_cover.nd (d_iter (d_var 1)) (blkOk_by (own:=[("claim",2)]) rfl) (fun _ _ _ _ _=>(dg_name 2 sc_is_cover.nd)) (fun _ _ _ _ _=>dts_nil) (fun _ _ _ _ _=>(d_call (ok_bears T) T.m_bears T.k_bears (hr.mono (by decide)) takes0 (cw_pos (da_cons (d_var 3) (da_cons (d_var 2) da_nil)))))) da_nil)))) da_nil)))))))
theorem ok_is_cover (T : Tx K mg base a) : Fd P w K mg base a.f_is_cover 3 2 [] gPos (m_is_cover K a):=by
 obtain ⟨fd,F⟩:=T.F_is_cover
 exact Fd.of (fn_is_cover F T) (bd_pos (F.binds (ps:=["conflicts","thing"]) fun _ _ _ _ _ _ us hl=>(by obtain ⟨_,_,rfl⟩:=ls_2 hl; rfl)))
set_option maxHeartbeats 4000000 in
theorem fn_is_pair {fd : FuncData} (F : Fun K "is_pair" "is_pair" s_is_pair a.f_is_pair fd) (T : Tx K mg base a) : FnG P w K mg base 2 a.f_is_pair fd ["thing"] (spM K 1 (m_is_pair K a)) :=
 fn_ok F sc_is_pair wFrz_ok fun cdv A outer s H E hr=>(show DB _ _ _ (g_is_pair K a) from
   (db_one (ds_ret (d_and (d_bi (cr_isi T.own) T.z_isinstance bt_isinstance (da_cons (d_var 0) (da_cons (d_ty T.z_tuple bt_tuple) da_nil))) (d_and (d_cmp (op_eq' hr.u64) (d_bi cr_len T.z_len bt_len (da_cons (d_var 0) da_nil)) d_int) (d_and (d_call (ok_is_integer T) T.m_is_integer T.k_is_integer (hr.mono (by decide)) (takes_of rfl rfl rfl rfl) (cw_pos (da_cons (d_ix hr.u1 (d_var 0) d_int) da_nil))) (d_one (d_call (ok_is_integer T) T.m_is_integer T.k_is_integer (hr.mono (by decide)) (takes_of rfl rfl rfl rfl) (cw_pos (da_cons (d_ix hr.u1 (d_var 0) d_int) da_nil))))))))))
theorem ok_is_pair (T : Tx K mg base a) : Fd P w K mg base a.f_is_pair 2 1 [] gPos (m_is_pair K a):=by
 obtain ⟨fd,F⟩:=T.F_is_pair
 exact Fd.of (fn_is_pair F T) (bd_pos (F.binds (ps:=["thing"]) fun _ _ _ _ _ _ us hl=>(by obtain ⟨_,rfl⟩:=ls_1 hl; rfl)))
set_option maxHeartbeats 4000000 in
theorem fn_is_matching {fd : FuncData} (F : Fun K "is_matching" "is_matching" s_is_matching a.f_is_matching fd) (T : Tx K mg base a) : FnG P w K mg base 3 a.f_is_matching fd ["conflicts","thing"] (spM K 2 (m_is_matching K a)) :=
 fn_ok F sc_is_matching wFrz_ok fun cdv A outer s H E hr=>(show DB _ _ _ (g_is_matching K a) from
   (db_cons (ds_if (dw_pt (dw_or (dt_not (dt_truth (d_bi (cr_isi T.own) T.z_isinstance bt_isinstance (da_cons (d_var 1) (da_cons (d_ty T.z_tuple bt_tuple) da_nil))))) (dw_or (dt_not (dt_truth (d_bi (cr_all' rfl) T.z_all bt_all (da_cons (d_lcV rfl sc_is_matching.nd (d_iter (d_var 1)) (blkOk_by (N:=N_is_matching) (sc:=defScope s_is_matching) (own:=[("pair",2)]) (by decide +kernel)) (fun _ _ _ _ _=>(dg_name 2 sc_is_matching.nd)) (fun _ _ _ _ _=>dts_nil) (fun _ _ _ _ _=>(d_call (ok_is_pair T) T.m_is_pair T.k_is_pair (hr.mono (by decide)) takes0 (cw_pos (da_cons (d_var 2) da_nil))))) da_nil)))) (dw_or1 (dt_not (dt_truth (d_call (ok_is_ascending T) T.m_is_ascending T.k_is_ascending (hr.mono (by decide)) (takes_of rfl rfl rfl rfl) (cw_pos (da_cons (d_var 1) da_nil))))))))) (db_one (ds_ret d_bl)) db_nil)
   (db_cons (ds_if (dt_not (dt_truth (d_bi (cr_all' rfl) T.z_all bt_all (da_cons (d_lcV rfl sc_is_matching.nd (d_iter (d_var 1)) (blkOk_by (N:=N_is_matching) (sc:=defScope s_is_matching) (own:=[("pair",2)]) (by decide +kernel)) (fun _ _ _ _ _=>(dg_name 2 sc_is_matching.nd)) (fun _ _ _ _ _=>dts_nil) (fun _ _ _ _ _=>(d_cmp (op_in' hr.u65) (d_var 2) (d_var 0)))) da_nil)))) (db_one (ds_ret d_bl)) db_nil)
   (db_cons (ds_set 3 sc_is_matching.nd (d_bi cr_len T.z_len bt_len (da_cons (d_var 1) da_nil)))
   (db_one (ds_ret (d_and (d_cmp (op_eq' hr.u64) (d_lenS T.z_len (s_setI rfl sc_is_matching.nd (d_iter (d_var 1)) (blkOk_by (N:=N_is_matching) (sc:=defScope s_is_matching) (own:=[("x",4),("y",5)]) (by decide +kernel)) (fun _ _ _ _ _=>(dg_tup rfl (dgs_cons (dg_name 4 sc_is_matching.nd) (dgs_cons (dg_name 5 sc_is_matching.nd) dgs_nil)))) (fun _ _ _ _ _=>dts_nil) (fun _ _ _ _ _=>(d_var 4))) fSg_len) (d_var 3)) (d_one (d_cmp (op_eq' hr.u64) (d_lenS T.z_len (s_setI rfl sc_is_matching.nd (d_iter (d_var 1)) (blkOk_by (N:=N_is_matching) (sc:=defScope s_is_matching) (own:=[("x",4),("y",5)]) (by decide +kernel)) (fun _ _ _ _ _=>(dg_tup rfl (dgs_cons (dg_name 4 sc_is_matching.nd) (dgs_cons (dg_name 5 sc_is_matching.nd) dgs_nil)))) (fun _ _ _ _ _=>dts_nil) (fun _ _ _ _ _=>(d_var 5))) fSg_len) (d_var 3))))))))))
theorem ok_is_matching (T : Tx K mg base a) : Fd P w K mg base a.f_is_matching 3 2 [] gPos (m_is_matching K a):=by
 obtain ⟨fd,F⟩:=T.F_is_matching
 exact Fd.of (fn_is_matching F T) (bd_pos (F.binds (ps:=["conflicts","thing"]) fun _ _ _ _ _ _ us hl=>(by obtain ⟨_,_,rfl⟩:=ls_2 hl; rfl)))
set_option maxHeartbeats 4000000 in
theorem fn_law {fd : FuncData} (F : Fun K "law" "law" s_law a.f_law fd) (T : Tx K mg base a) : FnG P w K mg base 19 a.f_law fd ["_law_script"] (spM K 1 (m_law K a)) :=
 fn_ok F sc_law wFrz_ok fun cdv A outer s H E hr=>(show DB _ _ _ (g_law K a) from
   (db_cons (ds_for (passes_of rfl) rfl (d_range1 T.z_range (da_cons (d_bi (cr_max rfl) T.z_max bt_max (da_cons d_int (da_cons (d_bi (cr_min rfl) T.z_min bt_min (da_cons d_int (da_cons (d_bi cr_len T.z_len bt_len (da_cons (d_var 0) da_nil)) da_nil))) da_nil))) da_nil)) (dg_name 1 sc_law.nd) (db_cons (ds_set 2 sc_law.nd (d_call (ok_L_law_bag T) T.m_L_law_bag T.k_L_law_bag (hr.mono (by decide)) (takes_of rfl rfl rfl rfl) (cw_pos (da_cons (d_var 0) (da_cons (d_var 1) da_nil)))))
   (db_one (ds_for (passes_of rfl) rfl (d_range1 T.z_range (da_cons d_int da_nil)) (dg_name 3 sc_law.nd) (db_cons (ds_set 4 sc_law.nd (d_call (ok_L_law_shape T) T.m_L_law_shape T.k_L_law_shape (hr.mono (by decide)) (takes_of rfl rfl rfl rfl) (cw_pos (da_cons (d_var 2) da_nil))))
   (db_cons (ds_if (dt_cmp (op_eq' hr.u64) (d_call (ok_L_law_take T) T.m_L_law_take T.k_L_law_take (hr.mono (by decide)) (takes_of rfl rfl rfl rfl) (cw_pos (da_cons (d_var 2) (da_cons d_int da_nil)))) d_int) (db_one (ds_set 4 sc_law.nd (d_op op_add' (d_lcV rfl sc_law.nd (d_range1 T.z_range (da_cons (d_bi cr_len T.z_len bt_len (da_cons (d_var 4) da_nil)) da_nil)) (blkOk_by (N:=N_law) (sc:=defScope s_law) (own:=[("_law_k",5)]) (by decide +kernel)) (fun _ _ _ _ _=>(dg_name 5 sc_law.nd)) (fun _ _ _ _ _=>dts_nil) (fun _ _ _ _ _=>(d_ix hr.u1 (d_var 4) (d_op op_sub' (d_un un_neg' d_int) (d_var 5))))) (d_sl (d_var 4) do_none (do_some (d_call (ok_L_law_take T) T.m_L_law_take T.k_L_law_take (hr.mono (by decide)) (takes_of rfl rfl rfl rfl) (cw_pos (da_cons (d_var 2) (da_cons d_int da_nil))))))))) db_nil)
   (db_cons (ds_set 6 sc_law.nd (d_bt cr_list T.z_list bt_list (da_cons (d_var 4) da_nil)))
   (db_cons (ds_par 7 8 rfl sc_law.nd (da_cons (d_call (ok_least_cover T) T.m_least_cover T.k_least_cover (hr.mono (by decide)) (takes_of rfl rfl rfl rfl) (cw_pos (da_cons (d_var 4) da_nil))) (da_cons (d_call (ok_matching T) T.m_matching T.k_matching (hr.mono (by decide)) (takes_of rfl rfl rfl rfl) (cw_pos (da_cons (d_var 4) da_nil))) da_nil)) (by decide) rfl)
   (db_cons (ds_if (dw_pt (dw_or (dt_cmp (op_ne' hr.u64) (d_var 4) (d_var 6)) (dw_or1 (dt_not (dt_truth (d_call (ok_L_law_claims_right T) T.m_L_law_claims_right T.k_L_law_claims_right (hr.mono (by decide)) (takes_of rfl rfl rfl rfl) (cw_pos (da_cons (d_var 7) (da_cons (d_var 6) da_nil))))))))) (db_one (ds_ret d_bl)) db_nil)
   (db_cons (ds_if (dw_pt (dw_or (dt_not (dt_truth (d_bi (cr_isi T.own) T.z_isinstance bt_isinstance (da_cons (d_var 8) (da_cons (d_ty T.z_tuple bt_tuple) da_nil))))) (dw_or1 (dt_cmp (op_neE' hr.u64) (d_lcV rfl sc_law.nd (d_iter (d_var 8)) (blkOk_by (N:=N_law) (sc:=defScope s_law) (own:=[("_law_one",9)]) (by decide +kernel)) (fun _ _ _ _ _=>(dg_name 9 sc_law.nd)) (fun _ _ _ _ _=>(dts_one (dt_cmp (op_notIn' hr.u65) (d_var 9) (d_var 6)))) (fun _ _ _ _ _=>(d_var 9))) (d_lst da_nil))))) (db_one (ds_ret d_bl)) db_nil)
   (db_cons (ds_set 10 sc_law.nd (d_lst (da_cons (d_lenSet rfl T.z_len T.z_set (d_lcV rfl sc_law.nd (d_iter (d_var 8)) (blkOk_by (N:=N_law) (sc:=defScope s_law) (own:=[("_law_x",11),("_law_y",12)]) (by decide +kernel)) (fun _ _ _ _ _=>(dg_tup rfl (dgs_cons (dg_name 11 sc_law.nd) (dgs_cons (dg_name 12 sc_law.nd) dgs_nil)))) (fun _ _ _ _ _=>dts_nil) (fun _ _ _ _ _=>(d_var 11)))) (da_cons (d_lenSet rfl T.z_len T.z_set (d_lcV rfl sc_law.nd (d_iter (d_var 8)) (blkOk_by (N:=N_law) (sc:=defScope s_law) (own:=[("_law_x",11),("_law_y",12)]) (by decide +kernel)) (fun _ _ _ _ _=>(dg_tup rfl (dgs_cons (dg_name 11 sc_law.nd) (dgs_cons (dg_name 12 sc_law.nd) dgs_nil)))) (fun _ _ _ _ _=>dts_nil) (fun _ _ _ _ _=>(d_var 12)))) da_nil))))
   (db_cons (ds_if (dw_pt (dw_or (dt_cmp (op_ne' hr.u64) (d_var 10) (d_op op_rep' (d_lst (da_cons (d_bi cr_len T.z_len bt_len (da_cons (d_var 8) da_nil)) da_nil)) d_int)) (dw_or (dt_cmp (op_ne' hr.u64) (d_bi cr_len T.z_len bt_len (da_cons (d_var 7) da_nil)) (d_bi cr_len T.z_len bt_len (da_cons (d_var 8) da_nil))) (dw_or1 (dt_cmp (op_ne' hr.u64) (d_bt cr_list T.z_list bt_list (da_cons (d_var 8) da_nil)) (d_sortSMt rfl hr.u65 T.z_sorted T.z_set (da_cons (d_var 8) da_nil))))))) (db_one (ds_ret d_bl)) db_nil)
   (db_one (ds_if (dw_pt (dw_or (dt_not (dt_truth (d_call (ok_is_cover T) T.m_is_cover T.k_is_cover (hr.mono (by decide)) (takes_of rfl rfl rfl rfl) (cw_pos (da_cons (d_var 4) (da_cons (d_var 7) da_nil)))))) (dw_or1 (dt_not (dt_truth (d_call (ok_is_matching T) T.m_is_matching T.k_is_matching (hr.mono (by decide)) (takes_of rfl rfl rfl rfl) (cw_pos (da_cons (d_var 4) (da_cons (d_var 8) da_nil))))))))) (db_one (ds_ret d_bl)) db_nil))))))))))))))
   (db_one (ds_ret d_bl))))
end
/-- the plain facts of the classes -/
structure Kx (K : PySem.W.Frag) (a : Ad) : Prop where
 dummy : True
noncomputable def LawOk : Prop:=∀ (K : PySem.W.Frag) (a : Ad),Kx K a → ∀ ns : List Int,ns.length ≤ 63 → ∃ st,m_law K a [.d (.scr ns)] [] = .ok (.d (.bl true)) st
noncomputable def spAll (K : PySem.W.Frag) : Sp:=fun vs H Q E=>∀ a : Ad,Kx K a → spM K 1 (m_law K a) vs H Q E
set_option maxHeartbeats 4000000 in
theorem all_mk {w : World} {K : PySem.W.Frag} {h : Heap} {mg : Str → Option Value} {fa : Addr} {l : PySem.W.OpenLaw} (X : PySem.W.Frag.In K h) (G : h.Ns mainGlobals mg) (hfa : mg "law" = some (.ref fa)) {f_L_law_bag f_L_law_take f_L_law_shape f_rights_of f_is_placed f_matching f_claims_of f_bears f_least_cover f_L_law_claims_right f_is_integer f_is_claim f_is_ascending f_is_cover f_is_pair f_is_matching f_law : Addr} {od1 an1 od2 an2 od3 an3 od4 an4 od5 an5 od6 an6 od7 an7 od8 an8 od9 an9 od10 an10 od11 an11 od12 an12 od13 an13 od14 an14 od15 an15 od16 an16 od17 an17 : Option Addr} {sl1 sl2 sl3 sl4 sl5 sl6 sl7 sl8 sl9 sl10 sl11 sl12 sl13 sl14 sl15 sl16 sl17 : Array (Option Value)} {oc1 kV1 dc1 pm1 cd1 ct1 oc2 kV2 dc2 pm2 cd2 ct2 oc3 kV3 dc3 pm3 cd3 ct3 oc4 kV4 dc4 pm4 cd4 ct4 oc5 kV5 dc5 pm5 cd5 ct5 oc6 kV6 dc6 pm6 cd6 ct6 oc7 kV7 dc7 pm7 cd7 ct7 oc8 kV8 dc8 pm8 cd8 ct8 oc9 kV9 dc9 pm9 cd9 ct9 oc10 kV10 dc10 pm10 cd10 ct10 oc11 kV11 dc11 pm11 cd11 ct11 oc12 kV12 dc12 pm12 cd12 ct12 oc13 kV13 dc13 pm13 cd13 ct13 oc14 kV14 dc14 pm14 cd14 ct14 oc15 kV15 dc15 pm15 cd15 ct15 oc16 kV16 dc16 pm16 cd16 ct16 oc17 kV17 dc17 pm17 cd17 ct17 : Value} {t_OWN t_SHIPPED : Tok}
  (a1 : PySem.W.nsIn K mainGlobals "_law_bag" = some (some (.ref f_L_law_bag)))
  (l1 : K.lookup f_L_law_bag = some ⟨oc1,od1,.func (PySem.W.fnOf "_law_bag" "_law_bag" (defArgs s_L_law_bag) (defBody s_L_law_bag) (defScope s_L_law_bag) .none kV1 dc1 pm1 an1 cd1 ct1),sl1⟩)
  (c1 : PySem.W.codeIn K cd1 "_law_bag" = true)
  (k1 : PySem.W.keepIn K (.ref f_L_law_bag) = true)
  (a2 : PySem.W.nsIn K mainGlobals "_law_take" = some (some (.ref f_L_law_take)))
  (l2 : K.lookup f_L_law_take = some ⟨oc2,od2,.func (PySem.W.fnOf "_law_take" "_law_take" (defArgs s_L_law_take) (defBody s_L_law_take) (defScope s_L_law_take) .none kV2 dc2 pm2 an2 cd2 ct2),sl2⟩)
  (c2 : PySem.W.codeIn K cd2 "_law_take" = true)
  (k2 : PySem.W.keepIn K (.ref f_L_law_take) = true)
  (a3 : PySem.W.nsIn K mainGlobals "_law_shape" = some (some (.ref f_L_law_shape)))
  (l3 : K.lookup f_L_law_shape = some ⟨oc3,od3,.func (PySem.W.fnOf "_law_shape" "_law_shape" (defArgs s_L_law_shape) (defBody s_L_law_shape) (defScope s_L_law_shape) .none kV3 dc3 pm3 an3 cd3 ct3),sl3⟩)
  (c3 : PySem.W.codeIn K cd3 "_law_shape" = true)
  (k3 : PySem.W.keepIn K (.ref f_L_law_shape) = true)
  (a4 : PySem.W.nsIn K mainGlobals "rights_of" = some (some (.ref f_rights_of)))
  (l4 : K.lookup f_rights_of = some ⟨oc4,od4,.func (PySem.W.fnOf "rights_of" "rights_of" (defArgs s_rights_of) (defBody s_rights_of) (defScope s_rights_of) .none kV4 dc4 pm4 an4 cd4 ct4),sl4⟩)
  (c4 : PySem.W.codeIn K cd4 "rights_of" = true)
  (k4 : PySem.W.keepIn K (.ref f_rights_of) = true)
  (a5 : PySem.W.nsIn K mainGlobals "is_placed" = some (some (.ref f_is_placed)))
  (l5 : K.lookup f_is_placed = some ⟨oc5,od5,.func (PySem.W.fnOf "is_placed" "is_placed" (defArgs s_is_placed) (defBody s_is_placed) (defScope s_is_placed) .none kV5 dc5 pm5 an5 cd5 ct5),sl5⟩)
  (c5 : PySem.W.codeIn K cd5 "is_placed" = true)
  (k5 : PySem.W.keepIn K (.ref f_is_placed) = true)
  (a6 : PySem.W.nsIn K mainGlobals "matching" = some (some (.ref f_matching)))
  (l6 : K.lookup f_matching = some ⟨oc6,od6,.func (PySem.W.fnOf "matching" "matching" (defArgs s_matching) (defBody s_matching) (defScope s_matching) .none kV6 dc6 pm6 an6 cd6 ct6),sl6⟩)
  (c6 : PySem.W.codeIn K cd6 "matching" = true)
  (k6 : PySem.W.keepIn K (.ref f_matching) = true)
  (a7 : PySem.W.nsIn K mainGlobals "claims_of" = some (some (.ref f_claims_of)))
  (l7 : K.lookup f_claims_of = some ⟨oc7,od7,.func (PySem.W.fnOf "claims_of" "claims_of" (defArgs s_claims_of) (defBody s_claims_of) (defScope s_claims_of) .none kV7 dc7 pm7 an7 cd7 ct7),sl7⟩)
  (c7 : PySem.W.codeIn K cd7 "claims_of" = true)
  (k7 : PySem.W.keepIn K (.ref f_claims_of) = true)
  (a8 : PySem.W.nsIn K mainGlobals "bears" = some (some (.ref f_bears)))
  (l8 : K.lookup f_bears = some ⟨oc8,od8,.func (PySem.W.fnOf "bears" "bears" (defArgs s_bears) (defBody s_bears) (defScope s_bears) .none kV8 dc8 pm8 an8 cd8 ct8),sl8⟩)
  (c8 : PySem.W.codeIn K cd8 "bears" = true)
  (k8 : PySem.W.keepIn K (.ref f_bears) = true)
  (a9 : PySem.W.nsIn K mainGlobals "least_cover" = some (some (.ref f_least_cover)))
  (l9 : K.lookup f_least_cover = some ⟨oc9,od9,.func (PySem.W.fnOf "least_cover" "least_cover" (defArgs s_least_cover) (defBody s_least_cover) (defScope s_least_cover) .none kV9 dc9 pm9 an9 cd9 ct9),sl9⟩)
  (c9 : PySem.W.codeIn K cd9 "least_cover" = true)
  (k9 : PySem.W.keepIn K (.ref f_least_cover) = true)
  (a10 : PySem.W.nsIn K mainGlobals "_law_claims_right" = some (some (.ref f_L_law_claims_right)))
  (l10 : K.lookup f_L_law_claims_right = some ⟨oc10,od10,.func (PySem.W.fnOf "_law_claims_right" "_law_claims_right" (defArgs s_L_law_claims_right) (defBody s_L_law_claims_right) (defScope s_L_law_claims_right) .none kV10 dc10 pm10 an10 cd10 ct10),sl10⟩)
  (c10 : PySem.W.codeIn K cd10 "_law_claims_right" = true)
  (k10 : PySem.W.keepIn K (.ref f_L_law_claims_right) = true)
  (a11 : PySem.W.nsIn K mainGlobals "is_integer" = some (some (.ref f_is_integer)))
  (l11 : K.lookup f_is_integer = some ⟨oc11,od11,.func (PySem.W.fnOf "is_integer" "is_integer" (defArgs s_is_integer) (defBody s_is_integer) (defScope s_is_integer) .none kV11 dc11 pm11 an11 cd11 ct11),sl11⟩)
  (c11 : PySem.W.codeIn K cd11 "is_integer" = true)
  (k11 : PySem.W.keepIn K (.ref f_is_integer) = true)
  (a12 : PySem.W.nsIn K mainGlobals "is_claim" = some (some (.ref f_is_claim)))
  (l12 : K.lookup f_is_claim = some ⟨oc12,od12,.func (PySem.W.fnOf "is_claim" "is_claim" (defArgs s_is_claim) (defBody s_is_claim) (defScope s_is_claim) .none kV12 dc12 pm12 an12 cd12 ct12),sl12⟩)
  (c12 : PySem.W.codeIn K cd12 "is_claim" = true)
  (k12 : PySem.W.keepIn K (.ref f_is_claim) = true)
  (a13 : PySem.W.nsIn K mainGlobals "is_ascending" = some (some (.ref f_is_ascending)))
  (l13 : K.lookup f_is_ascending = some ⟨oc13,od13,.func (PySem.W.fnOf "is_ascending" "is_ascending" (defArgs s_is_ascending) (defBody s_is_ascending) (defScope s_is_ascending) .none kV13 dc13 pm13 an13 cd13 ct13),sl13⟩)
  (c13 : PySem.W.codeIn K cd13 "is_ascending" = true)
  (k13 : PySem.W.keepIn K (.ref f_is_ascending) = true)
  (a14 : PySem.W.nsIn K mainGlobals "is_cover" = some (some (.ref f_is_cover)))
  (l14 : K.lookup f_is_cover = some ⟨oc14,od14,.func (PySem.W.fnOf "is_cover" "is_cover" (defArgs s_is_cover) (defBody s_is_cover) (defScope s_is_cover) .none kV14 dc14 pm14 an14 cd14 ct14),sl14⟩)
  (c14 : PySem.W.codeIn K cd14 "is_cover" = true)
  (k14 : PySem.W.keepIn K (.ref f_is_cover) = true)
  (a15 : PySem.W.nsIn K mainGlobals "is_pair" = some (some (.ref f_is_pair)))
  (l15 : K.lookup f_is_pair = some ⟨oc15,od15,.func (PySem.W.fnOf "is_pair" "is_pair" (defArgs s_is_pair) (defBody s_is_pair) (defScope s_is_pair) .none kV15 dc15 pm15 an15 cd15 ct15),sl15⟩)
  (c15 : PySem.W.codeIn K cd15 "is_pair" = true)
  (k15 : PySem.W.keepIn K (.ref f_is_pair) = true)
  (a16 : PySem.W.nsIn K mainGlobals "is_matching" = some (some (.ref f_is_matching)))
  (l16 : K.lookup f_is_matching = some ⟨oc16,od16,.func (PySem.W.fnOf "is_matching" "is_matching" (defArgs s_is_matching) (defBody s_is_matching) (defScope s_is_matching) .none kV16 dc16 pm16 an16 cd16 ct16),sl16⟩)
  (c16 : PySem.W.codeIn K cd16 "is_matching" = true)
  (k16 : PySem.W.keepIn K (.ref f_is_matching) = true)
  (a17 : PySem.W.nsIn K mainGlobals "law" = some (some (.ref f_law)))
  (l17 : K.lookup f_law = some ⟨oc17,od17,.func (PySem.W.fnOf "law" "law" (defArgs s_law) (defBody s_law) (defScope s_law) .none kV17 dc17 pm17 an17 cd17 ct17),sl17⟩)
  (c17 : PySem.W.codeIn K cd17 "law" = true)
  (k17 : PySem.W.keepIn K (.ref f_law) = true)
  (z_abs : PySem.W.nsIn K mainGlobals "abs" = some none)
  (z_all : PySem.W.nsIn K mainGlobals "all" = some none)
  (z_any : PySem.W.nsIn K mainGlobals "any" = some none)
  (z_bool : PySem.W.nsIn K mainGlobals "bool" = some none)
  (z_enumerate : PySem.W.nsIn K mainGlobals "enumerate" = some none)
  (z_int : PySem.W.nsIn K mainGlobals "int" = some none)
  (z_isinstance : PySem.W.nsIn K mainGlobals "isinstance" = some none)
  (z_len : PySem.W.nsIn K mainGlobals "len" = some none)
  (z_list : PySem.W.nsIn K mainGlobals "list" = some none)
  (z_max : PySem.W.nsIn K mainGlobals "max" = some none)
  (z_min : PySem.W.nsIn K mainGlobals "min" = some none)
  (z_range : PySem.W.nsIn K mainGlobals "range" = some none)
  (z_set : PySem.W.nsIn K mainGlobals "set" = some none)
  (z_sorted : PySem.W.nsIn K mainGlobals "sorted" = some none)
  (z_str : PySem.W.nsIn K mainGlobals "str" = some none)
  (z_tuple : PySem.W.nsIn K mainGlobals "tuple" = some none)
  (z_zip : PySem.W.nsIn K mainGlobals "zip" = some none)
  (g_OWN : PySem.W.nsIn K mainGlobals "OWN" = some (some (.str "own" t_OWN)))
  (g_SHIPPED : PySem.W.nsIn K mainGlobals "SHIPPED" = some (some (.str "shipped" t_SHIPPED))) :
  ∃ fd : FuncData,(∀ (s : Shared) (v : Value),BindsTo s fd { pos:=[v] } [("_law_script",v)]) ∧ ∀ base : Heap,PySem.W.Frag.In K base → base.Ns mainGlobals mg → FnG l.prog w K mg base 19 fa fd ["_law_script"] (spAll K):=by
 have e:=hfa.symm.trans (PySem.W.mg_of X G a17)
 cases e
 have KK : Kx K ⟨f_L_law_bag,f_L_law_take,f_L_law_shape,f_rights_of,f_is_placed,f_matching,f_claims_of,f_bears,f_least_cover,f_L_law_claims_right,f_is_integer,f_is_claim,f_is_ascending,f_is_cover,f_is_pair,f_is_matching,fa⟩:=⟨trivial⟩
 refine ⟨PySem.W.fnOf "law" "law" (defArgs s_law) (defBody s_law) (defScope s_law) .none kV17 dc17 pm17 an17 cd17 ct17,fun s v=>.of_eq rfl,fun base _ _=>?_⟩
 have T : Tx K mg base ⟨f_L_law_bag,f_L_law_take,f_L_law_shape,f_rights_of,f_is_placed,f_matching,f_claims_of,f_bears,f_least_cover,f_L_law_claims_right,f_is_integer,f_is_claim,f_is_ascending,f_is_cover,f_is_pair,f_is_matching,fa⟩:=by
  refine ⟨?_,?_,?_,?_,?_,?_,?_,?_,?_,?_,?_,?_,?_,?_,?_,?_,?_,?_,?_,?_,?_,?_,?_,?_,?_,?_,?_,?_,?_,?_,?_,?_,?_,?_,?_,?_,?_,?_,?_,?_,?_,?_,?_,?_,?_,?_,?_,?_,?_,?_,?_,?_,?_,?_,?_,?_,?_,?_,?_,?_,?_,?_,?_,?_,?_,?_,?_,?_⟩
  ·exact PySem.W.mg_none_of X G z_abs
  ·exact PySem.W.mg_none_of X G z_all
  ·exact PySem.W.mg_none_of X G z_any
  ·exact PySem.W.mg_none_of X G z_bool
  ·exact PySem.W.mg_none_of X G z_enumerate
  ·exact PySem.W.mg_none_of X G z_int
  ·exact PySem.W.mg_none_of X G z_isinstance
  ·exact PySem.W.mg_none_of X G z_len
  ·exact PySem.W.mg_none_of X G z_list
  ·exact PySem.W.mg_none_of X G z_max
  ·exact PySem.W.mg_none_of X G z_min
  ·exact PySem.W.mg_none_of X G z_range
  ·exact PySem.W.mg_none_of X G z_set
  ·exact PySem.W.mg_none_of X G z_sorted
  ·exact PySem.W.mg_none_of X G z_str
  ·exact PySem.W.mg_none_of X G z_tuple
  ·exact PySem.W.mg_none_of X G z_zip
  ·exact ⟨_,PySem.W.mg_of X G g_OWN,_,rfl⟩
  ·exact ⟨_,PySem.W.mg_of X G g_SHIPPED,_,rfl⟩
  ·exact PySem.W.mg_of X G a1
  ·exact k1
  ·exact ⟨_,fun_mk (st:=s_L_law_bag) l1 c1 k1⟩
  ·exact PySem.W.mg_of X G a2
  ·exact k2
  ·exact ⟨_,fun_mk (st:=s_L_law_take) l2 c2 k2⟩
  ·exact PySem.W.mg_of X G a3
  ·exact k3
  ·exact ⟨_,fun_mk (st:=s_L_law_shape) l3 c3 k3⟩
  ·exact PySem.W.mg_of X G a4
  ·exact k4
  ·exact ⟨_,fun_mk (st:=s_rights_of) l4 c4 k4⟩
  ·exact PySem.W.mg_of X G a5
  ·exact k5
  ·exact ⟨_,fun_mk (st:=s_is_placed) l5 c5 k5⟩
  ·exact PySem.W.mg_of X G a6
  ·exact k6
  ·exact ⟨_,fun_mk (st:=s_matching) l6 c6 k6⟩
  ·exact PySem.W.mg_of X G a7
  ·exact k7
  ·exact ⟨_,fun_mk (st:=s_claims_of) l7 c7 k7⟩
  ·exact PySem.W.mg_of X G a8
  ·exact k8
  ·exact ⟨_,fun_mk (st:=s_bears) l8 c8 k8⟩
  ·exact PySem.W.mg_of X G a9
  ·exact k9
  ·exact ⟨_,fun_mk (st:=s_least_cover) l9 c9 k9⟩
  ·exact PySem.W.mg_of X G a10
  ·exact k10
  ·exact ⟨_,fun_mk (st:=s_L_law_claims_right) l10 c10 k10⟩
  ·exact PySem.W.mg_of X G a11
  ·exact k11
  ·exact ⟨_,fun_mk (st:=s_is_integer) l11 c11 k11⟩
  ·exact PySem.W.mg_of X G a12
  ·exact k12
  ·exact ⟨_,fun_mk (st:=s_is_claim) l12 c12 k12⟩
  ·exact PySem.W.mg_of X G a13
  ·exact k13
  ·exact ⟨_,fun_mk (st:=s_is_ascending) l13 c13 k13⟩
  ·exact PySem.W.mg_of X G a14
  ·exact k14
  ·exact ⟨_,fun_mk (st:=s_is_cover) l14 c14 k14⟩
  ·exact PySem.W.mg_of X G a15
  ·exact k15
  ·exact ⟨_,fun_mk (st:=s_is_pair) l15 c15 k15⟩
  ·exact PySem.W.mg_of X G a16
  ·exact k16
  ·exact ⟨_,fun_mk (st:=s_is_matching) l16 c16 k16⟩
  ·exact fun C hC=>absurd hC List.not_mem_nil
 exact (fn_law (fun_mk (st:=s_law) l17 c17 k17) T).imp fun vs H Q E h=>h _ KK
end VL.K45
namespace VL.K45
open PySem PySem.Spec PyProof.Rows L2 VL
variable {K : PySem.W.Frag} {a : Ad} {st : Store}
local macro_rules | `(tactic| simp_all? only [$ts,*])=>`(tactic| simp only [fnM,sSeq,sRet,sRetN,sExpr,sIf,sNil,sNo,sAsg,tgN,bndS,bnd,vVar,vC,f2,f1,fB,pu,fN,vTup,vLst,fTup,fCons,fNil,fPure,fIf,fAnd,fOr,fNot,asB,asT,bAnd,bOr,bNot,fChain,fCall,fCW,gPos,gApp,R.of,R.of2,fM,pu4,tgT,tgCons,tgNil,unp,pureL,sPar,sPar3,fLstC,fFld,oFld,fMeth,insU,sFldS,setFld,fSl,oNone,oSome,tgSub,setU,fIter,fItN,fItS,sFor,getL,getT,VL.getD,keyD,tyB,lstC,oAdd,oSub,oMul,oFdiv,oMod,oPow,oNeg,oLt,oLe,oGt,oGe,oEq,oNe,oIsN,oNotN,oIn,oNotIn,oIx,oLen,oInt,oAbs,oMin,oMax,oStr,oList,oListC,oTuple,oAll,oAny,itemsU,lenN,truB,fJs,oFmt,List.map_cons,List.map_nil,List.length_cons,List.length_nil,List.replicate_succ,List.replicate_zero,List.cons_append,List.nil_append,List.append_nil,List.getElem?_cons_zero,List.getElem?_cons_succ,List.set_cons_zero,List.set_cons_succ,Nat.reduceAdd,Nat.reduceSub,Option.map_some,Option.map_none,if_true,if_false,ite_true,ite_false,Bool.false_eq_true,reduceCtorEq,true_and,and_true,and_self,Bool.not_true,Bool.not_false,Nat.zero_add,Option.bind_some,Option.bind_eq_bind,Option.pure_def,decide_true,decide_false,eq_self,Nat.reduceEqDiff,Nat.reduceLT,Nat.reduceLeDiff,Int.reduceLT,Int.reduceLE,Int.reduceEq,Bool.and_true,Bool.true_and,Bool.false_and,Bool.or_false,Bool.or_true,Bool.true_or,Bool.false_or,sz0,szl0,sz1,szl1,sz2,szl2,sz3,szl3,sz4,szl4,sz5,szl5,sz6,szl6,sz7,szl7,sz8,szl8,sz9,szl9,sz10,szl10,sz11,szl11,sz12,szl12,sz13,szl13,sz14,szl14,sz15,szl15,$ts,*])
local macro_rules | `(tactic| simp_all only [$ts,*])=>`(tactic| (refine act_e ?_; simp only [act_act,act_true,↓wp_bnd,↓wp_fPure,↓wp_vC,↓wp_f2,↓wp_f2s,↓wp_f1,↓wp_fFld,↓wp_asB,↓wp_asT,↓wp_fNot,↓wp_fIf,↓wp_bAnd,↓wp_bOr,↓wp_bNot,↓wp_fAnd,↓wp_fOr,↓wp_fChain,↓wp_fNil,↓wp_fCons,↓wp_fN,↓wp_fB,↓wp_fLstC,↓wp_fTup,↓wp_fCW,↓wp_fCall,↓wp_fMeth,↓wp_fM,↓wp_oNone,↓wp_oSome,↓wp_fSl,↓wp_fSlC,↓wp_fIter,↓wp_fItN,↓wp_fItS,↓wp_fDk,↓wp_fDnew,↓wp_fGet1,↓wp_fGet2,↓wp_fSetd,↓wp_fJs0,↓wp_fJs,↓wp_fProp,↓wps_nil,↓wps_seq,↓wps_ret,↓wps_retN,↓wps_expr,↓wps_if,↓wps_sbk,↓wps_sct,↓wps_asg,↓wps_tgN,↓wps_tgNil,↓wps_tgCons,↓wps_tgT,↓wps_tgSub,↓wps_sPar,↓wps_sPar3,↓wps_sFldS,↓wps_sFldAugM,↓wps_sAug,↓wps_sRaise,↓wps_for,↓wp_fnM,↓wp_fnX,↓wp_ok,↓wp_ex,↓wp_bad,↓wps_nx,↓wps_rt,↓wps_bk,↓wps_ct,↓wps_ex,↓wps_bad,↓wpL_nil,List.length_map,wp_Q,wp_I1,wp_I0,of_some,of2_some,of_ite,of2_ite,ite_bad,ites_bad,vVar,gPos,gApp,pu,pu4,vTup,vLst,pureL,unp,fJs,setU,getL,getT,gd_d,gd_r,gd_bl,gd_int,gd_str,gd_tup,gd_lst,gd_scr,gd_n,gd_ins,keyD,lstC,dctC,ins_d,ins_m,eqb_int,eqb_str,eqb_bl,eqb_nn,eqb_sn,eqb_ns,eqb_in,eqb_ni,Int.cast_ofNat_Int,setFld,tyB,mAppend,itV,augF,isC,wId,oAdd,oSub,oMul,oFdiv,oMod,oPow,oNeg,oLt,oLe,oGt,oGe,oEq,oNe,isn_n,isn_bl,isn_int,isn_str,isn_tup,isn_lst,isn_dct,isn_scr,isn_ins,isn_ref,nsn_n,nsn_bl,nsn_int,nsn_str,nsn_tup,nsn_lst,nsn_dct,nsn_scr,nsn_ins,nsn_ref,oIn,oNotIn,oInD,oNotInD,oIx,oLen,oInt,oAbs,oMin,oMax,oStr,oList,oListC,oTuple,oAll,oAny,itemsU,lenN,truB,oFmt,oIadd,oFld,nf_get,nf_get0,nf_set,nf_set0,nf_lt,frz_dd,wFrz,List.map_cons,List.map_nil,List.length_cons,List.length_nil,List.length_append,List.length_set,List.replicate_succ,List.replicate_zero,List.cons_append,List.nil_append,List.append_nil,List.append_assoc,List.getElem?_cons_zero,List.getElem?_cons_succ,List.set_cons_zero,List.set_cons_succ,Nat.reduceAdd,Nat.reduceSub,Option.map_some,Option.map_none,if_true,if_false,ite_true,ite_false,Bool.false_eq_true,reduceCtorEq,true_and,and_true,and_self,Bool.not_true,Bool.not_false,Nat.zero_add,Option.bind_some,Option.bind_eq_bind,Option.pure_def,decide_true,decide_false,eq_self,Nat.reduceEqDiff,Nat.reduceLT,Nat.reduceLeDiff,Int.reduceLT,Int.reduceLE,Int.reduceEq,Bool.and_true,Bool.true_and,Bool.false_and,Bool.or_false,Bool.or_true,Bool.true_or,Bool.false_or,List.mem_cons,true_or,List.not_mem_nil,or_false,Option.isSome_some,Option.isSome_none,Nat.lt_irrefl,sz0,szl0,sz1,szl1,sz2,szl2,sz3,szl3,sz4,szl4,sz5,szl5,sz6,szl6,sz7,szl7,sz8,szl8,sz9,szl9,sz10,szl10,sz11,szl11,sz12,szl12,sz13,szl13,sz14,szl14,sz15,szl15,$ts,*]; try refine act_i ?_))
theorem ev_ltake {b : Nat} (h : WF st) (hb : Bag st b) {m : Int} (h0 : 0 < m) (h1 : m < 1073741824) :
  ∃ (d : Nat) (st' : Store),m_L_law_take K a [.ref b,.d (.int m)] st = .ok (.d (.int (d : Nat))) st' ∧ (d : Int) < m ∧ Fb st st' b:=by
 obtain ⟨n,x,hb⟩:=hb
 have hs:=fun (n' x' : Int)=>set_at (o':=.lst [.d (.int n'),.d (.int x')]) hb
 by_cases hn : 0 < n
 ·have e0 : 0 ≤ n % m:=Int.emod_nonneg _ (by omega)
  have e1 : n % m < m:=Int.emod_lt_of_pos _ h0
  have fb:=fb_set h hb (n / m) x
  refine ⟨(n % m).toNat,_,?_,by omega,fb⟩
  rw [Int.toNat_of_nonneg e0]
  unfold m_L_law_take g_L_law_take
  simp_all? only [hb,at_0,at_1,decide_eq_true hn,h0,h1,ixn0]
  exact wCut_len fb.wf fb.len _
 ·have hw : (0 : Int) < 64:=by decide
  have h7 : (0 : Int) < 13 ∧ (13 : Int) < 1073741824:=⟨by decide,by decide⟩
  have h64 : (0 : Int) < 64 ∧ (64 : Int) < 1073741824:=⟨by decide,by decide⟩
  have hq1 : (0 : Int) < 2147483543:=by decide
  have hq2 : (0 : Int) < 2147483587:=by decide
  have c1 : ∀ y : Int,((-(2 ^ 64) < y ∧ y < 2 ^ 64) ∨ (-(2 ^ 64) < (52711 : Int) ∧ (52711 : Int) < 2 ^ 64)):=fun y=>.inr ⟨by decide,by decide⟩
  have c2 : ∀ y : Int,((-(2 ^ 64) < y ∧ y < 2 ^ 64) ∨ (-(2 ^ 64) < (50707 : Int) ∧ (50707 : Int) < 2 ^ 64)):=fun y=>.inr ⟨by decide,by decide⟩
  let X : Int:=(x * 52711 + 8201) % 2147483543
  let Y : Int:=X / 13 * 50707 % 2147483587 / 64
  have e0 : 0 ≤ Y % m:=Int.emod_nonneg _ (by omega)
  have e1 : Y % m < m:=Int.emod_lt_of_pos _ h0
  have fb:=fb_set h hb n X
  refine ⟨(Y % m).toNat,_,?_,by omega,fb⟩
  rw [Int.toNat_of_nonneg e0]
  simp only [X,Y] at *
  unfold m_L_law_take g_L_law_take
  simp_all? only [hb,at_0,at_1,decide_eq_false hn,h0,h7,h64,hw,hq1,hq2,c1,c2,ixn1,hs]
  exact wCut_len fb.wf fb.len _
theorem ev_bagloop {u0 u1 u2 : Option U} : ∀ (ns : List Int) (k : Nat) (x : Int) (x4 x5 : Option U),∃ (x' : Int) (y4 y5 : Option U),loopL (tgT 2 (tgCons (tgN 4) (tgCons (tgN 5) tgNil))) (b_L_law_bag_1 K a) (pairsFrom k (ns.map .int)) [u0,u1,u2,some (.d (.int x)),x4,x5] st = .ok [u0,u1,u2,some (.d (.int x')),y4,y5] .nx st
 | [],k,x,x4,x5=>⟨x,x4,x5,rfl⟩
 | n :: ns,k,x,x4,x5=>by
  have c1 : ∀ y : Int,((-(2 ^ 64) < y ∧ y < 2 ^ 64) ∨ (-(2 ^ 64) < (59393 : Int) ∧ (59393 : Int) < 2 ^ 64)):=fun y=>.inr ⟨by decide,by decide⟩
  have c2 : ∀ y : Int,((-(2 ^ 64) < (86 : Int) ∧ (86 : Int) < 2 ^ 64) ∨ (-(2 ^ 64) < y ∧ y < 2 ^ 64)):=fun y=>.inl ⟨by decide,by decide⟩
  have hq : (0 : Int) < 2147483629:=by decide
  have hq5 : (0 : Int) < 2147483579:=by decide
  obtain ⟨x',y4,y5,e⟩:=ev_bagloop (u0:=u0) (u1:=u1) (u2:=u2) ns (k + 1) ((x * 59393 + n % 2147483629 + 86 * (k : Nat) + 5) % 2147483579) (some (.d (.int (k : Nat)))) (some (.d (.int n)))
  refine ⟨x',y4,y5,?_⟩
  rw [List.map_cons,pairsFrom,loopL]
  have eb : b_L_law_bag_1 K a [u0,u1,u2,some (.d (.int x)),some (.d (.int (k : Nat))),some (.d (.int n))] st = .ok [u0,u1,u2,some (.d (.int ((x * 59393 + n % 2147483629 + 86 * (k : Nat) + 5) % 2147483579))),some (.d (.int (k : Nat))),some (.d (.int n))] .nx st:=by
   unfold b_L_law_bag_1
   simp_all? only [c1,c2,hq,hq5]
  simp_all? only [eb,e]
theorem ev_lbag (h : WF st) (ns : List Int) (hn : ns.length ≤ 63) (t : Nat) (ht : t < 64) : ∃ n x : Int,m_L_law_bag K a [.d (.scr ns),.d (.int (t : Nat))] st = .ok (.ref st.length) (st ++ [.lst [.d (.int n),.d (.int x)]]):=by
 have c1 : ((-(2 ^ 64) < (415 : Int) ∧ (415 : Int) < 2 ^ 64) ∨ (-(2 ^ 64) < ((t : Nat) : Int) ∧ ((t : Nat) : Int) < 2 ^ 64)):=.inl ⟨by decide,by decide⟩
 have c3 : (0 : Int) ≤ 18 ∧ (18 : Int) ≤ 1000000 ∧ (10 : Int).natAbs < 2 ^ 64:=⟨by decide,by decide,by decide⟩
 obtain ⟨ms,hms⟩ : ∃ ms : List Int,cutG (ns.map fun i=>U.d (.int i)) none (some 63) = ms.map fun i=>U.d (.int i):=by
  rw [cutG_map (fun i=>U.d (.int i)) ns]; exact ⟨_,rfl⟩
 have fin : ∀ (n x : Int),wKeep st.length (.ref st.length) (st ++ [.lst [.d (.int n),.d (.int x)]]) = .ok (.ref st.length) (st ++ [.lst [.d (.int n),.d (.int x)]]):=fun n x =>
  wKeep_of (ds:=[.int n,.int x]) h (by rw [new_at]; rfl) (Nat.le_refl _) fun m hm=>List.getElem?_append_left hm
 obtain ⟨c,hc0⟩ : ∃ c : Int,∀ x' y4 y5,loopL (tgT 2 (tgCons (tgN 4) (tgCons (tgN 5) tgNil))) (b_L_law_bag_1 K a) (pairsFrom 0 (ms.map .int)) [some (.d (.scr ns)),some (.d (.int (t : Nat))),some (.d (.int c)),some (.d (.int (415 * (t : Nat) + 76))),none,none] st = .ok [some (.d (.scr ns)),some (.d (.int (t : Nat))),some (.d (.int c)),some (.d (.int x')),y4,y5] .nx st →
   ∃ n x : Int,m_L_law_bag K a [.d (.scr ns),.d (.int (t : Nat))] st = .ok (.ref st.length) (st ++ [.lst [.d (.int n),.d (.int x)]]):=by
  by_cases hl : (t : Int) < (ns.length : Nat)
  ·have ha : ∃ c,atI (ns.map fun i=>U.d (.int i)) (t : Int) = some (.d (.int c)):=by
    rw [at_lt (by rw [List.length_map]; omega)]
    exact ⟨ns[t]'(by omega),by rw [List.getElem_map]⟩
   obtain ⟨c,ha⟩:=ha
   refine ⟨c,fun x' y4 y5 e=>?_⟩
   by_cases hc : (10 : Int) ^ (Int.toNat 18) ≤ (if c < 0 then -c else c)
   ·refine ⟨if c < 0 then -c else c,x',?_⟩
    unfold m_L_law_bag g_L_law_bag
    simp_all? only [List.length_map,decide_eq_true hl,ha,c1,oSl,hms,pure_ints,itE,e,c3,decide_eq_true hc]
    exact fin _ _
   ·refine ⟨0,x',?_⟩
    unfold m_L_law_bag g_L_law_bag
    simp_all? only [List.length_map,decide_eq_true hl,ha,c1,oSl,hms,pure_ints,itE,e,c3,decide_eq_false hc]
    exact fin _ _
  ·refine ⟨0,fun x' y4 y5 e=>⟨0,x',?_⟩⟩
   have hc : ¬ ((10 : Int) ^ (Int.toNat 18) ≤ (if (0 : Int) < 0 then -0 else 0)):=by decide
   unfold m_L_law_bag g_L_law_bag
   simp_all? only [List.length_map,decide_eq_false hl,c1,oSl,hms,pure_ints,itE,e,c3,decide_eq_false hc]
   exact fin _ _
 obtain ⟨x',y4,y5,e⟩:=ev_bagloop (K:=K) (a:=a) (st:=st) (u0:=some (.d (.scr ns))) (u1:=some (.d (.int (t : Nat)))) (u2:=some (.d (.int c))) ms 0 (415 * (t : Nat) + 76) none none
 exact hc0 x' y4 y5 e
noncomputable def cD (cs : List (Int × Int)) : List D:=cs.map fun p=>.tup [.int p.1,.int p.2]
theorem cD_len (cs : List (Int × Int)) : (cD cs).length = cs.length:=by unfold cD; rw [List.length_map]
noncomputable def smI (B : Int) (i : Int) : Bool:=decide (0 ≤ i) && decide (i ≤ B)
noncomputable def atD (B : Int) : D → Bool
 | .non=>true
 | .bl _=>true
 | .int i=>smI B i
 | .str s=>PyData.strOk s && (decide (s.length ≤ 8) && s.cps.toList.all fun c=>decide (c < 1114112))
 | _=>false
noncomputable def elD (B : Int) : D → Bool
 | .tup ds=>decide (ds.length ≤ 3) && ds.all (atD B)
 | .lst ds=>decide (ds.length ≤ 3) && ds.all (atD B)
 | d=>atD B d
noncomputable def thD (B : Int) : D → Bool
 | .tup ds=>decide (ds.length ≤ 40) && ds.all (elD B)
 | .lst ds=>decide (ds.length ≤ 40) && ds.all (elD B)
 | d=>atD B d
noncomputable def RpOk (k : Nat) (d : D) (n : Nat) : Prop:=∃ p,toP d = some p ∧ p.canLay0 = true ∧ p.showable = true ∧ p.depth ≤ k ∧ (PyData.shown p).length ≤ n
theorem RpOk.mono {k k' n n' : Nat} {d : D} (h : RpOk k d n) (h1 : k ≤ k') (h2 : n ≤ n') : RpOk k' d n':=by
 obtain ⟨p,a,b,c,e,f⟩:=h
 exact ⟨p,a,b,c,Nat.le_trans e h1,Nat.le_trans f h2⟩
noncomputable def six : D → Bool
 | .non=>true
 | .bl _=>true
 | .int _=>true
 | .str _=>true
 | .tup _=>true
 | .lst _=>true
 | _=>false
noncomputable def isTp : D → Bool
 | .tup _=>true
 | _=>false
noncomputable def isIb : D → Bool
 | .int _=>true
 | .bl _=>true
 | _=>false
noncomputable def isBl : D → Bool
 | .bl _=>true
 | _=>false
noncomputable def isIn : D → Bool
 | .int _=>true
 | _=>false
noncomputable def isSt : D → Bool
 | .str _=>true
 | _=>false
theorem at_six {B : Int} {d : D} (h : atD B d = true) : six d = true:=by
 cases d <;> first | rfl | cases h
theorem el_six {B : Int} {d : D} (h : elD B d = true) : six d = true:=by
 cases d <;> first | rfl | cases h
theorem th_six {B : Int} {d : D} (h : thD B d = true) : six d = true:=by
 cases d <;> first | rfl | cases h
theorem isi_tup {d : D} (h : six d = true) : oIsi K a.own [.d d,.d (.ty "tuple")] st = some (.d (.bl (isTp d))):=by
 have e0 : PySem.W.kitOne K (.type "NoneType") (.type "tuple") = some false:=rfl
 have e1 : PySem.W.kitOne K (.type "bool") (.type "tuple") = some false:=rfl
 have e2 : PySem.W.kitOne K (.type "int") (.type "tuple") = some false:=rfl
 have e3 : PySem.W.kitOne K (.type "str") (.type "tuple") = some false:=rfl
 have e4 : PySem.W.kitOne K (.type "tuple") (.type "tuple") = some true:=rfl
 have e5 : PySem.W.kitOne K (.type "list") (.type "tuple") = some false:=rfl
 cases d <;> first | (simp only [oIsi,tyN,e0,e1,e2,e3,e4,e5,Option.map_some,isTp]; done) | cases h
theorem isi_int {d : D} (h : six d = true) : oIsi K a.own [.d d,.d (.ty "int")] st = some (.d (.bl (isIb d))):=by
 have e0 : PySem.W.kitOne K (.type "NoneType") (.type "int") = some false:=rfl
 have e1 : PySem.W.kitOne K (.type "bool") (.type "int") = some true:=rfl
 have e2 : PySem.W.kitOne K (.type "int") (.type "int") = some true:=rfl
 have e3 : PySem.W.kitOne K (.type "str") (.type "int") = some false:=rfl
 have e4 : PySem.W.kitOne K (.type "tuple") (.type "int") = some false:=rfl
 have e5 : PySem.W.kitOne K (.type "list") (.type "int") = some false:=rfl
 cases d <;> first | (simp only [oIsi,tyN,e0,e1,e2,e3,e4,e5,Option.map_some,isIb]; done) | cases h
theorem isi_bool {d : D} (h : six d = true) : oIsi K a.own [.d d,.d (.ty "bool")] st = some (.d (.bl (isBl d))):=by
 have e0 : PySem.W.kitOne K (.type "NoneType") (.type "bool") = some false:=rfl
 have e1 : PySem.W.kitOne K (.type "bool") (.type "bool") = some true:=rfl
 have e2 : PySem.W.kitOne K (.type "int") (.type "bool") = some false:=rfl
 have e3 : PySem.W.kitOne K (.type "str") (.type "bool") = some false:=rfl
 have e4 : PySem.W.kitOne K (.type "tuple") (.type "bool") = some false:=rfl
 have e5 : PySem.W.kitOne K (.type "list") (.type "bool") = some false:=rfl
 cases d <;> first | (simp only [oIsi,tyN,e0,e1,e2,e3,e4,e5,Option.map_some,isBl]; done) | cases h
theorem isi_str6 {d : D} (h : six d = true) : oIsi K a.own [.d d,.d (.ty "str")] st = some (.d (.bl (isSt d))):=by
 have e0 : PySem.W.kitOne K (.type "NoneType") (.type "str") = some false:=rfl
 have e1 : PySem.W.kitOne K (.type "bool") (.type "str") = some false:=rfl
 have e2 : PySem.W.kitOne K (.type "int") (.type "str") = some false:=rfl
 have e3 : PySem.W.kitOne K (.type "str") (.type "str") = some true:=rfl
 have e4 : PySem.W.kitOne K (.type "tuple") (.type "str") = some false:=rfl
 have e5 : PySem.W.kitOne K (.type "list") (.type "str") = some false:=rfl
 cases d <;> first | (simp only [oIsi,tyN,e0,e1,e2,e3,e4,e5,Option.map_some,isSt]; done) | cases h
theorem ev_isint (w : WF st) {d : D} (h : six d = true) : m_is_integer K a [.d d] st = .ok (.d (.bl (isIn d))) st:=by
 have e1:=isi_int (K:=K) (a:=a) (st:=st) h
 have e2:=isi_bool (K:=K) (a:=a) (st:=st) h
 apply eq_of_wp
 unfold m_is_integer g_is_integer
 cases d with
 | bl b=>simp_all only [e1,e2,isIb,isBl,isIn,w.cut]
 | int i=>simp_all only [e1,e2,isIb,isBl,isIn,w.cut]
 | non=>simp_all only [e1,isIb,isIn,w.cut]
 | str s=>simp_all only [e1,isIb,isIn,w.cut]
 | tup s=>simp_all only [e1,isIb,isIn,w.cut]
 | lst s=>simp_all only [e1,isIb,isIn,w.cut]
 | _=>cases h
noncomputable def prD : D → Option (Int × Int)
 | .tup [.int i,.int j]=>some (i,j)
 | _=>none
theorem prD_some {d : D} {p : Int × Int} (h : prD d = some p) : d = .tup [.int p.1,.int p.2]:=by
 unfold prD at h
 split at h
 ·cases h; rfl
 ·cases h
theorem prDs : ∀ {ds : List D} {ps : List (Int × Int)},allM prD ds = some ps → ds = cD ps
 | [],ps,h=>by cases h; rfl
 | d :: ds,ps,h=>by
  unfold allM at h
  split at h
  ·rename_i p qs e1 e2
   cases h
   rw [prD_some e1,prDs e2]
   rfl
  ·cases h
theorem prDs_cD : ∀ (ps : List (Int × Int)),allM prD (cD ps) = some ps
 | []=>rfl
 | p :: ps=>by
  have ih:=prDs_cD ps
  unfold cD at ih ⊢
  rw [List.map_cons,allM,ih]
  rfl
theorem pr2 (x y : D) : (prD (.tup [x,y])).isSome = (isIn x && isIn y):=by
 cases x <;> cases y <;> rfl
theorem ev_ispair (w : WF st) {B : Int} {d : D} (h : elD B d = true) : m_is_pair K a [.d d] st = .ok (.d (.bl (prD d).isSome)) st:=by
 have e1:=isi_tup (K:=K) (a:=a) (st:=st) (el_six h)
 apply eq_of_wp
 unfold m_is_pair g_is_pair
 cases d with
 | non=>simp_all only [e1,isTp,prD,w.cut]
 | bl b=>simp_all only [e1,isTp,prD,w.cut]
 | int i=>simp_all only [e1,isTp,prD,w.cut]
 | str s=>simp_all only [e1,isTp,prD,w.cut]
 | lst s=>simp_all only [e1,isTp,prD,w.cut]
 | tup ds =>
  unfold elD at h
  rw [Bool.and_eq_true,decide_eq_true_eq] at h
  match ds,h with
  | [],_=>simp_all only [e1,isTp,prD,w.cut]
  | [_],_=>simp_all only [e1,isTp,prD,w.cut]
  | [_,_,_],_=>simp_all only [e1,isTp,prD,w.cut]
  | _ :: _ :: _ :: _ :: _,h=>exact absurd h.1 (by simp)
  | [x,y],h =>
   have hx : atD B x = true:=List.all_eq_true.mp h.2 x (by simp)
   have hy : atD B y = true:=List.all_eq_true.mp h.2 y (by simp)
   have e2:=ev_isint (K:=K) (a:=a) w (at_six hx)
   have e3:=ev_isint (K:=K) (a:=a) w (at_six hy)
   rw [pr2]
   cases hx2 : isIn x with
   | false=>rw [hx2] at e2; simp_all only [e1,e2,isTp,at_0,at_1,w.cut]
   | true=>rw [hx2] at e2; simp_all only [e1,e2,e3,isTp,at_0,at_1,w.cut]
 | _=>cases h
noncomputable def ltD (x y : D) : Bool:=match keysD x,keysD y with
 | some j,some k=>ltK j k
 | _,_=>false
noncomputable def ascD : List D → Bool
 | x :: y :: ds=>ltD x y && ascD (y :: ds)
 | _=>true
theorem blsU_map {α : Type} (f : α → Bool) : ∀ xs : List α,blsU ((xs.map fun x=>D.bl (f x)).map U.d) = some (xs.map f)
 | []=>rfl
 | x :: xs=>by
  have ih:=blsU_map f xs
  unfold blsU at ih ⊢
  rw [List.map_cons,List.map_cons,allM,ih]
  rfl
theorem cut_drop {α : Type} (xs : List α) (k : Nat) : cutG xs (some (k : Int)) none = xs.drop k:=by
 unfold cutG
 rw [HT.sIx_nat,HT.sIx_none]
 by_cases h : k ≤ xs.length
 ·rw [Nat.min_eq_left h,List.take_of_length_le (by rw [List.length_drop]; exact Nat.le_refl _)]
 ·rw [Nat.min_eq_right (by omega),List.drop_length,List.drop_of_length_le (by omega),List.take_nil]
theorem cut_take {α : Type} (xs : List α) (m : Nat) : cutG xs none (some (m : Int)) = xs.take m:=by
 have e : cutG xs none (some (m : Int)) = (xs.drop 0).take (min m xs.length):=by
  unfold cutG
  rw [HT.sIx_nat,HT.sIx_none,Nat.sub_zero]
 rw [e,List.drop_zero,← List.take_eq_take_min]
theorem cut_tail {α : Type} (xs : List α) : cutG xs (some 1) none = xs.tail:=by
 rw [← List.drop_one]; exact cut_drop xs 1
theorem zipD_eq : ∀ (xs ys : List D),zipD xs ys = (xs.zip ys).map fun p=>U.d (.tup [p.1,p.2])
 | [],ys=>by simp [zipD]
 | x :: xs,[]=>by simp [zipD]
 | x :: xs,y :: ys=>by rw [zipD,zipD_eq xs ys]; rfl
theorem asc_zip : ∀ ds : List D,((ds.zip ds.tail).all fun p=>ltD p.1 p.2) = ascD ds
 | []=>rfl
 | [_]=>rfl
 | x :: y :: ds=>by
  have:=asc_zip (y :: ds)
  show (ltD x y && (((y :: ds).zip (y :: ds).tail).all fun p=>ltD p.1 p.2)) = _
  rw [this]
  rfl
theorem cmp_ltD {x y : D} {j k : List Key} (h1 : keysD x = some j) (h2 : keysD y = some k) (sh : shpK j = shpK k) : oCmpD (fun a b=>PySem.W.dataLt a b) (.d x) (.d y) st = some (.d (.bl (ltD x y))):=by
 unfold oCmpD ltD
 rw [cmp_keys h1 h2 sh,h1,h2,Option.map_some]
 show some (U.d (.bl (PySem.W.dataLt _ _))) = _
 rw [lt_keysD sh]
theorem ev_asc (w : WF st) {ds : List D} {sh : List Bool} (h : ∀ d ∈ ds,∃ k,keysD d = some k ∧ shpK k = sh) (hl : ds.length ≤ 60) : m_is_ascending K a [.d (.tup ds)] st = .ok (.d (.bl (ascD ds))) st:=by
 have ec : ∀ x1 x2 : Option U,c_is_ascending_1 K a [some (.d (.tup ds)),x1,x2] st = .ok (.d (.lst ((ds.zip ds.tail).map fun p=>D.bl (ltD p.1 p.2)))) st:=fun x1 x2=>by
  unfold c_is_ascending_1
  refine lc_eq1 (f:=fun p : D × D=>U.d (.tup [p.1,p.2])) (ds.zip ds.tail) (fun p=>.bl (ltD p.1 p.2)) w ?_ ?_ fun p hp acc=>?_
  ·refine Nat.le_trans ?_ (show 60 ≤ sizeLine by decide)
   rw [List.length_zip]; omega
  ·apply eq_of_wp
   simp_all only [oSl,cut_tail,itZA,zipD_eq]
  ·obtain ⟨h1,h2⟩:=List.of_mem_zip (show (p.1,p.2) ∈ _ from hp)
   obtain ⟨j,e1,s1⟩:=h _ h1
   obtain ⟨k,e2,s2⟩:=h _ (List.mem_of_mem_tail h2)
   have e3:=fun st=>cmp_ltD (st:=st) e1 e2 (s1.trans s2.symm)
   unfold LcP
   simp_all only [wipeE,tYesB]
   intro _
   simp_all only [e3]
 have e2:=blsU_map (fun p : D × D=>ltD p.1 p.2) (ds.zip ds.tail)
 have e4 : ((ds.zip ds.tail).map fun p=>ltD p.1 p.2).all id = ascD ds:=by rw [List.all_map,← asc_zip]; rfl
 apply eq_of_wp
 unfold m_is_ascending g_is_ascending
 generalize (ds.zip ds.tail).map (fun p=>D.bl (ltD p.1 p.2)) = X at *
 generalize (ds.zip ds.tail).map (fun p=>ltD p.1 p.2) = Y at *
 simp_all only [ec,e2,e4,w.cut]
theorem sgL_pure {α : Type} {okd : List D → D → Bool} {tg : U → G} {tt : F Bool} {fe : F U} {env0 : VEnv} {f : α → U} {q : α → D} {W : List D} (ok : ∀ ys d zs,ys ++ d :: zs = W → okd ys d = true) : ∀ (xs : List α) (acc rest : List D),acc ++ xs.map q ++ rest = W →
  (∀ x ∈ xs,∃ env1,tg (f x) env0 st = .ok env1 .nx st ∧ tt env1 st = .ok true st ∧ fe env1 st = .ok (.d (q x)) st) → sgL okd tg tt fe env0 (xs.map f) acc st = .ok (acc ++ xs.map q) st
 | [],acc,_,_,_=>by rw [List.map_nil,List.map_nil,List.append_nil]; rfl
 | x :: xs,acc,rest,hW,h=>by
  obtain ⟨env1,e1,e2,e3⟩:=h x List.mem_cons_self
  have e4 : okd acc (q x) = true:=ok acc (q x) (xs.map q ++ rest) (by rw [← hW,List.map_cons,List.append_assoc,List.cons_append])
  have hs : sgStep okd tg tt fe env0 (f x) acc st = .ok (acc ++ [q x]) st:=by
   unfold sgStep
   simp only [e1,e2,e3]
   rw [if_pos e4]
  rw [List.map_cons,List.map_cons,sgL]
  simp only [hs]
  rw [sgL_pure ok xs (acc ++ [q x]) rest (by rw [← hW,List.map_cons,List.append_assoc,List.append_assoc,List.append_assoc]; rfl) (fun y hy=>h y (List.mem_cons_of_mem _ hy)),List.append_assoc]
  rfl
theorem fSg_pure {α : Type} {okd : List D → D → Bool} {fi : F Itb} {tg : U → G} {tt : F Bool} {fe : F U} {vs : List Nat} {env : VEnv} {f : α → U} {q : α → D} (w : WF st) (xs : List α) (ok : ∀ ys d zs,ys ++ d :: zs = xs.map q → okd ys d = true) (hi : fi env st = .ok (.lst (xs.map f)) st)
  (h : ∀ x ∈ xs,∃ env1,tg (f x) (wipeE env vs) st = .ok env1 .nx st ∧ tt env1 st = .ok true st ∧ fe env1 st = .ok (.d (q x)) st) : fSg okd fi tg tt fe vs env st = .ok (xs.map q) st:=by
 unfold fSg bnd
 rw [hi]
 simp only
 rw [sgL_pure ok xs [] [] (by rw [List.nil_append,List.append_nil]) h]
 simp only [sgEnd,w.cut,List.nil_append]
theorem okI_of {α : Type} {xs : List α} {q : α → Int} (hl : xs.length < 64) : ∀ ys d zs,ys ++ d :: zs = xs.map (fun x=>D.int (q x)) → okI ys d = true:=fun ys d zs e=>by
 have hd : d ∈ xs.map (fun x=>D.int (q x)):=by rw [← e]; exact List.mem_append_right _ List.mem_cons_self
 obtain ⟨x,-,rfl⟩:=List.mem_map.mp hd
 have hn:=congrArg List.length e
 rw [List.length_append,List.length_cons,List.length_map] at hn
 unfold okI
 rw [decide_eq_true (show ys.length + 1 < 64 by omega)]
 rfl
theorem seq_of {c g : G} {env e1 : VEnv} {st s1 : Store} (h : c env st = .ok e1 .nx s1) : sSeq c g env st = g e1 s1:=by
 unfold sSeq
 rw [h]
section
variable {f fx fy : F U} {g g1 g2 : G} {env env1 : VEnv} {s s1 s2 : Store} {u y : U} {n p : Nat} {r : RS}
theorem asgA (e : f env s = .ok u s1) : sAsg f (tgN n) env s = .ok (env.set n (some u)) .nx s1:=by
 unfold sAsg bndS
 rw [e]
 rfl
theorem seqA (e : f env s = .ok u s1) (h : g (env.set n (some u)) s1 = r) : sSeq (sAsg f (tgN n)) g env s = r:=by
 unfold sSeq
 rw [asgA e]
 exact h
theorem seqG (e : g1 env s = .ok env1 .nx s1) (h : g2 env1 s1 = r) : sSeq g1 g2 env s = r:=by
 unfold sSeq
 rw [e]
 exact h
theorem retA (e : f env s = .ok u s1) : sRet f env s = .ok env (.rt u) s1:=by
 unfold sRet bndS
 rw [e]
theorem loopN {us : List U} {env2 : VEnv} (h2 : g (env.set n (some u)) s = .ok env2 .nx s2) (h3 : loopL (tgN n) g us env2 s2 = r) : loopL (tgN n) g (u :: us) env s = r:=by
 have h1 : tgN n u env s = .ok (env.set n (some u)) .nx s:=rfl
 unfold loopL
 rw [h1]
 simp only
 rw [h2]
 exact h3
theorem f2A {o : P2} {x v : U} (h1 : fx env s = .ok x s1) (h2 : fy env s1 = .ok y s2) (h : o x y s2 = some v) : f2 o fx fy env s = .ok v s2:=by
 unfold f2 bnd
 rw [h1]
 simp only
 rw [h2]
 simp only [h,R.of]
theorem consA {fs : F (List U)} {us : List U} (h1 : fx env s = .ok u s1) (h2 : fs env s1 = .ok us s2) : fCons fx fs env s = .ok (u :: us) s2:=by
 unfold fCons bnd
 rw [h1]
 simp only
 rw [h2]
 rfl
theorem cons1 (h1 : fx env s = .ok u s1) : fCons fx fNil env s = .ok [u] s1:=consA h1 rfl
theorem callA {fs : F (List U)} {us : List U} {m : Nat} {mf : List U → M U} (h1 : fs env s = .ok us s1) (hl : us.length = m) (h : mf us s1 = .ok u s2) : fCall m 0 gPos mf (fCW fs fNil) env s = .ok u s2:=by
 have e : fCW fs fNil env s = .ok (us,[]) s1:=by
  unfold fCW bnd
  rw [h1]
  rfl
 unfold fCall bnd
 rw [e]
 simp only [hl,List.length_nil,and_self,if_true,gPos]
 exact h
theorem tupA {fs : F (List U)} {ds : List D} (h : fs env s = .ok (ds.map U.d) s1) (hz : ds.length ≤ sizeLine) : fTup fs env s = .ok (.d (.tup ds)) s1:=by
 unfold fTup bnd
 rw [h]
 simp only [pureL_map,if_pos hz]
theorem fnA {w : Wr} {us : List U} (h : g (us.map some ++ List.replicate (n - us.length) none) s = .ok env1 (.rt u) s1) : fnM n g w us s = w s.length u s1:=by
 unfold fnM
 rw [h]
theorem lstA {fs : F (List U)} {us : List U} (h : fs env s = .ok us s1) (hz : us.length ≤ sizeLine) : fLstC fs env s = .ok (.ref s1.length) (s1 ++ [.lst us]):=by
 unfold fLstC bnd
 rw [h]
 simp only [if_pos hz]
theorem f1A {o : P1} {x v : U} (h1 : fx env s = .ok x s1) (h : o x s1 = some v) : f1 o fx env s = .ok v s1:=by
 unfold f1 bnd
 rw [h1]
 simp only [h,R.of]
theorem asBA {k : Bool} (h : f env s = .ok (.d (.bl k)) s1) : asB f env s = .ok k s1:=by
 unfold asB bnd
 rw [h]
theorem ifT {c : F Bool} (h : c env s = .ok true s1) (h2 : g1 env s1 = r) : sIf c g1 g2 env s = r:=by
 unfold sIf bndS
 rw [h]
 exact h2
theorem ifF {c : F Bool} (h : c env s = .ok false s1) (h2 : g2 env s1 = r) : sIf c g1 g2 env s = r:=by
 unfold sIf bndS
 rw [h]
 exact h2
theorem parA {fs : F (List U)} {i j : Nat} {u w : U} (h : fs env s = .ok [u,w] s1) : sPar i j fs env s = .ok ((env.set i (some u)).set j (some w)) .nx s1:=by
 unfold sPar bndS
 rw [h]
theorem fnZ {us : List U} {x : D} (hw : WF s) (h : g (us.map some ++ List.replicate (n - us.length) none) s = .ok env1 (.rt (.d x)) (s ++ s1)) : fnM n g wFrz us s = .ok (.d x) s:=by
 rw [fnA h]
 unfold wFrz
 rw [frz_dd,nf_cut hw]
theorem puA {o : List U → Store → Option U} {fs : F (List U)} {us : List U} {v : U} (h1 : fs env s = .ok us s1) (h : o us s1 = some v) : fB (pu o) fs env s = .ok v s1:=by
 unfold fB bnd
 rw [h1]
 simp only [pu,h,Option.map_some]
 rfl
theorem seqR {u : U} (e : g1 env s = .ok env1 (.rt u) s1) : sSeq g1 g2 env s = .ok env1 (.rt u) s1:=by
 unfold sSeq
 rw [e]
end
section
variable {f fx fy : F U} {g g1 g2 : G} {env env1 : VEnv} {s s1 s2 : Store} {u y : U}
theorem asTA {k : Bool} (h : f env s = .ok u s1) (h2 : truB s1 u = some k) : asT f env s = .ok k s1:=by
 unfold asT bnd
 rw [h]
 simp only [h2,R.of]
theorem bNotA {b : F Bool} {k : Bool} (h : b env s = .ok k s1) : bNot b env s = .ok (!k) s1:=by
 unfold bNot bnd
 rw [h]
theorem bOrF {b1 b2 : F Bool} {k : Bool} (h1 : b1 env s = .ok false s1) (h2 : b2 env s1 = .ok k s2) : bOr b1 b2 env s = .ok k s2:=by
 unfold bOr bnd
 rw [h1]
 exact h2
theorem andT {v : U} (h1 : fx env s = .ok (.d (.bl true)) s1) (h2 : fy env s1 = .ok v s2) : fAnd fx fy env s = .ok v s2:=by
 unfold fAnd bnd
 rw [h1]
 exact h2
theorem exprA (e : f env s = .ok u s1) : sExpr f env s = .ok env .nx s1:=by
 unfold sExpr bndS
 rw [e]
 rfl
theorem fMA {t : String} {h : P4} {fs : F (List U)} {us : List U} {v : U} {s3 : Store} (h1 : f env s = .ok u s1) (ht : tyB t s1 u = true) (h2 : fs env s1 = .ok us s2) (hh : h u us s2 = some (v,s3)) : fM t h f fs env s = .ok v s3:=by
 unfold fM bnd
 rw [h1]
 simp only
 rw [if_pos ht,h2]
 simp only
 rw [hh]
 rfl
theorem tyLA {xs : List U} {p : Nat} (h : s[p]? = some (.lst xs)) : tyB "list" s (.ref p) = true:=by
 unfold tyB
 simp only [h]
 decide
theorem lstDA {fs : F (List U)} {ds : List D} (h : fs env s = .ok (ds.map U.d) s1) (hz : ds.length ≤ sizeLine) : fN vLst fs env s = .ok (.d (.lst ds)) s1:=by
 unfold fN bnd
 rw [h]
 simp only [vLst,pureL_map,if_pos hz,R.of]
end
noncomputable abbrev RP:=List (Int × List Int)
noncomputable def addR (R : RP) (p : Int × Int) : RP:=if (R.any fun r=>decide (r.1 = p.1)) = true then R.map (fun r=>if r.1 = p.1 then (r.1,if p.2 ∈ r.2 then r.2 else r.2 ++ [p.2]) else r) else R ++ [(p.1,[p.2])]
noncomputable def rightsP (cs : List (Int × Int)) : RP:=cs.foldl addR []
noncomputable def rowD (ys : List Int) : D:=.lst (ys.map D.int)
noncomputable def rpD (R : RP) : D:=.dct (R.map fun r=>(.inl r.1,rowD r.2))
noncomputable abbrev RT:=Int × List Int × Nat
structure RI (n0 : Nat) (cs : List O) (T : List RT) : Prop where
 d : cs[0]? = some (.dct (T.map fun t=>((.inl t.1 : Key),U.ref (n0 + t.2.2))))
 c : ∀ t ∈ T,0 < t.2.2 ∧ cs[t.2.2]? = some (.lst ((t.2.1.map D.int).map U.d))
 j : (T.map fun t=>t.2.2).Nodup
 k : (T.map fun t=>t.1).Nodup
noncomputable def rpT (T : List RT) : RP:=T.map fun t=>(t.1,t.2.1)
theorem ls_int (y : Int) {u : U} {ys : List Int} (h : LsU st u (ys.map D.int)) : inB st (.d (.int y)) u = some (decide (y ∈ ys)):=by
 have hi : D.int y ∈ ys.map D.int ↔ y ∈ ys:=by
  rw [List.mem_map]
  exact ⟨fun ⟨z,hz,e⟩=>by injection e with e; exact e ▸ hz,fun h=>⟨y,h,rfl⟩⟩
 haveI : Decidable (D.int y ∈ ys.map D.int):=decidable_of_iff _ hi.symm
 rw [inB_ls (x:=.int y) h rfl (plDs_map fun _ _=>rfl) (show 0 ≤ 60 by decide) (Nat.le_trans (dpDs_map (k:=0) fun _ _=>Nat.le_refl 0) (by decide))]
 exact congrArg some (decide_eq_decide.mpr hi)
theorem lookK_T {n0 : Nat} {x : Int} : ∀ {T : List RT},(T.map fun t=>t.1).Nodup → ∀ t ∈ T,t.1 = x → lookK (T.map fun t=>((.inl t.1 : Key),U.ref (n0 + t.2.2))) (.inl x) = some (.ref (n0 + t.2.2))
 | t0 :: T,hn,t,ht,hx=>by
  unfold lookK
  rw [List.map_cons,List.find?_cons]
  rw [List.map_cons,List.nodup_cons] at hn
  rcases List.mem_cons.mp ht with rfl | ht
  ·rw [decide_eq_true (by rw [hx])]; rfl
  ·have : ¬ ((.inl t0.1 : Key) = .inl x):=fun e=>hn.1 (List.mem_map.mpr ⟨t,ht,by rw [hx]; exact (Sum.inl.inj e).symm⟩)
   rw [decide_eq_false this]
   exact lookK_T hn.2 t ht hx
theorem lookK_N {n0 : Nat} {x : Int} : ∀ {T : List RT},(∀ t ∈ T,t.1 ≠ x) → lookK (T.map fun t=>((.inl t.1 : Key),U.ref (n0 + t.2.2))) (.inl x) = none
 | [],_=>rfl
 | t0 :: T,h=>by
  unfold lookK
  rw [List.map_cons,List.find?_cons]
  have : ¬ ((.inl t0.1 : Key) = .inl x):=fun e=>h t0 List.mem_cons_self (Sum.inl.inj e)
  rw [decide_eq_false this]
  exact lookK_N fun t ht=>h t (List.mem_cons_of_mem _ ht)
theorem ev_rstep {x0 x4 : Option U} {cs : List O} {T : List RT} {x y : Int} (I : RI st.length cs T) (hl : T.length ≤ 200) (hy : ∀ t ∈ T,t.2.1.length ≤ 200) :
  ∃ z cs' T',b_rights_of_1 K a [x0,some (.ref st.length),some (.d (.int x)),some (.d (.int y)),x4] (st ++ cs) = .ok [x0,some (.ref st.length),some (.d (.int x)),some (.d (.int y)),z] .nx (st ++ cs') ∧ RI st.length cs' T' ∧ rpT T' = addR (rpT T) (x,y):=by
 obtain ⟨KV,hKV⟩ : ∃ KV,KV = T.map fun t=>((.inl t.1 : Key),U.ref (st.length + t.2.2)):=⟨_,rfl⟩
 have hd:=I.d
 rw [← hKV] at hd
 have h0 : 0 < cs.length:=(List.getElem?_eq_some_iff.mp hd).1
 have hn : (st ++ cs)[st.length]? = some (.dct KV):=by rw [List.getElem?_append_right (Nat.le_refl _),Nat.sub_self]; exact hd
 have hn2 : (st ++ cs ++ [O.lst []])[st.length]? = some (.dct KV):=by rw [List.getElem?_append_left (by rw [List.length_append]; omega)]; exact hn
 have hz : KV.length < sizeLine:=by rw [hKV,List.length_map]; exact Nat.lt_of_le_of_lt hl (by decide)
 by_cases hx : ∃ t ∈ T,t.1 = x
 ·obtain ⟨t,ht,hx⟩:=hx
  have hk:=lookK_T (n0:=st.length) I.k t ht hx
  rw [← hKV] at hk
  obtain ⟨hj0,hj⟩:=I.c t ht
  have hjl:=(List.getElem?_eq_some_iff.mp hj).1
  have hr : (st ++ cs ++ [O.lst []])[st.length + t.2.2]? = some (.lst ((t.2.1.map D.int).map U.d)):=by
   rw [List.getElem?_append_left (by rw [List.length_append]; omega),List.getElem?_append_right (by omega),Nat.add_sub_cancel_left]; exact hj
  have hin:=ls_int (st:=st ++ cs ++ [O.lst []]) y (LsU.r hr)
  have hany : ((rpT T).any fun r=>decide (r.1 = x)) = true:=List.any_eq_true.mpr ⟨(t.1,t.2.1),List.mem_map.mpr ⟨t,ht,rfl⟩,decide_eq_true hx⟩
  have same : ∀ t' ∈ T,t'.1 = x → t' = t:=fun t' ht' hx'=>by
   have:=I.k
   rw [List.Nodup,List.pairwise_map] at this
   by_cases e : t' = t
   ·exact e
   ·have hp : ∀ {l : List RT},l.Pairwise (fun p q=>p.1 ≠ q.1) → t' ∈ l → t ∈ l → t'.1 ≠ t.1:=fun {l} hl h1 h2=>by
     induction l with
     | nil=>cases h1
     | cons q l ih =>
      rw [List.pairwise_cons] at hl
      rcases List.mem_cons.mp h1 with rfl | g1
      ·rcases List.mem_cons.mp h2 with rfl | g2
       ·exact absurd rfl e
       ·exact hl.1 t g2
      ·rcases List.mem_cons.mp h2 with rfl | g2
       ·exact (hl.1 t' g1).symm
       ·exact ih hl.2 g1 g2
    exact absurd (hx'.trans hx.symm) (hp this ht' ht)
  cases hm : decide (y ∈ t.2.1) with
  | true =>
   rw [hm] at hin
   refine ⟨some (.ref (st.length + t.2.2)),cs ++ [.lst []],T,?_,⟨?_,fun t' ht'=>?_,I.j,I.k⟩,?_⟩
   ·unfold b_rights_of_1
    rw [← List.append_assoc]
    simp_all? only [fSetd,dctC,hn,hn2,Option.isSome_some,hz,hk,hin]
   ·rw [List.getElem?_append_left h0]; exact I.d
   ·obtain ⟨q1,q2⟩:=I.c t' ht'
    exact ⟨q1,by rw [List.getElem?_append_left (List.getElem?_eq_some_iff.mp q2).1]; exact q2⟩
   ·unfold addR
    rw [if_pos hany]
    unfold rpT
    rw [List.map_map]
    refine List.map_congr_left fun t' ht'=>?_
    show (t'.1,t'.2.1) = if t'.1 = x then (t'.1,if y ∈ t'.2.1 then t'.2.1 else t'.2.1 ++ [y]) else (t'.1,t'.2.1)
    by_cases hx' : t'.1 = x
    ·rw [if_pos hx',same t' ht' hx',if_pos (of_decide_eq_true hm)]
    ·rw [if_neg hx']
  | false =>
   rw [hm] at hin
   have hrl : ((t.2.1.map D.int).map U.d).length < sizeLine:=by rw [List.length_map,List.length_map]; exact Nat.lt_of_le_of_lt (hy t ht) (by decide)
   have hset : (st ++ cs ++ [O.lst []]).set (st.length + t.2.2) (.lst ((t.2.1.map D.int).map U.d ++ [.d (.int y)])) = st ++ (cs ++ [O.lst []]).set t.2.2 (.lst (((t.2.1 ++ [y]).map D.int).map U.d)):=by
    rw [List.append_assoc,List.set_append_right _ _ (by omega),Nat.add_sub_cancel_left,List.map_append,List.map_append]
    rfl
   refine ⟨some (.ref (st.length + t.2.2)),(cs ++ [O.lst []]).set t.2.2 (.lst (((t.2.1 ++ [y]).map D.int).map U.d)),T.map (fun t'=>if t'.1 = x then (t'.1,t'.2.1 ++ [y],t'.2.2) else t'),?_,⟨?_,fun t' ht'=>?_,?_,?_⟩,?_⟩
   ·unfold b_rights_of_1
    generalize (t.2.1.map D.int).map U.d = X at *
    rw [← hset]
    simp_all? only [fSetd,dctC,hn,hn2,Option.isSome_some,hz,hk,hin,mAppend,hr,hrl]
   ·rw [List.getElem?_set_ne (by omega),List.getElem?_append_left h0,I.d,List.map_map]
    congr 2
    refine List.map_congr_left fun t' ht'=>?_
    by_cases hx' : t'.1 = x
    ·simp only [Function.comp,if_pos hx']
    ·simp only [Function.comp,if_neg hx']
   ·obtain ⟨t1,ht1,rfl⟩:=List.mem_map.mp ht'
    obtain ⟨q1,q2⟩:=I.c t1 ht1
    have q3:=(List.getElem?_eq_some_iff.mp q2).1
    by_cases hx' : t1.1 = x
    ·have:=same t1 ht1 hx'
     subst this
     rw [if_pos hx']
     exact ⟨q1,by rw [List.getElem?_set_self (by rw [List.length_append]; omega)]⟩
    ·rw [if_neg hx']
     refine ⟨q1,?_⟩
     have hne : t.2.2 ≠ t1.2.2:=fun e=>by
      have hj2:=I.j
      rw [List.Nodup,List.pairwise_map] at hj2
      have hp : ∀ {l : List RT},l.Pairwise (fun p q=>p.2.2 ≠ q.2.2) → t ∈ l → t1 ∈ l → t ≠ t1 → t.2.2 ≠ t1.2.2:=fun {l} hl h1 h2 hne=>by
       induction l with
       | nil=>cases h1
       | cons q l ih =>
        rw [List.pairwise_cons] at hl
        rcases List.mem_cons.mp h1 with rfl | g1
        ·rcases List.mem_cons.mp h2 with rfl | g2
         ·exact absurd rfl hne
         ·exact hl.1 t1 g2
        ·rcases List.mem_cons.mp h2 with rfl | g2
         ·exact (hl.1 t g1).symm
         ·exact ih hl.2 g1 g2
      exact hp hj2 ht ht1 (fun z=>hx' (by rw [← z]; exact hx)) e
     rw [List.getElem?_set_ne hne,List.getElem?_append_left q3]
     exact q2
   ·rw [List.map_map]
    have : T.map ((fun t=>t.2.2) ∘ fun t'=>if t'.1 = x then (t'.1,t'.2.1 ++ [y],t'.2.2) else t') = T.map fun t=>t.2.2:=List.map_congr_left fun t' _=>by
     by_cases hx' : t'.1 = x
     ·simp only [Function.comp,if_pos hx']
     ·simp only [Function.comp,if_neg hx']
    rw [this]; exact I.j
   ·rw [List.map_map]
    have : T.map ((fun t=>t.1) ∘ fun t'=>if t'.1 = x then (t'.1,t'.2.1 ++ [y],t'.2.2) else t') = T.map fun t=>t.1:=List.map_congr_left fun t' _=>by
     by_cases hx' : t'.1 = x
     ·simp only [Function.comp,if_pos hx']
     ·simp only [Function.comp,if_neg hx']
    rw [this]; exact I.k
   ·unfold addR
    rw [if_pos hany]
    unfold rpT
    rw [List.map_map,List.map_map]
    refine List.map_congr_left fun t' ht'=>?_
    show _ = if t'.1 = x then (t'.1,if y ∈ t'.2.1 then t'.2.1 else t'.2.1 ++ [y]) else (t'.1,t'.2.1)
    by_cases hx' : t'.1 = x
    ·have:=same t' ht' hx'
     subst this
     simp only [Function.comp,if_pos hx',if_neg (of_decide_eq_false hm)]
    ·simp only [Function.comp,if_neg hx']
 ·have hx' : ∀ t ∈ T,t.1 ≠ x:=fun t ht e=>hx ⟨t,ht,e⟩
  have hk:=lookK_N (n0:=st.length) hx'
  rw [← hKV] at hk
  have hput : putU KV (.inl x) (.ref (st.length + cs.length)) = KV ++ [(.inl x,.ref (st.length + cs.length))]:=by
   unfold putU
   rw [if_neg]
   intro e
   obtain ⟨kv,h1,h2⟩:=List.any_eq_true.mp e
   rw [hKV] at h1
   obtain ⟨t,ht,rfl⟩:=List.mem_map.mp h1
   exact hx' t ht (Sum.inl.inj (of_decide_eq_true h2))
  have hlen : (st ++ cs).length = st.length + cs.length:=List.length_append
  have hs1 : (st ++ cs ++ [O.lst []]).set st.length (.dct (KV ++ [(.inl x,.ref (st.length + cs.length))])) = st ++ (cs.set 0 (.dct (KV ++ [(.inl x,.ref (st.length + cs.length))])) ++ [O.lst []]):=by
   rw [List.append_assoc,List.set_append_right _ _ (Nat.le_refl _),Nat.sub_self,List.set_append_left _ _ h0]
  obtain ⟨C0,hC0⟩ : ∃ C0,C0 = cs.set 0 (.dct (KV ++ [(.inl x,.ref (st.length + cs.length))])):=⟨_,rfl⟩
  have hcl : C0.length = cs.length:=by rw [hC0,List.length_set]
  rw [← hC0] at hs1
  have hr : (st ++ (C0 ++ [O.lst []]))[st.length + cs.length]? = some (.lst []):=by
   rw [List.getElem?_append_right (by omega),Nat.add_sub_cancel_left,List.getElem?_append_right (by omega),hcl,Nat.sub_self]; rfl
  have hin:=ls_int (st:=st ++ (C0 ++ [O.lst []])) (ys:=[]) y (LsU.r (ds:=[]) hr)
  have hs2 : (st ++ (C0 ++ [O.lst []])).set (st.length + cs.length) (.lst [.d (.int y)]) = st ++ (C0 ++ [O.lst [.d (.int y)]]):=by
   rw [List.set_append_right _ _ (by omega),Nat.add_sub_cancel_left,List.set_append_right _ _ (by omega),hcl,Nat.sub_self]
   rfl
  have hsz : (0 : Nat) < sizeLine:=by decide
  refine ⟨some (.ref (st.length + cs.length)),C0 ++ [.lst [.d (.int y)]],T ++ [(x,[y],cs.length)],?_,⟨?_,fun t ht=>?_,?_,?_⟩,?_⟩
  ·unfold b_rights_of_1
   have hin' : inB (st ++ (C0 ++ [O.lst []])) (.d (.int y)) (.ref (st.length + cs.length)) = some false:=by rw [hin]; rfl
   simp_all? only [fSetd,dctC,hn,hn2,Option.isSome_some,hz,hk,hlen,hput,hs1,hin',mAppend,hr,hsz,hs2]
  ·rw [List.getElem?_append_left (by omega),hC0,List.getElem?_set_self h0,List.map_append,← hKV]
   rfl
  ·rcases List.mem_append.mp ht with ht | ht
   ·obtain ⟨q1,q2⟩:=I.c t ht
    have q3:=(List.getElem?_eq_some_iff.mp q2).1
    exact ⟨q1,by rw [List.getElem?_append_left (by omega),hC0,List.getElem?_set_ne (by omega)]; exact q2⟩
   ·rw [List.mem_singleton.mp ht]
    exact ⟨h0,by rw [List.getElem?_append_right (by show C0.length ≤ cs.length; omega),hcl]; simp⟩
  ·rw [List.map_append,List.nodup_append]
   refine ⟨I.j,List.nodup_cons.mpr ⟨by simp,List.nodup_nil⟩,fun i hi j hj=>?_⟩
   obtain ⟨t,ht,rfl⟩:=List.mem_map.mp hi
   have q3:=(List.getElem?_eq_some_iff.mp (I.c t ht).2).1
   rw [List.map_cons,List.map_nil,List.mem_singleton] at hj
   subst hj
   show t.2.2 ≠ cs.length
   omega
  ·rw [List.map_append,List.nodup_append]
   refine ⟨I.k,List.nodup_cons.mpr ⟨by simp,List.nodup_nil⟩,fun i hi j hj=>?_⟩
   obtain ⟨t,ht,rfl⟩:=List.mem_map.mp hi
   rw [List.map_cons,List.map_nil,List.mem_singleton] at hj
   subst hj
   exact hx' t ht
  ·unfold addR
   rw [if_neg]
   ·unfold rpT
    rw [List.map_append]
    rfl
   ·intro e
    obtain ⟨r,h1,h2⟩:=List.any_eq_true.mp e
    obtain ⟨t,ht,rfl⟩:=List.mem_map.mp h1
    exact hx' t ht (of_decide_eq_true h2)
theorem addR_b {B : Nat} {R : RP} {p : Int × Int} (h : ∀ r ∈ R,r.2.length ≤ B) : (addR R p).length ≤ R.length + 1 ∧ ∀ r ∈ addR R p,r.2.length ≤ B + 1:=by
 unfold addR
 split
 ·refine ⟨by rw [List.length_map]; omega,fun r hr=>?_⟩
  obtain ⟨q,hq,rfl⟩:=List.mem_map.mp hr
  have:=h q hq
  split
  ·split
   ·show q.2.length ≤ _; omega
   ·show (q.2 ++ [p.2]).length ≤ _; rw [List.length_append,List.length_singleton]; omega
  ·omega
 ·refine ⟨by rw [List.length_append,List.length_singleton]; exact Nat.le_refl _,fun r hr=>?_⟩
  rcases List.mem_append.mp hr with hr | hr
  ·have:=h r hr; omega
  ·rw [List.mem_singleton.mp hr]; show 1 ≤ _; omega
theorem ev_rloop {x0 : Option U} : ∀ (ps : List (Int × Int)) (cs : List O) (T : List RT) (x2 x3 x4 : Option U) (B : Nat),RI st.length cs T → T.length + ps.length ≤ 200 → (∀ t ∈ T,t.2.1.length ≤ B) → B + ps.length ≤ 200 →
  ∃ y2 y3 y4 cs' T',loopL (tgT 2 (tgCons (tgN 2) (tgCons (tgN 3) tgNil))) (b_rights_of_1 K a) ((cD ps).map U.d) [x0,some (.ref st.length),x2,x3,x4] (st ++ cs) = .ok [x0,some (.ref st.length),y2,y3,y4] .nx (st ++ cs') ∧ RI st.length cs' T' ∧ rpT T' = ps.foldl addR (rpT T)
 | [],cs,T,x2,x3,x4,B,I,_,_,_=>⟨x2,x3,x4,cs,T,rfl,I,rfl⟩
 | p :: ps,cs,T,x2,x3,x4,B,I,hl,hB,hb=>by
  rw [List.length_cons] at hl hb
  obtain ⟨z,cs1,T1,e1,I1,h1⟩:=ev_rstep (K:=K) (a:=a) (x0:=x0) (x4:=x4) (x:=p.1) (y:=p.2) I (by omega) fun t ht=>Nat.le_trans (hB t ht) (by omega)
  have hR : ∀ r ∈ rpT T,r.2.length ≤ B:=fun r hr=>by
   obtain ⟨t,ht,rfl⟩:=List.mem_map.mp hr
   exact hB t ht
  obtain ⟨q1,q2⟩:=addR_b (p:=(p.1,p.2)) hR
  have l1 : T1.length ≤ T.length + 1:=by
   have:=congrArg List.length h1
   unfold rpT at this q1
   rw [List.length_map] at this q1
   omega
  have b1 : ∀ t ∈ T1,t.2.1.length ≤ B + 1:=fun t ht=>q2 (t.1,t.2.1) (by rw [← h1]; exact List.mem_map.mpr ⟨t,ht,rfl⟩)
  obtain ⟨y2,y3,y4,cs',T',e2,I2,h2⟩:=ev_rloop (x0:=x0) ps cs1 T1 (some (.d (.int p.1))) (some (.d (.int p.2))) z (B + 1) I1 (by omega) b1 (by omega)
  refine ⟨y2,y3,y4,cs',T',?_,I2,by rw [h2,h1]; rfl⟩
  show loopL _ _ (.d (.tup [.int p.1,.int p.2]) :: (cD ps).map U.d) _ _ = _
  unfold loopL
  simp only [tgT,tgCons,tgNil,sNil,unp,sSeq,tgN,List.map_cons,List.map_nil,List.length_cons,List.length_nil,Nat.reduceAdd,if_true,List.set_cons_zero,List.set_cons_succ,e1,e2]
theorem frz_ints (s : Store) (k f : Nat) : ∀ (ds : List D),allM (frz s k f) (ds.map U.d) = some ds
 | []=>rfl
 | d :: ds=>by
  rw [List.map_cons,allM,frz_ints s k f ds]
  have : frz s k f (.d d) = some d:=by cases f <;> rfl
  rw [this]
theorem frz_rows {cs : List O} {f : Nat} : ∀ {T : List RT},(∀ t ∈ T,0 < t.2.2 ∧ cs[t.2.2]? = some (.lst ((t.2.1.map D.int).map U.d))) →
  allM (fun p : Key × U=>(frz (st ++ cs) st.length (f + 1) p.2).map fun d=>(p.1,d)) (T.map fun t=>((.inl t.1 : Key),U.ref (st.length + t.2.2))) = some ((rpT T).map fun r=>(.inl r.1,rowD r.2))
 | [],_=>rfl
 | t :: T,h=>by
  obtain ⟨h0,h1⟩:=h t List.mem_cons_self
  have hg : (st ++ cs)[st.length + t.2.2]? = some (.lst ((t.2.1.map D.int).map U.d)):=by
   rw [List.getElem?_append_right (by omega),Nat.add_sub_cancel_left]; exact h1
  have e : frz (st ++ cs) st.length (f + 1) (.ref (st.length + t.2.2)) = some (rowD t.2.1):=by
   unfold frz
   rw [if_neg (by omega),hg]
   simp only [frz_ints,Option.map_some]
   rfl
  rw [List.map_cons,allM,frz_rows fun t' ht'=>h t' (List.mem_cons_of_mem _ ht')]
  simp only [e,Option.map_some]
  rfl
theorem ev_rights (w : WF st) {cs : List (Int × Int)} (hl : cs.length ≤ 160) : m_rights_of K a [.d (.lst (cD cs))] st = .ok (.d (rpD (rightsP cs))) st:=by
 obtain ⟨y2,y3,y4,cs',T',e,I,h⟩:=ev_rloop (K:=K) (a:=a) (st:=st) (x0:=some (.d (.lst (cD cs)))) cs [.dct []] [] none none none 0 ⟨rfl,nofun,List.nodup_nil,List.nodup_nil⟩ (by simp; omega) nofun (by omega)
 have hd : (st ++ cs')[st.length]? = some (.dct (T'.map fun t=>((.inl t.1 : Key),U.ref (st.length + t.2.2)))):=by
  rw [List.getElem?_append_right (Nat.le_refl _),Nat.sub_self]; exact I.d
 have hf : frz (st ++ cs') st.length 4 (.ref st.length) = some (rpD (rightsP cs)):=by
  have hrow:=frz_rows (st:=st) (cs:=cs') (f:=2) I.c
  unfold frz
  rw [if_neg (Nat.lt_irrefl _),hd]
  simp only
  rw [show (allM (fun p : Key × U=>Option.map (fun d=>(p.1,d)) (frz (st ++ cs') st.length 3 p.2)) (T'.map fun t=>((.inl t.1 : Key),U.ref (st.length + t.2.2)))) = _ from hrow]
  have : rpT T' = rightsP cs:=h
  rw [this]
  rfl
 have hw : wFrz st.length (.ref st.length) (st ++ cs') = .ok (.d (rpD (rightsP cs))) st:=by
  unfold wFrz
  rw [hf,w.cutA cs']
 have sA : sAsg fDnew (tgN 1) [some (.d (.lst (cD cs))),none,none,none,none] st = .ok [some (.d (.lst (cD cs))),some (.ref st.length),none,none,none] .nx (st ++ [.dct []]):=rfl
 have sB : sFor (fIter (vVar 0)) (tgT 2 (tgCons (tgN 2) (tgCons (tgN 3) tgNil))) (b_rights_of_1 K a) [some (.d (.lst (cD cs))),some (.ref st.length),none,none,none] (st ++ [.dct []]) = .ok [some (.d (.lst (cD cs))),some (.ref st.length),y2,y3,y4] .nx (st ++ cs'):=by
  rw [sFor_lst (us:=(cD cs).map U.d) (st1:=st ++ [.dct []]) (by generalize cD cs = CS at *; apply eq_of_wp; simp_all only [])]
  exact e
 have sC : sRet (vVar 1) [some (.d (.lst (cD cs))),some (.ref st.length),y2,y3,y4] (st ++ cs') = .ok [some (.d (.lst (cD cs))),some (.ref st.length),y2,y3,y4] (.rt (.ref st.length)) (st ++ cs'):=rfl
 unfold m_rights_of g_rights_of
 simp only [fnM,List.map_cons,List.map_nil,List.length_cons,List.length_nil,List.replicate_succ,List.replicate_zero,List.cons_append,List.nil_append,Nat.reduceAdd,Nat.reduceSub,seq_of sA,seq_of sB,sC,hw]
theorem addR_mem {R : RP} {p : Int × Int} (hk : (R.map (·.1)).Nodup) (x y : Int) : (∃ ys,(x,ys) ∈ addR R p ∧ y ∈ ys) ↔ (x,y) = p ∨ ∃ ys,(x,ys) ∈ R ∧ y ∈ ys:=by
 unfold addR
 split
 ·rename_i h
  obtain ⟨r,hr,e⟩:=List.any_eq_true.mp h
  have e:=of_decide_eq_true e
  constructor
  ·rintro ⟨ys,hm,hy⟩
   obtain ⟨q,hq,eq⟩:=List.mem_map.mp hm
   split at eq
   ·rename_i hx
    split at eq
    ·cases eq; exact .inr ⟨_,hq,hy⟩
    ·cases eq
     rcases List.mem_append.mp hy with hy | hy
     ·exact .inr ⟨_,hq,hy⟩
     ·rw [List.mem_singleton.mp hy]
      exact .inl (Prod.ext hx rfl)
   ·rw [eq] at hq; exact .inr ⟨_,hq,hy⟩
  ·rintro (rfl | ⟨ys,hm,hy⟩)
   ·refine ⟨if y ∈ r.2 then r.2 else r.2 ++ [y],List.mem_map.mpr ⟨r,hr,by rw [if_pos e]; exact Prod.ext e rfl⟩,?_⟩
    split
    ·assumption
    ·exact List.mem_append_right _ (List.mem_singleton.mpr rfl)
   ·by_cases hx : x = p.1
    ·refine ⟨if p.2 ∈ ys then ys else ys ++ [p.2],List.mem_map.mpr ⟨(x,ys),hm,by rw [if_pos hx]⟩,?_⟩
     split
     ·exact hy
     ·exact List.mem_append_left _ hy
    ·exact ⟨ys,List.mem_map.mpr ⟨(x,ys),hm,by rw [if_neg hx]⟩,hy⟩
 ·constructor
  ·rintro ⟨ys,hm,hy⟩
   rcases List.mem_append.mp hm with hm | hm
   ·exact .inr ⟨ys,hm,hy⟩
   ·cases List.mem_singleton.mp hm
    exact .inl (Prod.ext rfl (List.mem_singleton.mp hy))
  ·rintro (rfl | ⟨ys,hm,hy⟩)
   ·exact ⟨[y],List.mem_append_right _ (List.mem_singleton.mpr rfl),List.mem_singleton.mpr rfl⟩
   ·exact ⟨ys,List.mem_append_left _ hm,hy⟩
theorem addR_keys {R : RP} {p : Int × Int} (hk : (R.map (·.1)).Nodup) : ((addR R p).map (·.1)).Nodup ∧ ∀ x,x ∈ (addR R p).map (·.1) ↔ x = p.1 ∨ x ∈ R.map (·.1):=by
 unfold addR
 split
 ·rename_i h
  obtain ⟨r,hr,e⟩:=List.any_eq_true.mp h
  have e:=of_decide_eq_true e
  have : (R.map fun r=>if r.1 = p.1 then (r.1,if p.2 ∈ r.2 then r.2 else r.2 ++ [p.2]) else r).map (·.1) = R.map (·.1):=by
   rw [List.map_map]
   refine List.map_congr_left fun q _=>?_
   show (if q.1 = p.1 then (q.1,_) else q).1 = q.1
   split <;> rfl
  rw [this]
  exact ⟨hk,fun x=>⟨.inr,fun z=>z.elim (fun z=>z ▸ (e ▸ List.mem_map.mpr ⟨r,hr,rfl⟩)) id⟩⟩
 ·rename_i h
  rw [List.map_append,List.nodup_append]
  refine ⟨⟨hk,List.nodup_cons.mpr ⟨by simp,List.nodup_nil⟩,fun i hi j hj=>?_⟩,fun x=>?_⟩
  ·obtain ⟨r,hr,rfl⟩:=List.mem_map.mp hi
   rw [List.map_cons,List.map_nil,List.mem_singleton] at hj
   subst hj
   exact fun e=>h (List.any_eq_true.mpr ⟨r,hr,decide_eq_true e⟩)
  ·rw [List.mem_append,List.map_cons,List.map_nil,List.mem_singleton]
   exact Or.comm
theorem rights_facts (cs : List (Int × Int)) : ((rightsP cs).map (·.1)).Nodup ∧ (∀ x,x ∈ (rightsP cs).map (·.1) ↔ ∃ y,(x,y) ∈ cs) ∧ ∀ x y,(∃ ys,(x,ys) ∈ rightsP cs ∧ y ∈ ys) ↔ (x,y) ∈ cs:=by
 have key : ∀ (ps : List (Int × Int)) (R : RP),(R.map (·.1)).Nodup → ((ps.foldl addR R).map (·.1)).Nodup ∧ (∀ x,x ∈ (ps.foldl addR R).map (·.1) ↔ (∃ y,(x,y) ∈ ps) ∨ x ∈ R.map (·.1)) ∧ ∀ x y,(∃ ys,(x,ys) ∈ ps.foldl addR R ∧ y ∈ ys) ↔ (x,y) ∈ ps ∨ ∃ ys,(x,ys) ∈ R ∧ y ∈ ys:=by
  intro ps
  induction ps with
  | nil=>intro R h; exact ⟨h,fun x=>by simp,fun x y=>by simp⟩
  | cons p ps ih =>
   intro R h
   obtain ⟨k1,k2⟩:=addR_keys (p:=p) h
   obtain ⟨h1,h2,h3⟩:=ih (addR R p) k1
   refine ⟨h1,fun x=>?_,fun x y=>?_⟩
   ·rw [List.foldl_cons,h2,k2]
    constructor
    ·rintro (⟨y,hy⟩ | rfl | hx)
     ·exact .inl ⟨y,List.mem_cons_of_mem _ hy⟩
     ·exact .inl ⟨p.2,List.mem_cons_self⟩
     ·exact .inr hx
    ·rintro (⟨y,hy⟩ | hx)
     ·rcases List.mem_cons.mp hy with rfl | hy
      ·exact .inr (.inl rfl)
      ·exact .inl ⟨y,hy⟩
     ·exact .inr (.inr hx)
   ·rw [List.foldl_cons,h3,addR_mem h,List.mem_cons]
    constructor
    ·rintro (h | h | h)
     ·exact .inl (.inr h)
     ·exact .inl (.inl h)
     ·exact .inr h
    ·rintro ((h | h) | h)
     ·exact .inr (.inl h)
     ·exact .inl h
     ·exact .inr (.inr h)
 obtain ⟨h1,h2,h3⟩:=key cs [] List.nodup_nil
 exact ⟨h1,fun x=>(h2 x).trans (by simp),fun x y=>(h3 x y).trans (by simp)⟩
noncomputable abbrev PS:=List (Int × Int) × List Int
noncomputable def setP (P : List (Int × Int)) (y x : Int) : List (Int × Int):=if (P.any fun q=>decide (q.1 = y)) = true then P.map (fun q=>if q.1 = y then (q.1,x) else q) else P ++ [(y,x)]
noncomputable def getP (P : List (Int × Int)) (y : Int) : Option Int:=(P.find? fun q=>decide (q.1 = y)).map (·.2)
noncomputable def plL (rec : Int → PS → Option (Bool × PS)) (x : Int) : List Int → PS → Option (Bool × PS)
 | [],s=>some (false,s)
 | y :: ys,s=>if y ∈ s.2 then plL rec x ys s else
  match getP s.1 y with
  | none=>some (true,(setP s.1 y x,s.2 ++ [y]))
  | some x'=>match rec x' (s.1,s.2 ++ [y]) with
   | some (true,s2)=>some (true,(setP s2.1 y x,s2.2))
   | some (false,s2)=>plL rec x ys s2
   | none=>none
noncomputable def rowOf (R : RP) (x : Int) : List Int:=((R.find? fun r=>decide (r.1 = x)).map (·.2)).getD []
noncomputable def pl (R : RP) : Nat → Int → PS → Option (Bool × PS)
 | 0=>fun _ _=>none
 | n + 1=>fun x s=>plL (pl R n) x (rowOf R x) s
noncomputable def dP (P : List (Int × Int)) : O:=.dct (P.map fun q=>((.inl q.1 : Key),U.d (.int q.2)))
noncomputable def dT (t : List Int) : O:=.lst ((t.map D.int).map U.d)
noncomputable def put (st : Store) (np nt : Nat) (s : PS) : Store:=(st.set np (dP s.1)).set nt (dT s.2)
section
variable {np nt : Nat}
theorem put_np (h : np < st.length) (hne : np ≠ nt) (s : PS) : (put st np nt s)[np]? = some (dP s.1):=by
 unfold put
 rw [List.getElem?_set_ne hne.symm,List.getElem?_set_self h]
theorem put_nt (h : nt < st.length) (s : PS) : (put st np nt s)[nt]? = some (dT s.2):=by
 unfold put
 rw [List.getElem?_set_self (by rw [List.length_set]; exact h)]
theorem put_T (s : PS) (t : List Int) : (put st np nt s).set nt (dT t) = put st np nt (s.1,t):=by
 unfold put
 rw [List.set_set]
theorem put_P (hne : np ≠ nt) (s : PS) (P : List (Int × Int)) : (put st np nt s).set np (dP P) = put st np nt (P,s.2):=by
 unfold put
 rw [List.set_comm _ _ hne.symm,List.set_set]
theorem put_len (s : PS) : (put st np nt s).length = st.length:=by
 unfold put
 rw [List.length_set,List.length_set]
theorem okO_dP (k : Nat) (P : List (Int × Int)) : okO k (dP P) = true:=by
 unfold dP okO
 rw [List.all_eq_true]
 intro q hq
 obtain ⟨p,-,rfl⟩:=List.mem_map.mp hq
 rfl
theorem put_wf (w : WF st) (s : PS) : WF (put st np nt s):=(w.set (okO_dP _ _)).setL _ _
theorem lookK_P (P : List (Int × Int)) (y : Int) : lookK (P.map fun q=>((.inl q.1 : Key),U.d (.int q.2))) (.inl y) = (getP P y).map fun x=>U.d (.int x):=by
 unfold lookK getP
 induction P with
 | nil=>rfl
 | cons p P ih =>
  rw [List.map_cons,List.find?_cons,List.find?_cons]
  by_cases e : p.1 = y
  ·rw [decide_eq_true (by rw [e] : ((.inl p.1 : Key) = .inl y)),decide_eq_true e]; rfl
  ·rw [decide_eq_false (fun z=>e (Sum.inl.inj z) : ¬ ((.inl p.1 : Key) = .inl y)),decide_eq_false e]; exact ih
theorem putU_P (P : List (Int × Int)) (y x : Int) : putU (P.map fun q=>((.inl q.1 : Key),U.d (.int q.2))) (.inl y) (.d (.int x)) = (setP P y x).map fun q=>((.inl q.1 : Key),U.d (.int q.2)):=by
 unfold putU setP
 have e : ((P.map fun q=>((.inl q.1 : Key),U.d (.int q.2))).any fun kv=>decide (kv.1 = (.inl y : Key))) = P.any fun q=>decide (q.1 = y):=by
  rw [List.any_map]
  congr 1
  funext q
  exact decide_eq_decide.mpr ⟨fun z=>Sum.inl.inj z,fun z=>by show (.inl q.1 : Key) = .inl y; rw [z]⟩
 rw [e]
 split
 ·rw [List.map_map,List.map_map]
  refine List.map_congr_left fun q _=>?_
  by_cases h : q.1 = y
  ·simp [Function.comp,h]
  ·simp [Function.comp,h]
 ·rw [List.map_append]; rfl
theorem lookK_R (R : RP) (x : Int) : lookK (R.map fun r=>((.inl r.1 : Key),U.d (rowD r.2))) (.inl x) = ((R.find? fun r=>decide (r.1 = x)).map (·.2)).map fun ys=>U.d (rowD ys):=by
 unfold lookK
 induction R with
 | nil=>rfl
 | cons p P ih =>
  rw [List.map_cons,List.find?_cons,List.find?_cons]
  by_cases e : p.1 = x
  ·rw [decide_eq_true (by rw [e] : ((.inl p.1 : Key) = .inl x)),decide_eq_true e]; rfl
  ·rw [decide_eq_false (fun z=>e (Sum.inl.inj z) : ¬ ((.inl p.1 : Key) = .inl x)),decide_eq_false e]; exact ih
theorem row_ix {R : RP} {x : Int} (hx : x ∈ R.map (·.1)) : oIx (.d (rpD R)) (.d (.int x)) st = some (.d (rowD (rowOf R x))):=by
 have hs : (R.find? fun r=>decide (r.1 = x)).isSome = true:=by
  rw [List.find?_isSome]
  obtain ⟨r,hr,e⟩:=List.mem_map.mp hx
  exact ⟨r,hr,decide_eq_true e⟩
 obtain ⟨r,hr⟩:=Option.isSome_iff_exists.mp hs
 unfold oIx rpD
 simp only [VL.getD,List.map_map,keyD]
 have:=lookK_R R x
 unfold rowOf
 rw [hr] at this ⊢
 exact this
section
variable {r : List U → M U} {R : RP} {x y : Int} {s : PS}
theorem bp_1 (h2 : nt < st.length) (hy : y ∈ s.2) : b_is_placed_1 K a r [some (.d (.int x)),some (.d (rpD R)),some (.ref np),some (.ref nt),some (.d (.int y))] (put st np nt s) = .ok [some (.d (.int x)),some (.d (rpD R)),some (.ref np),some (.ref nt),some (.d (.int y))] .nx (put st np nt s):=by
 have hin:=ls_int (st:=put st np nt s) y (LsU.r (put_nt h2 s))
 rw [decide_eq_true hy] at hin
 generalize rpD R = RD at *
 unfold b_is_placed_1
 simp_all? only [hin]
theorem bp_2 (h1 : np < st.length) (h2 : nt < st.length) (hne : np ≠ nt) (hy : ¬ y ∈ s.2) (ht : s.2.length ≤ 100) (hP : s.1.length ≤ 100) (hg : getP s.1 y = none) : b_is_placed_1 K a r [some (.d (.int x)),some (.d (rpD R)),some (.ref np),some (.ref nt),some (.d (.int y))] (put st np nt s) = .ok [some (.d (.int x)),some (.d (rpD R)),some (.ref np),some (.ref nt),some (.d (.int y))] (.rt (.d (.bl true))) (put st np nt (setP s.1 y x,s.2 ++ [y])):=by
 have hin:=ls_int (st:=put st np nt s) y (LsU.r (put_nt h2 s))
 rw [decide_eq_false hy] at hin
 have hn:=put_nt (np:=np) h2 s
 have hz : ((s.2.map D.int).map U.d).length < sizeLine:=by rw [List.length_map,List.length_map]; exact Nat.lt_of_le_of_lt ht (by decide)
 have hset : (put st np nt s).set nt (.lst ((s.2.map D.int).map U.d ++ [.d (.int y)])) = put st np nt (s.1,s.2 ++ [y]):=by
  have:=put_T (st:=st) (np:=np) (nt:=nt) s (s.2 ++ [y])
  unfold dT at this
  rw [List.map_append,List.map_append] at this
  exact this
 have hp:=put_np h1 hne (s.1,s.2 ++ [y])
 have hz2 : (s.1.map fun q=>((.inl q.1 : Key),U.d (.int q.2))).length < sizeLine:=by rw [List.length_map]; exact Nat.lt_of_le_of_lt hP (by decide)
 have hl:=lookK_P s.1 y
 rw [hg] at hl
 have hu:=putU_P s.1 y x
 have hset2 : (put st np nt (s.1,s.2 ++ [y])).set np (.dct ((setP s.1 y x).map fun q=>((.inl q.1 : Key),U.d (.int q.2)))) = put st np nt (setP s.1 y x,s.2 ++ [y]):=put_P hne _ _
 unfold dT at hn
 unfold dP at hp
 simp only at hp
 generalize (s.2.map D.int).map U.d = TT at *
 generalize (s.1.map fun q=>((.inl q.1 : Key),U.d (.int q.2))) = PP at *
 generalize rpD R = RD at *
 unfold b_is_placed_1
 simp_all? only [hin,mAppend,hn,hz,hset,oNotInD,inDct,hp,hl,hz2,hu,hset2,Option.isSome_none]
end
end
section
variable {np nt : Nat} {r : List U → M U} {R : RP} {x y x' : Int} {s s2 : PS}
theorem bp_r (h1 : np < st.length) (h2 : nt < st.length) (hne : np ≠ nt) (hy : ¬ y ∈ s.2) (ht : s.2.length ≤ 100) (hg : getP s.1 y = some x') (hP2 : s2.1.length ≤ 100) (b : Bool)
  (hr : r [.d (.int x'),.d (rpD R),.ref np,.ref nt] (put st np nt (s.1,s.2 ++ [y])) = .ok (.d (.bl b)) (put st np nt s2)) :
  b_is_placed_1 K a r [some (.d (.int x)),some (.d (rpD R)),some (.ref np),some (.ref nt),some (.d (.int y))] (put st np nt s) = (if b = true then .ok [some (.d (.int x)),some (.d (rpD R)),some (.ref np),some (.ref nt),some (.d (.int y))] (.rt (.d (.bl true))) (put st np nt (setP s2.1 y x,s2.2)) else .ok [some (.d (.int x)),some (.d (rpD R)),some (.ref np),some (.ref nt),some (.d (.int y))] .nx (put st np nt s2)):=by
 have hin:=ls_int (st:=put st np nt s) y (LsU.r (put_nt h2 s))
 rw [decide_eq_false hy] at hin
 have hn:=put_nt (np:=np) h2 s
 have hz : ((s.2.map D.int).map U.d).length < sizeLine:=by rw [List.length_map,List.length_map]; exact Nat.lt_of_le_of_lt ht (by decide)
 have hset : (put st np nt s).set nt (.lst ((s.2.map D.int).map U.d ++ [.d (.int y)])) = put st np nt (s.1,s.2 ++ [y]):=by
  have:=put_T (st:=st) (np:=np) (nt:=nt) s (s.2 ++ [y])
  unfold dT at this
  rw [List.map_append,List.map_append] at this
  exact this
 have hp:=put_np h1 hne (s.1,s.2 ++ [y])
 have hl:=lookK_P s.1 y
 rw [hg,Option.map_some] at hl
 have hp2:=put_np h1 hne s2
 have hz2 : (s2.1.map fun q=>((.inl q.1 : Key),U.d (.int q.2))).length < sizeLine:=by rw [List.length_map]; exact Nat.lt_of_le_of_lt hP2 (by decide)
 have hu:=putU_P s2.1 y x
 have hset2 : (put st np nt s2).set np (.dct ((setP s2.1 y x).map fun q=>((.inl q.1 : Key),U.d (.int q.2)))) = put st np nt (setP s2.1 y x,s2.2):=put_P hne _ _
 unfold dT at hn
 unfold dP at hp hp2
 simp only at hp
 generalize (s.2.map D.int).map U.d = TT at *
 generalize (s.1.map fun q=>((.inl q.1 : Key),U.d (.int q.2))) = PP at *
 generalize (s2.1.map fun q=>((.inl q.1 : Key),U.d (.int q.2))) = PP2 at *
 generalize rpD R = RD at *
 unfold b_is_placed_1
 cases b with
 | true=>simp_all? only [hin,mAppend,hn,hz,hset,oNotInD,inDct,hp,hl,Option.isSome_some,hr,hp2,hz2,hu,hset2]
 | false=>simp_all? only [hin,mAppend,hn,hz,hset,oNotInD,inDct,hp,hl,Option.isSome_some,hr]
/-- what holds of the cells through all calls -/
structure PI (R : RP) (Y : List Int) (s : PS) : Prop where
 tn : s.2.Nodup
 ty : ∀ y ∈ s.2,y ∈ Y
 pn : (s.1.map (·.1)).Nodup
 py : ∀ q ∈ s.1,q.1 ∈ Y
 px : ∀ q ∈ s.1,q.2 ∈ R.map (·.1)
theorem nd_le {xs ys : List Int} (h : xs.Nodup) (hs : ∀ x ∈ xs,x ∈ ys) : xs.length ≤ ys.length:=by
 induction xs generalizing ys with
 | nil=>exact Nat.zero_le _
 | cons x xs ih =>
  rw [List.nodup_cons] at h
  have hx:=hs x List.mem_cons_self
  have:=ih (ys:=ys.erase x) h.2 fun z hz=>(List.mem_erase_of_ne (fun e : z = x=>h.1 (by rw [← e]; exact hz))).mpr (hs z (List.mem_cons_of_mem _ hz))
  rw [List.length_erase_of_mem hx] at this
  have hp:=List.length_pos_of_mem hx
  rw [List.length_cons]
  omega
theorem PI.tl {Y : List Int} (h : PI R Y s) : s.2.length ≤ Y.length:=nd_le h.tn h.ty
theorem PI.pl {Y : List Int} (h : PI R Y s) : s.1.length ≤ Y.length:=by
 have:=nd_le h.pn fun y hy=>by
  obtain ⟨q,hq,rfl⟩:=List.mem_map.mp hy
  exact h.py q hq
 rwa [List.length_map] at this
theorem PI.push {Y : List Int} (h : PI R Y s) (hy : ¬ y ∈ s.2) (hY : y ∈ Y) : PI R Y (s.1,s.2 ++ [y]) :=
 ⟨by rw [List.nodup_append]; exact ⟨h.tn,List.nodup_cons.mpr ⟨by simp,List.nodup_nil⟩,fun a ha b hb e=>hy (by rw [List.mem_singleton.mp hb] at e; exact e ▸ ha)⟩,fun z hz=>by
  rcases List.mem_append.mp hz with hz | hz
  ·exact h.ty z hz
  ·rw [List.mem_singleton.mp hz]; exact hY,h.pn,h.py,h.px⟩
theorem PI.set {Y : List Int} (h : PI R Y s) (hY : y ∈ Y) (hx : x ∈ R.map (·.1)) : PI R Y (setP s.1 y x,s.2):=by
 refine ⟨h.tn,h.ty,?_,fun q hq=>?_,fun q hq=>?_⟩
 ·unfold setP
  split
  ·have : (s.1.map fun q=>if q.1 = y then (q.1,x) else q).map (·.1) = s.1.map (·.1):=by
    rw [List.map_map]
    refine List.map_congr_left fun q _=>?_
    show (if q.1 = y then (q.1,x) else q).1 = q.1
    split <;> rfl
   rw [this]; exact h.pn
  ·rename_i hn
   rw [List.map_append,List.nodup_append]
   refine ⟨h.pn,List.nodup_cons.mpr ⟨by simp,List.nodup_nil⟩,fun a ha b hb e=>?_⟩
   obtain ⟨q,hq,rfl⟩:=List.mem_map.mp ha
   rw [List.map_cons,List.map_nil,List.mem_singleton] at hb
   exact hn (List.any_eq_true.mpr ⟨q,hq,decide_eq_true (e.trans hb)⟩)
 ·unfold setP at hq
  split at hq
  ·obtain ⟨q0,h0,rfl⟩:=List.mem_map.mp hq
   split
   ·exact h.py q0 h0
   ·exact h.py q0 h0
  ·rcases List.mem_append.mp hq with hq | hq
   ·exact h.py q hq
   ·rw [List.mem_singleton.mp hq]; exact hY
 ·unfold setP at hq
  split at hq
  ·obtain ⟨q0,h0,rfl⟩:=List.mem_map.mp hq
   split
   ·exact hx
   ·exact h.px q0 h0
  ·rcases List.mem_append.mp hq with hq | hq
   ·exact h.px q hq
   ·rw [List.mem_singleton.mp hq]; exact hx
theorem getP_mem {P : List (Int × Int)} (h : getP P y = some x) : (y,x) ∈ P:=by
 unfold getP at h
 obtain ⟨q,hq,e⟩:=Option.map_eq_some_iff.mp h
 have h1:=List.find?_some hq
 have h2:=List.mem_of_find?_eq_some hq
 have : q = (y,x):=Prod.ext (of_decide_eq_true h1) e
 exact this ▸ h2
end
/-- the run of is_placed: it ends,and the program does the same -/
theorem ev_pl {np nt : Nat} {R : RP} {Y : List Int} (w : WF st) (h1 : np < st.length) (h2 : nt < st.length) (hne : np ≠ nt) (hY : Y.length ≤ 60) (hRY : ∀ x,∀ y ∈ rowOf R x,y ∈ Y) :
  ∀ (n : Nat) (x : Int) (s : PS),PI R Y s → x ∈ R.map (·.1) → Y.length < n + s.2.length →
   ∃ b s2,pl R n x s = some (b,s2) ∧ PI R Y s2 ∧ s.2.length ≤ s2.2.length ∧ mr_is_placed K a n [.d (.int x),.d (rpD R),.ref np,.ref nt] (put st np nt s) = .ok (.d (.bl b)) (put st np nt s2)
 | 0,x,s,I,_,hl=>by have:=I.tl; omega
 | n + 1,x,s,I,hx,hl=>by
  have loop : ∀ (ys : List Int) (s : PS) (x4 : Option U),(∀ y ∈ ys,y ∈ Y) → PI R Y s → Y.length < n + 1 + s.2.length → ∃ b s2 e',plL (pl R n) x ys s = some (b,s2) ∧ PI R Y s2 ∧ s.2.length ≤ s2.2.length ∧
    loopL (tgN 4) (b_is_placed_1 K a (mr_is_placed K a n)) ((ys.map D.int).map U.d) [some (.d (.int x)),some (.d (rpD R)),some (.ref np),some (.ref nt),x4] (put st np nt s) = .ok e' (if b = true then .rt (.d (.bl true)) else .nx) (put st np nt s2):=by
   intro ys
   induction ys with
   | nil=>intro s x4 _ I _; exact ⟨false,s,_,rfl,I,Nat.le_refl _,rfl⟩
   | cons y ys ih =>
    intro s x4 hys I hl
    have hyY:=hys y List.mem_cons_self
    have hys' : ∀ z ∈ ys,z ∈ Y:=fun z hz=>hys z (List.mem_cons_of_mem _ hz)
    have ht : s.2.length ≤ 100:=Nat.le_trans I.tl (by omega)
    have hP : s.1.length ≤ 100:=Nat.le_trans I.pl (by omega)
    by_cases hy : y ∈ s.2
    ·obtain ⟨b,s2,e',q1,q2,q3,q4⟩:=ih s (some (.d (.int y))) hys' I hl
     have eb:=bp_1 (K:=K) (a:=a) (st:=st) (np:=np) (nt:=nt) (r:=mr_is_placed K a n) (R:=R) (x:=x) (y:=y) (s:=s) h2 hy
     refine ⟨b,s2,e',?_,q2,q3,?_⟩
     ·unfold plL; rw [if_pos hy]; exact q1
     ·rw [List.map_cons,List.map_cons]
      unfold loopL
      simp only [tgN,List.set_cons_zero,List.set_cons_succ,eb,q4]
    ·have I1:=I.push hy hyY
     cases hg : getP s.1 y with
     | none =>
      have eb:=bp_2 (K:=K) (a:=a) (st:=st) (np:=np) (nt:=nt) (r:=mr_is_placed K a n) (R:=R) (x:=x) (y:=y) (s:=s) h1 h2 hne hy ht hP hg
      refine ⟨true,(setP s.1 y x,s.2 ++ [y]),[some (.d (.int x)),some (.d (rpD R)),some (.ref np),some (.ref nt),some (.d (.int y))],?_,I1.set hyY hx,by rw [List.length_append]; omega,?_⟩
      ·unfold plL; rw [if_neg hy,hg]
      ·rw [List.map_cons,List.map_cons,if_pos rfl]
       unfold loopL
       simp only [tgN,List.set_cons_zero,List.set_cons_succ,eb]
     | some x' =>
      have hx' : x' ∈ R.map (·.1):=I.px (y,x') (getP_mem hg)
      obtain ⟨b,s2,r1,r2,r3,r4⟩:=ev_pl w h1 h2 hne hY hRY n x' (s.1,s.2 ++ [y]) I1 hx' (by rw [List.length_append,List.length_singleton]; omega)
      rw [List.length_append,List.length_singleton] at r3
      have hP2 : s2.1.length ≤ 100:=Nat.le_trans r2.pl (by omega)
      have eb:=bp_r (K:=K) (a:=a) (st:=st) (np:=np) (nt:=nt) (r:=mr_is_placed K a n) (R:=R) (x:=x) (y:=y) (x':=x') (s:=s) (s2:=s2) h1 h2 hne hy ht hg hP2 b r4
      cases b with
      | true =>
       rw [if_pos rfl] at eb
       refine ⟨true,(setP s2.1 y x,s2.2),[some (.d (.int x)),some (.d (rpD R)),some (.ref np),some (.ref nt),some (.d (.int y))],?_,r2.set hyY hx,by show s.2.length ≤ s2.2.length; omega,?_⟩
       ·unfold plL; rw [if_neg hy,hg]; simp only [r1]
       ·rw [List.map_cons,List.map_cons,if_pos rfl]
        unfold loopL
        simp only [tgN,List.set_cons_zero,List.set_cons_succ,eb]
      | false =>
       rw [if_neg (by decide)] at eb
       obtain ⟨b,s3,e',q1,q2,q3,q4⟩:=ih s2 (some (.d (.int y))) hys' r2 (by omega)
       refine ⟨b,s3,e',?_,q2,by omega,?_⟩
       ·unfold plL; rw [if_neg hy,hg]; simp only [r1]; exact q1
       ·rw [List.map_cons,List.map_cons]
        unfold loopL
        simp only [tgN,List.set_cons_zero,List.set_cons_succ,eb,q4]
  obtain ⟨b,s2,e',q1,q2,q3,q4⟩:=loop (rowOf R x) s none (hRY x) I hl
  refine ⟨b,s2,q1,q2,q3,?_⟩
  have hix:=row_ix (st:=put st np nt s) hx
  have sA : sFor (fIter (f2 oIx (vVar 1) (vVar 0))) (tgN 4) (b_is_placed_1 K a (mr_is_placed K a n)) [some (.d (.int x)),some (.d (rpD R)),some (.ref np),some (.ref nt),none] (put st np nt s) = .ok e' (if b = true then .rt (.d (.bl true)) else .nx) (put st np nt s2):=by
   rw [sFor_lst (us:=((rowOf R x).map D.int).map U.d) (st1:=put st np nt s) (by
    have hv0 : vVar 0 [some (.d (.int x)),some (.d (rpD R)),some (.ref np),some (.ref nt),none] (put st np nt s) = .ok (.d (.int x)) (put st np nt s):=rfl
    have hv1 : vVar 1 [some (.d (.int x)),some (.d (rpD R)),some (.ref np),some (.ref nt),none] (put st np nt s) = .ok (.d (rpD R)) (put st np nt s):=rfl
    unfold fIter f2 bnd
    simp only [bnd,hv0,hv1,hix,VL.R.of]
    rfl)]
   exact q4
  have hw : wCut (put st np nt s).length (.d (.bl b)) (put st np nt s2) = .ok (.d (.bl b)) (put st np nt s2):=wCut_len (put_wf w s2) (by rw [put_len,put_len]) _
  unfold mr_is_placed
  show fnM 5 (g_is_placed K a (mr_is_placed K a n)) wCut _ _ = _
  unfold g_is_placed
  cases b with
  | true =>
   rw [if_pos rfl] at sA
   have sB : ∀ G0 : G,sSeq (sFor (fIter (f2 oIx (vVar 1) (vVar 0))) (tgN 4) (b_is_placed_1 K a (mr_is_placed K a n))) G0 [some (.d (.int x)),some (.d (rpD R)),some (.ref np),some (.ref nt),none] (put st np nt s) = .ok e' (.rt (.d (.bl true))) (put st np nt s2):=fun G0=>by
    unfold sSeq
    rw [sA]
   simp only [fnM,List.map_cons,List.map_nil,List.length_cons,List.length_nil,List.replicate_succ,List.replicate_zero,List.cons_append,List.nil_append,Nat.reduceAdd,Nat.reduceSub,sB,hw]
  | false =>
   rw [if_neg (by decide)] at sA
   have sR : sRet (vC (.bl false)) e' (put st np nt s2) = .ok e' (.rt (.d (.bl false))) (put st np nt s2):=rfl
   simp only [fnM,List.map_cons,List.map_nil,List.length_cons,List.length_nil,List.replicate_succ,List.replicate_zero,List.cons_append,List.nil_append,Nat.reduceAdd,Nat.reduceSub,seq_of sA,sR,hw]
noncomputable def runP (R : RP) (n : Nat) : List Int → List (Int × Int) → Option (List (Int × Int))
 | [],P=>some P
 | x :: xs,P=>match pl R n x (P,[]) with
  | some (_,s)=>runP R n xs s.1
  | none=>none
theorem put_app {P P' : List (Int × Int)} {t' : List Int} {gs : List O} : put (st ++ (dP P :: gs) ++ [O.lst []]) st.length (st ++ (dP P :: gs)).length (P',t') = st ++ (dP P' :: (gs ++ [dT t'])):=by
 unfold put
 rw [List.append_assoc,List.set_append_right _ _ (Nat.le_refl _),Nat.sub_self,List.set_append_right _ _ (by rw [List.length_append]; omega),List.length_append,Nat.add_sub_cancel_left]
 show st ++ ((dP P' :: (gs ++ [O.lst []])).set ((dP P :: gs).length) (dT t')) = _
 rw [List.length_cons,List.set_cons_succ,List.set_append_right _ _ (Nat.le_refl _),Nat.sub_self]
 rfl
theorem put_id {P : List (Int × Int)} {gs : List O} : put (st ++ (dP P :: gs) ++ [O.lst []]) st.length (st ++ (dP P :: gs)).length (P,[]) = st ++ (dP P :: gs) ++ [O.lst []]:=by
 rw [put_app,List.append_assoc]
 rfl
section
variable {x0 x4 : Option U} {R : RP} {Y : List Int}
theorem ev_mloop (hY : Y.length ≤ 15) (hRY : ∀ x,∀ y ∈ rowOf R x,y ∈ Y) : ∀ (xs : List Int) (gs : List O) (P : List (Int × Int)) (x3 : Option U),WF (st ++ (dP P :: gs)) → PI R Y (P,[]) → (∀ x ∈ xs,x ∈ R.map (·.1)) →
  ∃ P' gs' y3,loopL (tgN 3) (b_matching_1 K a) ((xs.map D.int).map U.d) [x0,some (.d (rpD R)),some (.ref st.length),x3,x4] (st ++ (dP P :: gs)) = .ok [x0,some (.d (rpD R)),some (.ref st.length),y3,x4] .nx (st ++ (dP P' :: gs')) ∧ WF (st ++ (dP P' :: gs')) ∧ PI R Y (P',[]) ∧ runP R 16 xs P = some P'
 | [],gs,P,x3,w,I,_=>⟨P,gs,x3,rfl,w,I,rfl⟩
 | x :: xs,gs,P,x3,w,I,hx=>by
  have w1 : WF (st ++ (dP P :: gs) ++ [O.lst []]):=w.pushL []
  have hne : st.length ≠ (st ++ (dP P :: gs)).length:=by rw [List.length_append,List.length_cons]; omega
  obtain ⟨b,s2,q1,q2,-,q4⟩:=ev_pl (K:=K) (a:=a) (np:=st.length) (nt:=(st ++ (dP P :: gs)).length) (R:=R) (Y:=Y) w1 (by rw [List.length_append,List.length_append,List.length_cons]; omega) (by rw [List.length_append]; simp) hne (by omega) hRY 16 x (P,[]) I (hx x List.mem_cons_self) (by simp; omega)
  rw [put_id] at q4
  have w2:=put_wf w1 (np:=st.length) (nt:=(st ++ (dP P :: gs)).length) s2
  rw [show s2 = (s2.1,s2.2) from rfl,put_app] at q4 w2
  have I2 : PI R Y (s2.1,[]):=⟨List.nodup_nil,nofun,q2.pn,q2.py,q2.px⟩
  obtain ⟨P',gs',y3,e,w3,I3,r⟩:=ev_mloop hY hRY xs (gs ++ [dT s2.2]) s2.1 (some (.d (.int x))) w2 I2 fun z hz=>hx z (List.mem_cons_of_mem _ hz)
  refine ⟨P',gs',y3,?_,w3,I3,?_⟩
  ·have eb : b_matching_1 K a [x0,some (.d (rpD R)),some (.ref st.length),some (.d (.int x)),x4] (st ++ (dP P :: gs)) = .ok [x0,some (.d (rpD R)),some (.ref st.length),some (.d (.int x)),x4] .nx (st ++ (dP s2.1 :: (gs ++ [dT s2.2]))):=by
    have q4' : m_is_placed K a [.d (.int x),.d (rpD R),.ref st.length,.ref (st ++ (dP P :: gs)).length] (st ++ (dP P :: gs) ++ [O.lst []]) = .ok (.d (.bl b)) (st ++ (dP s2.1 :: (gs ++ [dT s2.2]))):=q4
    generalize rpD R = RD at *
    generalize hS : st ++ (dP P :: gs) = S at *
    generalize st ++ (dP s2.1 :: (gs ++ [dT s2.2])) = S2 at *
    unfold b_matching_1
    simp_all? only [q4']
   rw [List.map_cons,List.map_cons]
   unfold loopL
   simp only [tgN,List.set_cons_zero,List.set_cons_succ,eb,e]
  ·unfold runP
   rw [q1]
   exact r
end
noncomputable def prT (p : Int × Int) : D:=.tup [.int p.1,.int p.2]
noncomputable def leP2 (p q : Int × Int) : Bool:=!(ltD (prT q) (prT p))
noncomputable def swp (P : List (Int × Int)) : List (Int × Int):=P.map fun q=>(q.2,q.1)
theorem sort_prs {ms : List (Int × Int)} (hl : ms.length < 64) : oSortP [.d (.lst (cD ms))] st = some (.d (.lst (cD (ms.mergeSort leP2)))):=by
 have hk : ∀ p : Int × Int,keysD (prT p) = some [.inl p.1,.inl p.2]:=fun _=>rfl
 have ha : allM toP (cD ms) = some (ms.map fun p=>PyData.tuple [.int p.1,.int p.2]):=by
  clear hl
  unfold cD
  induction ms with
  | nil=>rfl
  | cons p ms ih=>rw [List.map_cons,allM,ih]; rfl
 have h1 : ((ms.map fun p=>PyData.tuple [.int p.1,.int p.2]).all fun p=>(ms.map fun p=>PyData.tuple [.int p.1,.int p.2]).all fun q=>PySem.W.alike p q) = true:=by
  rw [List.all_eq_true]
  intro p hp
  rw [List.all_eq_true]
  intro q hq
  obtain ⟨p',-,rfl⟩:=List.mem_map.mp hp
  obtain ⟨q',-,rfl⟩:=List.mem_map.mp hq
  rfl
 have h2 : (ms.map fun p=>PyData.tuple [.int p.1,.int p.2]).all isTupP = true:=by
  rw [List.all_eq_true]
  intro p hp
  obtain ⟨p',-,rfl⟩:=List.mem_map.mp hp
  rfl
 have h3 : ((ms.map fun p=>PyData.tuple [.int p.1,.int p.2]).all fun p=>decide (p.depth ≤ 60)) = true:=by
  rw [List.all_eq_true]
  intro p hp
  obtain ⟨p',-,rfl⟩:=List.mem_map.mp hp
  exact decide_eq_true (show PyData.depth (.tuple [.int p'.1,.int p'.2]) ≤ 60 by simp [PyData.depth,PyData.depthAll])
 have hz : ((ms.map fun p=>PyData.tuple [.int p.1,.int p.2]).zip (cD ms)) = ms.map fun p=>(PyData.tuple [.int p.1,.int p.2],prT p):=by
  unfold cD
  rw [List.zip_map']
  rfl
 have hs:=PySem.W.sort_maps (r:=leP2) (s:=leP) (fun p : Int × Int=>(PyData.tuple [.int p.1,.int p.2],prT p)) (l:=ms) fun p _ q _=>by
  unfold leP2 leP
  have:=lt_keysD (j:=[.inl q.1,.inl q.2]) (k:=[.inl p.1,.inl p.2]) rfl
  show (!ltK [.inl q.1,.inl q.2] [.inl p.1,.inl p.2]) = !_
  rw [← this]
  rfl
 have hlen : (cD ms).length < 1000:=by rw [cD_len]; omega
 have he : ((ms.map fun p=>(PyData.tuple [.int p.1,.int p.2],prT p)).mergeSort leP).map (·.2) = cD (ms.mergeSort leP2):=by
  rw [← hs,List.map_map]
  rfl
 unfold oSortP sortP
 simp only [getL,pureL_map,ha,hz]
 rw [if_pos hlen,if_pos ⟨h1,.inl h2,h3⟩,he]
 rfl
theorem dks_P (P : List (Int × Int)) : dKs (P.map fun q=>((.inl q.1 : Key),U.d (.int q.2))) = some (P.map fun q=>((.inl q.1 : Key),D.int q.2)):=by
 unfold dKs
 induction P with
 | nil=>rfl
 | cons p P ih=>rw [List.map_cons,allM,ih]; rfl
theorem ev_mcomp {x0 x3 x4 : Option U} {RD : D} {P : List (Int × Int)} {gs : List O} (w : WF (st ++ (dP P :: gs))) (hl : P.length ≤ 60) : ∃ gs',c_matching_1 K a [x0,some (.d RD),some (.ref st.length),x3,x4] (st ++ (dP P :: gs)) = .ok (.d (.lst (cD (swp P)))) (st ++ gs'):=by
 have hn : (st ++ (dP P :: gs))[st.length]? = some (dP P):=by rw [List.getElem?_append_right (Nat.le_refl _),Nat.sub_self]; rfl
 obtain ⟨S2,hS2⟩ : ∃ S2,S2 = (st ++ (dP P :: gs)).set st.length (.lck (P.map fun q=>((.inl q.1 : Key),U.d (.int q.2)))):=⟨_,rfl⟩
 have w2 : WF S2:=by
  rw [hS2]
  refine w.set ?_
  unfold okO
  rw [List.all_eq_true]
  intro q hq
  obtain ⟨p,-,rfl⟩:=List.mem_map.mp hq
  rfl
 have hi : fIkC (vVar 2) [x0,some (.d RD),some (.ref st.length),x3,x4] (st ++ (dP P :: gs)) = .ok (.lst (P.map fun q=>U.d (.tup [.int q.1,.int q.2]))) S2:=by
  have hv : vVar 2 [x0,some (.d RD),some (.ref st.length),x3,x4] (st ++ (dP P :: gs)) = .ok (.ref st.length) (st ++ (dP P :: gs)):=rfl
  unfold fIkC bnd
  rw [hv]
  simp only
  have hn' : (st ++ (dP P :: gs))[st.length]? = some (.dct (P.map fun q=>((.inl q.1 : Key),U.d (.int q.2)))):=hn
  unfold itemsCB
  simp only [hn',dks_P]
  rw [← hS2]
  unfold kItems
  rw [List.map_map]
  rfl
 refine ⟨S2.drop st.length,?_⟩
 have hsplit : st ++ S2.drop st.length = S2:=by
  have ht : S2.take st.length = st:=by
   rw [hS2,List.set_append_right _ _ (Nat.le_refl _),Nat.sub_self,List.take_left']
   rfl
  calc st ++ S2.drop st.length = S2.take st.length ++ S2.drop st.length:=by rw [ht]
   _ = S2:=List.take_append_drop _ _
 rw [hsplit]
 unfold c_matching_1
 apply eq_of_wp
 refine wp_lcS (f:=fun q : Int × Int=>U.d (.tup [.int q.1,.int q.2])) (st1:=S2) P (fun i acc s=>s = S2 ∧ acc = (P.take i).map fun q=>prT (q.2,q.1)) hi (Nat.le_trans hl (by decide)) ⟨rfl,by rw [List.take_zero]; rfl⟩ (fun i q acc s hq _ _ hI=>?_) (fun acc s _ hI=>?_)
 ·obtain ⟨rfl,rfl⟩:=hI
  unfold LcS
  simp_all only [wipeE,tYesB]
  refine ⟨_,_,rfl,rfl,rfl,rfl,?_⟩
  rw [List.take_add_one,hq,List.map_append]
  rfl
 ·obtain ⟨rfl,rfl⟩:=hI
  refine ⟨w2,?_,rfl⟩
  rw [List.take_length]
  unfold swp cD
  rw [List.map_map]
  rfl
theorem sort_R {R : RP} (hl : R.length < 64) : oSortDI [.d (rpD R)] st = some (.d (.lst (((R.map (·.1)).mergeSort fun a b=>decide (a ≤ b)).map D.int))):=by
 have hk : intKs (R.map fun r=>((.inl r.1 : Key),U.d (rowD r.2))) = some (R.map (·.1)):=by
  clear hl
  unfold intKs
  induction R with
  | nil=>rfl
  | cons p R ih=>rw [List.map_cons,allM,ih]; rfl
 unfold oSortDI rpD
 simp only [VL.getD,List.map_map]
 rw [show ((fun kv : Key × D=>(kv.1,U.d kv.2)) ∘ fun r : Int × List Int=>((.inl r.1 : Key),rowD r.2)) = fun r : Int × List Int=>((.inl r.1 : Key),U.d (rowD r.2)) from rfl,hk]
 simp only
 rw [if_pos (by rw [List.length_map]; exact hl)]
theorem fB_1 {g : P3} {f : F U} {env : VEnv} {st s1 s2 : Store} {u v : U} (h1 : f env st = .ok u s1) (h2 : g [u] s1 = some (v,s2)) : fB g (fCons f fNil) env st = .ok v s2:=by
 simp only [fB,bnd,fCons,h1,fNil,fPure,h2,R.of2]
theorem pu_1 {g : List U → Store → Option U} {us : List U} {st : Store} {v : U} (h : g us st = some v) : pu g us st = some (v,st):=by
 unfold pu
 rw [h]
 rfl
theorem nd_leG {α : Type} [DecidableEq α] {xs ys : List α} (h : xs.Nodup) (hs : ∀ x ∈ xs,x ∈ ys) : xs.length ≤ ys.length:=by
 induction xs generalizing ys with
 | nil=>exact Nat.zero_le _
 | cons x xs ih =>
  rw [List.nodup_cons] at h
  have hx:=hs x List.mem_cons_self
  have:=ih (ys:=ys.erase x) h.2 fun z hz=>(List.mem_erase_of_ne fun e=>h.1 (by rw [← e]; exact hz)).mpr (hs z (List.mem_cons_of_mem _ hz))
  rw [List.length_erase_of_mem hx] at this
  have hp:=List.length_pos_of_mem hx
  rw [List.length_cons]
  omega
/-- what matching gives: the run,its pairs in order -/
theorem ev_matching (w : WF st) {cs : List (Int × Int)} (hl : cs.length ≤ 160) {Y : List Int} (hY : Y.length ≤ 15) (hcY : ∀ p ∈ cs,p.2 ∈ Y ∧ p.1 ∈ Y) :
  ∃ P,runP (rightsP cs) 16 (((rightsP cs).map (·.1)).mergeSort fun a b=>decide (a ≤ b)) [] = some P ∧ PI (rightsP cs) Y (P,[]) ∧ m_matching K a [.d (.lst (cD cs))] st = .ok (.d (.tup (cD ((swp P).mergeSort leP2)))) st:=by
 obtain ⟨k1,k2,k3⟩:=rights_facts cs
 have hrow : ∀ x,∀ y ∈ rowOf (rightsP cs) x,y ∈ Y:=fun x y hy=>by
  unfold rowOf at hy
  cases hf : (rightsP cs).find? fun r=>decide (r.1 = x) with
  | none=>rw [hf] at hy; cases hy
  | some r =>
   rw [hf] at hy
   have h1 : r.1 = x:=by simpa using List.find?_some hf
   have h2:=List.mem_of_find?_eq_some hf
   exact (hcY (x,y) ((k3 x y).mp ⟨r.2,by rw [← h1]; exact h2,hy⟩)).1
 have hRl : (rightsP cs).length ≤ 60:=by
  have:=nd_leG k1 (ys:=Y) fun x hx=>let ⟨y,hy⟩:=(k2 x).mp hx; (hcY (x,y) hy).2
  rw [List.length_map] at this
  omega
 have e1:=ev_rights (K:=K) (a:=a) w hl
 have w1 : WF (st ++ [dP []]):=w.push (okO_dP _ _)
 obtain ⟨P,gs,y3,e2,w2,I,r⟩:=ev_mloop (K:=K) (a:=a) (st:=st) (x0:=some (.d (.lst (cD cs)))) (x4:=none) (R:=rightsP cs) (Y:=Y) hY hrow (((rightsP cs).map (·.1)).mergeSort fun a b=>decide (a ≤ b)) [] [] none w1 ⟨List.nodup_nil,nofun,List.nodup_nil,nofun,nofun⟩ fun x hx=>(List.mergeSort_perm _ _).mem_iff.mp hx
 have hP : P.length ≤ 15:=Nat.le_trans I.pl hY
 obtain ⟨gs',e3⟩:=ev_mcomp (K:=K) (a:=a) (x0:=some (.d (.lst (cD cs)))) (x3:=y3) (x4:=none) (RD:=rpD (rightsP cs)) w2 (by omega)
 have e4:=sort_prs (st:=st ++ gs') (ms:=swp P) (by unfold swp; rw [List.length_map]; omega)
 have e5:=sort_R (st:=st ++ [dP []]) (R:=rightsP cs) (by omega)
 refine ⟨P,r,I,?_⟩
 have sA : sPar 1 2 (fCons (fCall 1 0 gPos (m_rights_of K a) (fCW (fCons (vVar 0) fNil) fNil)) (fCons fDnew fNil)) [some (.d (.lst (cD cs))),none,none,none,none] st = .ok [some (.d (.lst (cD cs))),some (.d (rpD (rightsP cs))),some (.ref st.length),none,none] .nx (st ++ [dP []]):=by
  generalize rpD (rightsP cs) = RD at *
  generalize cD cs = CS at *
  simp_all? only [e1,fDnew]
  rfl
 have sB : sFor (fIter (fB (pu oSortDI) (fCons (vVar 1) fNil))) (tgN 3) (b_matching_1 K a) [some (.d (.lst (cD cs))),some (.d (rpD (rightsP cs))),some (.ref st.length),none,none] (st ++ [dP []]) = .ok [some (.d (.lst (cD cs))),some (.d (rpD (rightsP cs))),some (.ref st.length),y3,none] .nx (st ++ (dP P :: gs)):=by
  rw [sFor_lst (us:=((((rightsP cs).map (·.1)).mergeSort fun a b=>decide (a ≤ b)).map D.int).map U.d) (st1:=st ++ [dP []]) (by
   generalize ((((rightsP cs).map (·.1)).mergeSort fun a b=>decide (a ≤ b)).map D.int) = XS at *
   generalize rpD (rightsP cs) = RD at *
   generalize cD cs = CS at *
   simp_all? only [e5,itV])]
  exact e2
 have hw : wFrz st.length (.d (.tup (cD ((swp P).mergeSort leP2)))) (st ++ gs') = .ok (.d (.tup (cD ((swp P).mergeSort leP2)))) st:=by
  have:=w.cutA gs'
  unfold wFrz
  simp only [frz_dd,this]
 have sC : sRet (fB (pu oTuple) (fCons (fB (pu oSortP) (fCons (c_matching_1 K a) fNil)) fNil)) [some (.d (.lst (cD cs))),some (.d (rpD (rightsP cs))),some (.ref st.length),y3,none] (st ++ (dP P :: gs)) = .ok [some (.d (.lst (cD cs))),some (.d (rpD (rightsP cs))),some (.ref st.length),y3,none] (.rt (.d (.tup (cD ((swp P).mergeSort leP2))))) (st ++ gs'):=by
  have h1:=fB_1 (g:=pu oSortP) e3 (pu_1 e4)
  have ht : oTuple [.d (.lst (cD ((swp P).mergeSort leP2)))] (st ++ gs') = some (.d (.tup (cD ((swp P).mergeSort leP2)))):=by
   unfold oTuple
   simp only [getL,pureL_map,Option.map_some]
  have h2:=fB_1 (g:=pu oTuple) h1 (pu_1 ht)
  unfold sRet bndS
  rw [h2]
 unfold m_matching g_matching
 simp only [fnM,List.map_cons,List.map_nil,List.length_cons,List.length_nil,List.replicate_succ,List.replicate_zero,List.cons_append,List.nil_append,Nat.reduceAdd,Nat.reduceSub,seq_of sA,seq_of sB,sC,hw]
theorem getP_set (P : List (Int × Int)) (y x z : Int) : getP (setP P y x) z = if z = y then some x else getP P z:=by
 unfold getP setP
 split
 ·rename_i h
  induction P with
  | nil=>cases h
  | cons p P ih =>
   rw [List.map_cons,List.find?_cons,List.find?_cons]
   by_cases e : p.1 = y
   ·rw [if_pos e]
    by_cases hz : z = y
    ·rw [if_pos hz,decide_eq_true (show p.1 = z by rw [e,hz])]; rfl
    ·rw [if_neg hz,decide_eq_false (show ¬ p.1 = z by rw [e]; exact fun q=>hz q.symm)]
     have : ((P.map fun q=>if q.1 = y then (q.1,x) else q).find? fun q=>decide (q.1 = z)).map (·.2) = (P.find? fun q=>decide (q.1 = z)).map (·.2):=by
      clear ih h
      induction P with
      | nil=>rfl
      | cons q P ih2 =>
       rw [List.map_cons,List.find?_cons,List.find?_cons]
       by_cases eq : q.1 = y
       ·rw [if_pos eq,decide_eq_false (show ¬ q.1 = z by rw [eq]; exact fun q=>hz q.symm)]
        exact ih2
       ·rw [if_neg eq]
        by_cases qz : q.1 = z
        ·rw [decide_eq_true qz]
        ·rw [decide_eq_false qz]; exact ih2
     exact this
   ·rw [if_neg e]
    rw [List.any_cons,decide_eq_false e,Bool.false_or] at h
    by_cases pz : p.1 = z
    ·rw [decide_eq_true pz,if_neg (fun q=>e (pz.trans q))]
    ·rw [decide_eq_false pz]; exact ih h
 ·rename_i h
  rw [List.find?_append]
  by_cases hz : z = y
  ·subst hz
   have : (P.find? fun q=>decide (q.1 = z)) = none:=List.find?_eq_none.mpr fun q hq e=>h (List.any_eq_true.mpr ⟨q,hq,e⟩)
   rw [this,if_pos rfl]
   simp
  ·rw [if_neg hz]
   have : ([(y,x)].find? fun q=>decide (q.1 = z)) = none:=by
    rw [List.find?_cons,decide_eq_false (fun q=>hz q.symm)]; rfl
   rw [this]
   simp
noncomputable def InjU (f : Int → Option Int) (t : List Int) : Prop:=∀ y1 y2 x0,y1 ∉ t → y2 ∉ t → f y1 = some x0 → f y2 = some x0 → y1 = y2
noncomputable def NoneU (f : Int → Option Int) (t : List Int) (x : Int) : Prop:=∀ y,y ∉ t → f y ≠ some x
structure LSp (R : RP) (x : Int) (ys : List Int) (s : PS) (b : Bool) (s2 : PS) : Prop where
 sub : ∀ y ∈ s.2,y ∈ s2.2
 keep : ∀ y ∈ s.2,getP s2.1 y = getP s.1 y
 edge : (∀ y x0,getP s.1 y = some x0 → y ∈ rowOf R x0) → ∀ y x0,getP s2.1 y = some x0 → y ∈ rowOf R x0
 dom : ∀ y x0,getP s.1 y = some x0 → ∃ x1,getP s2.1 y = some x1
 fail : b = false → s2.1 = s.1 ∧ (∀ y ∈ ys,y ∈ s2.2) ∧ ∀ y ∈ s2.2,y ∉ s.2 → ∃ x',getP s.1 y = some x' ∧ ∀ y' ∈ rowOf R x',y' ∈ s2.2
 succ : b = true → InjU (getP s2.1) s.2 ∧ ∀ x0,(∃ y,y ∉ s.2 ∧ getP s2.1 y = some x0) ↔ x0 = x ∨ ∃ y,y ∉ s.2 ∧ getP s.1 y = some x0
 cl : ∀ U : List Int,(∀ y ∈ U,∃ x',getP s.1 y = some x' ∧ ∀ y' ∈ rowOf R x',y' ∈ U) → (∀ y ∈ U,getP s2.1 y = getP s.1 y) ∧ ((∀ y ∈ ys,y ∈ U) → b = false)
theorem pl_sp (R : RP) : ∀ (n : Nat) (x : Int) (s : PS) (b : Bool) (s2 : PS),pl R n x s = some (b,s2) → InjU (getP s.1) s.2 → NoneU (getP s.1) s.2 x → LSp R x (rowOf R x) s b s2
 | 0,_,_,_,_,h,_,_=>by cases h
 | n + 1,x,s,b,s2,h,hi,hn=>by
  have loop : ∀ (ys : List Int) (s : PS) (b : Bool) (s2 : PS),(∀ y ∈ ys,y ∈ rowOf R x) → plL (pl R n) x ys s = some (b,s2) → InjU (getP s.1) s.2 → NoneU (getP s.1) s.2 x → LSp R x ys s b s2:=by
   intro ys
   induction ys with
   | nil =>
    intro s b s2 _ h hi hn
    cases h
    exact ⟨fun _ h=>h,fun _ _=>rfl,fun h=>h,fun y x0 h=>⟨x0,h⟩,fun _=>⟨rfl,nofun,fun y h1 h2=>absurd h1 h2⟩,fun z=>(by cases z),fun U _=>⟨fun _ _=>rfl,fun _=>rfl⟩⟩
   | cons y ys ih =>
    intro s b s2 hys h hi hn
    have hyR:=hys y List.mem_cons_self
    have hys' : ∀ z ∈ ys,z ∈ rowOf R x:=fun z hz=>hys z (List.mem_cons_of_mem _ hz)
    unfold plL at h
    by_cases hy : y ∈ s.2
    ·rw [if_pos hy] at h
     have S:=ih s b s2 hys' h hi hn
     refine ⟨S.sub,S.keep,S.edge,S.dom,fun hb=>?_,S.succ,fun U hU=>⟨(S.cl U hU).1,fun hz=>(S.cl U hU).2 fun z q=>hz z (List.mem_cons_of_mem _ q)⟩⟩
     obtain ⟨f1,f2,f3⟩:=S.fail hb
     refine ⟨f1,fun z hz=>?_,f3⟩
     rcases List.mem_cons.mp hz with rfl | hz
     ·exact S.sub z hy
     ·exact f2 z hz
    ·rw [if_neg hy] at h
     cases hg : getP s.1 y with
     | none =>
      rw [hg] at h
      cases h
      have gs : ∀ z,getP (setP s.1 y x) z = if z = y then some x else getP s.1 z:=fun z=>getP_set _ _ _ _
      refine ⟨fun z hz=>List.mem_append_left _ hz,fun z hz=>?_,fun he z x0 hz=>?_,fun z x0 hz=>?_,fun z=>(by cases z),fun _=>⟨fun y1 y2 x0 a1 a2 b1 b2=>?_,fun x0=>⟨?_,?_⟩⟩,fun U hU=>⟨fun z hz=>?_,fun hz=>?_⟩⟩
      ·rw [gs,if_neg (fun e : z = y=>hy (by rw [← e]; exact hz))]
      ·rw [gs] at hz
       split at hz
       ·rename_i e; cases hz; rw [e]; exact hyR
       ·exact he z x0 hz
      ·rw [gs]
       split
       ·exact ⟨x,rfl⟩
       ·exact ⟨x0,hz⟩
      ·rw [gs] at b1 b2
       split at b1
       ·rename_i e1
        split at b2
        ·rename_i e2; rw [e1,e2]
        ·cases b1; exact absurd b2 (hn y2 a2)
       ·split at b2
        ·cases b2; exact absurd b1 (hn y1 a1)
        ·exact hi y1 y2 x0 a1 a2 b1 b2
      ·rintro ⟨z,z1,z2⟩
       rw [gs] at z2
       split at z2
       ·cases z2; exact .inl rfl
       ·exact .inr ⟨z,z1,z2⟩
      ·rintro (rfl | ⟨z,z1,z2⟩)
       ·exact ⟨y,hy,by rw [gs,if_pos rfl]⟩
       ·refine ⟨z,z1,?_⟩
        rw [gs,if_neg (fun e=>by rw [e,hg] at z2; cases z2)]
        exact z2
      ·rw [gs,if_neg]
       rintro rfl
       obtain ⟨x',q,-⟩:=hU z hz
       rw [hg] at q; cases q
      ·obtain ⟨x',q,-⟩:=hU y (hz y List.mem_cons_self)
       rw [hg] at q; cases q
     | some x' =>
      rw [hg] at h
      simp only at h
      have hi1 : InjU (getP s.1) (s.2 ++ [y]):=fun y1 y2 x0 a1 a2=>hi y1 y2 x0 (fun z=>a1 (List.mem_append_left _ z)) (fun z=>a2 (List.mem_append_left _ z))
      have hn1 : NoneU (getP s.1) (s.2 ++ [y]) x':=fun z hz e=>by
       have:=hi z y x' (fun q=>hz (List.mem_append_left _ q)) hy e hg
       exact hz (by rw [this]; exact List.mem_append_right _ (List.mem_singleton.mpr rfl))
      have hxx : x ≠ x':=fun e=>hn y hy (by rw [e]; exact hg)
      cases hr : pl R n x' (s.1,s.2 ++ [y]) with
      | none=>rw [hr] at h; cases h
      | some bs =>
       obtain ⟨b1,s1⟩:=bs
       rw [hr] at h
       have S1:=pl_sp R n x' (s.1,s.2 ++ [y]) b1 s1 hr hi1 hn1
       have ky : getP s1.1 y = some x':=(S1.keep y (List.mem_append_right _ (List.mem_singleton.mpr rfl))).trans hg
       cases b1 with
       | true =>
        simp only at h
        cases h
        obtain ⟨c1,c2⟩:=S1.succ rfl
        have gs : ∀ z,getP (setP s1.1 y x) z = if z = y then some x else getP s1.1 z:=fun z=>getP_set _ _ _ _
        have nx : ∀ z,z ∉ s.2 → z ≠ y → getP s1.1 z ≠ some x:=fun z h1 h2 e=>by
         have hz : z ∉ s.2 ++ [y]:=fun q=>by
          rcases List.mem_append.mp q with q | q
          ·exact h1 q
          ·exact h2 (List.mem_singleton.mp q)
         rcases (c2 x).mp ⟨z,hz,e⟩ with q | ⟨z',q1,q2⟩
         ·exact hxx q
         ·exact hn z' (fun q=>q1 (List.mem_append_left _ q)) q2
        have ny : ∀ {z},z ∉ s.2 → z ≠ y → z ∉ s.2 ++ [y]:=fun h1 h2 q=>by
         rcases List.mem_append.mp q with q | q
         ·exact h1 q
         ·exact h2 (List.mem_singleton.mp q)
        refine ⟨fun z hz=>S1.sub z (List.mem_append_left _ hz),fun z hz=>?_,fun he z x0 hz=>?_,fun z x0 hz=>?_,fun z=>(by cases z),fun _=>⟨fun y1 y2 x0 a1 a2 b1 b2=>?_,fun x0=>⟨?_,?_⟩⟩,fun U hU=>⟨fun z hz=>?_,fun hz=>?_⟩⟩
        ·rw [gs,if_neg (fun e : z = y=>hy (by rw [← e]; exact hz))]
         exact S1.keep z (List.mem_append_left _ hz)
        ·rw [gs] at hz
         split at hz
         ·rename_i e; cases hz; rw [e]; exact hyR
         ·exact S1.edge he z x0 hz
        ·rw [gs]
         split
         ·exact ⟨x,rfl⟩
         ·exact S1.dom z x0 hz
        ·rw [gs] at b1 b2
         split at b1
         ·rename_i e1
          split at b2
          ·rename_i e2; rw [e1,e2]
          ·rename_i e2; cases b1; exact absurd b2 (nx y2 a2 e2)
         ·rename_i e1
          split at b2
          ·cases b2; exact absurd b1 (nx y1 a1 e1)
          ·rename_i e2; exact c1 y1 y2 x0 (ny a1 e1) (ny a2 e2) b1 b2
        ·rintro ⟨z,z1,z2⟩
         rw [gs] at z2
         split at z2
         ·cases z2; exact .inl rfl
         ·rename_i e
          rcases (c2 x0).mp ⟨z,ny z1 e,z2⟩ with q | ⟨z',q1,q2⟩
          ·exact .inr ⟨y,hy,by rw [hg,q]⟩
          ·exact .inr ⟨z',fun q=>q1 (List.mem_append_left _ q),q2⟩
        ·rintro (rfl | ⟨z,z1,z2⟩)
         ·exact ⟨y,hy,by rw [gs,if_pos rfl]⟩
         ·have : ∃ z',z' ∉ s.2 ++ [y] ∧ getP s1.1 z' = some x0:=(c2 x0).mpr (by
           by_cases e : z = y
           ·rw [e,hg] at z2; cases z2; exact .inl rfl
           ·exact .inr ⟨z,ny z1 e,z2⟩)
          obtain ⟨z',q1,q2⟩:=this
          refine ⟨z',fun q=>q1 (List.mem_append_left _ q),?_⟩
          rw [gs,if_neg (fun e=>q1 (by rw [e]; exact List.mem_append_right _ (List.mem_singleton.mpr rfl)))]
          exact q2
        ·rw [gs,if_neg]
         ·exact (S1.cl U hU).1 z hz
         ·rintro rfl
          obtain ⟨x1,q,q2⟩:=hU z hz
          rw [hg] at q
          cases q
          have:=(S1.cl U hU).2 q2
          cases this
        ·obtain ⟨x1,q,q2⟩:=hU y (hz y List.mem_cons_self)
         rw [hg] at q
         cases q
         have:=(S1.cl U hU).2 q2
         cases this
       | false =>
        simp only at h
        obtain ⟨f1,f2,f3⟩:=S1.fail rfl
        have f1' : s1.1 = s.1:=f1
        have hsub : ∀ z ∈ s.2,z ∈ s1.2:=fun z hz=>S1.sub z (List.mem_append_left _ hz)
        have yin : y ∈ s1.2:=S1.sub y (List.mem_append_right _ (List.mem_singleton.mpr rfl))
        have hi2 : InjU (getP s1.1) s1.2:=fun y1 y2 x0 a1 a2=>by
         rw [f1']; exact hi y1 y2 x0 (fun q=>a1 (hsub _ q)) (fun q=>a2 (hsub _ q))
        have hn2 : NoneU (getP s1.1) s1.2 x:=fun z hz=>by rw [f1']; exact hn z fun q=>hz (hsub _ q)
        have S:=ih s1 b s2 hys' h hi2 hn2
        refine ⟨fun z hz=>S.sub z (hsub z hz),fun z hz=>?_,fun he=>S.edge (by rw [f1']; exact he),fun z x0 hz=>S.dom z x0 (by rw [f1']; exact hz),fun hb=>?_,fun hb=>?_,fun U hU=>?_⟩
        ·rw [S.keep z (hsub z hz),f1']
        ·obtain ⟨g1,g2,g3⟩:=S.fail hb
         refine ⟨g1.trans f1',fun z hz=>?_,fun z h1 h2=>?_⟩
         ·rcases List.mem_cons.mp hz with rfl | hz
          ·exact S.sub z yin
          ·exact g2 z hz
         ·by_cases hz : z ∈ s1.2
          ·by_cases e : z = y
           ·exact ⟨x',by rw [e]; exact hg,fun y' hy'=>S.sub y' (f2 y' hy')⟩
           ·obtain ⟨x1,q1,q2⟩:=f3 z hz (fun q=>by
             rcases List.mem_append.mp q with q | q
             ·exact h2 q
             ·exact e (List.mem_singleton.mp q))
            exact ⟨x1,q1,fun y' hy'=>S.sub y' (q2 y' hy')⟩
          ·obtain ⟨x1,q1,q2⟩:=g3 z h1 hz
           exact ⟨x1,by rw [← f1']; exact q1,q2⟩
        ·obtain ⟨c1,c2⟩:=S.succ hb
         have same : ∀ z ∈ s1.2,getP s2.1 z = getP s.1 z:=fun z hz=>by rw [S.keep z hz,f1']
         have c2' : ∀ x0,(∃ z,z ∉ s1.2 ∧ getP s2.1 z = some x0) ↔ x0 = x ∨ ∃ z,z ∉ s1.2 ∧ getP s.1 z = some x0:=fun x0=>by rw [← f1']; exact c2 x0
         have mix : ∀ y1 y2 x0,y1 ∉ s.2 → y1 ∈ s1.2 → y2 ∉ s1.2 → getP s2.1 y1 = some x0 → getP s2.1 y2 = some x0 → False:=fun y1 y2 x0 a1 a2 a3 b1 b2=>by
          rw [same y1 a2] at b1
          rcases (c2' x0).mp ⟨y2,a3,b2⟩ with q | ⟨z,q1,q2⟩
          ·rw [q] at b1; exact hn y1 a1 b1
          ·have:=hi y1 z x0 a1 (fun q=>q1 (hsub _ q)) b1 q2
           exact q1 (this ▸ a2)
         refine ⟨fun y1 y2 x0 a1 a2 b1 b2=>?_,fun x0=>⟨?_,?_⟩⟩
         ·by_cases e1 : y1 ∈ s1.2
          ·by_cases e2 : y2 ∈ s1.2
           ·rw [same y1 e1] at b1
            rw [same y2 e2] at b2
            exact hi y1 y2 x0 a1 a2 b1 b2
           ·exact (mix y1 y2 x0 a1 e1 e2 b1 b2).elim
          ·by_cases e2 : y2 ∈ s1.2
           ·exact (mix y2 y1 x0 a2 e2 e1 b2 b1).elim
           ·exact c1 y1 y2 x0 e1 e2 b1 b2
         ·rintro ⟨z,z1,z2⟩
          by_cases e : z ∈ s1.2
          ·exact .inr ⟨z,z1,by rw [← same z e]; exact z2⟩
          ·rcases (c2' x0).mp ⟨z,e,z2⟩ with q | ⟨z',q1,q2⟩
           ·exact .inl q
           ·exact .inr ⟨z',fun q=>q1 (hsub _ q),q2⟩
         ·rintro (rfl | ⟨z,z1,z2⟩)
          ·obtain ⟨z,q1,q2⟩:=(c2' x0).mpr (.inl rfl)
           exact ⟨z,fun q=>q1 (hsub _ q),q2⟩
          ·by_cases e : z ∈ s1.2
           ·exact ⟨z,z1,by rw [same z e]; exact z2⟩
           ·obtain ⟨z',q1,q2⟩:=(c2' x0).mpr (.inr ⟨z,e,z2⟩)
            exact ⟨z',fun q=>q1 (hsub _ q),q2⟩
        ·obtain ⟨d1,d2⟩:=S.cl U (by rw [f1']; exact hU)
         exact ⟨fun z hz=>by rw [d1 z hz,f1'],fun hz=>d2 fun z q=>hz z (List.mem_cons_of_mem _ q)⟩
  exact loop (rowOf R x) s b s2 (fun _ h=>h) h hi hn
noncomputable def Clo (R : RP) (P : List (Int × Int)) (U : List Int) : Prop:=∀ y ∈ U,∃ x',getP P y = some x' ∧ ∀ y' ∈ rowOf R x',y' ∈ U
theorem run_ok (R : RP) (n : Nat) : ∀ (xs : List Int) (P P' : List (Int × Int)) (U : List Int),runP R n xs P = some P' → InjU (getP P) [] → (∀ y x0,getP P y = some x0 → y ∈ rowOf R x0) → Clo R P U → xs.Nodup → (∀ x ∈ xs,∀ y,getP P y ≠ some x) →
  ∃ U',(∀ y ∈ U,y ∈ U') ∧ InjU (getP P') [] ∧ (∀ y x0,getP P' y = some x0 → y ∈ rowOf R x0) ∧ Clo R P' U' ∧ (∀ x0,(∃ y,getP P y = some x0) → ∃ y,getP P' y = some x0) ∧ ∀ x ∈ xs,(∃ y,getP P' y = some x) ∨ ∀ y ∈ rowOf R x,y ∈ U'
 | [],P,P',U,h,hi,he,hc,_,_=>by cases h; exact ⟨U,fun _ h=>h,hi,he,hc,fun _ h=>h,nofun⟩
 | x :: xs,P,P',U,h,hi,he,hc,hnd,hx=>by
  rw [List.nodup_cons] at hnd
  unfold runP at h
  cases hp : pl R n x (P,[]) with
  | none=>rw [hp] at h; cases h
  | some bs =>
   obtain ⟨b,s2⟩:=bs
   rw [hp] at h
   have S:=pl_sp R n x (P,[]) b s2 hp hi fun y _=>hx x List.mem_cons_self y
   cases b with
   | true =>
    obtain ⟨c1,c2⟩:=S.succ rfl
    have hm : ∀ x0,(∃ y,getP s2.1 y = some x0) ↔ x0 = x ∨ ∃ y,getP P y = some x0:=fun x0=>by
     have:=c2 x0
     constructor
     ·rintro ⟨y,hy⟩
      rcases this.mp ⟨y,nofun,hy⟩ with q | ⟨z,-,q⟩
      ·exact .inl q
      ·exact .inr ⟨z,q⟩
     ·intro q
      obtain ⟨y,-,hy⟩:=this.mpr (q.imp id fun ⟨y,hy⟩=>⟨y,nofun,hy⟩)
      exact ⟨y,hy⟩
    have hc1 : Clo R s2.1 U:=fun y hy=>by
     obtain ⟨x',q1,q2⟩:=hc y hy
     exact ⟨x',((S.cl U hc).1 y hy).trans q1,q2⟩
    obtain ⟨U',u1,u2,u3,u4,u5,u6⟩:=run_ok R n xs s2.1 P' U h c1 (S.edge he) hc1 hnd.2 fun z hz y e=>by
     rcases (hm z).mp ⟨y,e⟩ with q | ⟨y',q⟩
     ·exact hnd.1 (q ▸ hz)
     ·exact hx z (List.mem_cons_of_mem _ hz) y' q
    refine ⟨U',u1,u2,u3,u4,fun x0 hx0=>u5 x0 ((hm x0).mpr (.inr hx0)),fun z hz=>?_⟩
    rcases List.mem_cons.mp hz with rfl | hz
    ·exact .inl (u5 z ((hm z).mpr (.inl rfl)))
    ·exact u6 z hz
   | false =>
    obtain ⟨f1,f2,f3⟩:=S.fail rfl
    have f1' : s2.1 = P:=f1
    simp only [f1'] at h
    have hc1 : Clo R P (U ++ s2.2):=fun y hy=>by
     rcases List.mem_append.mp hy with hy | hy
     ·obtain ⟨x',q1,q2⟩:=hc y hy
      exact ⟨x',q1,fun z hz=>List.mem_append_left _ (q2 z hz)⟩
     ·obtain ⟨x',q1,q2⟩:=f3 y hy nofun
      exact ⟨x',q1,fun z hz=>List.mem_append_right _ (q2 z hz)⟩
    obtain ⟨U',u1,u2,u3,u4,u5,u6⟩:=run_ok R n xs P P' (U ++ s2.2) h hi he hc1 hnd.2 fun z hz=>hx z (List.mem_cons_of_mem _ hz)
    refine ⟨U',fun y hy=>u1 y (List.mem_append_left _ hy),u2,u3,u4,u5,fun z hz=>?_⟩
    rcases List.mem_cons.mp hz with rfl | hz
    ·exact .inr fun y hy=>u1 y (List.mem_append_right _ (f2 y hy))
    ·exact u6 z hz
theorem row_rights (cs : List (Int × Int)) (x y : Int) : y ∈ rowOf (rightsP cs) x ↔ (x,y) ∈ cs:=by
 obtain ⟨k1,k2,k3⟩:=rights_facts cs
 rw [← k3 x y]
 unfold rowOf
 constructor
 ·intro hy
  cases hf : (rightsP cs).find? fun r=>decide (r.1 = x) with
  | none=>rw [hf] at hy; cases hy
  | some r =>
   rw [hf] at hy
   have h1 : r.1 = x:=by simpa using List.find?_some hf
   exact ⟨r.2,by rw [← h1]; exact List.mem_of_find?_eq_some hf,hy⟩
 ·rintro ⟨ys,h1,h2⟩
  have : ∀ (R : RP),(R.map (·.1)).Nodup → (x,ys) ∈ R → (R.find? fun r=>decide (r.1 = x)) = some (x,ys):=by
   intro R
   induction R with
   | nil=>intro _ h; cases h
   | cons r R ih =>
    intro hn h
    rw [List.map_cons,List.nodup_cons] at hn
    rw [List.find?_cons]
    rcases List.mem_cons.mp h with rfl | h
    ·rw [decide_eq_true rfl]
    ·have : ¬ r.1 = x:=fun e=>hn.1 (List.mem_map.mpr ⟨(x,ys),h,e.symm⟩)
     rw [decide_eq_false this]
     exact ih hn.2 h
  rw [this _ k1 h1]
  exact h2
/-- a matching of the conflicts that no path makes greater: U,the right sides that stay within -/
structure MOk (cs : List (Int × Int)) (P : List (Int × Int)) (U : List Int) : Prop where
 nd : (P.map (·.1)).Nodup
 edge : ∀ q ∈ P,(q.2,q.1) ∈ cs
 inj : ∀ p ∈ P,∀ q ∈ P,p.2 = q.2 → p = q
 cl : ∀ y ∈ U,∃ x',(y,x') ∈ P ∧ ∀ y',(x',y') ∈ cs → y' ∈ U
 free : ∀ x y,(x,y) ∈ cs → (∃ y',(y',x) ∈ P) ∨ ∀ y',(x,y') ∈ cs → y' ∈ U
theorem getP_of {P : List (Int × Int)} (hn : (P.map (·.1)).Nodup) {q : Int × Int} (h : q ∈ P) : getP P q.1 = some q.2:=by
 unfold getP
 induction P with
 | nil=>cases h
 | cons p P ih =>
  rw [List.map_cons,List.nodup_cons] at hn
  rw [List.find?_cons]
  rcases List.mem_cons.mp h with rfl | h
  ·rw [decide_eq_true rfl]; rfl
  ·have : ¬ p.1 = q.1:=fun e=>hn.1 (List.mem_map.mpr ⟨q,h,e.symm⟩)
   rw [decide_eq_false this]
   exact ih hn.2 h
theorem mat_ok {cs : List (Int × Int)} {Y : List Int} {n : Nat} {P : List (Int × Int)} (h : runP (rightsP cs) n (((rightsP cs).map (·.1)).mergeSort fun a b=>decide (a ≤ b)) [] = some P) (I : PI (rightsP cs) Y (P,[])) : ∃ U,MOk cs P U:=by
 obtain ⟨k1,k2,k3⟩:=rights_facts cs
 obtain ⟨U,-,u2,u3,u4,-,u6⟩:=run_ok (rightsP cs) n _ [] P [] h (fun _ _ _ _ _ e=>by cases e) (fun _ _ e=>by cases e) nofun ((List.mergeSort_perm _ _).nodup_iff.mpr k1) (fun _ _ _ e=>by cases e)
 refine ⟨U,I.pn,fun q hq=>(row_rights cs q.2 q.1).mp (u3 q.1 q.2 (getP_of I.pn hq)),fun p hp q hq e=>?_,fun y hy=>?_,fun x y hxy=>?_⟩
 ·have h1:=u2 p.1 q.1 p.2 nofun nofun (getP_of I.pn hp) (by rw [e]; exact getP_of I.pn hq)
  exact Prod.ext h1 e
 ·obtain ⟨x',q1,q2⟩:=u4 y hy
  exact ⟨x',getP_mem q1,fun y' hy'=>q2 y' ((row_rights cs x' y').mpr hy')⟩
 ·have hx : x ∈ ((rightsP cs).map (·.1)).mergeSort fun a b=>decide (a ≤ b):=(List.mergeSort_perm _ _).mem_iff.mpr ((k2 x).mpr ⟨y,hxy⟩)
  rcases u6 x hx with ⟨y',hy'⟩ | h
  ·exact .inl ⟨y',getP_mem hy'⟩
  ·exact .inr fun y' hy'=>h y' ((row_rights cs x y').mpr hy')
theorem lt_pr (p q : Int × Int) : ltD (prT p) (prT q) = if p.1 = q.1 then decide (p.2 < q.2) else decide (p.1 < q.1):=by
 show ltK [.inl p.1,.inl p.2] [.inl q.1,.inl q.2] = _
 unfold ltK
 by_cases h : p.1 = q.1
 ·rw [h,if_pos rfl,if_pos rfl]
  unfold ltK
  by_cases h2 : p.2 = q.2
  ·rw [h2,if_pos rfl]
   simp [ltK]
  ·rw [if_neg (by simpa using h2)]; rfl
 ·rw [if_neg (by simpa using h),if_neg h]; rfl
theorem leP2_iff (p q : Int × Int) : leP2 p q = true ↔ p.1 < q.1 ∨ (p.1 = q.1 ∧ p.2 ≤ q.2):=by
 unfold leP2
 rw [lt_pr,Bool.not_eq_true']
 by_cases h : q.1 = p.1
 ·rw [if_pos h,decide_eq_false_iff_not]; omega
 ·rw [if_neg h,decide_eq_false_iff_not]; omega
theorem leP2_sorted (ms : List (Int × Int)) : (ms.mergeSort leP2).Pairwise fun p q=>leP2 p q = true :=
 List.pairwise_mergeSort (fun a b c h1 h2=>by rw [leP2_iff] at *; omega) (fun a b=>by rw [Bool.or_eq_true,leP2_iff,leP2_iff]; omega) ms
noncomputable def keyI (p : Int × Int) : List Key:=[.inl p.1,.inl p.2]
theorem keyI_inj {p q : Int × Int} (h : keyI p = keyI q) : p = q:=by
 unfold keyI at h
 injection h with h1 h2
 injection h2 with h2 _
 exact Prod.ext (Sum.inl.inj h1) (Sum.inl.inj h2)
theorem keys_all (cs : List (Int × Int)) : allM keysD (cD cs) = some (cs.map keyI):=by
 induction cs with
 | nil=>rfl
 | cons p cs ih =>
  unfold cD at ih ⊢
  rw [List.map_cons,allM,ih]
  rfl
theorem distF_id {ks : List (List Key)} (h : ks.Nodup) : distF ks = ks:=by
 suffices hh : ∀ (n : Nat) (ks : List (List Key)),ks.length = n → ks.Nodup → distF ks = ks from hh _ ks rfl h
 intro n
 induction n with
 | zero=>intro ks h _; rw [List.length_eq_zero_iff.mp h]; rfl
 | succ n ih =>
  intro ks h hn
  obtain ⟨ys,y,rfl⟩ : ∃ ys y,ks = ys ++ [y]:=⟨ks.dropLast,ks.getLast (by intro z; rw [z] at h; cases h),(List.dropLast_concat_getLast _).symm⟩
  rw [List.length_append,List.length_singleton] at h
  rw [List.nodup_append] at hn
  have hy:=ih ys (by omega) hn.1
  rw [distF_snoc,hy,if_neg]
  intro e
  exact hn.2.2 y (hasK_iff.mp e) y (List.mem_singleton.mpr rfl) rfl
theorem sortD_id {ms : List (Int × Int)} (hn : ms.Nodup) (hs : ms.Pairwise fun p q=>leP2 p q = true) : sortD (cD ms) = some (cD ms):=by
 have h1 : ((ms.map keyI).all fun k=>decide (shpK k = shpK ((ms.map keyI).headD [])) && !k.isEmpty) = true:=List.all_eq_true.mpr fun k hk=>by
  obtain ⟨p,hp,rfl⟩:=List.mem_map.mp hk
  cases ms with
  | nil=>cases hp
  | cons q ms=>rfl
 have h2 : (ms.map keyI).Nodup:=List.Pairwise.map keyI (fun p q h e=>h (keyI_inj e)) hn
 have h3 : (ms.map keyI).mergeSort leK = ms.map keyI:=List.mergeSort_of_pairwise (List.Pairwise.map keyI (fun p q h=>h) hs)
 unfold sortD
 simp only [keys_all,h1,if_true]
 rw [distF_id h2,h3,List.map_map]
 rfl
theorem cD_pl (cs : List (Int × Int)) : plDs (cD cs) = true:=plDs_map fun _ _=>rfl
theorem cD_dp (cs : List (Int × Int)) : dpDs (cD cs) ≤ 59:=Nat.le_trans (dpDs_map (k:=1) fun _ _=>Nat.le_refl 1) (by decide)
theorem eq_cD (cs : List (Int × Int)) : eqB st (.d (.lst (cD cs))) (.d (.lst (cD cs))) = some true:=by
 haveI : Decidable (cD cs = cD cs):=isTrue rfl
 rw [eqB_ls (LsU.d st (cD cs)) (LsU.d st (cD cs)) (cD_pl cs) (cD_pl cs) (cD_dp cs) (cD_dp cs)]
 exact congrArg some (decide_eq_true rfl)
theorem in_cD (p : Int × Int) (cs : List (Int × Int)) : inB st (.d (.tup [.int p.1,.int p.2])) (.d (.lst (cD cs))) = some (decide (p ∈ cs)):=by
 have hi : D.tup [.int p.1,.int p.2] ∈ cD cs ↔ p ∈ cs:=by
  unfold cD
  rw [List.mem_map]
  constructor
  ·rintro ⟨q,hq,e⟩
   have : q = p:=by
    injection e with e
    injection e with e1 e2
    injection e2 with e2 _
    injection e1 with e1
    injection e2 with e2
    exact Prod.ext e1 e2
   exact this ▸ hq
  ·exact fun h=>⟨p,h,rfl⟩
 haveI : Decidable (D.tup [.int p.1,.int p.2] ∈ cD cs):=decidable_of_iff _ hi.symm
 rw [inB_ls (x:=.tup [.int p.1,.int p.2]) (LsU.d st (cD cs)) rfl (cD_pl cs) (show 1 ≤ 60 by decide) (cD_dp cs)]
 exact congrArg some (decide_eq_decide.mpr hi)
noncomputable def sd : Bool → Str
 | true=>"own"
 | false=>"shipped"
noncomputable abbrev Cl:=Int × Bool
noncomputable def qT (q : Cl) : D:=.tup [.int q.1,.str (sd q.2)]
noncomputable def qD (qs : List Cl) : List D:=qs.map qT
theorem qD_len (qs : List Cl) : (qD qs).length = qs.length:=by unfold qD; rw [List.length_map]
theorem sd_ne : (sd true : Str) ≠ sd false:=by decide +kernel
theorem sd_inj {x y : Bool} (h : sd x = sd y) : x = y:=by
 cases x <;> cases y <;> first | rfl | exact absurd h sd_ne | exact absurd h.symm sd_ne
theorem qT_inj {p q : Cl} (h : qT p = qT q) : p = q:=by
 unfold qT at h
 injection h with h
 injection h with h1 h2
 injection h1 with h1
 injection h2 with h2 _
 injection h2 with h2
 exact Prod.ext h1 (sd_inj h2)
theorem mem_qD {q : Cl} {qs : List Cl} : qT q ∈ qD qs ↔ q ∈ qs:=by
 unfold qD
 rw [List.mem_map]
 exact ⟨fun ⟨p,hp,e⟩=>qT_inj e ▸ hp,fun h=>⟨q,h,rfl⟩⟩
noncomputable def clD : D → Option Cl
 | .tup [.int i,.str s]=>if s = sd true then some (i,true) else if s = sd false then some (i,false) else none
 | _=>none
theorem clD_qT (q : Cl) : clD (qT q) = some q:=by
 obtain ⟨i,b⟩:=q
 cases b with
 | true=>simp only [clD,qT,if_true]
 | false=>simp only [clD,qT,if_neg (fun e=>sd_ne (Eq.symm e) : ¬ sd false = sd true),if_true]
theorem clD_some {d : D} {q : Cl} (h : clD d = some q) : d = qT q:=by
 unfold clD at h
 split at h
 ·rename_i i s
  split at h
  ·rename_i e
   cases h
   unfold qT
   rw [e]
  ·split at h
   ·rename_i e
    cases h
    unfold qT
    rw [e]
   ·cases h
 ·cases h
theorem clDs : ∀ {ds : List D} {qs : List Cl},allM clD ds = some qs → ds = qD qs
 | [],qs,h=>by cases h; rfl
 | d :: ds,qs,h=>by
  unfold allM at h
  split at h
  ·rename_i p qs' e1 e2
   cases h
   rw [clD_some e1,clDs e2]
   rfl
  ·cases h
theorem allM_none {α β : Type} {g : α → Option β} : ∀ {xs : List α},(xs.all fun x=>(g x).isSome) = false → allM g xs = none
 | [],h=>by cases h
 | x :: xs,h=>by
  rw [List.all_cons,Bool.and_eq_false_iff] at h
  unfold allM
  rcases h with h | h
  ·rw [Option.isSome_eq_false_iff,Option.isNone_iff_eq_none] at h
   rw [h]
  ·rw [allM_none h]
   cases g x <;> rfl
theorem allM_some {α β : Type} {g : α → Option β} : ∀ {xs : List α},(xs.all fun x=>(g x).isSome) = true → ∃ ys,allM g xs = some ys
 | [],h=>⟨[],rfl⟩
 | x :: xs,h=>by
  rw [List.all_cons,Bool.and_eq_true] at h
  obtain ⟨y,hy⟩:=Option.isSome_iff_exists.mp h.1
  obtain ⟨ys,hys⟩:=allM_some h.2
  exact ⟨y :: ys,by rw [allM,hy,hys]⟩
/-- the order of claims -/
noncomputable def cod (q : Cl) : Int:=2 * q.1 + if q.2 = true then 0 else 1
theorem cod_inj {p q : Cl} (h : cod p = cod q) : p = q:=by
 obtain ⟨i,b⟩:=p
 obtain ⟨j,c⟩:=q
 unfold cod at h
 cases b <;> cases c <;> simp at h <;> first | (exact Prod.ext h rfl) | (exact Prod.ext (by omega) rfl) | omega
noncomputable def keyQ (q : Cl) : List Key:=[.inl q.1,.inr (sd q.2)]
theorem ltK_q (p q : Cl) : ltK (keyQ p) (keyQ q) = decide (cod p < cod q):=by
 obtain ⟨i,b⟩:=p
 obtain ⟨j,c⟩:=q
 unfold keyQ cod
 unfold ltK
 by_cases h : i = j
 ·subst h
  rw [if_pos rfl]
  unfold ltK
  cases b <;> cases c
  ·rw [if_pos rfl]; simp [ltK]
  ·rw [if_neg (by rw [Sum.inr.injEq]; exact fun e=>sd_ne e.symm)]
   have : ltK1 (.inr (sd false)) (.inr (sd true)) = false:=by decide +kernel
   rw [this]; simp; omega
  ·rw [if_neg (by rw [Sum.inr.injEq]; exact sd_ne)]
   have : ltK1 (.inr (sd true)) (.inr (sd false)) = true:=by decide +kernel
   rw [this]; simp; omega
  ·rw [if_pos rfl]; simp [ltK]
 ·rw [if_neg (by rw [Sum.inl.injEq]; exact h)]
  show decide (i < j) = _
  cases b <;> cases c <;> simp <;> omega
theorem lt_q (p q : Cl) : ltD (qT p) (qT q) = decide (cod p < cod q):=ltK_q p q
theorem keysQ_all (qs : List Cl) : allM keysD (qD qs) = some (qs.map keyQ):=by
 induction qs with
 | nil=>rfl
 | cons p qs ih =>
  unfold qD at ih ⊢
  rw [List.map_cons,allM,ih]
  rfl
theorem keyQ_inj {p q : Cl} (h : keyQ p = keyQ q) : p = q:=by
 unfold keyQ at h
 injection h with h1 h2
 injection h2 with h2 _
 injection h1 with h1
 injection h2 with h2
 exact Prod.ext h1 (sd_inj h2)
theorem distF_nd (ks : List (List Key)) : (distF ks).Nodup:=by
 suffices h : ∀ (n : Nat) (ks : List (List Key)),ks.length = n → (distF ks).Nodup from h _ ks rfl
 intro n
 induction n with
 | zero=>intro ks h; rw [List.length_eq_zero_iff.mp h]; exact List.nodup_nil
 | succ n ih =>
  intro ks h
  obtain ⟨ys,y,rfl⟩ : ∃ ys y,ks = ys ++ [y]:=⟨ks.dropLast,ks.getLast (by intro z; rw [z] at h; cases h),(List.dropLast_concat_getLast _).symm⟩
  rw [List.length_append,List.length_singleton] at h
  rw [distF_snoc]
  split
  ·exact ih ys (by omega)
  ·rename_i hn
   rw [List.nodup_append]
   refine ⟨ih ys (by omega),List.nodup_cons.mpr ⟨by simp,List.nodup_nil⟩,fun a ha b hb=>?_⟩
   rw [List.mem_singleton.mp hb]
   rintro rfl
   exact hn (hasK_iff.mpr ha)
theorem of_keys {ks : List (List Key)} {qs : List Cl} (h : ∀ k ∈ ks,k ∈ qs.map keyQ) : ∃ rs : List Cl,ks = rs.map keyQ:=by
 induction ks with
 | nil=>exact ⟨[],rfl⟩
 | cons k ks ih =>
  obtain ⟨rs,e⟩:=ih fun x hx=>h x (List.mem_cons_of_mem _ hx)
  obtain ⟨p,hp,rfl⟩:=List.mem_map.mp (h k List.mem_cons_self)
  exact ⟨p :: rs,by rw [e]; rfl⟩
/-- sorted and distinct: what both sides make of a list of claims -/
structure Srt (qs rs : List Cl) : Prop where
 mem : ∀ q,q ∈ rs ↔ q ∈ qs
 len : rs.length ≤ qs.length
 inc : rs.Pairwise fun p q=>cod p < cod q
theorem srt_of (qs : List Cl) : ∃ rs,sortD (qD qs) = some (qD rs) ∧ Srt qs rs:=by
 obtain ⟨ds,hds⟩:=of_keys (ks:=distF (qs.map keyQ)) (qs:=qs) fun k hk=>mem_distF.mp hk
 have hm : (ds.mergeSort fun a b=>decide (cod a ≤ cod b)).map keyQ = (distF (qs.map keyQ)).mergeSort leK:=by
  rw [hds]
  refine PySem.W.sort_maps keyQ fun p _ q _=>?_
  unfold leK
  rw [ltK_q,Bool.eq_iff_iff,Bool.not_eq_true',decide_eq_false_iff_not,decide_eq_true_eq]
  omega
 refine ⟨ds.mergeSort fun a b=>decide (cod a ≤ cod b),?_,fun q=>?_,?_,?_⟩
 ·have hs : ((qs.map keyQ).all fun k=>decide (shpK k = shpK ((qs.map keyQ).headD [])) && !k.isEmpty) = true:=List.all_eq_true.mpr fun k hk=>by
   obtain ⟨p,hp,rfl⟩:=List.mem_map.mp hk
   cases qs with
   | nil=>cases hp
   | cons q qs=>rfl
  unfold sortD
  simp only [keysQ_all,hs,if_true]
  rw [← hm,List.map_map]
  rfl
 ·rw [(List.mergeSort_perm _ _).mem_iff]
  have : keyQ q ∈ distF (qs.map keyQ) ↔ keyQ q ∈ qs.map keyQ:=mem_distF
  rw [hds] at this
  have inj : ∀ {xs : List Cl},keyQ q ∈ xs.map keyQ ↔ q ∈ xs:=fun {xs}=>by
   rw [List.mem_map]
   exact ⟨fun ⟨p,hp,e⟩=>keyQ_inj e ▸ hp,fun h=>⟨q,h,rfl⟩⟩
  rw [← inj,this,inj]
 ·rw [List.length_mergeSort]
  have h1:=distF_len (qs.map keyQ)
  rw [hds,List.length_map,List.length_map] at h1
  exact h1
 ·have hnd : (ds.mergeSort fun a b=>decide (cod a ≤ cod b)).Nodup:=by
   rw [(List.mergeSort_perm _ _).nodup_iff]
   have:=distF_nd (qs.map keyQ)
   rw [hds] at this
   exact List.Pairwise.of_map keyQ (fun a b h e=>h (congrArg keyQ e)) this
  have hs:=List.pairwise_mergeSort (le:=fun a b : Cl=>decide (cod a ≤ cod b)) (fun a b c h1 h2=>by rw [decide_eq_true_eq] at *; omega) (fun a b=>by rw [Bool.or_eq_true,decide_eq_true_eq,decide_eq_true_eq]; omega) ds
  refine (List.pairwise_and_iff.mpr ⟨hs,hnd⟩).imp fun {p q} h=>?_
  have h1:=of_decide_eq_true h.1
  have h2 : cod p ≠ cod q:=fun e=>h.2 (cod_inj e)
  omega
theorem qT_pl (q : Cl) : plD (qT q) = true:=by
 obtain ⟨i,b⟩:=q
 cases b
 ·show (true && (PyData.strOk (sd false) && true)) = true; decide +kernel
 ·show (true && (PyData.strOk (sd true) && true)) = true; decide +kernel
theorem qD_pl (qs : List Cl) : plDs (qD qs) = true:=plDs_map fun q _=>qT_pl q
theorem in_qD (q : Cl) (qs : List Cl) : inB st (.d (qT q)) (.d (.lst (qD qs))) = some (decide (q ∈ qs)):=by
 haveI : Decidable (qT q ∈ qD qs):=decidable_of_iff _ mem_qD.symm
 rw [inB_ls (x:=qT q) (LsU.d st (qD qs)) (qT_pl q) (qD_pl qs) (show 1 ≤ 60 by decide) (Nat.le_trans (dpDs_map (k:=1) fun _ _=>Nat.le_refl 1) (by decide))]
 exact congrArg some (decide_eq_decide.mpr mem_qD)
noncomputable def sdD : D → Bool
 | .str s=>decide (s = "own") || decide (s = "shipped")
 | _=>false
theorem cl2 (x y : D) : (clD (.tup [x,y])).isSome = (isIn x && sdD y):=by
 cases x <;> first | rfl | skip
 cases y <;> first | rfl | skip
 rename_i i s
 show (if s = sd true then some (i,true) else if s = sd false then some (i,false) else none).isSome = (true && (decide (s = sd true) || decide (s = sd false)))
 by_cases h1 : s = sd true
 ·rw [if_pos h1,decide_eq_true h1]; rfl
 ·rw [if_neg h1,decide_eq_false h1]
  by_cases h2 : s = sd false
  ·rw [if_pos h2,decide_eq_true h2]; rfl
  ·rw [if_neg h2,decide_eq_false h2]; rfl
theorem in_side (s : Str) : inB st (.d (.str s)) (.d (.tup [.str "own",.str "shipped"])) = some (sdD (.str s)):=by
 have e : ∀ x y : Str,PyData.eqv (.str x) (.str y) = decide (y = x):=fun x y=>by
  by_cases z : x = y
  ·subst z; simp [PyData.eqv]
  ·have : ¬ y = x:=fun e=>z e.symm
   simp [PyData.eqv,z,this]
 show some ([PyData.str "own",.str "shipped"].any fun q=>PyData.eqv q (.str s)) = _
 rw [List.any_cons,List.any_cons,List.any_nil,e,e,Bool.or_false]
 rfl
theorem ev_isclaim (w : WF st) {B : Int} {d : D} (h : elD B d = true) : m_is_claim K a [.d d] st = .ok (.d (.bl (clD d).isSome)) st:=by
 have e1:=isi_tup (K:=K) (a:=a) (st:=st) (el_six h)
 apply eq_of_wp
 unfold m_is_claim g_is_claim
 cases d with
 | non=>simp_all only [e1,isTp,clD,w.cut]
 | bl b=>simp_all only [e1,isTp,clD,w.cut]
 | int i=>simp_all only [e1,isTp,clD,w.cut]
 | str s=>simp_all only [e1,isTp,clD,w.cut]
 | lst s=>simp_all only [e1,isTp,clD,w.cut]
 | tup ds =>
  unfold elD at h
  rw [Bool.and_eq_true,decide_eq_true_eq] at h
  match ds,h with
  | [],_=>simp_all only [e1,isTp,clD,w.cut]
  | [_],_=>simp_all only [e1,isTp,clD,w.cut]
  | [_,_,_],_=>simp_all only [e1,isTp,clD,w.cut]
  | _ :: _ :: _ :: _ :: _,h=>exact absurd h.1 (by simp)
  | [x,y],h =>
   have hx : atD B x = true:=List.all_eq_true.mp h.2 x (by simp)
   have hy : atD B y = true:=List.all_eq_true.mp h.2 y (by simp)
   have e2:=ev_isint (K:=K) (a:=a) w (at_six hx)
   have e3:=isi_str6 (K:=K) (a:=a) (st:=st) (at_six hy)
   rw [cl2]
   cases hx2 : isIn x with
   | false=>rw [hx2] at e2; simp_all only [e1,e2,isTp,at_0,at_1,w.cut]
   | true =>
    rw [hx2] at e2
    cases y with
    | str s =>
     have e4:=in_side (st:=st) s
     generalize sdD (.str s) = r at *
     simp_all only [e1,e2,e3,isTp,isSt,at_0,at_1,e4,w.cut]
    | non=>simp_all only [e1,e2,e3,isTp,isSt,at_0,at_1,w.cut]; rfl
    | bl b=>simp_all only [e1,e2,e3,isTp,isSt,at_0,at_1,w.cut]; rfl
    | int b=>simp_all only [e1,e2,e3,isTp,isSt,at_0,at_1,w.cut]; rfl
    | _=>cases hy
 | _=>cases h
noncomputable def bearB (p : Int × Int) (q : Cl) : Bool:=if q.2 = true then decide (p.1 = q.1) else decide (p.2 = q.1)
theorem ev_bears (w : WF st) (p : Int × Int) (q : Cl) : m_bears K a [.d (.tup [.int p.1,.int p.2]),.d (qT q)] st = .ok (.d (.bl (if q.2 = true then decide (p.1 = q.1) else decide (p.2 = q.1)))) st:=by
 obtain ⟨i,b⟩:=q
 have q1 : atI [D.int p.1,D.int p.2] 0 = some (.int p.1):=rfl
 have q2 : atI [D.int p.1,D.int p.2] 1 = some (.int p.2):=rfl
 have d1 : decide (sd true = "own") = true:=by decide +kernel
 have d2 : decide (sd false = "own") = false:=by decide +kernel
 apply eq_of_wp
 unfold m_bears g_bears qT
 cases b with
 | true=>generalize sd true = s at *; simp_all only [q1,q2,d1,w.cut]
 | false=>generalize sd false = s at *; simp_all only [q1,q2,d2,w.cut]
theorem sgL2_pure {α : Type} {okd : List D → D → Bool} {tg gj : U → G} {tt tj : F Bool} {fj fe : F U} {env0 : VEnv} {ws : List Nat} {f : α → U} {g : α → List D} {W : List D} (ok : ∀ ys d zs,ys ++ d :: zs = W → okd ys d = true) : ∀ (xs : List α) (acc rest : List D),acc ++ xs.flatMap g ++ rest = W →
  (∀ x ∈ xs,∃ env1,tg (f x) env0 st = .ok env1 .nx st ∧ tt env1 st = .ok true st ∧ fj env1 st = .ok (.d (.lst (g x))) st ∧ ∀ z ∈ g x,∃ env2,gj (.d z) (wipeE env1 ws) st = .ok env2 .nx st ∧ tj env2 st = .ok true st ∧ fe env2 st = .ok (.d z) st) →
  sgL2 okd tg tt fj gj tj fe env0 ws (xs.map f) acc st = .ok (acc ++ xs.flatMap g) st
 | [],acc,_,_,_=>by rw [List.map_nil,List.flatMap_nil,List.append_nil]; rfl
 | x :: xs,acc,rest,hW,h=>by
  obtain ⟨env1,e1,e2,e3,e4⟩:=h x List.mem_cons_self
  rw [List.flatMap_cons] at hW
  have hs:=sgL_pure (st:=st) (okd:=okd) (tg:=gj) (tt:=tj) (fe:=fe) (env0:=wipeE env1 ws) (f:=U.d) (q:=fun z=>z) ok (g x) acc (xs.flatMap g ++ rest) (by rw [List.map_id',← hW]; simp only [List.append_assoc]) e4
  rw [List.map_id'] at hs
  rw [List.map_cons,sgL2]
  simp only [e1,e2,e3,hs]
  rw [sgL2_pure ok xs (acc ++ g x) rest (by rw [← hW]; simp only [List.append_assoc]) (fun y hy=>h y (List.mem_cons_of_mem _ hy)),List.append_assoc,List.flatMap_cons]
noncomputable def clsP (cs : List (Int × Int)) : List Cl:=cs.flatMap fun p=>[(p.1,true),(p.2,false)]
theorem clsP_D (cs : List (Int × Int)) : (cs.flatMap fun p=>[qT (p.1,true),qT (p.2,false)]) = qD (clsP cs):=by
 unfold qD clsP
 rw [List.map_flatMap]
 rfl
theorem mem_clsP {cs : List (Int × Int)} {q : Cl} : q ∈ clsP cs ↔ ∃ p ∈ cs,q = (p.1,true) ∨ q = (p.2,false):=by
 unfold clsP
 rw [List.mem_flatMap]
 simp
noncomputable def allC (Y : List Int) : List Cl:=(Y.map fun y=>(y,true)) ++ Y.map fun y=>(y,false)
theorem allC_len (Y : List Int) : (allC Y).length = 2 * Y.length:=by
 unfold allC
 rw [List.length_append,List.length_map,List.length_map]
 omega
theorem cls_all {Y : List Int} {cs : List (Int × Int)} (h : ∀ p ∈ cs,p.2 ∈ Y ∧ p.1 ∈ Y) : ∀ q ∈ clsP cs,q ∈ allC Y:=fun q hq=>by
 obtain ⟨p,hp,e⟩:=mem_clsP.mp hq
 unfold allC
 rcases e with rfl | rfl
 ·exact List.mem_append_left _ (List.mem_map.mpr ⟨_,(h p hp).2,rfl⟩)
 ·exact List.mem_append_right _ (List.mem_map.mpr ⟨_,(h p hp).1,rfl⟩)
theorem okM_qD {qs T : List Cl} (hT : ∀ q ∈ qs,q ∈ T) (hl : T.length < 63) : ∀ ys d zs,ys ++ d :: zs = qD qs → okM ys d = true:=fun ys d zs e=>by
 have e2 : ys ++ [d] = qD (qs.take (ys.length + 1)):=by
  have h:=congrArg (List.take (ys.length + 1)) e
  unfold qD at h ⊢
  rw [← List.map_take] at h
  rw [← h,List.take_append]
  simp
  exact (List.take_of_length_le (by omega)).symm
 unfold okM
 rw [e2,keysQ_all]
 simp only
 refine decide_eq_true ?_
 have:=nd_leG (distF_nd ((qs.take (ys.length + 1)).map keyQ)) (ys:=T.map keyQ) fun k hk=>by
  obtain ⟨q,hq,rfl⟩:=List.mem_map.mp (mem_distF.mp hk)
  exact List.mem_map.mpr ⟨q,hT q (List.mem_of_mem_take hq),rfl⟩
 rw [List.length_map] at this
 omega
theorem srt_len {qs rs T : List Cl} (h : Srt qs rs) (hT : ∀ q ∈ qs,q ∈ T) : rs.length ≤ T.length :=
 nd_leG (h.inc.imp fun z e=>by rw [e] at z; exact absurd z (Int.lt_irrefl _)) fun q hq=>hT q ((h.mem q).mp hq)
theorem ev_claims (w : WF st) {cs : List (Int × Int)} {Y : List Int} (hY : Y.length ≤ 15) (hcY : ∀ p ∈ cs,p.2 ∈ Y ∧ p.1 ∈ Y) : ∃ rs,Srt (clsP cs) rs ∧ ∀ st,WF st → m_claims_of K a [.d (.lst (cD cs))] st = .ok (.d (.lst (qD rs))) st:=by
 obtain ⟨rs,h1,h2⟩:=srt_of (clsP cs)
 refine ⟨rs,h2,fun st w=>?_⟩
 have hi : ∀ env : VEnv,env[0]? = some (some (.d (.lst (cD cs)))) → fIter (vVar 0) env st = .ok (.lst (cs.map fun p=>U.d (.tup [.int p.1,.int p.2]))) st:=fun env he=>by
  have : vVar 0 env st = .ok (.d (.lst (cD cs))) st:=by unfold vVar; rw [he]
  unfold fIter bnd
  rw [this]
  unfold cD
  simp only [itV,List.map_map,R.of]
  rfl
 have ec : c_claims_of_1 K a [some (.d (.lst (cD cs))),none,none,none] st = .ok (.d (.lst (qD rs))) st:=by
  unfold c_claims_of_1 fSortS fSg2 bnd
  rw [hi _ rfl]
  simp only
  rw [sgL2_pure (f:=fun p : Int × Int=>U.d (.tup [.int p.1,.int p.2])) (g:=fun p=>[qT (p.1,true),qT (p.2,false)]) (okM_qD (cls_all hcY) (by rw [allC_len]; omega)) cs [] [] (by rw [clsP_D,List.nil_append,List.append_nil]) fun p _=>⟨[some (.d (.lst (cD cs))),some (.d (.int p.1)),some (.d (.int p.2)),none],by simp only [fnM,sSeq,sRet,sRetN,sExpr,sIf,sNil,sNo,sAsg,tgN,bndS,bnd,vVar,vC,f2,f1,fB,pu,fN,vTup,vLst,fTup,fCons,fNil,fPure,fIf,fAnd,fOr,fNot,asB,asT,bAnd,bOr,bNot,fChain,fCall,fCW,gPos,gApp,R.of,R.of2,fM,pu4,tgT,tgCons,tgNil,unp,pureL,sPar,sPar3,fLstC,fFld,oFld,fMeth,insU,sFldS,setFld,fSl,oNone,oSome,tgSub,setU,fIter,fItN,fItS,sFor,getL,getT,VL.getD,keyD,tyB,lstC,oAdd,oSub,oMul,oFdiv,oMod,oPow,oNeg,oLt,oLe,oGt,oGe,oEq,oNe,oIsN,oNotN,oIn,oNotIn,oIx,oLen,oInt,oAbs,oMin,oMax,oStr,oList,oListC,oTuple,oAll,oAny,itemsU,lenN,truB,fJs,oFmt,List.map_cons,List.map_nil,List.length_cons,List.length_nil,List.replicate_succ,List.replicate_zero,List.cons_append,List.nil_append,List.append_nil,List.getElem?_cons_zero,List.getElem?_cons_succ,List.set_cons_zero,List.set_cons_succ,Nat.reduceAdd,Nat.reduceSub,Option.map_some,Option.map_none,if_true,if_false,ite_true,ite_false,Bool.false_eq_true,reduceCtorEq,true_and,and_true,and_self,Bool.not_true,Bool.not_false,Nat.zero_add,Option.bind_some,Option.bind_eq_bind,Option.pure_def,decide_true,decide_false,eq_self,Nat.reduceEqDiff,Nat.reduceLT,Nat.reduceLeDiff,Int.reduceLT,Int.reduceLE,Int.reduceEq,Bool.and_true,Bool.true_and,Bool.false_and,Bool.or_false,Bool.or_true,Bool.true_or,Bool.false_or,sz0,szl0,sz1,szl1,sz2,szl2,sz3,szl3,sz4,szl4,sz5,szl5,sz6,szl6,sz7,szl7,sz8,szl8,sz9,szl9,sz10,szl10,sz11,szl11,sz12,szl12,sz13,szl13,sz14,szl14,sz15,szl15,wipeE],rfl,by
   simp_all? only []
   rfl,fun z hz=>⟨[some (.d (.lst (cD cs))),some (.d (.int p.1)),some (.d (.int p.2)),some (.d z)],rfl,rfl,rfl⟩⟩]
  simp only [sgEnd,w.cut,List.nil_append,clsP_D,h1]
 apply eq_of_wp
 unfold m_claims_of g_claims_of
 generalize cD cs = CS at *
 generalize qD rs = RS at *
 simp_all only [ec,w.cut]
noncomputable def nuP (cs : List (Int × Int)) : Nat:=((runP (rightsP cs) 16 (((rightsP cs).map (·.1)).mergeSort fun a b=>decide (a ≤ b)) []).getD []).length
theorem ev_nu (w : WF st) {cs : List (Int × Int)} (hl : cs.length ≤ 160) {Y : List Int} (hY : Y.length ≤ 15) (hcY : ∀ p ∈ cs,p.2 ∈ Y ∧ p.1 ∈ Y) : ∃ ds,m_matching K a [.d (.lst (cD cs))] st = .ok (.d (.tup ds)) st ∧ ds.length = nuP cs:=by
 obtain ⟨P,r,I,e⟩:=ev_matching (K:=K) (a:=a) w hl hY hcY
 refine ⟨_,e,?_⟩
 unfold nuP
 rw [r,cD_len,List.length_mergeSort]
 unfold swp
 rw [List.length_map]
 rfl
noncomputable def without (cs : List (Int × Int)) (q : Cl) : List (Int × Int):=cs.filter fun p=>!bearB p q
noncomputable def lcP : List Cl → List (Int × Int) → Int → List Cl
 | [],_,_=>[]
 | q :: qs,cs,m=>if ((nuP (without cs q) : Nat) : Int) < m then q :: lcP qs (without cs q) (m - 1) else lcP qs cs m
section
variable {x0 x4 x5 x6 : Option U}
theorem lc_rest (w : WF st) {cs : List (Int × Int)} {q : Cl} {x2 x3 : Option U} (hl : cs.length ≤ 160) : c_least_cover_1 K a [x0,some (.d (.lst (cD cs))),x2,x3,some (.d (qT q)),x5,x6] st = .ok (.d (.lst (cD (without cs q)))) st:=by
 unfold c_least_cover_1
 have:=lc_eq (fi:=fIter (vVar 1)) (tg:=tgN 6) (tt:=bNot (asT (fCall 2 0 gPos (m_bears K a) (fCW (fCons (vVar 6) (fCons (vVar 4) fNil)) fNil)))) (fe:=vVar 6) (vs:=[6]) (env:=[x0,some (.d (.lst (cD cs))),x2,x3,some (.d (qT q)),x5,x6]) (f:=fun p : Int × Int=>U.d (.tup [.int p.1,.int p.2])) cs (fun p=>!bearB p q) (fun p=>.tup [.int p.1,.int p.2]) w (Nat.le_trans hl (by decide)) (by apply eq_of_wp; unfold cD; simp_all only [List.map_map]; rfl) fun p hp acc=>by
  have e : m_bears K a [.d (.tup [.int p.1,.int p.2]),.d (qT q)] (st ++ [.lst (acc.map .d)]) = .ok (.d (.bl (bearB p q))) (st ++ [.lst (acc.map .d)]):=ev_bears (w.pushL acc) p q
  generalize bearB p q = r at *
  generalize qT q = Q at *
  generalize cD cs = CS at *
  unfold LcP
  cases r with
  | true=>simp_all only [wipeE,e]; intro z; cases z
  | false=>simp_all only [wipeE,e]; intro _; simp_all only []
 rw [this]
 rfl
theorem lc_loopP {s0 : Store} (w : WF s0) {Y : List Int} (hY : Y.length ≤ 15) : ∀ (qs : List Cl) (cs : List (Int × Int)) (m : Int) (fs : List Cl) (x4 x5 : Option U),cs.length ≤ 160 → (∀ p ∈ cs,p.2 ∈ Y ∧ p.1 ∈ Y) → fs.length + qs.length ≤ 100 →
  ∃ y1 y3 y4 y5,loopL (tgN 4) (b_least_cover_1 K a) ((qD qs).map U.d) [x0,some (.d (.lst (cD cs))),some (.ref s0.length),some (.d (.int m)),x4,x5,x6] (s0 ++ [.lst ((qD fs).map .d)]) = .ok [x0,y1,some (.ref s0.length),y3,y4,y5,x6] .nx (s0 ++ [.lst ((qD (fs ++ lcP qs cs m)).map .d)])
 | [],cs,m,fs,x4,x5,_,_,_=>⟨_,_,_,_,by unfold lcP; rw [List.append_nil]; rfl⟩
 | q :: qs,cs,m,fs,x4,x5,hl,hcY,hz=>by
  rw [List.length_cons] at hz
  have w1:=w.pushL (qD fs)
  have hl2 : (without cs q).length ≤ 160:=Nat.le_trans (List.length_filter_le _ _) hl
  have hcY2 : ∀ p ∈ without cs q,p.2 ∈ Y ∧ p.1 ∈ Y:=fun p hp=>hcY p (List.mem_filter.mp hp).1
  have e1:=lc_rest (K:=K) (a:=a) (x0:=x0) (x2:=some (.ref s0.length)) (x3:=some (.d (.int m))) (x5:=x5) (x6:=x6) w1 (q:=q) hl
  obtain ⟨ds,e2,hd⟩:=ev_nu (K:=K) (a:=a) w1 hl2 hY hcY2
  have hn : (s0 ++ [O.lst ((qD fs).map U.d)])[s0.length]? = some (.lst ((qD fs).map .d)):=new_at
  have hsz : ((qD fs).map U.d).length < sizeLine:=by rw [List.length_map,qD_len]; exact Nat.lt_of_le_of_lt (show _ ≤ 100 by omega) (by decide)
  have hset : (s0 ++ [O.lst ((qD fs).map U.d)]).set s0.length (.lst ((qD fs).map U.d ++ [.d (qT q)])) = s0 ++ [.lst ((qD (fs ++ [q])).map .d)]:=by
   rw [nf_set0 rfl]
   unfold qD
   rw [List.map_append,List.map_append]
   rfl
  have sA : sAsg (c_least_cover_1 K a) (tgN 5) [x0,some (.d (.lst (cD cs))),some (.ref s0.length),some (.d (.int m)),some (.d (qT q)),x5,x6] (s0 ++ [.lst ((qD fs).map .d)]) = .ok [x0,some (.d (.lst (cD cs))),some (.ref s0.length),some (.d (.int m)),some (.d (qT q)),some (.d (.lst (cD (without cs q)))),x6] .nx (s0 ++ [.lst ((qD fs).map .d)]):=by
   simp only [sAsg,bndS,e1,tgN,List.set_cons_zero,List.set_cons_succ]
  by_cases hlt : ((nuP (without cs q) : Nat) : Int) < m
  ·obtain ⟨y1,y3,y4,y5,e⟩:=lc_loopP w hY qs (without cs q) (m - 1) (fs ++ [q]) (some (.d (qT q))) (some (.d (.lst (cD (without cs q))))) hl2 hcY2 (by rw [List.length_append,List.length_singleton]; omega)
   have eb : b_least_cover_1 K a [x0,some (.d (.lst (cD cs))),some (.ref s0.length),some (.d (.int m)),some (.d (qT q)),x5,x6] (s0 ++ [.lst ((qD fs).map .d)]) = .ok [x0,some (.d (.lst (cD (without cs q)))),some (.ref s0.length),some (.d (.int (m - 1))),some (.d (qT q)),some (.d (.lst (cD (without cs q)))),x6] .nx (s0 ++ [.lst ((qD (fs ++ [q])).map .d)]):=by
    have hb : decide (((nuP (without cs q) : Nat) : Int) < m) = true:=decide_eq_true hlt
    unfold b_least_cover_1
    refine (seq_of sA).trans ?_
    rw [← hset]
    rw [← hd] at hb
    generalize cD (without cs q) = CW at *
    generalize cD cs = CS at *
    generalize qT q = Q at *
    generalize (qD fs).map U.d = F at *
    simp_all? only [e2,hb,mAppend,hn,hsz]
   refine ⟨y1,y3,y4,y5,?_⟩
   show loopL _ _ (.d (qT q) :: (qD qs).map U.d) _ _ = _
   unfold loopL
   simp only [tgN,List.set_cons_zero,List.set_cons_succ,eb,e]
   have : lcP (q :: qs) cs m = q :: lcP qs (without cs q) (m - 1):=by rw [lcP,if_pos hlt]
   rw [this,List.append_assoc]
   rfl
  ·obtain ⟨y1,y3,y4,y5,e⟩:=lc_loopP w hY qs cs m fs (some (.d (qT q))) (some (.d (.lst (cD (without cs q))))) hl hcY (by omega)
   have eb : b_least_cover_1 K a [x0,some (.d (.lst (cD cs))),some (.ref s0.length),some (.d (.int m)),some (.d (qT q)),x5,x6] (s0 ++ [.lst ((qD fs).map .d)]) = .ok [x0,some (.d (.lst (cD cs))),some (.ref s0.length),some (.d (.int m)),some (.d (qT q)),some (.d (.lst (cD (without cs q)))),x6] .nx (s0 ++ [.lst ((qD fs).map .d)]):=by
    have hb : decide (((nuP (without cs q) : Nat) : Int) < m) = false:=decide_eq_false hlt
    unfold b_least_cover_1
    refine (seq_of sA).trans ?_
    rw [← hd] at hb
    generalize cD (without cs q) = CW at *
    generalize cD cs = CS at *
    generalize qT q = Q at *
    generalize (qD fs).map U.d = F at *
    simp_all? only [e2,hb]
   refine ⟨y1,y3,y4,y5,?_⟩
   show loopL _ _ (.d (qT q) :: (qD qs).map U.d) _ _ = _
   unfold loopL
   simp only [tgN,List.set_cons_zero,List.set_cons_succ,eb,e]
   rw [show lcP (q :: qs) cs m = lcP qs cs m by rw [lcP,if_neg hlt]]
end
theorem lcP_sub : ∀ (qs : List Cl) (cs : List (Int × Int)) (m : Int),(lcP qs cs m).Sublist qs
 | [],_,_=>by unfold lcP; exact List.Sublist.refl _
 | q :: qs,cs,m=>by
  unfold lcP
  split
  ·exact (lcP_sub qs _ _).cons₂ q
  ·exact (lcP_sub qs _ _).cons q
theorem ev_least (w : WF st) {cs : List (Int × Int)} (hl : cs.length ≤ 150) {Y : List Int} (hY : Y.length ≤ 15) (hcY : ∀ p ∈ cs,p.2 ∈ Y ∧ p.1 ∈ Y) : ∃ rs,Srt (clsP cs) rs ∧ ∀ st,WF st → m_least_cover K a [.d (.lst (cD cs))] st = .ok (.d (.tup (qD (lcP rs cs ((nuP cs : Nat) : Int))))) st:=by
 obtain ⟨rs,hr,ec⟩:=ev_claims (K:=K) (a:=a) w hY hcY
 refine ⟨rs,hr,fun st w=>?_⟩
 have hrl : rs.length ≤ 60:=by
  have:=srt_len hr (cls_all hcY)
  rw [allC_len] at this
  omega
 have w1 : WF (st ++ [O.lst []]):=w.pushL []
 obtain ⟨ds,e1,hd⟩:=ev_nu (K:=K) (a:=a) w1 (by omega : cs.length ≤ 160) hY hcY
 have e2:=ec _ w1
 obtain ⟨y1,y3,y4,y5,e3⟩:=lc_loopP (K:=K) (a:=a) (x0:=some (.d (.lst (cD cs)))) (x6:=none) w hY rs cs ((nuP cs : Nat) : Int) [] none none (by omega) hcY (by simp; omega)
 rw [List.nil_append] at e3
 have sA : sPar 1 2 (fCons (fB (pu oList) (fCons (vVar 0) fNil)) (fCons (fLstC fNil) fNil)) [some (.d (.lst (cD cs))),none,none,none,none,none,none] st = .ok [some (.d (.lst (cD cs))),some (.d (.lst (cD cs))),some (.ref st.length),none,none,none,none] .nx (st ++ [O.lst []]):=by
  clear ec
  generalize cD cs = CS at *
  simp_all? only [pureL_map]
 have sB : sAsg (fB (pu oLen) (fCons (fCall 1 0 gPos (m_matching K a) (fCW (fCons (vVar 1) fNil) fNil)) fNil)) (tgN 3) [some (.d (.lst (cD cs))),some (.d (.lst (cD cs))),some (.ref st.length),none,none,none,none] (st ++ [O.lst []]) = .ok [some (.d (.lst (cD cs))),some (.d (.lst (cD cs))),some (.ref st.length),some (.d (.int ((nuP cs : Nat) : Int))),none,none,none] .nx (st ++ [O.lst []]):=by
  clear ec e3 sA
  rw [← hd]
  generalize cD cs = CS at *
  simp_all? only [e1]
 have sC : sFor (fIter (fCall 1 0 gPos (m_claims_of K a) (fCW (fCons (vVar 0) fNil) fNil))) (tgN 4) (b_least_cover_1 K a) [some (.d (.lst (cD cs))),some (.d (.lst (cD cs))),some (.ref st.length),some (.d (.int ((nuP cs : Nat) : Int))),none,none,none] (st ++ [O.lst []]) = .ok [some (.d (.lst (cD cs))),y1,some (.ref st.length),y3,y4,y5,none] .nx (st ++ [.lst ((qD (lcP rs cs ((nuP cs : Nat) : Int))).map .d)]):=by
  rw [sFor_lst (us:=(qD rs).map U.d) (st1:=st ++ [O.lst []]) (by
   clear ec e3 sA sB e1
   generalize cD cs = CS at *
   generalize qD rs = RS at *
   simp_all? only [e2,itV])]
  exact e3
 have hn : (st ++ [O.lst ((qD (lcP rs cs ((nuP cs : Nat) : Int))).map U.d)])[st.length]? = some (.lst ((qD (lcP rs cs ((nuP cs : Nat) : Int))).map .d)):=new_at
 have ht : oTuple [.ref st.length] (st ++ [.lst ((qD (lcP rs cs ((nuP cs : Nat) : Int))).map .d)]) = some (.d (.tup (qD (lcP rs cs ((nuP cs : Nat) : Int))))):=by
  unfold oTuple
  simp only [getL,hn,pureL_map,Option.map_some]
 have sD : sRet (fB (pu oTuple) (fCons (vVar 2) fNil)) [some (.d (.lst (cD cs))),y1,some (.ref st.length),y3,y4,y5,none] (st ++ [.lst ((qD (lcP rs cs ((nuP cs : Nat) : Int))).map .d)]) = .ok [some (.d (.lst (cD cs))),y1,some (.ref st.length),y3,y4,y5,none] (.rt (.d (.tup (qD (lcP rs cs ((nuP cs : Nat) : Int)))))) (st ++ [.lst ((qD (lcP rs cs ((nuP cs : Nat) : Int))).map .d)]):=by
  have hv : vVar 2 [some (.d (.lst (cD cs))),y1,some (.ref st.length),y3,y4,y5,none] (st ++ [.lst ((qD (lcP rs cs ((nuP cs : Nat) : Int))).map .d)]) = .ok (.ref st.length) (st ++ [.lst ((qD (lcP rs cs ((nuP cs : Nat) : Int))).map .d)]):=rfl
  have h2:=fB_1 (g:=pu oTuple) hv (pu_1 ht)
  unfold sRet bndS
  rw [h2]
 have hw : wFrz st.length (.d (.tup (qD (lcP rs cs ((nuP cs : Nat) : Int))))) (st ++ [.lst ((qD (lcP rs cs ((nuP cs : Nat) : Int))).map .d)]) = .ok (.d (.tup (qD (lcP rs cs ((nuP cs : Nat) : Int))))) st:=by
  have:=w.cutA [.lst ((qD (lcP rs cs ((nuP cs : Nat) : Int))).map .d)]
  unfold wFrz
  simp only [frz_dd,this]
 unfold m_least_cover g_least_cover
 simp only [fnM,List.map_cons,List.map_nil,List.length_cons,List.length_nil,List.replicate_succ,List.replicate_zero,List.cons_append,List.nil_append,Nat.reduceAdd,Nat.reduceSub,seq_of sA,seq_of sB,seq_of sC,sD,hw]
noncomputable def Cov (cs : List (Int × Int)) (Q : List Cl) : Prop:=∀ p ∈ cs,(p.1,true) ∈ Q ∨ (p.2,false) ∈ Q
theorem nd_leQ {xs ys : List Cl} (h : xs.Nodup) (hs : ∀ x ∈ xs,x ∈ ys) : xs.length ≤ ys.length:=by
 induction xs generalizing ys with
 | nil=>exact Nat.zero_le _
 | cons x xs ih =>
  rw [List.nodup_cons] at h
  have hx:=hs x List.mem_cons_self
  have:=ih (ys:=ys.erase x) h.2 fun z hz=>(List.mem_erase_of_ne (fun e : z = x=>h.1 (by rw [← e]; exact hz))).mpr (hs z (List.mem_cons_of_mem _ hz))
  rw [List.length_erase_of_mem hx] at this
  have hp:=List.length_pos_of_mem hx
  rw [List.length_cons]
  omega
theorem nu_facts (K : PySem.W.Frag) (a : Ad) {cs : List (Int × Int)} (hl : cs.length ≤ 160) {Y : List Int} (hY : Y.length ≤ 15) (hcY : ∀ p ∈ cs,p.2 ∈ Y ∧ p.1 ∈ Y) :
  (∃ Q : List Cl,Q.length = nuP cs ∧ Cov cs Q ∧ ∀ q ∈ Q,q ∈ clsP cs) ∧ ∀ Q,Cov cs Q → nuP cs ≤ Q.length:=by
 obtain ⟨P,r,I,-⟩:=ev_matching (K:=K) (a:=a) (st:=[]) WF.nil hl hY hcY
 obtain ⟨U,M⟩:=mat_ok r I
 have hn : nuP cs = P.length:=by
  unfold nuP
  rw [r]
  rfl
 have uniq : ∀ {y x x' : Int},(y,x) ∈ P → (y,x') ∈ P → x = x':=fun {y x x'} h1 h2=>by
  have e1:=getP_of M.nd h1
  have e2:=getP_of M.nd h2
  simp only at e1 e2
  rw [e1] at e2
  exact Option.some.inj e2
 constructor
 ·refine ⟨P.map fun q=>if q.1 ∈ U then (q.1,false) else (q.2,true),by rw [List.length_map,hn],fun p hp=>?_,fun q hq=>?_⟩
  ·by_cases hy : p.2 ∈ U
   ·obtain ⟨x',h1,-⟩:=M.cl p.2 hy
    exact .inr (List.mem_map.mpr ⟨(p.2,x'),h1,if_pos hy⟩)
   ·rcases M.free p.1 p.2 hp with ⟨y',h⟩ | h
    ·by_cases hy' : y' ∈ U
     ·obtain ⟨x',h1,h2⟩:=M.cl y' hy'
      have:=uniq h h1
      exact absurd (h2 p.2 (by rw [← this]; exact hp)) hy
     ·exact .inl (List.mem_map.mpr ⟨(y',p.1),h,if_neg hy'⟩)
    ·exact absurd (h p.2 hp) hy
  ·obtain ⟨p,hp,rfl⟩:=List.mem_map.mp hq
   have:=M.edge p hp
   rw [mem_clsP]
   split
   ·exact ⟨(p.2,p.1),this,.inr rfl⟩
   ·exact ⟨(p.2,p.1),this,.inl rfl⟩
 ·intro Q hQ
  rw [hn]
  have hP : P.Nodup:=List.Pairwise.of_map (·.1) (fun _ _ h e=>h (by rw [e])) M.nd
  have hnd : (P.map fun q=>if ((q.2,true) : Cl) ∈ Q then ((q.2,true) : Cl) else (q.1,false)).Nodup:=by
   have key : ∀ (l : List (Int × Int)),l.Nodup → (∀ p ∈ l,p ∈ P) → (l.map fun q=>if ((q.2,true) : Cl) ∈ Q then ((q.2,true) : Cl) else (q.1,false)).Nodup:=by
    intro l
    induction l with
    | nil=>intro _ _; exact List.nodup_nil
    | cons p l ih =>
     intro h hs
     rw [List.nodup_cons] at h
     rw [List.map_cons,List.nodup_cons]
     refine ⟨fun hm=>?_,ih h.2 fun q hq=>hs q (List.mem_cons_of_mem _ hq)⟩
     obtain ⟨q,hq,e⟩:=List.mem_map.mp hm
     have hqP:=hs q (List.mem_cons_of_mem _ hq)
     have hpP:=hs p List.mem_cons_self
     have : q = p:=by
      split at e
      ·split at e
       ·exact M.inj q hqP p hpP (Prod.mk.inj e).1
       ·cases congrArg Prod.snd e
      ·split at e
       ·cases congrArg Prod.snd e
       ·have e1 : q.1 = p.1:=(Prod.mk.inj e).1
        have h1 : (q.1,q.2) ∈ P:=hqP
        have h2 : (q.1,p.2) ∈ P:=by rw [e1]; exact hpP
        exact Prod.ext e1 (uniq h1 h2)
     exact h.1 (this ▸ hq)
   exact key P hP fun _ h=>h
  have:=nd_leQ (ys:=Q) hnd fun z hz=>by
   obtain ⟨q,hq,rfl⟩:=List.mem_map.mp hz
   split
   ·assumption
   ·rename_i h1
    rcases hQ (q.2,q.1) (M.edge q hq) with h | h
    ·exact absurd h h1
    ·exact h
  rwa [List.length_map] at this
theorem bearB_iff (p : Int × Int) (q : Cl) : bearB p q = true ↔ q = (p.1,true) ∨ q = (p.2,false):=by
 obtain ⟨i,b⟩:=q
 unfold bearB
 cases b
 ·simp [eq_comm]
 ·simp [eq_comm]
theorem cov_without {cs : List (Int × Int)} {q : Cl} {Q : List Cl} : Cov (without cs q) Q ↔ Cov cs (q :: Q):=by
 unfold Cov without
 constructor
 ·intro h p hp
  by_cases hb : bearB p q = true
  ·rcases (bearB_iff p q).mp hb with e | e
   ·exact .inl (by rw [← e]; exact List.mem_cons_self)
   ·exact .inr (by rw [← e]; exact List.mem_cons_self)
  ·rcases h p (List.mem_filter.mpr ⟨hp,by rw [Bool.not_eq_true'] ; exact Bool.eq_false_iff.mpr hb⟩) with h1 | h1
   ·exact .inl (List.mem_cons_of_mem _ h1)
   ·exact .inr (List.mem_cons_of_mem _ h1)
 ·intro h p hp
  obtain ⟨h1,h2⟩:=List.mem_filter.mp hp
  have hb : ¬ bearB p q = true:=by rw [Bool.not_eq_true'] at h2; rw [h2]; decide
  rcases h p h1 with h3 | h3
  ·rcases List.mem_cons.mp h3 with e | h3
   ·exact absurd ((bearB_iff p q).mpr (.inl e.symm)) hb
   ·exact .inl h3
  ·rcases List.mem_cons.mp h3 with e | h3
   ·exact absurd ((bearB_iff p q).mpr (.inr e.symm)) hb
   ·exact .inr h3
structure Gd (Y : List Int) (cs : List (Int × Int)) : Prop where
 len : cs.length ≤ 160
 y : ∀ p ∈ cs,p.2 ∈ Y ∧ p.1 ∈ Y
theorem Gd.without {Y : List Int} {cs : List (Int × Int)} (h : Gd Y cs) (q : Cl) : Gd Y (without cs q) :=
 ⟨Nat.le_trans (List.length_filter_le _ _) h.len,fun p hp=>h.y p (List.mem_filter.mp hp).1⟩
theorem Cov.mono {cs : List (Int × Int)} {Q Q' : List Cl} (h : Cov cs Q) (hs : ∀ q ∈ Q,q ∈ Q') : Cov cs Q':=fun p hp=>(h p hp).imp (hs _) (hs _)
section
variable (kf : PySem.W.Frag) (ad : Ad) {Y : List Int} (hY : Y.length ≤ 15)
include kf ad hY
theorem nu_ge {cs : List (Int × Int)} (g : Gd Y cs) (q : Cl) : nuP cs ≤ nuP (without cs q) + 1:=by
 obtain ⟨⟨Q,h1,h2,-⟩,-⟩:=nu_facts kf ad (g.without q).len hY (g.without q).y
 obtain ⟨-,h4⟩:=nu_facts kf ad g.len hY g.y
 have:=h4 (q :: Q) (cov_without.mp h2)
 rw [List.length_cons] at this
 omega
theorem nu_le {cs : List (Int × Int)} (g : Gd Y cs) (q : Cl) : nuP (without cs q) ≤ nuP cs:=by
 obtain ⟨⟨Q,h1,h2,-⟩,-⟩:=nu_facts kf ad g.len hY g.y
 obtain ⟨-,h4⟩:=nu_facts kf ad (g.without q).len hY (g.without q).y
 have:=h4 Q (cov_without.mpr (h2.mono fun z hz=>List.mem_cons_of_mem _ hz))
 omega
theorem lc_main : ∀ (qs : List Cl) (cs : List (Int × Int)) (S : List Cl),Gd Y cs → (∀ Q,Cov cs Q → Q.length = nuP cs → ∀ q ∈ Q,q ∉ S) → (∀ q ∈ clsP cs,q ∈ S ∨ q ∈ qs) →
  (lcP qs cs ((nuP cs : Nat) : Int)).length = nuP cs ∧ Cov cs (lcP qs cs ((nuP cs : Nat) : Int))
 | [],cs,S,g,hS,hq=>by
  obtain ⟨⟨Q,h1,h2,h3⟩,-⟩:=nu_facts kf ad g.len hY g.y
  have hQ : Q = []:=by
   cases Q with
   | nil=>rfl
   | cons q Q =>
    rcases hq q (h3 q List.mem_cons_self) with h | h
    ·exact absurd h (hS (q :: Q) h2 h1 q List.mem_cons_self)
    ·cases h
  subst hQ
  unfold lcP
  exact ⟨h1,h2⟩
 | q :: qs,cs,S,g,hS,hq=>by
  have n1:=nu_ge kf ad hY g q
  have n2:=nu_le kf ad hY g q
  by_cases hlt : ((nuP (without cs q) : Nat) : Int) < ((nuP cs : Nat) : Int)
  ·have e : ((nuP cs : Nat) : Int) - 1 = ((nuP (without cs q) : Nat) : Int):=by omega
   obtain ⟨r1,r2⟩:=lc_main qs (without cs q) S (g.without q) (fun Q hQ hl z hz=>hS (q :: Q) (cov_without.mp hQ) (by rw [List.length_cons,hl]; omega) z (List.mem_cons_of_mem _ hz)) fun z hz=>by
    rw [mem_clsP] at hz
    obtain ⟨p,hp,hzp⟩:=hz
    obtain ⟨p1,p2⟩:=List.mem_filter.mp hp
    rcases hq z (mem_clsP.mpr ⟨p,p1,hzp⟩) with h | h
    ·exact .inl h
    ·rcases List.mem_cons.mp h with rfl | h
     ·have:=(bearB_iff p z).mpr hzp
      rw [this] at p2
      cases p2
     ·exact .inr h
   rw [lcP,if_pos hlt,e]
   exact ⟨by rw [List.length_cons,r1]; omega,cov_without.mp r2⟩
  ·obtain ⟨r1,r2⟩:=lc_main qs cs (q :: S) g (fun Q hQ hl z hz hzS=>by
    rcases List.mem_cons.mp hzS with rfl | hzS
    ·have hc : Cov (without cs z) (Q.erase z):=by
      rw [cov_without]
      refine hQ.mono fun x hx=>?_
      by_cases e : x = z
      ·rw [e]; exact List.mem_cons_self
      ·exact List.mem_cons_of_mem _ ((List.mem_erase_of_ne e).mpr hx)
     obtain ⟨-,h4⟩:=nu_facts kf ad (g.without z).len hY (g.without z).y
     have:=h4 _ hc
     rw [List.length_erase_of_mem hz] at this
     have hp:=List.length_pos_of_mem hz
     omega
    ·exact hS Q hQ hl z hz hzS) fun z hz=>by
    rcases hq z hz with h | h
    ·exact .inl (List.mem_cons_of_mem _ h)
    ·rcases List.mem_cons.mp h with rfl | h
     ·exact .inl List.mem_cons_self
     ·exact .inr h
   rw [lcP,if_neg hlt]
   exact ⟨r1,r2⟩
end
theorem inT_qD (q : Cl) (qs : List Cl) : inTD st (.d (qT q)) (.d (.tup (qD qs))) = some (decide (q ∈ qs)):=by
 haveI : Decidable (qT q ∈ qD qs):=decidable_of_iff _ mem_qD.symm
 have e1 : asP st (.d (qT q)) = some (pD (qT q)):=by rw [asP_d]; exact toP_pl (qT_pl q)
 have hp : plD (.tup (qD qs)) = true:=by simpa [plD] using qD_pl qs
 have e2 : asP st (.d (.tup (qD qs))) = some (.tuple (pDs (qD qs))):=by rw [asP_d]; simpa [pD] using toP_pl hp
 have h1 : (pD (qT q)).plain = true:=PyData.plain_of_canLay0 _ (lay_pl (qT_pl q))
 have h2 : PyData.plainAll (pDs (qD qs)) = true:=by
  have:=PyData.plain_of_canLay0 _ (lay_pl hp)
  simpa [pD,PyData.plain] using this
 have h3 : (pD (qT q)).depth ≤ 60:=Nat.le_trans (depth_pl _) (show 1 ≤ 60 by decide)
 unfold inTD
 simp only [e1,e2]
 rw [if_pos ⟨h1,h2,h3⟩,any_pl (qT_pl q) (qD_pl qs)]
 exact congrArg some (decide_eq_decide.mpr mem_qD)
noncomputable def covP (cs : List (Int × Int)) (qs : List Cl) : Bool:=ascD (qD qs) && ((qs.all fun q=>decide (q ∈ clsP cs)) && cs.all fun p=>qs.any fun q=>bearB p q)
noncomputable def covD (cs : List (Int × Int)) : D → Bool
 | .tup ds=>match allM clD ds with
  | some qs=>covP cs qs
  | none=>false
 | _=>false
theorem keys_qD {qs : List Cl} : ∀ d ∈ qD qs,∃ k,keysD d = some k ∧ shpK k = [true,false]:=fun d hd=>by
 obtain ⟨p,-,rfl⟩:=List.mem_map.mp hd
 exact ⟨keyQ p,rfl,rfl⟩
theorem ev_cov1 (w : WF st) {B : Int} {x0 x2 x3 : Option U} {ds : List D} (hl : ds.length ≤ 40) (h : ds.all (elD B) = true) : c_is_cover_1 K a [x0,some (.d (.tup ds)),x2,x3] st = .ok (.d (.lst (ds.map fun d=>D.bl (clD d).isSome))) st:=by
 unfold c_is_cover_1
 refine lc_eq1 (f:=U.d) ds (fun d=>.bl (clD d).isSome) w (Nat.le_trans hl (by decide)) (by apply eq_of_wp; simp_all only []) fun d hd acc=>?_
 have e1:=ev_isclaim (K:=K) (a:=a) (w.pushL acc) (List.all_eq_true.mp h d hd)
 unfold LcP
 simp_all only [wipeE,tYesB]
 intro _
 simp_all only [e1]
theorem ev_cov2 (w : WF st) {cs : List (Int × Int)} {qs : List Cl} {x2 x3 : Option U} (hc : cs.length ≤ 160) {Y : List Int} (hY : Y.length ≤ 15) (hcY : ∀ p ∈ cs,p.2 ∈ Y ∧ p.1 ∈ Y) (hl : qs.length ≤ 40) : c_is_cover_2 K a [some (.d (.lst (cD cs))),some (.d (.tup (qD qs))),x2,x3] st = .ok (.d (.lst (qs.map fun q=>D.bl (decide (q ∈ clsP cs))))) st:=by
 obtain ⟨rs,hr,ec⟩:=ev_claims (K:=K) (a:=a) w hY hcY
 unfold c_is_cover_2
 refine lc_eq1 (f:=fun q=>U.d (qT q)) qs (fun q=>.bl (decide (q ∈ clsP cs))) w (Nat.le_trans hl (by decide)) (by apply eq_of_wp; unfold qD; simp_all only [List.map_map]; rfl) fun q hq acc=>?_
 have e1 : inB (st ++ [.lst (acc.map .d)]) (.d (qT q)) (.d (.lst (qD rs))) = some (decide (q ∈ clsP cs)):=(in_qD (st:=st ++ [.lst (acc.map .d)]) q rs).trans (congrArg some (decide_eq_decide.mpr (hr.mem q)))
 have e2:=ec _ (w.pushL acc)
 clear ec
 unfold LcP
 generalize cD cs = CS at *
 generalize qD rs = RS at *
 simp_all only [wipeE,tYesB]
 intro _
 simp_all only [e1,e2]
theorem ev_cov3 (w : WF st) {p : Int × Int} {qs : List Cl} {x0 x2 : Option U} (hl : qs.length ≤ 40) : c_is_cover_3 K a [x0,some (.d (.tup (qD qs))),x2,some (.d (.tup [.int p.1,.int p.2]))] st = .ok (.d (.lst (qs.map fun q=>D.bl (bearB p q)))) st:=by
 unfold c_is_cover_3
 refine lc_eq1 (f:=fun q=>U.d (qT q)) qs (fun q=>.bl (bearB p q)) w (Nat.le_trans hl (by decide)) (by apply eq_of_wp; unfold qD; simp_all only [List.map_map]; rfl) fun q hq acc=>?_
 have e1:=ev_bears (K:=K) (a:=a) (w.pushL acc) p q
 unfold LcP bearB
 simp_all only [wipeE,tYesB]
 intro _
 simp_all only [e1]
theorem ev_cov4 (w : WF st) {cs : List (Int × Int)} {qs : List Cl} {x2 x3 : Option U} (hc : cs.length ≤ 160) (hl : qs.length ≤ 40) : c_is_cover_4 K a [some (.d (.lst (cD cs))),some (.d (.tup (qD qs))),x2,x3] st = .ok (.d (.lst (cs.map fun p=>D.bl (qs.any fun q=>bearB p q)))) st:=by
 unfold c_is_cover_4
 refine lc_eq1 (f:=fun p : Int × Int=>U.d (.tup [.int p.1,.int p.2])) cs (fun p=>.bl (qs.any fun q=>bearB p q)) w (Nat.le_trans hc (by decide)) (by apply eq_of_wp; unfold cD; simp_all only [List.map_map]; rfl) fun p hp acc=>?_
 have e1:=ev_cov3 (K:=K) (a:=a) (w.pushL acc) (p:=p) (x0:=some (.d (.lst (cD cs)))) (x2:=x2) hl
 have b1:=blsU_map (fun q=>bearB p q) qs
 have a1 : (qs.map fun q=>bearB p q).any id = qs.any fun q=>bearB p q:=by rw [List.any_map]; rfl
 generalize (qs.map fun q=>D.bl (bearB p q)) = X at *
 generalize (qs.map fun q=>bearB p q) = Y at *
 unfold LcP
 simp_all only [wipeE,tYesB]
 intro _
 simp_all only [e1,oAny,b1,a1]
theorem ev_iscov (w : WF st) {cs : List (Int × Int)} (hc : cs.length ≤ 160) {Y : List Int} (hY : Y.length ≤ 15) (hcY : ∀ p ∈ cs,p.2 ∈ Y ∧ p.1 ∈ Y) {B : Int} {t : D} (h : thD B t = true) : m_is_cover K a [.d (.lst (cD cs)),.d t] st = .ok (.d (.bl (covD cs t))) st:=by
 have e1:=isi_tup (K:=K) (a:=a) (st:=st) (th_six h)
 apply eq_of_wp
 unfold m_is_cover g_is_cover
 cases t with
 | non=>simp_all only [e1,isTp,covD,w.cut]
 | bl b=>simp_all only [e1,isTp,covD,w.cut]
 | int i=>simp_all only [e1,isTp,covD,w.cut]
 | str s=>simp_all only [e1,isTp,covD,w.cut]
 | lst s=>simp_all only [e1,isTp,covD,w.cut]
 | tup ds =>
  unfold thD at h
  rw [Bool.and_eq_true,decide_eq_true_eq] at h
  have c1:=ev_cov1 (K:=K) (a:=a) w (x0:=some (.d (.lst (cD cs)))) (x2:=none) (x3:=none) h.1 h.2
  have b1:=blsU_map (fun d=>(clD d).isSome) ds
  have a1 : (ds.map fun d=>(clD d).isSome).all id = ds.all fun d=>(clD d).isSome:=by rw [List.all_map]; rfl
  cases hp : ds.all fun d=>(clD d).isSome with
  | false =>
   rw [hp] at a1
   have : covD cs (.tup ds) = false:=by unfold covD; simp only [allM_none hp]
   rw [this]
   generalize (ds.map fun d=>D.bl (clD d).isSome) = X at *
   generalize (ds.map fun d=>(clD d).isSome) = Y at *
   simp_all only [e1,c1,b1,a1,isTp,w.cut]
  | true =>
   rw [hp] at a1
   obtain ⟨qs,hqs⟩:=allM_some hp
   have hm : covD cs (.tup ds) = covP cs qs:=by unfold covD; simp only [hqs]
   rw [hm]
   have hds:=clDs hqs
   have hl : qs.length ≤ 40:=by have:=h.1; rw [hds,qD_len] at this; exact this
   have c2:=ev_asc (K:=K) (a:=a) w (keys_qD (qs:=qs)) (by rw [qD_len]; omega)
   have c3:=ev_cov2 (K:=K) (a:=a) w (cs:=cs) (qs:=qs) (x2:=none) (x3:=none) hc hY hcY hl
   have c4:=ev_cov4 (K:=K) (a:=a) w (cs:=cs) (qs:=qs) (x2:=none) (x3:=none) hc hl
   have b3:=blsU_map (fun q=>decide (q ∈ clsP cs)) qs
   have a3 : (qs.map fun q=>decide (q ∈ clsP cs)).all id = qs.all fun q=>decide (q ∈ clsP cs):=by rw [List.all_map]; rfl
   have b4:=blsU_map (fun p=>qs.any fun q=>bearB p q) cs
   have a4 : (cs.map fun p=>qs.any fun q=>bearB p q).all id = cs.all fun p=>qs.any fun q=>bearB p q:=by rw [List.all_map]; rfl
   rw [← hds] at c2 c3 c4
   unfold covP
   rw [← hds]
   generalize (ds.map fun d=>D.bl (clD d).isSome) = X at *
   generalize (ds.map fun d=>(clD d).isSome) = Y at *
   generalize (qs.map fun q=>D.bl (decide (q ∈ clsP cs))) = X2 at *
   generalize (qs.map fun q=>decide (q ∈ clsP cs)) = Y2 at *
   generalize (qs.all fun q=>decide (q ∈ clsP cs)) = r3 at *
   generalize (cs.map fun p=>D.bl (qs.any fun q=>bearB p q)) = X4 at *
   generalize (cs.map fun p=>qs.any fun q=>bearB p q) = Y4 at *
   generalize (cs.all fun p=>qs.any fun q=>bearB p q) = r4 at *
   generalize ascD ds = r2 at *
   generalize cD cs = CS at *
   cases r2 with
   | false=>simp_all only [e1,c1,b1,a1,c2,isTp,w.cut]
   | true =>
    cases r3 with
    | false=>simp_all only [e1,c1,b1,a1,c2,c3,b3,a3,isTp,w.cut]
    | true=>simp_all only [e1,c1,b1,a1,c2,c3,b3,a3,c4,b4,a4,isTp,w.cut]
 | _=>cases h
noncomputable def matP (cs : List (Int × Int)) (ps : List (Int × Int)) : Bool:=ascD (cD ps) && (ps.all (fun p=>decide (p ∈ cs)) && (decide ((distI (ps.map (·.1))).length = ps.length) && decide ((distI (ps.map (·.2))).length = ps.length)))
noncomputable def matD (cs : List (Int × Int)) : D → Bool
 | .tup ds=>match allM prD ds with
  | some ps=>matP cs ps
  | none=>false
 | _=>false
theorem keys_cD {ps : List (Int × Int)} : ∀ d ∈ cD ps,∃ k,keysD d = some k ∧ shpK k = [true,true]:=fun d hd=>by
 obtain ⟨p,-,rfl⟩:=List.mem_map.mp hd
 exact ⟨[.inl p.1,.inl p.2],rfl,rfl⟩
theorem ints_all (xs : List Int) : allM intD (xs.map D.int) = some xs:=by
 induction xs with
 | nil=>rfl
 | cons x xs ih=>rw [List.map_cons,allM,ih]; rfl
theorem ev_mat1 (w : WF st) {B : Int} {x0 x2 x3 x4 x5 : Option U} {ds : List D} (hl : ds.length ≤ 40) (h : ds.all (elD B) = true) : c_is_matching_1 K a [x0,some (.d (.tup ds)),x2,x3,x4,x5] st = .ok (.d (.lst (ds.map fun d=>D.bl (prD d).isSome))) st:=by
 unfold c_is_matching_1
 refine lc_eq1 (f:=U.d) ds (fun d=>.bl (prD d).isSome) w (Nat.le_trans hl (by decide)) (by apply eq_of_wp; simp_all only []) fun d hd acc=>?_
 have e1:=ev_ispair (K:=K) (a:=a) (w.pushL acc) (List.all_eq_true.mp h d hd)
 unfold LcP
 simp_all only [wipeE,tYesB]
 intro _
 simp_all only [e1]
theorem ev_mat2 (w : WF st) {cs ps : List (Int × Int)} {x2 x3 x4 x5 : Option U} (hl : ps.length ≤ 40) : c_is_matching_2 K a [some (.d (.lst (cD cs))),some (.d (.tup (cD ps))),x2,x3,x4,x5] st = .ok (.d (.lst (ps.map fun p=>D.bl (decide (p ∈ cs))))) st:=by
 unfold c_is_matching_2
 refine lc_eq1 (f:=fun p : Int × Int=>U.d (.tup [.int p.1,.int p.2])) ps (fun p=>.bl (decide (p ∈ cs))) w (Nat.le_trans hl (by decide)) (by apply eq_of_wp; unfold cD; simp_all only [List.map_map]; rfl) fun d hd acc=>?_
 have e1:=in_cD (st:=st ++ [.lst (acc.map .d)]) d cs
 unfold LcP
 simp_all only [wipeE,tYesB]
 intro _
 simp_all only [e1]
theorem ev_mat3 (w : WF st) {ps : List (Int × Int)} {x0 x2 x3 x4 x5 : Option U} (hl : ps.length ≤ 40) : c_is_matching_3 K a [x0,some (.d (.tup (cD ps))),x2,x3,x4,x5] st = .ok (.d (.int ((distI (ps.map (·.1))).length : Nat))) st:=by
 unfold c_is_matching_3 fLenS bnd
 rw [fSg_pure (f:=fun p : Int × Int=>U.d (.tup [.int p.1,.int p.2])) (q:=fun p=>.int p.1) w ps (okI_of (by omega)) (by apply eq_of_wp; unfold cD; simp_all only [List.map_map]; rfl) fun p _=>⟨[x0,some (.d (.tup (cD ps))),x2,x3,some (.d (.int p.1)),some (.d (.int p.2))],by simp_all? only [wipeE],rfl,rfl⟩]
 have:=ints_all (ps.map (·.1))
 rw [List.map_map] at this
 have e : allM intD (ps.map fun p=>D.int p.1) = some (ps.map (·.1)):=this
 simp only [e]
theorem ev_mat4 (w : WF st) {ps : List (Int × Int)} {x0 x2 x3 x4 x5 : Option U} (hl : ps.length ≤ 40) : c_is_matching_4 K a [x0,some (.d (.tup (cD ps))),x2,x3,x4,x5] st = .ok (.d (.int ((distI (ps.map (·.2))).length : Nat))) st:=by
 unfold c_is_matching_4 fLenS bnd
 rw [fSg_pure (f:=fun p : Int × Int=>U.d (.tup [.int p.1,.int p.2])) (q:=fun p=>.int p.2) w ps (okI_of (by omega)) (by apply eq_of_wp; unfold cD; simp_all only [List.map_map]; rfl) fun p _=>⟨[x0,some (.d (.tup (cD ps))),x2,x3,some (.d (.int p.1)),some (.d (.int p.2))],by simp_all? only [wipeE],rfl,rfl⟩]
 have:=ints_all (ps.map (·.2))
 rw [List.map_map] at this
 have e : allM intD (ps.map fun p=>D.int p.2) = some (ps.map (·.2)):=this
 simp only [e]
theorem ev_ismat (w : WF st) {cs : List (Int × Int)} {B : Int} {t : D} (h : thD B t = true) : m_is_matching K a [.d (.lst (cD cs)),.d t] st = .ok (.d (.bl (matD cs t))) st:=by
 have e1:=isi_tup (K:=K) (a:=a) (st:=st) (th_six h)
 apply eq_of_wp
 unfold m_is_matching g_is_matching
 cases t with
 | non=>simp_all only [e1,isTp,matD,w.cut]
 | bl b=>simp_all only [e1,isTp,matD,w.cut]
 | int i=>simp_all only [e1,isTp,matD,w.cut]
 | str s=>simp_all only [e1,isTp,matD,w.cut]
 | lst s=>simp_all only [e1,isTp,matD,w.cut]
 | tup ds =>
  unfold thD at h
  rw [Bool.and_eq_true,decide_eq_true_eq] at h
  have c1:=ev_mat1 (K:=K) (a:=a) w (x0:=some (.d (.lst (cD cs)))) (x2:=none) (x3:=none) (x4:=none) (x5:=none) h.1 h.2
  have b1:=blsU_map (fun d=>(prD d).isSome) ds
  have a1 : (ds.map fun d=>(prD d).isSome).all id = ds.all fun d=>(prD d).isSome:=by rw [List.all_map]; rfl
  cases hp : ds.all fun d=>(prD d).isSome with
  | false =>
   rw [hp] at a1
   have : matD cs (.tup ds) = false:=by unfold matD; simp only [allM_none hp]
   rw [this]
   generalize (ds.map fun d=>D.bl (prD d).isSome) = X at *
   generalize (ds.map fun d=>(prD d).isSome) = Y at *
   simp_all only [e1,c1,b1,a1,isTp,w.cut]
  | true =>
   rw [hp] at a1
   obtain ⟨ps,hps⟩:=allM_some hp
   have hm : matD cs (.tup ds) = matP cs ps:=by unfold matD; simp only [hps]
   rw [hm]
   have hds:=prDs hps
   have hl : ps.length ≤ 40:=by have:=h.1; rw [hds,cD_len] at this; exact this
   have c2:=ev_asc (K:=K) (a:=a) w (keys_cD (ps:=ps)) (by rw [cD_len]; omega)
   have c3:=ev_mat2 (K:=K) (a:=a) w (cs:=cs) (ps:=ps) (x2:=none) (x3:=none) (x4:=none) (x5:=none) hl
   have c4:=ev_mat3 (K:=K) (a:=a) w (x0:=some (.d (.lst (cD cs)))) (x2:=none) (x3:=some (.d (.int (ps.length : Nat)))) (x4:=none) (x5:=none) hl
   have c5:=ev_mat4 (K:=K) (a:=a) w (x0:=some (.d (.lst (cD cs)))) (x2:=none) (x3:=some (.d (.int (ps.length : Nat)))) (x4:=none) (x5:=none) hl
   have b3:=blsU_map (fun p=>decide (p ∈ cs)) ps
   have a3 : (ps.map fun p=>decide (p ∈ cs)).all id = ps.all fun p=>decide (p ∈ cs):=by rw [List.all_map]; rfl
   have hn : (cD ps).length = ps.length:=cD_len ps
   rw [← hds] at c2 c3 c4 c5 hn
   unfold matP
   rw [← hds]
   generalize (ds.map fun d=>D.bl (prD d).isSome) = X at *
   generalize (ds.map fun d=>(prD d).isSome) = Y at *
   generalize (ps.map fun p=>D.bl (decide (p ∈ cs))) = X2 at *
   generalize (ps.map fun p=>decide (p ∈ cs)) = Y2 at *
   generalize (ps.all fun p=>decide (p ∈ cs)) = r3 at *
   generalize ascD ds = r2 at *
   have n1 : ∀ x : Nat,decide (((x : Nat) : Int) = ((ps.length : Nat) : Int)) = decide (x = ps.length):=fun x=>decide_eq_decide.mpr (by omega)
   generalize (distI (ps.map (·.1))).length = n4 at *
   generalize (distI (ps.map (·.2))).length = n5 at *
   cases r2 with
   | false=>simp_all only [e1,c1,b1,a1,c2,isTp,w.cut]
   | true =>
    cases r3 with
    | false=>simp_all only [e1,c1,b1,a1,c2,c3,b3,a3,isTp,w.cut]
    | true =>
     cases q4 : decide (n4 = ps.length) with
     | false=>simp_all only [e1,c1,b1,a1,c2,c3,b3,a3,c4,hn,n1,q4,isTp,w.cut]
     | true=>simp_all only [e1,c1,b1,a1,c2,c3,b3,a3,c4,c5,hn,n1,q4,isTp,w.cut]
 | _=>cases h
theorem at_rev {α : Type} {xs : List α} {k : Nat} (h : k < xs.length) : atI xs (-1 - (0 + (k : Int))) = some (xs[xs.length - 1 - k]'(by omega)):=by
 unfold atI ixN
 rw [if_neg (by omega),if_pos (by omega)]
 have e : ((-1 - (0 + (k : Int))) + (xs.length : Int)).toNat = xs.length - 1 - k:=by omega
 simp only [e,Option.bind_some]
 exact List.getElem?_eq_getElem (by omega)
section
variable {fi : F Itb} {tg : U → G} {tt : F Bool} {fe : F U} {vs : List Nat} {env env0 : VEnv} {us : List U}
theorem lcL_fbF {b : Nat} (q : U → D) : ∀ (us : List U) (acc : List D) (st : Store),WF st → Bag st b → acc.length + us.length ≤ sizeLine →
  (∀ u ∈ us,∀ st' : Store,WF st' → Bag st' b → ∃ env1 k st'',tg u env0 st' = .ok env1 .nx st' ∧ tt env1 st' = .ok k st'' ∧ Fb st' st'' b ∧ ∀ s,fe env1 s = .ok (.d (q u)) s) →
  ∃ ds st2,lcL st.length tg tt fe env0 us (st ++ [.lst (acc.map .d)]) = .ok () (st2 ++ [.lst ((acc ++ ds).map .d)]) ∧ Fb st st2 b ∧ ds.Sublist (us.map q)
 | [],acc,st,hw,hb,_,_=>⟨[],st,by simp [lcL],Fb.refl hw hb,List.Sublist.refl _⟩
 | u :: us,acc,st,hw,hb,hl,h=>by
  rw [List.length_cons] at hl
  have hb1 : Bag (st ++ [.lst (acc.map .d)]) b:=by
   obtain ⟨n,x,q⟩:=hb
   exact ⟨n,x,app_at q⟩
  obtain ⟨env1,k,st'',h1,h2,f,h3⟩:=h u (List.mem_cons_self ..) _ (hw.pushL acc) hb1
  have hlen : st''.length = st.length + 1:=by rw [f.len,List.length_append,List.length_singleton]
  obtain ⟨c1,c2⟩:=cut_fb hw f.bag hb.lt (by omega) fun n hn hnb=>by rw [f.fr n hnb,List.getElem?_append_left hn]
  have hk : st''[st.length]? = some (.lst (acc.map U.d)):=by
   rw [f.fr _ (by have:=hb.lt; omega)]; exact new_at
  have hl2 : (st''.take st.length).length = st.length:=by rw [List.length_take]; omega
  have e : st'' = st''.take st.length ++ [.lst (acc.map U.d)]:=by
   apply List.ext_getElem?
   intro n
   by_cases hn : n < st.length
   ·rw [List.getElem?_append_left (by rw [List.length_take]; omega),List.getElem?_take_of_lt hn]
   ·by_cases hn2 : n = st.length
    ·subst hn2
     rw [hk,List.getElem?_append_right (by rw [List.length_take]; omega),List.length_take,Nat.min_eq_left (by omega),Nat.sub_self]; rfl
    ·rw [List.getElem?_eq_none (by omega),List.getElem?_eq_none (by rw [List.length_append,List.length_take,List.length_singleton]; omega)]
  cases k with
  | false =>
   obtain ⟨ds,st2,e2,f2,r2⟩:=lcL_fbF q us acc (st''.take st.length) c2.wf c2.bag (by omega) (fun w hw=>h w (List.mem_cons_of_mem _ hw))
   rw [hl2] at e2
   refine ⟨ds,st2,?_,c2.trans f2,r2.cons _⟩
   unfold lcL lcStep
   rw [h1]
   simp only
   rw [h2]
   simp only
   rw [e]
   exact e2
  | true =>
   have hst : st''.set st.length (.lst (acc.map U.d ++ [.d (q u)])) = st''.take st.length ++ [.lst ((acc ++ [q u]).map .d)]:=by
    rw [e,List.set_append_right _ _ (by omega),hl2,Nat.sub_self,List.set_cons_zero,List.map_append,List.map_singleton,List.take_left' hl2]
   obtain ⟨ds,st2,e2,f2,r2⟩:=lcL_fbF q us (acc ++ [q u]) (st''.take st.length) c2.wf c2.bag (by rw [List.length_append,List.length_singleton]; omega) (fun w hw=>h w (List.mem_cons_of_mem _ hw))
   rw [hl2] at e2
   refine ⟨q u :: ds,st2,?_,c2.trans f2,r2.cons₂ _⟩
   unfold lcL lcStep
   rw [h1]
   simp only
   rw [h2]
   simp only
   rw [h3]
   simp only [hk]
   rw [if_pos (by rw [List.length_map]; omega)]
   simp only
   rw [hst,e2,List.append_assoc]
   rfl
theorem fLc_fbF {b : Nat} {st0 : Store} (q : U → D) (hw : WF st) (hb : Bag st b) (hi : fi env st0 = .ok (.lst us) st) (hl : us.length ≤ sizeLine)
  (h : ∀ u ∈ us,∀ st' : Store,WF st' → Bag st' b → ∃ env1 k st'',tg u (wipeE env vs) st' = .ok env1 .nx st' ∧ tt env1 st' = .ok k st'' ∧ Fb st' st'' b ∧ ∀ s,fe env1 s = .ok (.d (q u)) s) :
  ∃ ds st2,fLc fi tg tt fe vs env st0 = .ok (.d (.lst ds)) st2 ∧ Fb st st2 b ∧ ds.Sublist (us.map q):=by
 obtain ⟨ds,st2,e,f,r⟩:=lcL_fbF (env0:=wipeE env vs) q us [] st hw hb (by simpa using hl) h
 refine ⟨ds,st2,?_,f,r⟩
 unfold fLc bnd
 rw [hi]
 simp only
 rw [show ([] : List D).map U.d = [] from rfl] at e
 rw [e]
 unfold lcEnd
 have hl2:=f.len
 rw [← hl2]
 simp only [List.getElem?_append_right (Nat.le_refl _),Nat.sub_self,List.getElem?_cons_zero,List.nil_append,pureL_map,f.wf.cutA]
end
theorem mem_ms (P : List (Int × Int)) (x y : Int) : (x,y) ∈ (swp P).mergeSort leP2 ↔ (y,x) ∈ P:=by
 rw [(List.mergeSort_perm _ _).mem_iff]
 unfold swp
 rw [List.mem_map]
 constructor
 ·rintro ⟨q,hq,e⟩
  cases e
  exact hq
 ·exact fun h=>⟨(y,x),h,rfl⟩
theorem nd_distI {xs : List Int} (hn : xs.Nodup) : (distI xs).length = xs.length:=by
 obtain ⟨f1,f2,f3⟩:=distI_facts (ks:=xs) rfl
 have p : (distI xs).Perm xs:=(List.perm_ext_iff_of_nodup f3 hn).mpr f1
 exact p.length_eq
theorem asc_ms : ∀ {ms : List (Int × Int)},ms.Nodup → (ms.Pairwise fun p q=>leP2 p q = true) → ascD (cD ms) = true
 | [],_,_=>rfl
 | [_],_,_=>rfl
 | p :: q :: ms,hn,hs=>by
  rw [List.nodup_cons] at hn
  rw [List.pairwise_cons] at hs
  have h1:=(leP2_iff p q).mp (hs.1 q List.mem_cons_self)
  have hne : p ≠ q:=fun e=>hn.1 (by rw [e]; exact List.mem_cons_self)
  have h2 : ltD (prT p) (prT q) = true:=by
   rw [lt_pr]
   split
   ·rename_i e
    rcases h1 with h1 | h1
    ·omega
    ·refine decide_eq_true (Int.lt_iff_le_and_ne.mpr ⟨h1.2,fun e2=>hne (Prod.ext e e2)⟩)
   ·rcases h1 with h1 | h1
    ·exact decide_eq_true h1
    ·rename_i e; exact absurd h1.1 e
  show (ltD (prT p) (prT q) && ascD (cD (q :: ms))) = true
  rw [h2,asc_ms hn.2 hs.2]
  rfl
theorem asc_qs : ∀ {qs : List Cl},(qs.Pairwise fun p q=>cod p < cod q) → ascD (qD qs) = true
 | [],_=>rfl
 | [_],_=>rfl
 | p :: q :: qs,hs=>by
  rw [List.pairwise_cons] at hs
  show (ltD (qT p) (qT q) && ascD (qD (q :: qs))) = true
  rw [lt_q,decide_eq_true (hs.1 q List.mem_cons_self),asc_qs hs.2]
  rfl
/-- what matching and least_cover give -/
structure Mt (cs ms : List (Int × Int)) : Prop where
 len : ms.length = nuP cs
 le : ms.length ≤ 15
 me : ∀ p ∈ ms,p ∈ cs
 n1 : (ms.map (·.1)).Nodup
 n2 : (ms.map (·.2)).Nodup
 srt : ms.Pairwise fun p q=>leP2 p q = true
theorem Mt.nd {cs ms : List (Int × Int)} (h : Mt cs ms) : ms.Nodup:=List.Pairwise.of_map (·.2) (fun _ _ h e=>h (by rw [e])) h.n2
theorem ev_mt (w : WF st) {cs : List (Int × Int)} {Y : List Int} (hY : Y.length ≤ 15) (g : Gd Y cs) : ∃ ms,Mt cs ms ∧ m_matching K a [.d (.lst (cD cs))] st = .ok (.d (.tup (cD ms))) st:=by
 obtain ⟨P,hrun,I,e2⟩:=ev_matching (K:=K) (a:=a) w g.len hY g.y
 obtain ⟨U0,M⟩:=mat_ok hrun I
 obtain ⟨ms,hms⟩ : ∃ ms,ms = (swp P).mergeSort leP2:=⟨_,rfl⟩
 rw [← hms] at e2
 have hmem : ∀ x y,(x,y) ∈ ms ↔ (y,x) ∈ P:=fun x y=>by rw [hms]; exact mem_ms P x y
 have hperm : ms.Perm (swp P):=by rw [hms]; exact List.mergeSort_perm _ _
 have hPl : P.length ≤ 15:=Nat.le_trans I.pl hY
 have hlen : ms.length = P.length:=by rw [hperm.length_eq]; unfold swp; rw [List.length_map]
 have hsort : ms.Pairwise fun p q=>leP2 p q = true:=by rw [hms]; exact leP2_sorted _
 have hnd2 : (ms.map (·.2)).Nodup:=by
  rw [(hperm.map (·.2)).nodup_iff]
  unfold swp
  rw [List.map_map]
  exact M.nd
 have hnd : ms.Nodup:=List.Pairwise.of_map (·.2) (fun _ _ h e=>h (by rw [e])) hnd2
 have hinj1 : ∀ p ∈ ms,∀ q ∈ ms,p.1 = q.1 → p = q:=fun p hp q hq e=>by
  have:=M.inj (p.2,p.1) ((hmem p.1 p.2).mp hp) (q.2,q.1) ((hmem q.1 q.2).mp hq) e
  exact Prod.ext e (congrArg Prod.fst this)
 have hnd1 : (ms.map (·.1)).Nodup:=by
  have : ∀ (l : List (Int × Int)),l.Nodup → (∀ p ∈ l,∀ q ∈ l,p.1 = q.1 → p = q) → (l.map (·.1)).Nodup:=by
   intro l
   induction l with
   | nil=>intro _ _; exact List.nodup_nil
   | cons p l ih =>
    intro hn h
    rw [List.nodup_cons] at hn
    rw [List.map_cons,List.nodup_cons]
    refine ⟨fun hm=>?_,ih hn.2 fun p hp q hq=>h p (List.mem_cons_of_mem _ hp) q (List.mem_cons_of_mem _ hq)⟩
    obtain ⟨q,hq,e⟩:=List.mem_map.mp hm
    have:=h p List.mem_cons_self q (List.mem_cons_of_mem _ hq) e.symm
    exact hn.1 (this ▸ hq)
  exact this ms hnd hinj1
 refine ⟨ms,⟨?_,by omega,fun p hp=>M.edge (p.2,p.1) ((hmem p.1 p.2).mp hp),hnd1,hnd2,hsort⟩,e2⟩
 rw [hlen]
 unfold nuP
 rw [hrun]
 rfl
structure Lc (cs : List (Int × Int)) (qs : List Cl) : Prop where
 len : qs.length = nuP cs
 le : qs.length ≤ 30
 cov : Cov cs qs
 me : ∀ q ∈ qs,q ∈ clsP cs
 inc : qs.Pairwise fun p q=>cod p < cod q
theorem ev_lc (w : WF st) {cs : List (Int × Int)} {Y : List Int} (hY : Y.length ≤ 15) (g : Gd Y cs) (hl : cs.length ≤ 150) : ∃ qs,Lc cs qs ∧ m_least_cover K a [.d (.lst (cD cs))] st = .ok (.d (.tup (qD qs))) st:=by
 obtain ⟨rs,hr,el⟩:=ev_least (K:=K) (a:=a) w hl hY g.y
 obtain ⟨h1,h2⟩:=lc_main K a hY rs cs [] g (fun Q _ _ q _=>List.not_mem_nil) fun q hq=>.inr ((hr.mem q).mpr hq)
 have sub:=lcP_sub rs cs ((nuP cs : Nat) : Int)
 refine ⟨_,⟨h1,?_,h2,fun q hq=>(hr.mem q).mp (sub.subset hq),hr.inc.sublist sub⟩,el st w⟩
 have:=srt_len hr (cls_all g.y)
 rw [allC_len] at this
 have:=sub.length_le
 omega
theorem int_atD {Y : List Int} (h30 : ∀ y ∈ Y,0 ≤ y ∧ y ≤ 30) {i : Int} (hi : i ∈ Y) : atD 30 (.int i) = true:=by
 show (decide (0 ≤ i) && decide (i ≤ 30)) = true
 rw [decide_eq_true (h30 i hi).1,decide_eq_true (h30 i hi).2]
 rfl
theorem el_pr {Y : List Int} (h30 : ∀ y ∈ Y,0 ≤ y ∧ y ≤ 30) {p : Int × Int} (h1 : p.1 ∈ Y) (h2 : p.2 ∈ Y) : elD 30 (.tup [.int p.1,.int p.2]) = true:=by
 unfold elD
 rw [Bool.and_eq_true]
 refine ⟨decide_eq_true (show 2 ≤ 3 by decide),List.all_eq_true.mpr fun d hd=>?_⟩
 rcases List.mem_cons.mp hd with rfl | hd
 ·exact int_atD h30 h1
 ·rw [List.mem_singleton.mp hd]; exact int_atD h30 h2
theorem el_q {Y : List Int} (h30 : ∀ y ∈ Y,0 ≤ y ∧ y ≤ 30) {q : Cl} (h1 : q.1 ∈ Y) : elD 30 (qT q) = true:=by
 unfold qT elD
 rw [Bool.and_eq_true]
 refine ⟨decide_eq_true (show 2 ≤ 3 by decide),List.all_eq_true.mpr fun d hd=>?_⟩
 rcases List.mem_cons.mp hd with rfl | hd
 ·exact int_atD h30 h1
 ·rw [List.mem_singleton.mp hd]
  cases q.2 <;> decide +kernel
theorem ev_mat (w : WF st) {cs ms : List (Int × Int)} {Y : List Int} (g : Gd Y cs) (h30 : ∀ y ∈ Y,0 ≤ y ∧ y ≤ 30) (h : Mt cs ms) : m_is_matching K a [.d (.lst (cD cs)),.d (.tup (cD ms))] st = .ok (.d (.bl true)) st:=by
 have ht : thD 30 (.tup (cD ms)) = true:=by
  unfold thD
  rw [Bool.and_eq_true,decide_eq_true_eq,cD_len]
  refine ⟨by have:=h.le; omega,List.all_eq_true.mpr fun d hd=>?_⟩
  obtain ⟨p,hp,rfl⟩:=List.mem_map.mp hd
  exact el_pr h30 (g.y p (h.me p hp)).2 (g.y p (h.me p hp)).1
 rw [ev_ismat w ht]
 have hm : matD cs (.tup (cD ms)) = true:=by
  show (match allM prD (cD ms) with
   | some ps=>matP cs ps
   | none=>false) = true
  rw [prDs_cD]
  simp only
  unfold matP
  rw [asc_ms h.nd h.srt,nd_distI h.n1,nd_distI h.n2,List.length_map,List.length_map,decide_eq_true rfl]
  rw [List.all_eq_true.mpr fun p hp=>decide_eq_true (h.me p hp)]
  rfl
 rw [hm]
theorem ev_cov (w : WF st) {cs : List (Int × Int)} {qs : List Cl} {Y : List Int} (hY : Y.length ≤ 15) (g : Gd Y cs) (h30 : ∀ y ∈ Y,0 ≤ y ∧ y ≤ 30) (h : Lc cs qs) : m_is_cover K a [.d (.lst (cD cs)),.d (.tup (qD qs))] st = .ok (.d (.bl true)) st:=by
 have ht : thD 30 (.tup (qD qs)) = true:=by
  unfold thD
  rw [Bool.and_eq_true,decide_eq_true_eq,qD_len]
  refine ⟨by have:=h.le; omega,List.all_eq_true.mpr fun d hd=>?_⟩
  obtain ⟨q,hq,rfl⟩:=List.mem_map.mp hd
  refine el_q h30 ?_
  obtain ⟨p,hp,e⟩:=mem_clsP.mp (h.me q hq)
  rcases e with rfl | rfl
  ·exact (g.y p hp).2
  ·exact (g.y p hp).1
 rw [ev_iscov w g.len hY g.y ht]
 have hm : covD cs (.tup (qD qs)) = true:=by
  have hall : allM clD (qD qs) = some qs:=by
   have : ∀ l : List Cl,allM clD (qD l) = some l:=fun l=>by
    induction l with
    | nil=>rfl
    | cons q l ih =>
     show allM clD (qT q :: qD l) = _
     unfold allM
     rw [clD_qT,ih]
   exact this qs
  show (match allM clD (qD qs) with
   | some ps=>covP cs ps
   | none=>false) = true
  rw [hall]
  simp only
  unfold covP
  rw [asc_qs h.inc,List.all_eq_true.mpr fun q hq=>decide_eq_true (h.me q hq)]
  rw [List.all_eq_true.mpr fun p hp=>List.any_eq_true.mpr ?_]
  ·rfl
  ·rcases h.cov p hp with z | z
   ·exact ⟨_,z,(bearB_iff p _).mpr (.inl rfl)⟩
   ·exact ⟨_,z,(bearB_iff p _).mpr (.inr rfl)⟩
 rw [hm]
section
variable {x0 x1 x2 x3 x4 x5 x6 : Option U}
theorem cr_1 (w : WF st) {cs : List (Int × Int)} (hc : cs.length ≤ 160) : c_L_law_claims_right_1 K a [x0,some (.d (.lst (cD cs))),x2,x3,x4,x5,x6] st = .ok (.d (.lst (qD (cs.map fun p=>(p.1,true))))) st:=by
 unfold c_L_law_claims_right_1
 have:=lc_eq1 (fi:=fIter (vVar 1)) (tg:=tgT 2 (tgCons (tgN 3) (tgCons (tgN 4) tgNil))) (tt:=tYesB) (fe:=fTup (fCons (vVar 3) (fCons (vC (.str "own")) fNil))) (vs:=[3,4]) (env:=[x0,some (.d (.lst (cD cs))),x2,x3,x4,x5,x6]) (f:=fun p : Int × Int=>U.d (.tup [.int p.1,.int p.2])) cs (fun p=>qT (p.1,true)) w (Nat.le_trans hc (by decide)) (by apply eq_of_wp; unfold cD; simp_all only [List.map_map]; rfl) fun p hp acc=>by
  unfold LcP
  generalize cD cs = CS at *
  simp_all only [wipeE,tYesB]
  intro _
  simp_all only []
  rfl
 rw [this]
 unfold qD
 rw [List.map_map]
 rfl
theorem cr_2 (w : WF st) {cs : List (Int × Int)} (hc : cs.length ≤ 160) : c_L_law_claims_right_2 K a [x0,some (.d (.lst (cD cs))),x2,x3,x4,x5,x6] st = .ok (.d (.lst (qD (cs.map fun p=>(p.2,false))))) st:=by
 unfold c_L_law_claims_right_2
 have:=lc_eq1 (fi:=fIter (vVar 1)) (tg:=tgT 2 (tgCons (tgN 3) (tgCons (tgN 4) tgNil))) (tt:=tYesB) (fe:=fTup (fCons (vVar 4) (fCons (vC (.str "shipped")) fNil))) (vs:=[3,4]) (env:=[x0,some (.d (.lst (cD cs))),x2,x3,x4,x5,x6]) (f:=fun p : Int × Int=>U.d (.tup [.int p.1,.int p.2])) cs (fun p=>qT (p.2,false)) w (Nat.le_trans hc (by decide)) (by apply eq_of_wp; unfold cD; simp_all only [List.map_map]; rfl) fun p hp acc=>by
  unfold LcP
  generalize cD cs = CS at *
  simp_all only [wipeE,tYesB]
  intro _
  simp_all only []
  rfl
 rw [this]
 unfold qD
 rw [List.map_map]
 rfl
theorem cr_3 (w : WF st) {qs rs : List Cl} (hl : qs.length ≤ 30) (hme : ∀ q ∈ qs,q ∈ rs) : c_L_law_claims_right_3 K a [some (.d (.tup (qD qs))),x1,some (.d (.lst (qD rs))),x3,x4,x5,x6] st = .ok (.d (.lst [])) st:=by
 unfold c_L_law_claims_right_3
 have:=lc_eq (fi:=fIter (vVar 0)) (tg:=tgN 5) (tt:=(asB (f2 oNotIn (vVar 5) (vVar 2)))) (fe:=vVar 5) (vs:=[5]) (env:=[some (.d (.tup (qD qs))),x1,some (.d (.lst (qD rs))),x3,x4,x5,x6]) (f:=fun q : Cl=>U.d (qT q)) qs (fun _=>false) (fun q=>qT q) w (Nat.le_trans hl (by decide)) (by apply eq_of_wp; generalize qD rs = RS at *; unfold qD; simp_all only [List.map_map]; rfl) fun q hq acc=>by
  have e:=in_qD (st:=st ++ [.lst (acc.map .d)]) q rs
  rw [decide_eq_true (hme q hq)] at e
  generalize qD rs = RS at *
  generalize qD qs = QS at *
  generalize qT q = Q at *
  unfold LcP
  simp_all only [wipeE,e]
  intro z
  cases z
 rw [this]
 simp
theorem cr_4 (w : WF st) {qs : List Cl} (hl : qs.length ≤ 30) : c_L_law_claims_right_4 K a [some (.d (.tup (qD qs))),x1,x2,x3,x4,x5,x6] st = .ok (.d (.lst [])) st:=by
 have t1 : PySem.W.kitOne K (.type "tuple") (.type "tuple") = some true:=rfl
 have t2 : PySem.W.kitOne K (.type "int") (.type "bool") = some false:=rfl
 unfold c_L_law_claims_right_4
 have:=lc_eq (fi:=fIter (vVar 0)) (tg:=tgN 5) (tt:=(bOr (bNot (asT (fB (pu (oIsi K a.own)) (fCons (vVar 5) (fCons (vC (.ty "tuple")) fNil))))) (asT (fB (pu (oIsi K a.own)) (fCons (f2 oIx (vVar 5) (vC (.int 0))) (fCons (vC (.ty "bool")) fNil)))))) (fe:=vVar 5) (vs:=[5]) (env:=[some (.d (.tup (qD qs))),x1,x2,x3,x4,x5,x6]) (f:=fun q : Cl=>U.d (qT q)) qs (fun _=>false) (fun q=>qT q) w (Nat.le_trans hl (by decide)) (by apply eq_of_wp; unfold qD; simp_all only [List.map_map]; rfl) fun q hq acc=>by
  have e0 : atI [D.int q.1,D.str (sd q.2)] 0 = some (.int q.1):=rfl
  generalize qD qs = QS at *
  unfold LcP qT
  generalize sd q.2 = S at *
  simp_all only [wipeE,oIsi,tyN,t1,t2,e0]
  intro z
  cases z
 rw [this]
 simp
theorem cr_5 (w : WF st) {cs : List (Int × Int)} {qs : List Cl} (hc : cs.length ≤ 160) (hcov : Cov cs qs) : c_L_law_claims_right_5 K a [some (.d (.tup (qD qs))),some (.d (.lst (cD cs))),x2,x3,x4,x5,x6] st = .ok (.d (.lst [])) st:=by
 unfold c_L_law_claims_right_5
 have:=lc_eq (fi:=fIter (vVar 1)) (tg:=tgN 5) (tt:=(bAnd (asB (f2 oNotInT (fTup (fCons (f2 oIx (vVar 5) (vC (.int 0))) (fCons (vC (.str "own")) fNil))) (vVar 0))) (asB (f2 oNotInT (fTup (fCons (f2 oIx (vVar 5) (vC (.int 1))) (fCons (vC (.str "shipped")) fNil))) (vVar 0))))) (fe:=vVar 5) (vs:=[5]) (env:=[some (.d (.tup (qD qs))),some (.d (.lst (cD cs))),x2,x3,x4,x5,x6]) (f:=fun p : Int × Int=>U.d (.tup [.int p.1,.int p.2])) cs (fun _=>false) (fun p=>.tup [.int p.1,.int p.2]) w (Nat.le_trans hc (by decide)) (by apply eq_of_wp; generalize qD qs = QS at *; unfold cD; simp_all only [List.map_map]; rfl) fun p hp acc=>by
  have e0 : atI [D.int p.1,D.int p.2] 0 = some (.int p.1):=rfl
  have e1 : atI [D.int p.1,D.int p.2] 1 = some (.int p.2):=rfl
  have i1 : inTD (st ++ [.lst (acc.map .d)]) (.d (.tup [.int p.1,.str "own"])) (.d (.tup (qD qs))) = some (decide ((p.1,true) ∈ qs)):=inT_qD (st:=st ++ [.lst (acc.map .d)]) (p.1,true) qs
  have i2 : inTD (st ++ [.lst (acc.map .d)]) (.d (.tup [.int p.2,.str "shipped"])) (.d (.tup (qD qs))) = some (decide ((p.2,false) ∈ qs)):=inT_qD (st:=st ++ [.lst (acc.map .d)]) (p.2,false) qs
  have h:=hcov p hp
  generalize qD qs = QS at *
  generalize cD cs = CS at *
  unfold LcP
  by_cases h1 : (p.1,true) ∈ qs
  ·rw [decide_eq_true h1] at i1
   simp_all only [wipeE,e0,e1,oNotInT,i1,i2]
   intro z
   cases z
  ·rw [decide_eq_false h1] at i1
   rw [decide_eq_true (h.resolve_left h1)] at i2
   simp_all only [wipeE,e0,e1,oNotInT,i1,i2]
   intro z
   cases z
 rw [this]
 simp
end
theorem cls_perm {cs : List (Int × Int)} {q : Cl} : q ∈ (cs.map (fun p=>((p.1,true) : Cl)) ++ cs.map fun p=>((p.2,false) : Cl)) ↔ q ∈ clsP cs:=by
 rw [mem_clsP,List.mem_append,List.mem_map,List.mem_map]
 constructor
 ·rintro (⟨p,hp,rfl⟩ | ⟨p,hp,rfl⟩)
  ·exact ⟨p,hp,.inl rfl⟩
  ·exact ⟨p,hp,.inr rfl⟩
 ·rintro ⟨p,hp,e | e⟩
  ·exact .inl ⟨p,hp,e.symm⟩
  ·exact .inr ⟨p,hp,e.symm⟩
theorem srt_one {xs ys : List Cl} (h1 : xs.Pairwise fun p q=>cod p < cod q) (h2 : ys.Pairwise fun p q=>cod p < cod q) (h : ∀ q,q ∈ xs ↔ q ∈ ys) : xs = ys:=by
 have nd : ∀ {l : List Cl},l.Pairwise (fun p q=>cod p < cod q) → l.Nodup:=fun hl=>hl.imp fun h e=>by rw [e] at h; omega
 refine List.Perm.eq_of_pairwise (le:=fun p q=>cod p ≤ cod q) (fun p q _ _ a b=>cod_inj (Int.le_antisymm a b)) (h1.imp fun h=>Int.le_of_lt h) (h2.imp fun h=>Int.le_of_lt h) ?_
 exact (List.perm_ext_iff_of_nodup (nd h1) (nd h2)).mpr h
theorem fewM_qD {qs T : List Cl} (hT : ∀ q ∈ qs,q ∈ T) (hl : T.length < 63) : fewM (qD qs) = true:=by
 unfold fewM
 rw [keysQ_all]
 refine decide_eq_true ?_
 have:=nd_leG (distF_nd (qs.map keyQ)) (ys:=T.map keyQ) fun k hk=>by
  obtain ⟨q,hq,rfl⟩:=List.mem_map.mp (mem_distF.mp hk)
  exact List.mem_map.mpr ⟨q,hT q hq,rfl⟩
 rw [List.length_map] at this
 omega
theorem sort_self {qs : List Cl} (h : qs.Pairwise fun p q=>cod p < cod q) : sortD (qD qs) = some (qD qs):=by
 obtain ⟨rs,h1,h2⟩:=srt_of qs
 rw [h1,srt_one h2.inc h h2.mem]
theorem qD_dp (qs : List Cl) : dpDs (qD qs) ≤ 59:=Nat.le_trans (dpDs_map (k:=1) fun _ _=>Nat.le_refl 1) (by decide)
theorem eq_qD {qs : List Cl} : eqB st (.d (.lst (qD qs))) (.d (.lst (qD qs))) = some true:=by
 haveI : Decidable (qD qs = qD qs):=isTrue rfl
 rw [eqB_ls (LsU.d st (qD qs)) (LsU.d st (qD qs)) (qD_pl qs) (qD_pl qs) (qD_dp qs) (qD_dp qs)]
 exact congrArg some (decide_eq_true rfl)
theorem ev_right (w : WF st) {cs : List (Int × Int)} {qs : List Cl} {Y : List Int} (hY : Y.length ≤ 15) (g : Gd Y cs) (h : Lc cs qs) : m_L_law_claims_right K a [.d (.tup (qD qs)),.d (.lst (cD cs))] st = .ok (.d (.bl true)) st:=by
 obtain ⟨l,hl⟩ : ∃ l : List Cl,l = (cs.map (fun p=>((p.1,true) : Cl)) ++ cs.map fun p=>((p.2,false) : Cl)):=⟨_,rfl⟩
 obtain ⟨rs,h1,h2⟩:=srt_of l
 have hm : ∀ q,q ∈ rs ↔ q ∈ clsP cs:=fun q=>by rw [h2.mem q,hl]; exact cls_perm
 have hla : ∀ q ∈ l,q ∈ allC Y:=fun q hq=>cls_all g.y q (cls_perm.mp (by rw [← hl]; exact hq))
 have hf:=fewM_qD hla (by rw [allC_len]; omega)
 have e1:=cr_1 (K:=K) (a:=a) (x0:=some (.d (.tup (qD qs)))) (x2:=none) (x3:=none) (x4:=none) (x5:=none) (x6:=none) w g.len
 have e2:=cr_2 (K:=K) (a:=a) (x0:=some (.d (.tup (qD qs)))) (x2:=none) (x3:=none) (x4:=none) (x5:=none) (x6:=none) w g.len
 have e3:=cr_3 (K:=K) (a:=a) (x1:=some (.d (.lst (cD cs)))) (x3:=none) (x4:=none) (x5:=none) (x6:=none) w h.le (rs:=rs) fun q hq=>(hm q).mpr (h.me q hq)
 have e4:=cr_4 (K:=K) (a:=a) (x1:=some (.d (.lst (cD cs)))) (x2:=some (.d (.lst (qD rs)))) (x3:=none) (x4:=none) (x5:=none) (x6:=none) w h.le
 have e5:=cr_5 (K:=K) (a:=a) (x2:=some (.d (.lst (qD rs)))) (x3:=none) (x4:=none) (x5:=none) (x6:=none) w g.len h.cov
 have hadd : oAdd (.d (.lst (qD (cs.map fun p=>(p.1,true))))) (.d (.lst (qD (cs.map fun p=>(p.2,false))))) st = some (.d (.lst (qD l))):=by
  rw [hl]
  unfold qD
  rw [List.map_append]
  exact if_pos (by rw [List.length_map,List.length_map,List.length_map,List.length_map]; exact Nat.le_trans (Nat.add_le_add g.len g.len) (by decide))
 have hs1 : oSortSM [.d (.lst (qD l))] st = some (.d (.lst (qD rs))):=by
  unfold oSortSM
  simp only [getL,pureL_map,hf,if_true,h1,Option.map_some]
 have hs2 : oSortSMt [.d (.tup (qD qs))] st = some (.d (.lst (qD qs))):=by
  show (if fewM (qD qs) = true then Option.map (fun ds=>U.d (D.lst ds)) (sortD (qD qs)) else none) = _
  rw [if_pos (fewM_qD (T:=qs) (fun q hq=>hq) (by have:=h.le; omega)),sort_self h.inc]
  rfl
 have t1 : oIsi K a.own [.d (.tup (qD qs)),.d (.ty "tuple")] st = some (.d (.bl true)):=rfl
 have hL : oList [.d (.tup (qD qs))] st = some (.d (.lst (qD qs))):=by
  show Option.map (fun ds=>U.d (D.lst ds)) (pureL ((qD qs).map U.d)) = _
  rw [pureL_map]
  rfl
 have main : g_L_law_claims_right K a [some (.d (.tup (qD qs))),some (.d (.lst (cD cs))),none,none,none,none,none] st = .ok [some (.d (.tup (qD qs))),some (.d (.lst (cD cs))),some (.d (.lst (qD rs))),none,none,none,some (.d (.lst []))] (.rt (.d (.bl true))) st:=by
  unfold g_L_law_claims_right
  refine seqA (puA (cons1 (f2A e1 e2 hadd)) hs1) ?_
  refine seqG (ifF (bOrF (bNotA (k:=true) (asTA (puA (consA rfl (cons1 rfl)) t1) rfl)) (asBA (f2A e3 rfl rfl))) rfl) ?_
  refine seqG (ifF (asBA (f2A e4 rfl rfl)) rfl) ?_
  refine seqA e5 (retA ?_)
  refine andT (f2A rfl rfl rfl) ?_
  exact f2A (puA (cons1 rfl) hL) (puA (cons1 rfl) hs2) (by unfold oEq; rw [eq_qD]; rfl)
 have:=fnZ (us:=[.d (.tup (qD qs)),.d (.lst (cD cs))]) (n:=7) (g:=g_L_law_claims_right K a) (s1:=[]) w (by rw [List.append_nil]; exact main)
 exact this
noncomputable def InP (p : Int × Int) : Prop:=(0 ≤ p.1 ∧ p.1 ≤ 12) ∧ 0 ≤ p.2 ∧ p.2 ≤ 12
theorem cs_ofP {ds : List D} (h : ∀ x ∈ ds,∃ p : Int × Int,x = .tup [.int p.1,.int p.2] ∧ InP p) : ∃ cs : List (Int × Int),ds = cD cs ∧ ∀ p ∈ cs,InP p:=by
 induction ds with
 | nil=>exact ⟨[],rfl,nofun⟩
 | cons x ds ih =>
  obtain ⟨cs,rfl,hc⟩:=ih fun y hy=>h y (List.mem_cons_of_mem _ hy)
  obtain ⟨p,rfl,hp⟩:=h x List.mem_cons_self
  refine ⟨p :: cs,rfl,fun q hq=>?_⟩
  rcases List.mem_cons.mp hq with rfl | hq
  ·exact hp
  ·exact hc q hq
theorem cD_app (xs ys : List (Int × Int)) : cD xs ++ cD ys = cD (xs ++ ys):=by unfold cD; rw [List.map_append]
theorem subl_ints : ∀ {n : Nat} {ds : List D},ds.Sublist ((List.range n).map fun i=>D.int (0 + (i : Nat))) → ds.length ≤ n ∧ ∀ d ∈ ds,∃ i : Nat,i < n ∧ d = .int (i : Nat):=fun {n ds} h=>by
 refine ⟨by have:=h.length_le; rw [List.length_map,List.length_range] at this; exact this,fun d hd=>?_⟩
 obtain ⟨i,hi,e⟩:=List.mem_map.mp (h.subset hd)
 exact ⟨i,List.mem_range.mp hi,by rw [← e,Int.zero_add]⟩
section
variable {x0 x1 x2 x3 x4 x5 x6 x7 x8 x9 x10 x11 : Option U} {b : Nat}
theorem sh_take (w : WF st) (hb : Bag st b) {e : VEnv} (he : e[0]? = some (some (.ref b))) (fm : F U) {m : Int} (hm : fm e st = .ok (.d (.int m)) st) (h0 : 0 < m) (h1 : m < 1073741824) :
  ∃ (d : Nat) (st' : Store),fCall 2 0 gPos (m_L_law_take K a) (fCW (fCons (vVar 0) (fCons fm fNil)) fNil) e st = .ok (.d (.int (d : Nat))) st' ∧ (d : Int) < m ∧ Fb st st' b:=by
 obtain ⟨d,s1,e1,hd,k1⟩:=ev_ltake (K:=K) (a:=a) w hb h0 h1
 have hv : vVar 0 e st = .ok (.ref b) st:=by unfold vVar; rw [he]
 exact ⟨d,s1,callA (consA hv (cons1 hm)) rfl e1,hd,k1⟩
theorem sh_1 (w : WF st) (hb : Bag st b) : ∃ (xs : List D) (st' : Store),c_L_law_shape_1 K a [some (.ref b),x1,x2,x3,x4,x5,x6,x7,x8,x9,x10,x11] st = .ok (.d (.lst xs)) st' ∧ Fb st st' b ∧ xs.length ≤ 12 ∧ ∀ d ∈ xs,∃ i : Nat,i < 12 ∧ d = .int (i : Nat):=by
 obtain ⟨ds,s1,e,k,r⟩:=fLc_fbF (fi:=fItN itR (fCons (vC (.int 12)) fNil)) (tg:=tgN 3) (tt:=asB (f2 oEq (fCall 2 0 gPos (m_L_law_take K a) (fCW (fCons (vVar 0) (fCons (vC (.int 3)) fNil)) fNil)) (vC (.int 0)))) (fe:=vVar 3) (vs:=[3]) (env:=[some (.ref b),x1,x2,x3,x4,x5,x6,x7,x8,x9,x10,x11]) (us:=(List.range 12).map fun i=>U.d (.int (0 + (i : Nat)))) (fun u=>match u with | .d d=>d | _=>.non) w hb (fItN_ok (us:=[.d (.int ((12 : Nat) : Int))]) rfl (itR_eq (by decide))) (by rw [List.length_map,List.length_range]; decide) fun u hu s ws bs=>by
  obtain ⟨i,-,rfl⟩:=List.mem_map.mp hu
  obtain ⟨d,s2,e2,-,k2⟩:=sh_take (K:=K) (a:=a) (e:=[some (.ref b),x1,x2,some (.d (.int (0 + (i : Nat)))),x4,x5,x6,x7,x8,x9,x10,x11]) ws bs rfl (vC (.int 3)) rfl (by decide) (by decide)
  exact ⟨_,_,s2,rfl,asBA (f2A e2 rfl rfl),k2,fun s=>rfl⟩
 rw [List.map_map] at r
 obtain ⟨r1,r2⟩:=subl_ints r
 exact ⟨ds,s1,e,k,r1,r2⟩
theorem sh_2 (w : WF st) (hb : Bag st b) : ∃ (xs : List D) (st' : Store),c_L_law_shape_2 K a [some (.ref b),x1,x2,x3,x4,x5,x6,x7,x8,x9,x10,x11] st = .ok (.d (.lst xs)) st' ∧ Fb st st' b ∧ xs.length ≤ 12 ∧ ∀ d ∈ xs,∃ i : Nat,i < 12 ∧ d = .int (i : Nat):=by
 obtain ⟨ds,s1,e,k,r⟩:=fLc_fbF (fi:=fItN itR (fCons (vC (.int 12)) fNil)) (tg:=tgN 5) (tt:=asB (f2 oEq (fCall 2 0 gPos (m_L_law_take K a) (fCW (fCons (vVar 0) (fCons (vC (.int 3)) fNil)) fNil)) (vC (.int 0)))) (fe:=vVar 5) (vs:=[5]) (env:=[some (.ref b),x1,x2,x3,x4,x5,x6,x7,x8,x9,x10,x11]) (us:=(List.range 12).map fun i=>U.d (.int (0 + (i : Nat)))) (fun u=>match u with | .d d=>d | _=>.non) w hb (fItN_ok (us:=[.d (.int ((12 : Nat) : Int))]) rfl (itR_eq (by decide))) (by rw [List.length_map,List.length_range]; decide) fun u hu s ws bs=>by
  obtain ⟨i,-,rfl⟩:=List.mem_map.mp hu
  obtain ⟨d,s2,e2,-,k2⟩:=sh_take (K:=K) (a:=a) (e:=[some (.ref b),x1,x2,x3,x4,some (.d (.int (0 + (i : Nat)))),x6,x7,x8,x9,x10,x11]) ws bs rfl (vC (.int 3)) rfl (by decide) (by decide)
  exact ⟨_,_,s2,rfl,asBA (f2A e2 rfl rfl),k2,fun s=>rfl⟩
 rw [List.map_map] at r
 obtain ⟨r1,r2⟩:=subl_ints r
 exact ⟨ds,s1,e,k,r1,r2⟩
theorem sh_3 (w : WF st) {ys : List D} (hl : ys.length ≤ 12) {i : Int} : c_L_law_shape_3 K a [x0,x1,x2,some (.d (.int i)),some (.d (.lst ys)),x5,x6,x7,x8,x9,x10,x11] st = .ok (.d (.lst (ys.map fun y=>.tup [.int i,y]))) st:=by
 unfold c_L_law_shape_3
 refine lc_eq1 (fi:=fIter (vVar 4)) (tg:=tgN 5) (tt:=tYesB) (fe:=fTup (fCons (vVar 3) (fCons (vVar 5) fNil))) (vs:=[5]) (f:=U.d) ys (fun y=>.tup [.int i,y]) w (Nat.le_trans hl (by decide)) (by apply eq_of_wp; simp_all only []) fun y hy acc=>?_
 unfold LcP
 simp_all only [wipeE,tYesB]
 intro _
 simp_all only []
theorem sh_loop {s0 : Store} (w : WF s0) {ys : List D} (hl : ys.length ≤ 12) (hy : ∀ d ∈ ys,∃ i : Nat,i < 12 ∧ d = .int (i : Nat)) : ∀ (xs : List D) (cs : List (Int × Int)) (x3 : Option U),(∀ d ∈ xs,∃ i : Nat,i < 12 ∧ d = .int (i : Nat)) → cs.length + 12 * xs.length ≤ 144 → (∀ p ∈ cs,InP p) →
  ∃ (y3 : Option U) (cs' : List (Int × Int)),loopL (tgN 3) (b_L_law_shape_1 K a) (xs.map U.d) [x0,x1,x2,x3,some (.d (.lst ys)),x5,some (.ref s0.length),x7,x8,x9,x10,x11] (s0 ++ [.lst ((cD cs).map U.d)]) = .ok [x0,x1,x2,y3,some (.d (.lst ys)),x5,some (.ref s0.length),x7,x8,x9,x10,x11] .nx (s0 ++ [.lst ((cD cs').map U.d)]) ∧ cs'.length ≤ 144 ∧ ∀ p ∈ cs',InP p
 | [],cs,x3,_,hz,hc=>⟨x3,cs,rfl,by simpa using hz,hc⟩
 | x :: xs,cs,x3,hx,hz,hc=>by
  rw [List.length_cons] at hz
  obtain ⟨i,hi,rfl⟩:=hx x List.mem_cons_self
  obtain ⟨ds,hds,hdp⟩:=cs_ofP (ds:=ys.map fun y=>D.tup [.int (i : Nat),y]) fun z hz=>by
   obtain ⟨y,hyy,rfl⟩:=List.mem_map.mp hz
   obtain ⟨j,hj,rfl⟩:=hy y hyy
   exact ⟨((i : Nat),(j : Nat)),rfl,⟨by omega,by omega⟩,by omega,by omega⟩
  have hdl : ds.length ≤ 12:=by
   have:=congrArg List.length hds
   rw [List.length_map,cD_len] at this
   omega
  have e3:=sh_3 (K:=K) (a:=a) (x0:=x0) (x1:=x1) (x2:=x2) (x5:=x5) (x6:=some (.ref s0.length)) (x7:=x7) (x8:=x8) (x9:=x9) (x10:=x10) (x11:=x11) (w.pushL (cD cs)) hl (i:=(i : Nat))
  rw [hds] at e3
  obtain ⟨y3,cs',e4,h1,h2⟩:=sh_loop w hl hy xs (cs ++ ds) (some (.d (.int (i : Nat)))) (fun d hd=>hx d (List.mem_cons_of_mem _ hd)) (by rw [List.length_append]; omega) (fun p hp=>(List.mem_append.mp hp).elim (hc p) (hdp p))
  refine ⟨y3,cs',?_,h1,h2⟩
  have hg : (s0 ++ [O.lst ((cD cs).map U.d)])[s0.length]? = some (.lst ((cD cs).map .d)):=new_at
  have hset : (s0 ++ [O.lst ((cD cs).map U.d)]).set s0.length (.lst ((cD cs).map U.d ++ (cD ds).map U.d)) = s0 ++ [.lst ((cD (cs ++ ds)).map .d)]:=by
   rw [nf_set0 rfl,← List.map_append,cD_app]
   rfl
  have hm : mExtend (.ref s0.length) [.d (.lst (cD ds))] (s0 ++ [O.lst ((cD cs).map U.d)]) = some (.d .non,s0 ++ [.lst ((cD (cs ++ ds)).map .d)]):=by
   rw [← hset]
   have hl : lstC (s0 ++ [O.lst ((cD cs).map U.d)]) (.ref s0.length) = some (s0.length,(cD cs).map U.d):=by
    unfold lstC
    simp only [hg]
   unfold mExtend
   rw [hl]
   simp only
   rw [if_pos (by rw [List.length_map,cD_len,cD_len]; exact Nat.le_trans (show _ ≤ 156 by omega) (by decide))]
  have eb : b_L_law_shape_1 K a [x0,x1,x2,some (.d (.int (i : Nat))),some (.d (.lst ys)),x5,some (.ref s0.length),x7,x8,x9,x10,x11] (s0 ++ [.lst ((cD cs).map U.d)]) = .ok [x0,x1,x2,some (.d (.int (i : Nat))),some (.d (.lst ys)),x5,some (.ref s0.length),x7,x8,x9,x10,x11] .nx (s0 ++ [.lst ((cD (cs ++ ds)).map U.d)]):=by
   unfold b_L_law_shape_1
   refine exprA (u:=.d .non) ?_
   exact fMA (u:=.ref s0.length) rfl (tyLA hg) (cons1 e3) hm
  rw [List.map_cons]
  exact loopN eb e4
theorem pr_InP {x y : Int} (hx : 0 ≤ x ∧ x ≤ 12) (hy : 0 ≤ y ∧ y ≤ 12) : ∃ p : Int × Int,D.tup [.int x,.int y] = .tup [.int p.1,.int p.2] ∧ InP p:=⟨(x,y),rfl,hx,hy⟩
theorem fb_app {ds : List D} (h : ∀ d ∈ ds,∃ p : Int × Int,d = .tup [.int p.1,.int p.2] ∧ InP p) : ∃ cs,ds = cD cs ∧ cs.length = ds.length ∧ ∀ p ∈ cs,InP p:=by
 obtain ⟨cs,rfl,hc⟩:=cs_ofP h
 exact ⟨cs,rfl,(cD_len cs).symm,hc⟩
theorem sh_4 (w : WF st) {n : Nat} (hn : 1 ≤ n ∧ n ≤ 12) : ∃ cs,c_L_law_shape_4 K a [x0,x1,x2,x3,x4,x5,x6,some (.d (.int (n : Nat))),x8,x9,x10,x11] st = .ok (.d (.lst (cD cs))) st ∧ cs.length = n ∧ ∀ p ∈ cs,InP p:=by
 have:=lc_eq1 (fi:=fItN itR (fCons (vVar 7) fNil)) (tg:=tgN 8) (tt:=tYesB) (fe:=fTup (fCons (vVar 8) (fCons (vVar 8) fNil))) (vs:=[8]) (env:=[x0,x1,x2,x3,x4,x5,x6,some (.d (.int (n : Nat))),x8,x9,x10,x11]) (f:=fun i : Nat=>U.d (.int (0 + (i : Nat)))) (List.range n) (fun i=>.tup [.int (i : Nat),.int (i : Nat)]) w (by rw [List.length_range]; exact Nat.le_trans hn.2 (by decide)) (fItN_ok (us:=[.d (.int (n : Nat))]) rfl (itR_eq (by omega))) fun i hi acc=>by
  unfold LcP
  simp_all only [wipeE,tYesB,Int.zero_add]
  intro _
  simp_all only []
 obtain ⟨cs,h1,h2,h3⟩:=fb_app (ds:=(List.range n).map fun i=>D.tup [.int (i : Nat),.int (i : Nat)]) fun d hd=>by
  obtain ⟨i,hi,rfl⟩:=List.mem_map.mp hd
  rw [List.mem_range] at hi
  exact pr_InP ⟨by omega,by omega⟩ ⟨by omega,by omega⟩
 rw [h1] at this
 exact ⟨cs,this,by rw [h2,List.length_map,List.length_range],h3⟩
theorem sh_5 (w : WF st) {n : Nat} (hn : 1 ≤ n ∧ n ≤ 12) : ∃ cs,c_L_law_shape_5 K a [x0,x1,x2,x3,x4,x5,x6,some (.d (.int (n : Nat))),x8,x9,x10,x11] st = .ok (.d (.lst (cD cs))) st ∧ cs.length ≤ 12 ∧ ∀ p ∈ cs,InP p:=by
 obtain ⟨k,rfl⟩ : ∃ k,n = k + 1:=⟨n - 1,by omega⟩
 have:=lc_eq1 (fi:=fItN itR (fCons (f2 oSub (vVar 7) (vC (.int 1))) fNil)) (tg:=tgN 8) (tt:=tYesB) (fe:=fTup (fCons (f2 oAdd (vVar 8) (vC (.int 1))) (fCons (vVar 8) fNil))) (vs:=[8]) (env:=[x0,x1,x2,x3,x4,x5,x6,some (.d (.int ((k + 1 : Nat) : Int))),x8,x9,x10,x11]) (f:=fun i : Nat=>U.d (.int (0 + (i : Nat)))) (List.range k) (fun i=>.tup [.int ((i : Nat) + 1),.int (i : Nat)]) w (by rw [List.length_range]; exact Nat.le_trans (show k ≤ 12 by omega) (by decide)) (fItN_ok (us:=[.d (.int (k : Nat))]) (cons1 (f2A rfl rfl (show oSub (.d (.int ((k + 1 : Nat) : Int))) (.d (.int 1)) st = some (.d (.int (k : Nat))) by
   show some (U.d (.int (((k + 1 : Nat) : Int) - 1))) = _
   rw [show (((k + 1 : Nat) : Int) - 1) = (k : Int) by omega]))) (itR_eq (by omega))) fun i hi acc=>by
  unfold LcP
  simp_all only [wipeE,tYesB,Int.zero_add]
  intro _
  simp_all only []
 obtain ⟨cs,h1,h2,h3⟩:=fb_app (ds:=(List.range k).map fun i=>D.tup [.int ((i : Nat) + 1),.int (i : Nat)]) fun d hd=>by
  obtain ⟨i,hi,rfl⟩:=List.mem_map.mp hd
  rw [List.mem_range] at hi
  exact pr_InP ⟨by omega,by omega⟩ ⟨by omega,by omega⟩
 rw [h1] at this
 exact ⟨cs,this,by rw [h2,List.length_map,List.length_range]; omega,h3⟩
theorem sh_6 (w : WF st) (hb : Bag st b) {h : Nat} (hh : h < 12) : ∃ (cs : List (Int × Int)) (st' : Store),c_L_law_shape_6 K a [some (.ref b),x1,x2,x3,x4,x5,x6,x7,x8,some (.d (.int (h : Nat))),x10,x11] st = .ok (.d (.lst (cD cs))) st' ∧ Fb st st' b ∧ cs.length ≤ 12 ∧ ∀ p ∈ cs,InP p:=by
 obtain ⟨n,s1,e1,hn,k1⟩:=sh_take (K:=K) (a:=a) (e:=[some (.ref b),x1,x2,x3,x4,x5,x6,x7,x8,some (.d (.int (h : Nat))),x10,x11]) w hb rfl (vC (.int 13)) rfl (by decide) (by decide)
 have:=lc_eq1 (fi:=fun _ _=>.ok (.lst ((List.range n).map fun i : Nat=>U.d (.int (0 + (i : Nat))))) s1) (tg:=tgN 5) (tt:=tYesB) (fe:=fTup (fCons (vVar 9) (fCons (vVar 5) fNil))) (vs:=[5]) (env:=[some (.ref b),x1,x2,x3,x4,x5,x6,x7,x8,some (.d (.int (h : Nat))),x10,x11]) (f:=fun i : Nat=>U.d (.int (0 + (i : Nat)))) (List.range n) (fun i=>.tup [.int (h : Nat),.int (i : Nat)]) k1.wf (by rw [List.length_range]; exact Nat.le_trans (show n ≤ 12 by omega) (by decide)) rfl fun i hi acc=>by
  unfold LcP
  simp_all only [wipeE,tYesB,Int.zero_add]
  intro _
  simp_all only []
 obtain ⟨cs,h1,h2,h3⟩:=fb_app (ds:=(List.range n).map fun i=>D.tup [.int (h : Nat),.int (i : Nat)]) fun d hd=>by
  obtain ⟨i,hi,rfl⟩:=List.mem_map.mp hd
  rw [List.mem_range] at hi
  exact pr_InP ⟨by omega,by omega⟩ ⟨by omega,by omega⟩
 rw [h1] at this
 refine ⟨cs,s1,?_,k1,by rw [h2,List.length_map,List.length_range]; omega,h3⟩
 unfold c_L_law_shape_6 fLc bnd
 rw [fItN_ok (us:=[.d (.int (n : Nat))]) (cons1 e1) (itR_eq (by omega))]
 unfold fLc bnd at this
 exact this
theorem sh_7 (w : WF st) (hb : Bag st b) : ∃ (cs : List (Int × Int)) (st' : Store),c_L_law_shape_7 K a [some (.ref b),x1,x2,x3,x4,x5,x6,x7,x8,x9,x10,x11] st = .ok (.d (.lst (cD cs))) st' ∧ Fb st st' b ∧ cs.length ≤ 12 ∧ ∀ p ∈ cs,InP p:=by
 obtain ⟨n,s1,e1,hn,k1⟩:=sh_take (K:=K) (a:=a) (e:=[some (.ref b),x1,x2,x3,x4,x5,x6,x7,x8,x9,x10,x11]) w hb rfl (vC (.int 13)) rfl (by decide) (by decide)
 obtain ⟨ds,s2,e2,k2,r⟩:=fLc_fb (fi:=fItN itR (fCons (fCall 2 0 gPos (m_L_law_take K a) (fCW (fCons (vVar 0) (fCons (vC (.int 13)) fNil)) fNil)) fNil)) (tg:=tgN 3) (tt:=tYesB) (fe:=fTup (fCons (vVar 3) (fCons (fCall 2 0 gPos (m_L_law_take K a) (fCW (fCons (vVar 0) (fCons (vC (.int 3)) fNil)) fNil)) fNil))) (vs:=[3]) (env:=[some (.ref b),x1,x2,x3,x4,x5,x6,x7,x8,x9,x10,x11]) (st0:=st)
  (fun _ x=>∃ p : Int × Int,x = .tup [.int p.1,.int p.2] ∧ InP p) k1.wf k1.bag (us:=(List.range n).map fun i=>.d (.int (0 + (i : Nat)))) (fItN_ok (us:=[.d (.int (n : Nat))]) (cons1 e1) (itR_eq (by omega))) (by rw [List.length_map,List.length_range]; exact Nat.le_trans (show n ≤ 13 by omega) (by decide)) fun u hu s ws bs=>by
  obtain ⟨i,hi,rfl⟩:=List.mem_map.mp hu
  rw [List.mem_range] at hi
  obtain ⟨d,s3,e3,hd,k3⟩:=sh_take (K:=K) (a:=a) (e:=[some (.ref b),x1,x2,some (.d (.int (0 + (i : Nat)))),x4,x5,x6,x7,x8,x9,x10,x11]) ws bs rfl (vC (.int 3)) rfl (by decide) (by decide)
  exact ⟨_,.tup [.int (0 + (i : Nat)),.int (d : Nat)],s3,rfl,rfl,tupA (ds:=[.int (0 + (i : Nat)),.int (d : Nat)]) (consA rfl (cons1 e3)) (show 2 ≤ sizeLine by decide),pr_InP ⟨by omega,by omega⟩ ⟨by omega,by omega⟩,k3⟩
 obtain ⟨cs,h1,h2,h3⟩:=fb_app (ds:=ds) fun x hx=>r.right (Q:=fun x=>∃ p : Int × Int,x = .tup [.int p.1,.int p.2] ∧ InP p) (fun _ _ h=>h) x hx
 have hl:=r.length
 rw [List.length_map,List.length_range] at hl
 subst h1
 exact ⟨cs,s2,e2,k1.trans k2,by omega,h3⟩
theorem sh_8 (w : WF st) (hb : Bag st b) {y : Nat} (hy : y = 3 ∨ y = 4) : ∃ (cs : List (Int × Int)) (st' : Store),c_L_law_shape_8 K a [some (.ref b),some (.d (.int (y : Nat))),x2,x3,x4,x5,x6,x7,x8,x9,x10,x11] st = .ok (.d (.lst (cD cs))) st' ∧ Fb st st' b ∧ cs.length ≤ 60 ∧ ∀ p ∈ cs,InP p:=by
 obtain ⟨m,hm,hf⟩ : ∃ m : Nat,(m = 61 ∨ m = 20) ∧ f2 oIx (fN vLst (fCons (vC (.int 61)) (fCons (vC (.int 20)) fNil))) (f2 oSub (vVar 1) (vC (.int 3))) [some (.ref b),some (.d (.int (y : Nat))),x2,x3,x4,x5,x6,x7,x8,x9,x10,x11] st = .ok (.d (.int (m : Nat))) st:=by
  rcases hy with rfl | rfl
  ·exact ⟨61,.inl rfl,f2A (lstDA (ds:=[.int 61,.int 20]) (consA rfl (cons1 rfl)) (show 2 ≤ sizeLine by decide)) rfl rfl⟩
  ·exact ⟨20,.inr rfl,f2A (lstDA (ds:=[.int 61,.int 20]) (consA rfl (cons1 rfl)) (show 2 ≤ sizeLine by decide)) rfl rfl⟩
 obtain ⟨n,s1,e1,hn,k1⟩:=sh_take (K:=K) (a:=a) (e:=[some (.ref b),some (.d (.int (y : Nat))),x2,x3,x4,x5,x6,x7,x8,x9,x10,x11]) w hb rfl _ hf (by omega) (by omega)
 have hn60 : n ≤ 60:=by omega
 obtain ⟨ds,s2,e2,k2,r⟩:=fLc_fb (fi:=fItN itR (fCons (fCall 2 0 gPos (m_L_law_take K a) (fCW (fCons (vVar 0) (fCons (f2 oIx (fN vLst (fCons (vC (.int 61)) (fCons (vC (.int 20)) fNil))) (f2 oSub (vVar 1) (vC (.int 3)))) fNil)) fNil)) fNil)) (tg:=tgN 11) (tt:=tYesB) (fe:=fTup (fCons (fCall 2 0 gPos (m_L_law_take K a) (fCW (fCons (vVar 0) (fCons (vC (.int 12)) fNil)) fNil)) (fCons (fCall 2 0 gPos (m_L_law_take K a) (fCW (fCons (vVar 0) (fCons (vC (.int 12)) fNil)) fNil)) fNil))) (vs:=[11]) (env:=[some (.ref b),some (.d (.int (y : Nat))),x2,x3,x4,x5,x6,x7,x8,x9,x10,x11]) (st0:=st)
  (fun _ x=>∃ p : Int × Int,x = .tup [.int p.1,.int p.2] ∧ InP p) k1.wf k1.bag (us:=(List.range n).map fun i=>.d (.int (0 + (i : Nat)))) (fItN_ok (us:=[.d (.int (n : Nat))]) (cons1 e1) (itR_eq (by omega))) (by rw [List.length_map,List.length_range]; exact Nat.le_trans hn60 (by decide)) fun u hu s ws bs=>by
  obtain ⟨d,s3,e3,hd,k3⟩:=sh_take (K:=K) (a:=a) (e:=[some (.ref b),some (.d (.int (y : Nat))),x2,x3,x4,x5,x6,x7,x8,x9,x10,some u]) ws bs rfl (vC (.int 12)) rfl (by decide) (by decide)
  obtain ⟨d2,s4,e4,hd2,k4⟩:=sh_take (K:=K) (a:=a) (e:=[some (.ref b),some (.d (.int (y : Nat))),x2,x3,x4,x5,x6,x7,x8,x9,x10,some u]) k3.wf k3.bag rfl (vC (.int 12)) rfl (by decide) (by decide)
  exact ⟨_,.tup [.int (d : Nat),.int (d2 : Nat)],s4,rfl,rfl,tupA (ds:=[.int (d : Nat),.int (d2 : Nat)]) (consA e3 (cons1 e4)) (show 2 ≤ sizeLine by decide),pr_InP ⟨by omega,by omega⟩ ⟨by omega,by omega⟩,k3.trans k4⟩
 obtain ⟨cs,h1,h2,h3⟩:=fb_app (ds:=ds) fun x hx=>r.right (Q:=fun x=>∃ p : Int × Int,x = .tup [.int p.1,.int p.2] ∧ InP p) (fun _ _ h=>h) x hx
 have hl:=r.length
 rw [List.length_map,List.length_range] at hl
 subst h1
 exact ⟨cs,s2,e2,k1.trans k2,by omega,h3⟩
end
theorem frz_ls {s0 : Store} {k : Nat} (w : WF s0) (hk : s0.length = k) {cs : List (Int × Int)} : wFrz k (.ref s0.length) (s0 ++ [.lst ((cD cs).map U.d)]) = .ok (.d (.lst (cD cs))) s0:=by
 have hg : (s0 ++ [O.lst ((cD cs).map U.d)])[s0.length]? = some (.lst ((cD cs).map .d)):=new_at
 have hf : frz (s0 ++ [O.lst ((cD cs).map U.d)]) k 4 (.ref s0.length) = some (.lst (cD cs)):=by
  unfold frz
  rw [if_neg (by omega),hg]
  simp only [frz_ints,Option.map_some]
 subst hk
 unfold wFrz
 rw [hf,w.cutA]
theorem frz_fb {st s1 : Store} {b : Nat} (k : Fb st s1 b) (d : D) : wFrz st.length (.d d) s1 = .ok (.d d) s1:=by
 have hc : cutS st.length s1 = some s1:=by rw [← k.len]; exact k.wf.cut
 unfold wFrz
 rw [frz_dd,hc]
theorem ev_shape {b : Nat} (w : WF st) (hb : Bag st b) : ∃ (cs : List (Int × Int)) (st' : Store),m_L_law_shape K a [.ref b] st = .ok (.d (.lst (cD cs))) st' ∧ Fb st st' b ∧ cs.length ≤ 144 ∧ ∀ p ∈ cs,InP p:=by
 obtain ⟨y,s1,e1,hy,k1⟩:=sh_take (K:=K) (a:=a) (e:=[some (.ref b),none,none,none,none,none,none,none,none,none,none,none]) w hb rfl (vC (.int 5)) rfl (by decide) (by decide)
 have out : ∀ {env' : VEnv} {d : D} {s : Store},g_L_law_shape K a [some (.ref b),none,none,none,none,none,none,none,none,none,none,none] st = .ok env' (.rt (.d d)) s → Fb st s b → m_L_law_shape K a [.ref b] st = .ok (.d d) s:=fun {env' d s} h k=>by
  have h2:=fnA (us:=[.ref b]) (n:=12) (g:=g_L_law_shape K a) (w:=wFrz) (s:=st) h
  unfold m_L_law_shape
  rw [h2]
  exact frz_fb k d
 have dn : ∀ j : Int,(y : Int) ≠ j → f2 oEq (vVar 1) (vC (.int j)) [some (.ref b),some (.d (.int (y : Nat))),none,none,none,none,none,none,none,none,none,none] s1 = .ok (.d (.bl false)) s1:=fun j hj=>f2A rfl rfl (show oEq (.d (.int (y : Nat))) (.d (.int j)) s1 = some (.d (.bl false)) by
  unfold oEq eqB
  show some (U.d (.bl (decide ((y : Int) = j)))) = _
  rw [decide_eq_false hj])
 have dy : ∀ j : Int,(y : Int) = j → f2 oEq (vVar 1) (vC (.int j)) [some (.ref b),some (.d (.int (y : Nat))),none,none,none,none,none,none,none,none,none,none] s1 = .ok (.d (.bl true)) s1:=fun j hj=>f2A rfl rfl (show oEq (.d (.int (y : Nat))) (.d (.int j)) s1 = some (.d (.bl true)) by
  unfold oEq eqB
  show some (U.d (.bl (decide ((y : Int) = j)))) = _
  rw [decide_eq_true hj])
 by_cases h0 : (y : Int) = 0
 ·obtain ⟨xs,s2,e2,k2,l2,x2⟩:=sh_1 (K:=K) (a:=a) (x1:=some (.d (.int (y : Nat)))) (x2:=none) (x3:=none) (x4:=none) (x5:=none) (x6:=none) (x7:=none) (x8:=none) (x9:=none) (x10:=none) (x11:=none) k1.wf k1.bag
  obtain ⟨ys,s3,e3,k3,l3,y3⟩:=sh_2 (K:=K) (a:=a) (x1:=some (.d (.int (y : Nat)))) (x2:=some (.d (.lst xs))) (x3:=none) (x4:=none) (x5:=none) (x6:=none) (x7:=none) (x8:=none) (x9:=none) (x10:=none) (x11:=none) k2.wf k2.bag
  have K3:=(k1.trans k2).trans k3
  obtain ⟨z3,cs,e4,hl,hc⟩:=sh_loop (K:=K) (a:=a) (s0:=s3) (x0:=some (.ref b)) (x1:=some (.d (.int (y : Nat)))) (x2:=some (.d (.lst xs))) (x5:=none) (x7:=none) (x8:=none) (x9:=none) (x10:=none) (x11:=none) K3.wf l3 y3 xs [] none x2 (by simp; omega) nofun
  refine ⟨cs,s3,?_,K3,hl,hc⟩
  have h2:=fnA (us:=[.ref b]) (n:=12) (g:=g_L_law_shape K a) (w:=wFrz) (s:=st) (u:=.ref s3.length) (s1:=s3 ++ [.lst ((cD cs).map U.d)]) (env1:=[some (.ref b),some (.d (.int (y : Nat))),some (.d (.lst xs)),z3,some (.d (.lst ys)),none,some (.ref s3.length),none,none,none,none,none]) (by
   unfold g_L_law_shape
   refine seqA e1 (seqR (ifT (asBA (dy 0 h0)) ?_))
   refine seqA e2 (seqA e3 (seqA (lstA rfl (show 0 ≤ sizeLine by decide)) (seqG ((sFor_lst (us:=xs.map U.d) rfl).trans e4) (retA rfl))))
   )
  unfold m_L_law_shape
  rw [h2]
  exact frz_ls K3.wf K3.len
 by_cases h1 : (y : Int) = 1
 ·obtain ⟨d,s2,e2,hd,k2⟩:=sh_take (K:=K) (a:=a) (e:=[some (.ref b),some (.d (.int (y : Nat))),none,none,none,none,none,none,none,none,none,none]) k1.wf k1.bag rfl (vC (.int 12)) rfl (by decide) (by decide)
  have hadd : oAdd (.d (.int 1)) (.d (.int (d : Nat))) s2 = some (.d (.int ((d + 1 : Nat) : Int))):=by
   show some (U.d (.int (1 + (d : Int)))) = _
   rw [show (1 + (d : Int)) = ((d + 1 : Nat) : Int) by omega]
  obtain ⟨c4,e4,l4,i4⟩:=sh_4 (K:=K) (a:=a) (x0:=some (.ref b)) (x1:=some (.d (.int (y : Nat)))) (x2:=none) (x3:=none) (x4:=none) (x5:=none) (x6:=none) (x8:=none) (x9:=none) (x10:=none) (x11:=none) k2.wf (n:=d + 1) ⟨by omega,by omega⟩
  obtain ⟨c5,e5,l5,i5⟩:=sh_5 (K:=K) (a:=a) (x0:=some (.ref b)) (x1:=some (.d (.int (y : Nat)))) (x2:=none) (x3:=none) (x4:=none) (x5:=none) (x6:=none) (x8:=none) (x9:=none) (x10:=none) (x11:=none) k2.wf (n:=d + 1) ⟨by omega,by omega⟩
  have ha2 : oAdd (.d (.lst (cD c4))) (.d (.lst (cD c5))) s2 = some (.d (.lst (cD (c4 ++ c5)))):=by
   rw [← cD_app]
   exact if_pos (by rw [cD_len,cD_len]; exact Nat.le_trans (show _ ≤ 30 by omega) (by decide))
  have mn : g_L_law_shape K a [some (.ref b),none,none,none,none,none,none,none,none,none,none,none] st = .ok [some (.ref b),some (.d (.int (y : Nat))),none,none,none,none,none,some (.d (.int ((d + 1 : Nat) : Int))),none,none,none,none] (.rt (.d (.lst (cD (c4 ++ c5))))) s2:=by
   unfold g_L_law_shape
   refine seqA e1 (seqG (ifF (asBA (dn 0 h0)) rfl) (seqR (ifT (asBA (dy 1 h1)) ?_)))
   exact seqA (f2A rfl e2 hadd) (retA (f2A e4 e5 ha2))
  exact ⟨c4 ++ c5,s2,out mn (k1.trans k2),k1.trans k2,by rw [List.length_append]; omega,fun p hp=>(List.mem_append.mp hp).elim (i4 p) (i5 p)⟩
 by_cases h2 : (y : Int) = 2
 ·obtain ⟨h,s2,e2,hh,k2⟩:=sh_take (K:=K) (a:=a) (e:=[some (.ref b),some (.d (.int (y : Nat))),none,none,none,none,none,none,none,none,none,none]) k1.wf k1.bag rfl (vC (.int 12)) rfl (by decide) (by decide)
  obtain ⟨c6,s3,e6,k3,l6,i6⟩:=sh_6 (K:=K) (a:=a) (x1:=some (.d (.int (y : Nat)))) (x2:=none) (x3:=none) (x4:=none) (x5:=none) (x6:=none) (x7:=none) (x8:=none) (x10:=none) (x11:=none) k2.wf k2.bag (h:=h) (by omega)
  obtain ⟨c7,s4,e7,k4,l7,i7⟩:=sh_7 (K:=K) (a:=a) (x1:=some (.d (.int (y : Nat)))) (x2:=none) (x3:=none) (x4:=none) (x5:=none) (x6:=none) (x7:=none) (x8:=none) (x9:=some (.d (.int (h : Nat)))) (x10:=some (.d (.lst (cD c6)))) (x11:=none) k3.wf k3.bag
  have ha2 : oAdd (.d (.lst (cD c6))) (.d (.lst (cD c7))) s4 = some (.d (.lst (cD (c6 ++ c7)))):=by
   rw [← cD_app]
   exact if_pos (by rw [cD_len,cD_len]; exact Nat.le_trans (show _ ≤ 30 by omega) (by decide))
  have mn : g_L_law_shape K a [some (.ref b),none,none,none,none,none,none,none,none,none,none,none] st = .ok [some (.ref b),some (.d (.int (y : Nat))),none,none,none,none,none,none,none,some (.d (.int (h : Nat))),some (.d (.lst (cD c6))),none] (.rt (.d (.lst (cD (c6 ++ c7))))) s4:=by
   unfold g_L_law_shape
   refine seqA e1 (seqG (ifF (asBA (dn 0 h0)) rfl) (seqG (ifF (asBA (dn 1 h1)) rfl) (seqR (ifT (asBA (dy 2 h2)) ?_))))
   exact seqA e2 (seqA e6 (retA (f2A rfl e7 ha2)))
  exact ⟨c6 ++ c7,s4,out mn (((k1.trans k2).trans k3).trans k4),((k1.trans k2).trans k3).trans k4,by rw [List.length_append]; omega,fun p hp=>(List.mem_append.mp hp).elim (i6 p) (i7 p)⟩
 obtain ⟨c8,s2,e8,k2,l8,i8⟩:=sh_8 (K:=K) (a:=a) (x2:=none) (x3:=none) (x4:=none) (x5:=none) (x6:=none) (x7:=none) (x8:=none) (x9:=none) (x10:=none) (x11:=none) k1.wf k1.bag (y:=y) (by omega)
 have mn : g_L_law_shape K a [some (.ref b),none,none,none,none,none,none,none,none,none,none,none] st = .ok [some (.ref b),some (.d (.int (y : Nat))),none,none,none,none,none,none,none,none,none,none] (.rt (.d (.lst (cD c8)))) s2:=by
  unfold g_L_law_shape
  exact seqA e1 (seqG (ifF (asBA (dn 0 h0)) rfl) (seqG (ifF (asBA (dn 1 h1)) rfl) (seqG (ifF (asBA (dn 2 h2)) rfl) (retA e8))))
 exact ⟨c8,s2,out mn (k1.trans k2),k1.trans k2,by omega,i8⟩
section
variable {x0 x1 x2 x3 x4 x5 x6 x7 x8 x9 x10 x11 x12 : Option U}
theorem slA {f : F U} {l r : F (Option Int)} {lo hi : Option Int} {env : VEnv} {s s1 s2 s3 : Store} {u v : U} (h1 : f env s = .ok u s1) (h2 : l env s1 = .ok lo s2) (h3 : r env s2 = .ok hi s3) (h : oSl u lo hi s3 = some v) : fSl f l r env s = .ok v s3:=by
 unfold fSl bnd
 rw [h1]
 simp only
 rw [h2]
 simp only
 rw [h3]
 simp only [h,R.of]
theorem lw_2 (w : WF st) {cs ms : List (Int × Int)} (hl : ms.length ≤ 60) (hme : ∀ p ∈ ms,p ∈ cs) : c_law_2 K a [x0,x1,x2,x3,x4,x5,some (.d (.lst (cD cs))),x7,some (.d (.tup (cD ms))),x9,x10,x11,x12] st = .ok (.d (.lst [])) st:=by
 unfold c_law_2
 have:=lc_eq (fi:=fIter (vVar 8)) (tg:=tgN 9) (tt:=(asB (f2 oNotIn (vVar 9) (vVar 6)))) (fe:=vVar 9) (vs:=[9]) (env:=[x0,x1,x2,x3,x4,x5,some (.d (.lst (cD cs))),x7,some (.d (.tup (cD ms))),x9,x10,x11,x12]) (f:=fun p : Int × Int=>U.d (.tup [.int p.1,.int p.2])) ms (fun _=>false) (fun p=>.tup [.int p.1,.int p.2]) w (Nat.le_trans hl (by decide)) (by apply eq_of_wp; generalize cD cs = CS at *; unfold cD; simp_all only [List.map_map]; rfl) fun p hp acc=>by
  have e:=in_cD (st:=st ++ [.lst (acc.map .d)]) p cs
  rw [decide_eq_true (hme p hp)] at e
  generalize cD cs = CS at *
  generalize cD ms = MS at *
  unfold LcP
  simp_all only [wipeE,e]
  intro z
  cases z
 rw [this]
 simp
theorem lw_3 (w : WF st) {ms : List (Int × Int)} (hl : ms.length ≤ 60) : c_law_3 K a [x0,x1,x2,x3,x4,x5,x6,x7,some (.d (.tup (cD ms))),x9,x10,x11,x12] st = .ok (.d (.lst ((ms.map (·.1)).map D.int))) st:=by
 unfold c_law_3
 have:=lc_eq1 (fi:=fIter (vVar 8)) (tg:=tgT 2 (tgCons (tgN 11) (tgCons (tgN 12) tgNil))) (tt:=tYesB) (fe:=vVar 11) (vs:=[11,12]) (env:=[x0,x1,x2,x3,x4,x5,x6,x7,some (.d (.tup (cD ms))),x9,x10,x11,x12]) (f:=fun p : Int × Int=>U.d (.tup [.int p.1,.int p.2])) ms (fun p=>D.int p.1) w (Nat.le_trans hl (by decide)) (by apply eq_of_wp; unfold cD; simp_all only [List.map_map]; rfl) fun p hp acc=>by
  unfold LcP
  generalize cD ms = MS at *
  simp_all only [wipeE,tYesB]
  intro _
  simp_all only []
 rw [this,List.map_map]
 rfl
theorem lw_4 (w : WF st) {ms : List (Int × Int)} (hl : ms.length ≤ 60) : c_law_4 K a [x0,x1,x2,x3,x4,x5,x6,x7,some (.d (.tup (cD ms))),x9,x10,x11,x12] st = .ok (.d (.lst ((ms.map (·.2)).map D.int))) st:=by
 unfold c_law_4
 have:=lc_eq1 (fi:=fIter (vVar 8)) (tg:=tgT 2 (tgCons (tgN 11) (tgCons (tgN 12) tgNil))) (tt:=tYesB) (fe:=vVar 12) (vs:=[11,12]) (env:=[x0,x1,x2,x3,x4,x5,x6,x7,some (.d (.tup (cD ms))),x9,x10,x11,x12]) (f:=fun p : Int × Int=>U.d (.tup [.int p.1,.int p.2])) ms (fun p=>D.int p.2) w (Nat.le_trans hl (by decide)) (by apply eq_of_wp; unfold cD; simp_all only [List.map_map]; rfl) fun p hp acc=>by
  unfold LcP
  generalize cD ms = MS at *
  simp_all only [wipeE,tYesB]
  intro _
  simp_all only []
 rw [this,List.map_map]
 rfl
theorem rev_range {L : List D} : (List.range L.length).map (fun i=>L.getD (L.length - 1 - i) .non) = L.reverse:=by
 apply List.ext_getElem (by simp)
 intro i h1 h2
 rw [List.length_map,List.length_range] at h1
 rw [List.getElem_map,List.getElem_range,List.getElem_reverse,List.getD_eq_getElem?_getD,List.getElem?_eq_getElem (by omega)]
 rfl
theorem lw_1 (w : WF st) {cs : List (Int × Int)} (hl : cs.length ≤ 144) : c_law_1 K a [x0,x1,x2,x3,some (.d (.lst (cD cs))),x5,x6,x7,x8,x9,x10,x11,x12] st = .ok (.d (.lst (cD cs.reverse))) st:=by
 have hn : (cD cs).length = cs.length:=cD_len cs
 unfold c_law_1
 have:=lc_eq1 (fi:=fItN itR (fCons (fB (pu oLen) (fCons (vVar 4) fNil)) fNil)) (tg:=tgN 5) (tt:=tYesB) (fe:=f2 oIx (vVar 4) (f2 oSub (f1 oNeg (vC (.int 1))) (vVar 5))) (vs:=[5]) (env:=[x0,x1,x2,x3,some (.d (.lst (cD cs))),x5,x6,x7,x8,x9,x10,x11,x12]) (f:=fun i : Nat=>U.d (.int (0 + (i : Nat)))) (List.range cs.length) (fun i=>(cD cs).getD (cs.length - 1 - i) .non) w (by rw [List.length_range]; exact Nat.le_trans hl (by decide)) (fItN_ok (us:=[.d (.int (cs.length : Nat))]) (cons1 (puA (cons1 rfl) (by
   show (lenN st (.d (.lst (cD cs)))).map (fun n=>U.d (.int n)) = _
   show some (U.d (.int (((cD cs).map U.d).length : Nat))) = _
   rw [List.length_map,hn]))) (itR_eq (by omega))) fun i hi acc=>by
  rw [List.mem_range] at hi
  have e:=at_rev (xs:=(cD cs).map U.d) (k:=i) (by rw [List.length_map,hn]; exact hi)
  have e2 : ((cD cs).map U.d)[((cD cs).map U.d).length - 1 - i]'(by rw [List.length_map,hn]; omega) = U.d ((cD cs).getD (cs.length - 1 - i) .non):=by
   rw [List.getElem_map]
   congr 1
   rw [List.getD_eq_getElem?_getD,List.getElem?_eq_getElem (show cs.length - 1 - i < (cD cs).length by omega)]
   simp only [List.length_map,hn,Option.getD_some]
  rw [e2] at e
  clear e2
  generalize (cD cs).getD (cs.length - 1 - i) .non = X at *
  generalize cD cs = CS at *
  unfold LcP
  simp_all only [wipeE,tYesB]
  intro _
  simp_all only [e]
 rw [this]
 have e:=rev_range (L:=cD cs)
 rw [hn] at e
 rw [e]
 unfold cD
 rw [List.map_reverse]
noncomputable def y13 : List Int:=(List.range 13).map fun i=>((i : Nat) : Int)
theorem in_y13 {i : Int} (h : 0 ≤ i ∧ i ≤ 12) : i ∈ y13:=List.mem_map.mpr ⟨i.toNat,List.mem_range.mpr (by omega),by omega⟩
theorem y13_30 : ∀ y ∈ y13,0 ≤ y ∧ y ≤ 30:=fun y hy=>by
 obtain ⟨i,hi,rfl⟩:=List.mem_map.mp hy
 rw [List.mem_range] at hi
 omega
theorem gd_of {cs : List (Int × Int)} (hl : cs.length ≤ 150) (h : ∀ p ∈ cs,InP p) : Gd y13 cs:=⟨by omega,fun p hp=>⟨in_y13 (h p hp).2,in_y13 (h p hp).1⟩⟩
theorem intsU_map (xs : List Int) : intsU ((xs.map D.int).map U.d) = some xs:=by
 induction xs with
 | nil=>rfl
 | cons x xs ih =>
  rw [List.map_cons,List.map_cons]
  unfold intsU at ih ⊢
  simp only [allM,ih]
theorem len_set {xs : List Int} (hn : xs.Nodup) (hl : xs.length < 64) : oLenSet (.d (.lst (xs.map D.int))) st = some (.d (.int ((xs.length : Nat) : Int))):=by
 unfold oLenSet
 simp only [getL,intsU_map,hl,if_true,nd_distI hn]
theorem len_d (ds : List D) : oLen [.d (.tup ds)] st = some (.d (.int ((ds.length : Nat) : Int))):=by
 simp only [oLen,lenN,getL,List.length_map,Option.map_some]
 rfl
theorem ne_ii (i : Int) : oNe (.d (.int i)) (.d (.int i)) st = some (.d (.bl false)):=by
 unfold oNe eqB
 show some (U.d (.bl (!decide (i = i)))) = _
 rw [decide_eq_true rfl]
 rfl
theorem ne_il (i : Int) : oNe (.d (.lst [.int i,.int i])) (.d (.lst [.int i,.int i])) st = some (.d (.bl false)):=by
 have : eqB st (.d (.lst [.int i,.int i])) (.d (.lst [.int i,.int i])) = some true:=by
  haveI : Decidable ([D.int i,.int i] = [D.int i,.int i]):=isTrue rfl
  rw [eqB_ls (LsU.d st [D.int i,.int i]) (LsU.d st [D.int i,.int i]) rfl rfl (show 0 ≤ 59 by decide) (show 0 ≤ 59 by decide)]
  exact congrArg some (decide_eq_true rfl)
 unfold oNe
 rw [this]
 rfl
theorem ne_cD (cs : List (Int × Int)) : oNe (.d (.lst (cD cs))) (.d (.lst (cD cs))) st = some (.d (.bl false)):=by
 unfold oNe
 rw [eq_cD cs]
 rfl
theorem list_tup (ds : List D) : oList [.d (.tup ds)] st = some (.d (.lst ds)):=by
 show Option.map (fun ds=>U.d (D.lst ds)) (pureL (ds.map U.d)) = _
 rw [pureL_map]
 rfl
theorem list_lst (ds : List D) : oList [.d (.lst ds)] st = some (.d (.lst ds)):=by
 show Option.map (fun ds=>U.d (D.lst ds)) (pureL (ds.map U.d)) = _
 rw [pureL_map]
 rfl
theorem fewM_cD {ms : List (Int × Int)} (h : ms.length ≤ 15) : fewM (cD ms) = true:=by
 unfold fewM
 rw [keys_all]
 refine decide_eq_true ?_
 have:=distF_len (ms.map keyI)
 rw [List.length_map] at this
 omega
theorem ev_turn {b : Nat} (w : WF st) (hb : Bag st b) : ∃ (y4 y6 y7 y8 y10 : Option U) (st' : Store),b_law_1 K a [x0,x1,some (.ref b),x3,x4,x5,x6,x7,x8,x9,x10,x11,x12] st = .ok [x0,x1,some (.ref b),x3,y4,x5,y6,y7,y8,x9,y10,x11,x12] .nx st' ∧ WF st' ∧ Bag st' b:=by
 obtain ⟨c0,s1,e1,k1,l1,i1⟩:=ev_shape (K:=K) (a:=a) w hb
 obtain ⟨d,s2,e2,hd,k2⟩:=ev_ltake (K:=K) (a:=a) k1.wf k1.bag (m:=2) (by decide) (by decide)
 have step2 : ∃ (cs : List (Int × Int)) (s3 : Store),(sIf (asB (f2 oEq (fCall 2 0 gPos (m_L_law_take K a) (fCW (fCons (vVar 2) (fCons (vC (.int 2)) fNil)) fNil)) (vC (.int 0))))
  (sAsg (f2 oAdd (c_law_1 K a) (fSl (vVar 4) oNone (oSome (fCall 2 0 gPos (m_L_law_take K a) (fCW (fCons (vVar 2) (fCons (vC (.int 4)) fNil)) fNil))))) (tgN 4))
  sNil) [x0,x1,some (.ref b),x3,some (.d (.lst (cD c0))),x5,x6,x7,x8,x9,x10,x11,x12] s1 = .ok [x0,x1,some (.ref b),x3,some (.d (.lst (cD cs))),x5,x6,x7,x8,x9,x10,x11,x12] .nx s3 ∧ Fb st s3 b ∧ cs.length ≤ 150 ∧ ∀ p ∈ cs,InP p:=by
  have et : fCall 2 0 gPos (m_L_law_take K a) (fCW (fCons (vVar 2) (fCons (vC (.int 2)) fNil)) fNil) [x0,x1,some (.ref b),x3,some (.d (.lst (cD c0))),x5,x6,x7,x8,x9,x10,x11,x12] s1 = .ok (.d (.int (d : Nat))) s2:=callA (consA rfl (cons1 rfl)) rfl e2
  by_cases h0 : (d : Int) = 0
  ·obtain ⟨t,s3,e3,ht,k3⟩:=ev_ltake (K:=K) (a:=a) k2.wf k2.bag (m:=4) (by decide) (by decide)
   have el:=lw_1 (K:=K) (a:=a) (x0:=x0) (x1:=x1) (x2:=some (.ref b)) (x3:=x3) (x5:=x5) (x6:=x6) (x7:=x7) (x8:=x8) (x9:=x9) (x10:=x10) (x11:=x11) (x12:=x12) k2.wf l1
   have es : fSl (vVar 4) oNone (oSome (fCall 2 0 gPos (m_L_law_take K a) (fCW (fCons (vVar 2) (fCons (vC (.int 4)) fNil)) fNil))) [x0,x1,some (.ref b),x3,some (.d (.lst (cD c0))),x5,x6,x7,x8,x9,x10,x11,x12] s2 = .ok (.d (.lst (cD (c0.take t)))) s3:=by
    have e4 : fCall 2 0 gPos (m_L_law_take K a) (fCW (fCons (vVar 2) (fCons (vC (.int 4)) fNil)) fNil) [x0,x1,some (.ref b),x3,some (.d (.lst (cD c0))),x5,x6,x7,x8,x9,x10,x11,x12] s2 = .ok (.d (.int (t : Nat))) s3:=callA (consA rfl (cons1 rfl)) rfl e3
    have hcut : oSl (.d (.lst (cD c0))) none (some (t : Int)) s3 = some (.d (.lst (cD (c0.take t)))):=by
     have hp : pureL (cutG ((cD c0).map U.d) none (some (t : Int))) = some (cD (c0.take t)):=by
      rw [cut_take,← List.map_take,pureL_map]
      unfold cD
      rw [List.map_take]
     show (match pureL (cutG ((cD c0).map U.d) none (some (t : Int))) with
      | some ds=>some (U.d (.lst ds))
      | none=>none) = _
     rw [hp]
    have e5 : oSome (fCall 2 0 gPos (m_L_law_take K a) (fCW (fCons (vVar 2) (fCons (vC (.int 4)) fNil)) fNil)) [x0,x1,some (.ref b),x3,some (.d (.lst (cD c0))),x5,x6,x7,x8,x9,x10,x11,x12] s2 = .ok (some (t : Int)) s3:=by
     unfold oSome bnd
     rw [e4]
    exact slA rfl rfl e5 hcut
   have ha : oAdd (.d (.lst (cD c0.reverse))) (.d (.lst (cD (c0.take t)))) s3 = some (.d (.lst (cD (c0.reverse ++ c0.take t)))):=by
    rw [← cD_app]
    exact if_pos (by rw [cD_len,cD_len,List.length_reverse,List.length_take]; exact Nat.le_trans (show _ ≤ 300 by omega) (by decide))
   refine ⟨c0.reverse ++ c0.take t,s3,?_,(k1.trans k2).trans k3,by rw [List.length_append,List.length_reverse,List.length_take]; omega,fun p hp=>?_⟩
   ·refine ifT (asBA (f2A et rfl (show oEq (.d (.int (d : Nat))) (.d (.int 0)) s2 = some (.d (.bl true)) from ?_))) ?_
    ·unfold oEq eqB
     show some (U.d (.bl (decide ((d : Int) = 0)))) = _
     rw [decide_eq_true h0]
    ·exact asgA (f2A el es ha)
   ·rcases List.mem_append.mp hp with z | z
    ·exact i1 p (List.mem_reverse.mp z)
    ·exact i1 p (List.mem_of_mem_take z)
  ·refine ⟨c0,s2,?_,k1.trans k2,by omega,i1⟩
   refine ifF (asBA (f2A et rfl (show oEq (.d (.int (d : Nat))) (.d (.int 0)) s2 = some (.d (.bl false)) from ?_))) rfl
   unfold oEq eqB
   show some (U.d (.bl (decide ((d : Int) = 0)))) = _
   rw [decide_eq_false h0]
 obtain ⟨cs,s3,e3,k3,hl,hc⟩:=step2
 have g:=gd_of hl hc
 have hY : y13.length ≤ 15:=by decide
 obtain ⟨qs,Q,e4⟩:=ev_lc (K:=K) (a:=a) k3.wf hY g hl
 obtain ⟨ms,M,e5⟩:=ev_mt (K:=K) (a:=a) k3.wf hY g
 have e6:=ev_right (K:=K) (a:=a) k3.wf hY g Q
 have e7:=ev_cov (K:=K) (a:=a) k3.wf hY g y13_30 Q
 have e8:=ev_mat (K:=K) (a:=a) k3.wf g y13_30 M
 have m60 : ms.length ≤ 60:=by have:=M.le; omega
 have c2:=lw_2 (K:=K) (a:=a) (x0:=x0) (x1:=x1) (x2:=some (.ref b)) (x3:=x3) (x4:=some (.d (.lst (cD cs)))) (x5:=x5) (x7:=some (.d (.tup (qD qs)))) (x9:=x9) (x10:=x10) (x11:=x11) (x12:=x12) k3.wf m60 M.me
 have c3:=lw_3 (K:=K) (a:=a) (x0:=x0) (x1:=x1) (x2:=some (.ref b)) (x3:=x3) (x4:=some (.d (.lst (cD cs)))) (x5:=x5) (x6:=some (.d (.lst (cD cs)))) (x7:=some (.d (.tup (qD qs)))) (x9:=x9) (x10:=x10) (x11:=x11) (x12:=x12) k3.wf m60
 have c4:=lw_4 (K:=K) (a:=a) (x0:=x0) (x1:=x1) (x2:=some (.ref b)) (x3:=x3) (x4:=some (.d (.lst (cD cs)))) (x5:=x5) (x6:=some (.d (.lst (cD cs)))) (x7:=some (.d (.tup (qD qs)))) (x9:=x9) (x10:=x10) (x11:=x11) (x12:=x12) k3.wf m60
 have s5:=len_set (st:=s3) M.n1 (by rw [List.length_map]; omega)
 have s6:=len_set (st:=s3) M.n2 (by rw [List.length_map]; omega)
 rw [List.length_map] at s5 s6
 have t1 : ∀ ds : List D,oIsi K a.own [.d (.tup ds),.d (.ty "tuple")] s3 = some (.d (.bl true)):=fun ds=>rfl
 have q1 : oLen [.d (.tup (qD qs))] s3 = some (.d (.int ((nuP cs : Nat) : Int))):=by rw [len_d,qD_len,Q.len]
 have q2 : oLen [.d (.tup (cD ms))] s3 = some (.d (.int ((nuP cs : Nat) : Int))):=by rw [len_d,cD_len,M.len]
 have hrep : oRep (.d (.lst [.int ((nuP cs : Nat) : Int)])) (.d (.int 2)) s3 = some (.d (.lst [.int ((nuP cs : Nat) : Int),.int ((nuP cs : Nat) : Int)])):=rfl
 have hso : oSortSMt [.d (.tup (cD ms))] s3 = some (.d (.lst (cD ms))):=by
  show (if fewM (cD ms) = true then Option.map (fun ds=>U.d (D.lst ds)) (sortD (cD ms)) else none) = _
  rw [if_pos (fewM_cD M.le),sortD_id M.nd M.srt]
  rfl
 rw [M.len] at s5 s6
 refine ⟨some (.d (.lst (cD cs))),some (.d (.lst (cD cs))),some (.d (.tup (qD qs))),some (.d (.tup (cD ms))),some (.d (.lst [.int ((nuP cs : Nat) : Int),.int ((nuP cs : Nat) : Int)])),s3,?_,k3.wf,k3.bag⟩
 unfold b_law_1
 refine seqA (callA (cons1 rfl) rfl e1) ?_
 refine seqG e3 ?_
 refine seqA (puA (cons1 rfl) (list_lst _)) ?_
 refine seqG (parA (consA (callA (cons1 rfl) rfl e4) (cons1 (callA (cons1 rfl) rfl e5)))) ?_
 refine seqG (ifF (bOrF (asBA (f2A rfl rfl (ne_cD cs))) (bNotA (k:=true) (asTA (callA (consA rfl (cons1 rfl)) rfl e6) rfl))) rfl) ?_
 refine seqG (ifF (bOrF (bNotA (k:=true) (asTA (puA (consA rfl (cons1 rfl)) (t1 _)) rfl)) (asBA (f2A c2 rfl rfl))) rfl) ?_
 refine seqA (lstDA (ds:=[.int ((nuP cs : Nat) : Int),.int ((nuP cs : Nat) : Int)]) (consA (f1A c3 s5) (cons1 (f1A c4 s6))) (show 2 ≤ sizeLine by decide)) ?_
 refine seqG (ifF (bOrF (asBA (f2A rfl (f2A (lstDA (ds:=[.int ((nuP cs : Nat) : Int)]) (cons1 (puA (cons1 rfl) q2)) (show 1 ≤ sizeLine by decide)) rfl hrep) (ne_il _))) (bOrF (asBA (f2A (puA (cons1 rfl) q1) (puA (cons1 rfl) q2) (ne_ii _))) (asBA (f2A (puA (cons1 rfl) (list_tup _)) (puA (cons1 rfl) hso) (ne_cD ms))))) rfl) ?_
 exact ifF (bOrF (bNotA (k:=true) (asTA (callA (consA rfl (cons1 rfl)) rfl e7) rfl)) (bNotA (k:=true) (asTA (callA (consA rfl (cons1 rfl)) rfl e8) rfl))) rfl
end
section
variable {x0 x1 x2 x3 x4 x5 x6 x7 x8 x9 x10 x11 x12 : Option U}
theorem ev_turns {b : Nat} : ∀ (us : List U) (x3 x4 x6 x7 x8 x10 : Option U) (st : Store),WF st → Bag st b → ∃ (y3 y4 y6 y7 y8 y10 : Option U) (st' : Store),loopL (tgN 3) (b_law_1 K a) us [x0,x1,some (.ref b),x3,x4,x5,x6,x7,x8,x9,x10,x11,x12] st = .ok [x0,x1,some (.ref b),y3,y4,x5,y6,y7,y8,x9,y10,x11,x12] .nx st' ∧ WF st' ∧ Bag st' b
 | [],x3,x4,x6,x7,x8,x10,st,w,hb=>⟨x3,x4,x6,x7,x8,x10,st,rfl,w,hb⟩
 | u :: us,x3,x4,x6,x7,x8,x10,st,w,hb=>by
  obtain ⟨y4,y6,y7,y8,y10,s1,e1,w1,b1⟩:=ev_turn (K:=K) (a:=a) (x0:=x0) (x1:=x1) (x3:=some u) (x4:=x4) (x5:=x5) (x6:=x6) (x7:=x7) (x8:=x8) (x9:=x9) (x10:=x10) (x11:=x11) (x12:=x12) w hb
  obtain ⟨z3,z4,z6,z7,z8,z10,s2,e2,w2,b2⟩:=ev_turns us (some u) y4 y6 y7 y8 y10 s1 w1 b1
  exact ⟨z3,z4,z6,z7,z8,z10,s2,loopN e1 e2,w2,b2⟩
theorem ev_at {ns : List Int} (hn : ns.length ≤ 63) {t : Nat} (ht : t < 64) (w : WF st) : ∃ (y2 y3 y4 y6 y7 y8 y10 : Option U) (st' : Store),b_law_2 K a [some (.d (.scr ns)),some (.d (.int (t : Nat))),x2,x3,x4,x5,x6,x7,x8,x9,x10,x11,x12] st = .ok [some (.d (.scr ns)),some (.d (.int (t : Nat))),y2,y3,y4,x5,y6,y7,y8,x9,y10,x11,x12] .nx st' ∧ WF st':=by
 obtain ⟨n,x,e1⟩:=ev_lbag (K:=K) (a:=a) w ns hn t ht
 have w1 : WF (st ++ [.lst [.d (.int n),.d (.int x)]]):=w.pushL [.int n,.int x]
 obtain ⟨y3,y4,y6,y7,y8,y10,s3,e3,w3,b3⟩:=ev_turns (K:=K) (a:=a) (x0:=some (.d (.scr ns))) (x1:=some (.d (.int (t : Nat)))) (x5:=x5) (x9:=x9) (x11:=x11) (x12:=x12) (b:=st.length) ((List.range 2).map fun i=>.d (.int (0 + (i : Nat)))) x3 x4 x6 x7 x8 x10 _ w1 ⟨n,x,new_at⟩
 have hi : ∀ env s,fItN itR (fCons (vC (.int 2)) fNil) env s = .ok (.lst ((List.range 2).map fun i=>.d (.int (0 + (i : Nat))))) s:=fun env s=>fItN_ok (us:=[.d (.int 2)]) rfl (itR_eq (w:=2) (by decide))
 refine ⟨some (.ref st.length),y3,y4,y6,y7,y8,y10,s3,?_,w3⟩
 unfold b_law_2
 exact seqA (callA (consA rfl (cons1 rfl)) rfl e1) ((sFor_lst (hi _ _)).trans e3)
end
theorem minmax24 (L : Nat) : (if (if ((L : Nat) : Int) < 4 then ((L : Nat) : Int) else 4) > 2 then (if ((L : Nat) : Int) < 4 then ((L : Nat) : Int) else 4) else 2) = ((max 2 (min 4 L) : Nat) : Int):=by
 split <;> split <;> omega
theorem ev_ats {ns : List Int} (hn : ns.length ≤ 63) : ∀ (is : List Nat) (x1 x2 x3 x4 x5 x6 x7 x8 x9 x10 x11 x12 : Option U) (st : Store),(∀ i ∈ is,i < 64) → WF st →
  ∃ e' st',loopL (tgN 1) (b_law_2 K a) (is.map fun i=>.d (.int (0 + (i : Nat)))) [some (.d (.scr ns)),x1,x2,x3,x4,x5,x6,x7,x8,x9,x10,x11,x12] st = .ok e' .nx st' ∧ WF st'
 | [],x1,x2,x3,x4,x5,x6,x7,x8,x9,x10,x11,x12,st,_,w=>⟨_,_,rfl,w⟩
 | i :: is,x1,x2,x3,x4,x5,x6,x7,x8,x9,x10,x11,x12,st,hi,w=>by
  obtain ⟨y2,y3,y4,y6,y7,y8,y10,s1,e1,w1⟩:=ev_at (K:=K) (a:=a) hn (hi i List.mem_cons_self) (x2:=x2) (x3:=x3) (x4:=x4) (x5:=x5) (x6:=x6) (x7:=x7) (x8:=x8) (x9:=x9) (x10:=x10) (x11:=x11) (x12:=x12) w
  obtain ⟨e',s2,e2,w2⟩:=ev_ats hn is (some (.d (.int (i : Nat)))) y2 y3 y4 x5 y6 y7 y8 x9 y10 x11 x12 s1 (fun j hj=>hi j (List.mem_cons_of_mem _ hj)) w1
  refine ⟨e',s2,?_,w2⟩
  rw [List.map_cons,Int.zero_add]
  exact loopN e1 e2
theorem law_ok : LawOk:=by
 intro K a _ ns hn
 obtain ⟨e',s1,e1,w1⟩:=ev_ats (K:=K) (a:=a) hn (List.range (max 2 (min 4 ns.length))) none none none none none none none none none none none none [] (fun i hi=>by rw [List.mem_range] at hi; omega) WF.nil
 have hfi : fItN itR (fCons (fB (pu oMax) (fCons (vC (.int 2)) (fCons (fB (pu oMin) (fCons (vC (.int 4)) (fCons (fB (pu oLen) (fCons (vVar 0) fNil)) fNil))) fNil))) fNil) [some (.d (.scr ns)),none,none,none,none,none,none,none,none,none,none,none,none] [] = .ok (.lst ((List.range (max 2 (min 4 ns.length))).map fun i=>U.d (.int (0 + (i : Nat))))) []:=by
  refine fItN_ok (us:=[.d (.int ((max 2 (min 4 ns.length) : Nat) : Int))]) ?_ (itR_eq (by omega))
  have:=minmax24 ns.length
  simp_all? only [List.length_map,this]
 refine ⟨[],?_⟩
 have main : g_law K a [some (.d (.scr ns)),none,none,none,none,none,none,none,none,none,none,none,none] [] = .ok e' (.rt (.d (.bl true))) s1:=by
  unfold g_law
  exact seqG ((sFor_lst hfi).trans e1) (retA rfl)
 have:=fnZ (us:=[.d (.scr ns)]) (n:=13) (g:=g_law K a) (s:=[]) (s1:=s1) WF.nil main
 exact this
end VL.K45
namespace VL.K45
open PySem PySem.Spec PyProof.Rows L2 VL VL.Hd
noncomputable def hl0 : List Str:=["__name__","OWN","SHIPPED","is_integer","bears","claims_of","rights_of","is_placed","matching","least_cover","is_claim","is_ascending","is_cover","is_pair","is_matching","_law_bag","_law_take","_law_shape","_law_claims_right"]
noncomputable def hl : List Str:=hl0
noncomputable def hn0 : List Str:=["_law_bag","_law_take","_law_shape","rights_of","is_placed","matching","claims_of","bears","least_cover","_law_claims_right","is_integer","is_claim","is_ascending","is_cover","is_pair","is_matching","law"]
noncomputable def hn : List Str:=hn0
noncomputable def ad (K : PySem.W.Frag) : Ad where
 f_L_law_bag:=(He.ga K "_law_bag")
 f_L_law_take:=(He.ga K "_law_take")
 f_L_law_shape:=(He.ga K "_law_shape")
 f_rights_of:=(He.ga K "rights_of")
 f_is_placed:=(He.ga K "is_placed")
 f_matching:=(He.ga K "matching")
 f_claims_of:=(He.ga K "claims_of")
 f_bears:=(He.ga K "bears")
 f_least_cover:=(He.ga K "least_cover")
 f_L_law_claims_right:=(He.ga K "_law_claims_right")
 f_is_integer:=(He.ga K "is_integer")
 f_is_claim:=(He.ga K "is_claim")
 f_is_ascending:=(He.ga K "is_ascending")
 f_is_cover:=(He.ga K "is_cover")
 f_is_pair:=(He.ga K "is_pair")
 f_is_matching:=(He.ga K "is_matching")
 f_law:=(He.ga K "law")
noncomputable def fb0 (K : PySem.W.Frag) : List Bool:=[decide (PySem.W.nsIn K mainGlobals "_law_bag" = some (some (.ref (ad K).f_L_law_bag))),
 codeB K (ad K).f_L_law_bag "_law_bag",
 decide (PySem.W.keepIn K (.ref (ad K).f_L_law_bag) = true),
 decide (PySem.W.nsIn K mainGlobals "_law_take" = some (some (.ref (ad K).f_L_law_take))),
 codeB K (ad K).f_L_law_take "_law_take",
 decide (PySem.W.keepIn K (.ref (ad K).f_L_law_take) = true),
 decide (PySem.W.nsIn K mainGlobals "_law_shape" = some (some (.ref (ad K).f_L_law_shape))),
 codeB K (ad K).f_L_law_shape "_law_shape",
 decide (PySem.W.keepIn K (.ref (ad K).f_L_law_shape) = true),
 decide (PySem.W.nsIn K mainGlobals "rights_of" = some (some (.ref (ad K).f_rights_of))),
 codeB K (ad K).f_rights_of "rights_of",
 decide (PySem.W.keepIn K (.ref (ad K).f_rights_of) = true),
 decide (PySem.W.nsIn K mainGlobals "is_placed" = some (some (.ref (ad K).f_is_placed))),
 codeB K (ad K).f_is_placed "is_placed",
 decide (PySem.W.keepIn K (.ref (ad K).f_is_placed) = true),
 decide (PySem.W.nsIn K mainGlobals "matching" = some (some (.ref (ad K).f_matching))),
 codeB K (ad K).f_matching "matching",
 decide (PySem.W.keepIn K (.ref (ad K).f_matching) = true),
 decide (PySem.W.nsIn K mainGlobals "claims_of" = some (some (.ref (ad K).f_claims_of))),
 codeB K (ad K).f_claims_of "claims_of",
 decide (PySem.W.keepIn K (.ref (ad K).f_claims_of) = true),
 decide (PySem.W.nsIn K mainGlobals "bears" = some (some (.ref (ad K).f_bears))),
 codeB K (ad K).f_bears "bears",
 decide (PySem.W.keepIn K (.ref (ad K).f_bears) = true),
 decide (PySem.W.nsIn K mainGlobals "least_cover" = some (some (.ref (ad K).f_least_cover)))]
noncomputable def fb1 (K : PySem.W.Frag) : List Bool:=[codeB K (ad K).f_least_cover "least_cover",
 decide (PySem.W.keepIn K (.ref (ad K).f_least_cover) = true),
 decide (PySem.W.nsIn K mainGlobals "_law_claims_right" = some (some (.ref (ad K).f_L_law_claims_right))),
 codeB K (ad K).f_L_law_claims_right "_law_claims_right",
 decide (PySem.W.keepIn K (.ref (ad K).f_L_law_claims_right) = true),
 decide (PySem.W.nsIn K mainGlobals "is_integer" = some (some (.ref (ad K).f_is_integer))),
 codeB K (ad K).f_is_integer "is_integer",
 decide (PySem.W.keepIn K (.ref (ad K).f_is_integer) = true),
 decide (PySem.W.nsIn K mainGlobals "is_claim" = some (some (.ref (ad K).f_is_claim))),
 codeB K (ad K).f_is_claim "is_claim",
 decide (PySem.W.keepIn K (.ref (ad K).f_is_claim) = true),
 decide (PySem.W.nsIn K mainGlobals "is_ascending" = some (some (.ref (ad K).f_is_ascending))),
 codeB K (ad K).f_is_ascending "is_ascending",
 decide (PySem.W.keepIn K (.ref (ad K).f_is_ascending) = true),
 decide (PySem.W.nsIn K mainGlobals "is_cover" = some (some (.ref (ad K).f_is_cover))),
 codeB K (ad K).f_is_cover "is_cover",
 decide (PySem.W.keepIn K (.ref (ad K).f_is_cover) = true),
 decide (PySem.W.nsIn K mainGlobals "is_pair" = some (some (.ref (ad K).f_is_pair))),
 codeB K (ad K).f_is_pair "is_pair",
 decide (PySem.W.keepIn K (.ref (ad K).f_is_pair) = true),
 decide (PySem.W.nsIn K mainGlobals "is_matching" = some (some (.ref (ad K).f_is_matching))),
 codeB K (ad K).f_is_matching "is_matching",
 decide (PySem.W.keepIn K (.ref (ad K).f_is_matching) = true),
 decide (PySem.W.nsIn K mainGlobals "law" = some (some (.ref (ad K).f_law))),
 codeB K (ad K).f_law "law"]
noncomputable def fb2 (K : PySem.W.Frag) : List Bool:=[decide (PySem.W.keepIn K (.ref (ad K).f_law) = true),
 decide (PySem.W.nsIn K mainGlobals "abs" = some none),
 decide (PySem.W.nsIn K mainGlobals "all" = some none),
 decide (PySem.W.nsIn K mainGlobals "any" = some none),
 decide (PySem.W.nsIn K mainGlobals "bool" = some none),
 decide (PySem.W.nsIn K mainGlobals "enumerate" = some none),
 decide (PySem.W.nsIn K mainGlobals "int" = some none),
 decide (PySem.W.nsIn K mainGlobals "isinstance" = some none),
 decide (PySem.W.nsIn K mainGlobals "len" = some none),
 decide (PySem.W.nsIn K mainGlobals "list" = some none),
 decide (PySem.W.nsIn K mainGlobals "max" = some none),
 decide (PySem.W.nsIn K mainGlobals "min" = some none),
 decide (PySem.W.nsIn K mainGlobals "range" = some none),
 decide (PySem.W.nsIn K mainGlobals "set" = some none),
 decide (PySem.W.nsIn K mainGlobals "sorted" = some none),
 decide (PySem.W.nsIn K mainGlobals "str" = some none),
 decide (PySem.W.nsIn K mainGlobals "tuple" = some none),
 decide (PySem.W.nsIn K mainGlobals "zip" = some none),
 strB K "OWN" "own",
 strB K "SHIPPED" "shipped"]
noncomputable def fb (K : PySem.W.Frag) : List (List Bool):=[fb0 K,fb1 K,fb2 K]
noncomputable def ff0 (K : PySem.W.Frag) : List He.FnV:=[fnV K (ad K).f_L_law_bag,fnV K (ad K).f_L_law_take,fnV K (ad K).f_L_law_shape,fnV K (ad K).f_rights_of,fnV K (ad K).f_is_placed,fnV K (ad K).f_matching,fnV K (ad K).f_claims_of,fnV K (ad K).f_bears,fnV K (ad K).f_least_cover,fnV K (ad K).f_L_law_claims_right,fnV K (ad K).f_is_integer,fnV K (ad K).f_is_claim,fnV K (ad K).f_is_ascending,fnV K (ad K).f_is_cover,fnV K (ad K).f_is_pair,fnV K (ad K).f_is_matching,fnV K (ad K).f_law]
noncomputable def ff (K : PySem.W.Frag) : List He.FnV:=ff0 K
noncomputable def fv0 : List He.FnV:=[fnT "_law_bag" "_law_bag" s_L_law_bag,fnT "_law_take" "_law_take" s_L_law_take,fnT "_law_shape" "_law_shape" s_L_law_shape,fnT "rights_of" "rights_of" s_rights_of,fnT "is_placed" "is_placed" s_is_placed,fnT "matching" "matching" s_matching,fnT "claims_of" "claims_of" s_claims_of,fnT "bears" "bears" s_bears,fnT "least_cover" "least_cover" s_least_cover,fnT "_law_claims_right" "_law_claims_right" s_L_law_claims_right,fnT "is_integer" "is_integer" s_is_integer,fnT "is_claim" "is_claim" s_is_claim,fnT "is_ascending" "is_ascending" s_is_ascending,fnT "is_cover" "is_cover" s_is_cover,fnT "is_pair" "is_pair" s_is_pair,fnT "is_matching" "is_matching" s_is_matching,fnT "law" "law" s_law]
noncomputable def fv : List He.FnV:=fv0
noncomputable def tb (K : PySem.W.Frag) : List Addr:=[]
noncomputable abbrev hk : PySem.W.Hook:=hookV hn fb ff fv tb
noncomputable def ob (s : PySem.W.SharedT) : Al:=obsV hn fb ff tb (HandSHeadRun.getT s)
theorem ob_eq (s : PySem.W.SharedT) : ob s = hk.obs s.abs:=obsV_eq (HandSHeadRun.getT_eq s)
noncomputable abbrev RR : PySem.W.OpenRow:=PySem.W.OpenLaw.row PySem.Challenge.rw_settingsmerge_k45_whole_covers_and_match
set_option maxHeartbeats 0 in
theorem run (w : World) : HandSHeadRun.RunEq RR (PySem.W.view RR.prog [20]) hk ob 30000 hl w:=by
 intro os
 kernel_rfl
set_option maxHeartbeats 0 in
theorem all_hd {w : World} {K : PySem.W.Frag} {h : Heap} {mg : Str → Option Value} {fa : Addr} {l : PySem.W.OpenLaw} (X : PySem.W.Frag.In K h) (G : h.Ns mainGlobals mg) (hfa : mg "law" = some (.ref fa)) (c : Says hn fb ff fv tb h K) :
  ∃ fd : FuncData,(∀ (s : Shared) (v : Value),BindsTo s fd { pos:=[v] } [("_law_script",v)]) ∧ ∀ base : Heap,PySem.W.Frag.In K base → base.Ns mainGlobals mg → FnG l.prog w K mg base 19 fa fd ["_law_script"] (spAll K):=by
 have h_a1:=of_decide_eq_true (c.at 0 0)
 obtain ⟨_,_,_,_,_,_,_,_,_,h_l1,h_c1⟩:=fn_of (show fnV K (ad K).f_L_law_bag = fnT "_law_bag" "_law_bag" s_L_law_bag from c.fn 0) (c.at 0 1)
 have h_k1:=of_decide_eq_true (c.at 0 2)
 have h_a2:=of_decide_eq_true (c.at 0 3)
 obtain ⟨_,_,_,_,_,_,_,_,_,h_l2,h_c2⟩:=fn_of (show fnV K (ad K).f_L_law_take = fnT "_law_take" "_law_take" s_L_law_take from c.fn 1) (c.at 0 4)
 have h_k2:=of_decide_eq_true (c.at 0 5)
 have h_a3:=of_decide_eq_true (c.at 0 6)
 obtain ⟨_,_,_,_,_,_,_,_,_,h_l3,h_c3⟩:=fn_of (show fnV K (ad K).f_L_law_shape = fnT "_law_shape" "_law_shape" s_L_law_shape from c.fn 2) (c.at 0 7)
 have h_k3:=of_decide_eq_true (c.at 0 8)
 have h_a4:=of_decide_eq_true (c.at 0 9)
 obtain ⟨_,_,_,_,_,_,_,_,_,h_l4,h_c4⟩:=fn_of (show fnV K (ad K).f_rights_of = fnT "rights_of" "rights_of" s_rights_of from c.fn 3) (c.at 0 10)
 have h_k4:=of_decide_eq_true (c.at 0 11)
 have h_a5:=of_decide_eq_true (c.at 0 12)
 obtain ⟨_,_,_,_,_,_,_,_,_,h_l5,h_c5⟩:=fn_of (show fnV K (ad K).f_is_placed = fnT "is_placed" "is_placed" s_is_placed from c.fn 4) (c.at 0 13)
 have h_k5:=of_decide_eq_true (c.at 0 14)
 have h_a6:=of_decide_eq_true (c.at 0 15)
 obtain ⟨_,_,_,_,_,_,_,_,_,h_l6,h_c6⟩:=fn_of (show fnV K (ad K).f_matching = fnT "matching" "matching" s_matching from c.fn 5) (c.at 0 16)
 have h_k6:=of_decide_eq_true (c.at 0 17)
 have h_a7:=of_decide_eq_true (c.at 0 18)
 obtain ⟨_,_,_,_,_,_,_,_,_,h_l7,h_c7⟩:=fn_of (show fnV K (ad K).f_claims_of = fnT "claims_of" "claims_of" s_claims_of from c.fn 6) (c.at 0 19)
 have h_k7:=of_decide_eq_true (c.at 0 20)
 have h_a8:=of_decide_eq_true (c.at 0 21)
 obtain ⟨_,_,_,_,_,_,_,_,_,h_l8,h_c8⟩:=fn_of (show fnV K (ad K).f_bears = fnT "bears" "bears" s_bears from c.fn 7) (c.at 0 22)
 have h_k8:=of_decide_eq_true (c.at 0 23)
 have h_a9:=of_decide_eq_true (c.at 0 24)
 obtain ⟨_,_,_,_,_,_,_,_,_,h_l9,h_c9⟩:=fn_of (show fnV K (ad K).f_least_cover = fnT "least_cover" "least_cover" s_least_cover from c.fn 8) (c.at 1 0)
 have h_k9:=of_decide_eq_true (c.at 1 1)
 have h_a10:=of_decide_eq_true (c.at 1 2)
 obtain ⟨_,_,_,_,_,_,_,_,_,h_l10,h_c10⟩:=fn_of (show fnV K (ad K).f_L_law_claims_right = fnT "_law_claims_right" "_law_claims_right" s_L_law_claims_right from c.fn 9) (c.at 1 3)
 have h_k10:=of_decide_eq_true (c.at 1 4)
 have h_a11:=of_decide_eq_true (c.at 1 5)
 obtain ⟨_,_,_,_,_,_,_,_,_,h_l11,h_c11⟩:=fn_of (show fnV K (ad K).f_is_integer = fnT "is_integer" "is_integer" s_is_integer from c.fn 10) (c.at 1 6)
 have h_k11:=of_decide_eq_true (c.at 1 7)
 have h_a12:=of_decide_eq_true (c.at 1 8)
 obtain ⟨_,_,_,_,_,_,_,_,_,h_l12,h_c12⟩:=fn_of (show fnV K (ad K).f_is_claim = fnT "is_claim" "is_claim" s_is_claim from c.fn 11) (c.at 1 9)
 have h_k12:=of_decide_eq_true (c.at 1 10)
 have h_a13:=of_decide_eq_true (c.at 1 11)
 obtain ⟨_,_,_,_,_,_,_,_,_,h_l13,h_c13⟩:=fn_of (show fnV K (ad K).f_is_ascending = fnT "is_ascending" "is_ascending" s_is_ascending from c.fn 12) (c.at 1 12)
 have h_k13:=of_decide_eq_true (c.at 1 13)
 have h_a14:=of_decide_eq_true (c.at 1 14)
 obtain ⟨_,_,_,_,_,_,_,_,_,h_l14,h_c14⟩:=fn_of (show fnV K (ad K).f_is_cover = fnT "is_cover" "is_cover" s_is_cover from c.fn 13) (c.at 1 15)
 have h_k14:=of_decide_eq_true (c.at 1 16)
 have h_a15:=of_decide_eq_true (c.at 1 17)
 obtain ⟨_,_,_,_,_,_,_,_,_,h_l15,h_c15⟩:=fn_of (show fnV K (ad K).f_is_pair = fnT "is_pair" "is_pair" s_is_pair from c.fn 14) (c.at 1 18)
 have h_k15:=of_decide_eq_true (c.at 1 19)
 have h_a16:=of_decide_eq_true (c.at 1 20)
 obtain ⟨_,_,_,_,_,_,_,_,_,h_l16,h_c16⟩:=fn_of (show fnV K (ad K).f_is_matching = fnT "is_matching" "is_matching" s_is_matching from c.fn 15) (c.at 1 21)
 have h_k16:=of_decide_eq_true (c.at 1 22)
 have h_a17:=of_decide_eq_true (c.at 1 23)
 obtain ⟨_,_,_,_,_,_,_,_,_,h_l17,h_c17⟩:=fn_of (show fnV K (ad K).f_law = fnT "law" "law" s_law from c.fn 16) (c.at 1 24)
 have h_k17:=of_decide_eq_true (c.at 2 0)
 have h_z_abs:=of_decide_eq_true (c.at 2 1)
 have h_z_all:=of_decide_eq_true (c.at 2 2)
 have h_z_any:=of_decide_eq_true (c.at 2 3)
 have h_z_bool:=of_decide_eq_true (c.at 2 4)
 have h_z_enumerate:=of_decide_eq_true (c.at 2 5)
 have h_z_int:=of_decide_eq_true (c.at 2 6)
 have h_z_isinstance:=of_decide_eq_true (c.at 2 7)
 have h_z_len:=of_decide_eq_true (c.at 2 8)
 have h_z_list:=of_decide_eq_true (c.at 2 9)
 have h_z_max:=of_decide_eq_true (c.at 2 10)
 have h_z_min:=of_decide_eq_true (c.at 2 11)
 have h_z_range:=of_decide_eq_true (c.at 2 12)
 have h_z_set:=of_decide_eq_true (c.at 2 13)
 have h_z_sorted:=of_decide_eq_true (c.at 2 14)
 have h_z_str:=of_decide_eq_true (c.at 2 15)
 have h_z_tuple:=of_decide_eq_true (c.at 2 16)
 have h_z_zip:=of_decide_eq_true (c.at 2 17)
 obtain ⟨_,h_g_OWN⟩:=str_ok (c.at 2 18)
 obtain ⟨_,h_g_SHIPPED⟩:=str_ok (c.at 2 19)
 exact all_mk X G hfa h_a1 h_l1 h_c1 h_k1 h_a2 h_l2 h_c2 h_k2 h_a3 h_l3 h_c3 h_k3 h_a4 h_l4 h_c4 h_k4 h_a5 h_l5 h_c5 h_k5 h_a6 h_l6 h_c6 h_k6 h_a7 h_l7 h_c7 h_k7 h_a8 h_l8 h_c8 h_k8 h_a9 h_l9 h_c9 h_k9 h_a10 h_l10 h_c10 h_k10 h_a11 h_l11 h_c11 h_k11 h_a12 h_l12 h_c12 h_k12 h_a13 h_l13 h_c13 h_k13 h_a14 h_l14 h_c14 h_k14 h_a15 h_l15 h_c15 h_k15 h_a16 h_l16 h_c16 h_k16 h_a17 h_l17 h_c17 h_k17 h_z_abs h_z_all h_z_any h_z_bool h_z_enumerate h_z_int h_z_isinstance h_z_len h_z_list h_z_max h_z_min h_z_range h_z_set h_z_sorted h_z_str h_z_tuple h_z_zip h_g_OWN h_g_SHIPPED
end VL.K45
open PySem PySem.W PySem.Calls PyProof.Rows in
set_option maxRecDepth 100000 in
set_option maxHeartbeats 0 in
theorem PySem.Challenge.cw_settingsmerge_k45_whole_covers_and_match_holds : PySem.Challenge.rw_settingsmerge_k45_whole_covers_and_match.Holds := by
 w_on; o_law
 refine HandSHeadRun.head_any (r:=OpenLaw.row PySem.Challenge.rw_settingsmerge_k45_whole_covers_and_match) (q:=view (OpenLaw.row PySem.Challenge.rw_settingsmerge_k45_whole_covers_and_match).prog [20]) (H:=VL.K45.hk) (ob:=VL.K45.ob) (M:=30000) (loose:=VL.K45.hl) (d:=HandSHeadRun.topDef (OpenLaw.row PySem.Challenge.rw_settingsmerge_k45_whole_covers_and_match).prog 20) (kwd:=[]) VL.K45.ob_eq (by kernel_rfl) (fun s=>by kernel_rfl) VL.K45.run (by kernel_rfl) (by kernel_rfl) (by kernel_rfl) (by rfl) (by first | assumption | decide +kernel) (by decide +kernel) ⟨rfl,rfl,rfl,rfl,rfl,by decide +kernel⟩ ?hw ?hc
 case hw=>w_witness2
 case hc =>
  refine VL.walk_ofGE (l:=PySem.Challenge.rw_settingsmerge_k45_whole_covers_and_match) (n:=63) (k:=19) (x:="_law_script") rfl (by decide) (by kernel_rfl) ⟨⟨rfl,by decide,by decide⟩,rfl⟩ ?F
  intro w mg fa h Y G hmg0
  obtain ⟨K,KX,c⟩:=Y
  have hmg : mg ("law" : PySem.Str) = some (.ref fa):=by
   have e : (HandSHeadRun.topDef (OpenLaw.row PySem.Challenge.rw_settingsmerge_k45_whole_covers_and_match).prog 20).name = ("law" : PySem.Str):=by kernel_rfl
   rw [← e]
   exact hmg0
  obtain ⟨fd,hb,hF⟩:=VL.K45.all_hd (w:=w) (l:=PySem.Challenge.rw_settingsmerge_k45_whole_covers_and_match) KX G hmg c
  exact ⟨K,VL.K45.spAll K,fd,KX,fun H b ns hl hO hS a hK=>VL.law_sp (VL.K45.law_ok _ a hK ns hl) hO hS,hb,hF⟩
