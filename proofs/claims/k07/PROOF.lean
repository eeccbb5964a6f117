import PyProof.Rows.All
import Wide.All
import OpenK.AllK
import Wide.FinOn
import HandS.ForMost
import HandS.Exc
import HandS.Lambda
import KE.KDictKeyed
import KE.KeyNested
import HandS.IsInst
import HandS.TupAny
import HandS.Flow
import HandS.Deep
import HandS.More
import HandS.TryOnly
import HandS.Walk
import HandS.WordsExc
import HandS.SetKeys
import HandS.SortInts
import HandS.FStr
import HandS.Small
import HandS.StrMore
import HandS.MakeKwOnly
import HandS.Style
import HandS.ExcInit
import HandS.ExcField
import HandS.ExcIs
import KE.KExcIs
import KE.KExcInit
import HandS.GenList
import HandS.Ends
import HandS.Property
import KE.KCallOwn
import HandS.RaiseMore
import HandS.OwnEq
import HandS.EndTab
import KE.KNestM
import HandS.Star
import HandS.ClsMeth
import HandS.Iter
import KE.KDictList
import KE.GoesEnum
import HandS.Set
import HandS.SetFor
import HandS.Strs
import HandS.NoneIn
import HandS.ListItems
import HandS.Conv
import KE.KStateDown
import HandS.Head0
import HandS.Head1
import HandS.Head2
import HandS.HeadHook1
import KE.DataMinMax
import HandS.TupSets
import HandS.SetBool
import KE.SortData
import KE.DataCmp
import HandS.Zip
import KE.DataEq
import OpenK.KDescr
import HandS.Defaults
import HandS.DictComp
import HandS.Replace
import PySem.Challenge.RW_settingsmerge_k07_equal_files
set_option Elab.async false
set_option linter.all false
set_option maxRecDepth 100000
set_option autoImplicit false
namespace VL
open PySem PySem.Spec PyProof.Rows L2
/-- data that does not change -/
inductive D where
 | non | bl (b : Bool) | int (i : Int) | str (x : Str) | ty (n : String) | obj (a : Addr)
 | tup (ds : List D) | lst (ds : List D) | dct (kvs : List (Key × D)) | ins (C : Addr) (fs : List (Str × D))
 | scr (ns : List Int)
 | exc (a : Addr) (d : Option Addr) (c : Value) (fs : List (Str × D))
 | kdc (w : World) (kvs : List (D × D))
/-- a value: data,or a cell -/
inductive U where
 | d (x : D) | ref (n : Nat)
/-- what a cell holds -/
inductive O where
 | lst (us : List U) | tup (us : List U) | dct (kvs : List (Key × U)) | ins (C : Addr) (fs : List (Str × U))
 | tbl (P : Addr) (q : Str)
 | lck (kvs : List (Key × U))
 | kdc (w : World) (kvs : List (D × U))
noncomputable abbrev Store:=List O
noncomputable abbrev VEnv:=List (Option U)
mutual
noncomputable def keyE : D → Option NestedKey
 | .non=>some .none
 | .int i=>some (.num i)
 | .str x=>some (.text x)
 | .tup ds=>(keyEs ds).map .tup
 | _=>none
noncomputable def keyEs : List D → Option (List NestedKey)
 | []=>some []
 | d :: ds=>match keyE d,keyEs ds with
  | some k,some ks=>some (k :: ks)
  | _,_=>none
end
noncomputable def keyN (d : D) : Option NestedKey:=match d with
 | .tup _=>match keyE d with
  | some k=>if k.depth ≤ 8 then some k else none
  | none=>none
 | _=>none
/-- an object that is known to the bit -/
noncomputable abbrev PinO (b : Addr) (o : Obj) : HO:=.ext fun h=>h.get? b = some o
/-- a dict with such keys -/
noncomputable def KdOk (w : World) (b : Addr) (o : Obj) (es : List (NestedKey × Addr × V)) : Prop:=es.length ≤ sizeLine ∧ (b == sysModules) = false ∧ ∃ xs : List (NestedKey × Addr × Value),
 Paired (fun (p : NestedKey × Addr × V) (q : NestedKey × Addr × Value)=>p.1 = q.1 ∧ p.2.1 = q.2.1 ∧ RelV p.2.2 q.2.2) es xs ∧ (xs.map (·.1)).Nodup ∧
 ∃ ents ep,o.ExactDict ∧ o.data = .dict ents ep ∧ ents.toList = xs.map fun x=>(⟨x.1.hash w,.ref x.2.1,x.2.2⟩ : DictEntry)
noncomputable def LsV (m : List Addr) (H : Hp) (a : Addr) (vs : List V) : Prop:=a ∉ m ∧ H a = some (.lst vs)
/-- the script -/
noncomputable def ScV (K : PySem.W.Frag) (m : List Addr) (H : Hp) (a : Addr) (vs : List V) : Prop:=(a ∉ m ∧ ∃ ob,H a = some (.frz ob (.lst vs))) ∨ SqL K (fun _=>none) a vs
noncomputable def TpV (K : PySem.W.Frag) (m : List Addr) (H : Hp) (a : Addr) (vs : List V) : Prop:=(a ∉ m ∧ H a = some (.tup vs)) ∨ SqT K (fun _=>none) a vs
mutual
noncomputable def RpD (K : PySem.W.Frag) (m : List Addr) (H : Hp) : D → V → Prop
 | .non,v=>v = .non
 | .bl b,v=>v = .bl b
 | .int i,v=>v = .int i
 | .str x,v=>v = .str x
 | .ty n,v=>v = .ty n
 | .obj a,v=>v = .ref a
 | .tup ds,v=>∃ a vs,v = .ref a ∧ TpV K m H a vs ∧ RpDs K m H ds vs
 | .lst ds,v=>∃ a vs,v = .ref a ∧ LsV m H a vs ∧ RpDs K m H ds vs
 | .dct kvs,v=>∃ a vs,v = .ref a ∧ (a ∉ m ∧ Rd H a (.dK vs)) ∧ RpK K m H kvs vs
 | .ins C fs,v=>∃ a dx vs,v = .ref a ∧ (a ∉ m ∧ H a = some (.ins C dx vs)) ∧ RpF K m H fs vs
 | .scr ns,v=>∃ a,v = .ref a ∧ ScV K m H a (ns.map V.int)
 | .exc a d _ fs,v=>v = .ref a ∧ (fs = [] ∨ ∃ dd vs,d = some dd ∧ (dd ∉ m ∧ H dd = some (.xd vs)) ∧ RpF K m H fs vs)
 | .kdc w kvs,v=>∃ a o es,v = .ref a ∧ (a ∉ m ∧ H a = some (PinO a o)) ∧ KdOk w a o es ∧ RpKd K m H kvs es
noncomputable def RpDs (K : PySem.W.Frag) (m : List Addr) (H : Hp) : List D → List V → Prop
 | [],vs=>vs = []
 | d :: ds,vs=>∃ v r,vs = v :: r ∧ RpD K m H d v ∧ RpDs K m H ds r
noncomputable def RpKd (K : PySem.W.Frag) (m : List Addr) (H : Hp) : List (D × D) → List (NestedKey × Addr × V) → Prop
 | [],es=>es = []
 | (k,d) :: ds,es=>∃ n b v r,es = (n,b,v) :: r ∧ keyN k = some n ∧ RpD K m H k (.ref b) ∧ RpD K m H d v ∧ RpKd K m H ds r
noncomputable def RpK (K : PySem.W.Frag) (m : List Addr) (H : Hp) : List (Key × D) → List (Key × V) → Prop
 | [],vs=>vs = []
 | (k,d) :: ds,vs=>∃ v r,vs = (k,v) :: r ∧ RpD K m H d v ∧ RpK K m H ds r
noncomputable def RpF (K : PySem.W.Frag) (m : List Addr) (H : Hp) : List (Str × D) → List (Str × V) → Prop
 | [],vs=>vs = []
 | (k,d) :: ds,vs=>∃ v r,vs = (k,v) :: r ∧ RpD K m H d v ∧ RpF K m H ds r
end
/-- what is data stays: all but dicts exactly,dicts readable -/
structure Stay (m : List Addr) (H : Hp) (m' : List Addr) (H' : Hp) : Prop where
 ex : ∀ (a : Addr) (o : HO),a ∉ m → H a = some o → (∀ kvs,o ≠ .dK kvs) → (∀ ps,o ≠ .tbl ps) → H' a = some o ∧ a ∉ m'
 dk : ∀ (a : Addr) (kvs : List (Key × V)),a ∉ m → Rd H a (.dK kvs) → Rd H' a (.dK kvs) ∧ a ∉ m'
 fz : ∀ (a : Addr) (o : Obj) (u : HO),H a = some (.frz o u) → H' a = some (.frz o u)
theorem Stay.of {m m' : List Addr} {H H' : Hp} (f : ∀ a o,a ∉ m → H a = some o → (∀ ps,o ≠ .tbl ps) → H' a = some o ∧ a ∉ m') (g : ∀ (a : Addr) (o : Obj) (u : HO),H a = some (.frz o u) → H' a = some (.frz o u)) : Stay m H m' H':=⟨fun a o n r _ nt=>f a o n r nt,fun a u n r=>by
 rcases r with r | ⟨o,r⟩
 ·exact ⟨.inl (f a _ n r fun _ z=>nomatch z).1,(f a _ n r fun _ z=>nomatch z).2⟩
 ·exact ⟨.inr ⟨o,(f a _ n r fun _ z=>nomatch z).1⟩,(f a _ n r fun _ z=>nomatch z).2⟩,g⟩
theorem Stay.trans {m m1 m2 : List Addr} {H H1 H2 : Hp} (a : Stay m H m1 H1) (b : Stay m1 H1 m2 H2) : Stay m H m2 H2 :=
 ⟨fun x o n h nd nt=>let ⟨h1,n1⟩:=a.ex x o n h nd nt; b.ex x o n1 h1 nd nt,fun x u n h=>let ⟨h1,n1⟩:=a.dk x u n h; b.dk x u n1 h1,fun x o u h=>b.fz x o u (a.fz x o u h)⟩
theorem Stay.less {m m1 m2 : List Addr} {H H1 : Hp} (a : Stay m H m1 H1) (h : ∀ b,b ∈ m2 → b ∈ m1) : Stay m H m2 H1 :=
 ⟨fun x o n q nd nt=>let ⟨h1,n1⟩:=a.ex x o n q nd nt; ⟨h1,fun z=>n1 (h x z)⟩,fun x u n q=>let ⟨h1,n1⟩:=a.dk x u n q; ⟨h1,fun z=>n1 (h x z)⟩,a.fz⟩
/-- exactly,but that a dict may be locked -/
structure Ext (m : List Addr) (H : Hp) (m' : List Addr) (H' : Hp) : Prop where
 pre : m <+: m'
 toStay : Stay m H m' H'
theorem Ext.of {m m' : List Addr} {H H' : Hp} (p : m <+: m') (f : ∀ a o,a ∉ m → H a = some o → (∀ ps,o ≠ .tbl ps) → H' a = some o ∧ a ∉ m') (g : ∀ (a : Addr) (o : Obj) (u : HO),H a = some (.frz o u) → H' a = some (.frz o u)) : Ext m H m' H':=⟨p,Stay.of f g⟩
theorem Ext.refl (m : List Addr) (H : Hp) : Ext m H m H:=.of (List.prefix_refl m) (fun _ _ n h _=>⟨h,n⟩) fun _ _ _ h=>h
theorem Ext.trans {m m1 m2 : List Addr} {H H1 H2 : Hp} (a : Ext m H m1 H1) (b : Ext m1 H1 m2 H2) : Ext m H m2 H2 :=
 ⟨a.pre.trans b.pre,a.toStay.trans b.toStay⟩
section
variable {K : PySem.W.Frag} {m m' : List Addr} {H H' : Hp}
theorem LsV.stay {a : Addr} {vs : List V} (s : Stay m H m' H') (h : LsV m H a vs) : LsV m' H' a vs:=⟨(s.ex a _ h.1 h.2 (fun _ z=>nomatch z) fun _ z=>nomatch z).2,(s.ex a _ h.1 h.2 (fun _ z=>nomatch z) fun _ z=>nomatch z).1⟩
theorem ScV.stay {a : Addr} {vs : List V} (s : Stay m H m' H') (h : ScV K m H a vs) : ScV K m' H' a vs:=by
 rcases h with ⟨n,ob,r⟩ | h
 ·exact .inl ⟨(s.ex a _ n r (fun _ z=>nomatch z) fun _ z=>nomatch z).2,ob,(s.ex a _ n r (fun _ z=>nomatch z) fun _ z=>nomatch z).1⟩
 ·exact .inr h
theorem TpV.stay {a : Addr} {vs : List V} (s : Stay m H m' H') (h : TpV K m H a vs) : TpV K m' H' a vs:=by
 rcases h with ⟨n,r⟩ | h
 ·exact .inl ⟨(s.ex a _ n r (fun _ z=>nomatch z) fun _ z=>nomatch z).2,(s.ex a _ n r (fun _ z=>nomatch z) fun _ z=>nomatch z).1⟩
 ·exact .inr h
theorem LsV.sq {a : Addr} {vs : List V} (h : LsV m H a vs) : SqL K H a vs:=.inl (.inl h.2)
theorem ScV.sq {a : Addr} {vs : List V} (h : ScV K m H a vs) : SqL K H a vs:=by
 rcases h with ⟨_,r⟩ | (r | ⟨_,r⟩) | r
 ·exact .inl (.inr r)
 ·cases r
 ·cases r
 ·exact .inr r
theorem TpV.sq {a : Addr} {vs : List V} (h : TpV K m H a vs) : SqT K H a vs:=by
 rcases h with ⟨_,r⟩ | (r | ⟨_,r⟩) | r
 ·exact .inl (.inl r)
 ·cases r
 ·cases r
 ·exact .inr r
mutual
theorem RpD.stay (s : Stay m H m' H') : ∀ (d : D) (v : V),RpD K m H d v → RpD K m' H' d v
 | .non,_,h=>h
 | .bl _,_,h=>h
 | .int _,_,h=>h
 | .str _,_,h=>h
 | .ty _,_,h=>h
 | .obj _,_,h=>h
 | .tup ds,_,⟨a,vs,e,t,r⟩=>⟨a,vs,e,t.stay s,RpDs.stay s ds vs r⟩
 | .lst ds,_,⟨a,vs,e,t,r⟩=>⟨a,vs,e,t.stay s,RpDs.stay s ds vs r⟩
 | .dct ks,_,⟨a,vs,e,t,r⟩=>⟨a,vs,e,⟨(s.dk a _ t.1 t.2).2,(s.dk a _ t.1 t.2).1⟩,RpK.stay s ks vs r⟩
 | .ins C fs,_,⟨a,dx,vs,e,t,r⟩=>⟨a,dx,vs,e,⟨(s.ex a _ t.1 t.2 (fun _ z=>nomatch z) fun _ z=>nomatch z).2,(s.ex a _ t.1 t.2 (fun _ z=>nomatch z) fun _ z=>nomatch z).1⟩,RpF.stay s fs vs r⟩
 | .scr ns,_,⟨a,e,t⟩=>⟨a,e,t.stay s⟩
 | .kdc w ks,_,⟨a,o,vs,e,t,z,r⟩=>⟨a,o,vs,e,⟨(s.ex a _ t.1 t.2 (fun _ z=>nomatch z) fun _ z=>nomatch z).2,(s.ex a _ t.1 t.2 (fun _ z=>nomatch z) fun _ z=>nomatch z).1⟩,z,RpKd.stay s ks vs r⟩
 | .exc _ _ _ fs,_,⟨e,.inl h⟩=>⟨e,.inl h⟩
 | .exc _ _ _ fs,_,⟨e,.inr ⟨dd,vs,q,t,r⟩⟩=>⟨e,.inr ⟨dd,vs,q,⟨(s.ex dd _ t.1 t.2 (fun _ z=>nomatch z) fun _ z=>nomatch z).2,(s.ex dd _ t.1 t.2 (fun _ z=>nomatch z) fun _ z=>nomatch z).1⟩,RpF.stay s fs vs r⟩⟩
theorem RpDs.stay (s : Stay m H m' H') : ∀ (ds : List D) (vs : List V),RpDs K m H ds vs → RpDs K m' H' ds vs
 | [],_,h=>h
 | d :: ds,_,⟨v,r,e,h1,h2⟩=>⟨v,r,e,RpD.stay s d v h1,RpDs.stay s ds r h2⟩
theorem RpKd.stay (s : Stay m H m' H') : ∀ (ds : List (D × D)) (vs : List (NestedKey × Addr × V)),RpKd K m H ds vs → RpKd K m' H' ds vs
 | [],_,h=>h
 | (k,d) :: ds,_,⟨n,b,v,r,e,q,h0,h1,h2⟩=>⟨n,b,v,r,e,q,RpD.stay s k _ h0,RpD.stay s d v h1,RpKd.stay s ds r h2⟩
theorem RpK.stay (s : Stay m H m' H') : ∀ (ds : List (Key × D)) (vs : List (Key × V)),RpK K m H ds vs → RpK K m' H' ds vs
 | [],_,h=>h
 | (_,d) :: ds,_,⟨v,r,e,h1,h2⟩=>⟨v,r,e,RpD.stay s d v h1,RpK.stay s ds r h2⟩
theorem RpF.stay (s : Stay m H m' H') : ∀ (ds : List (Str × D)) (vs : List (Str × V)),RpF K m H ds vs → RpF K m' H' ds vs
 | [],_,h=>h
 | (_,d) :: ds,_,⟨v,r,e,h1,h2⟩=>⟨v,r,e,RpD.stay s d v h1,RpF.stay s ds r h2⟩
end
theorem RpD.ext (e : Ext m H m' H') {d : D} {v : V} (h : RpD K m H d v) : RpD K m' H' d v:=RpD.stay e.toStay d v h
theorem RpDs.ext (e : Ext m H m' H') {d : List D} {v : List V} (h : RpDs K m H d v) : RpDs K m' H' d v:=RpDs.stay e.toStay d v h
theorem RpF.ext (e : Ext m H m' H') {d : List (Str × D)} {v : List (Str × V)} (h : RpF K m H d v) : RpF K m' H' d v:=RpF.stay e.toStay d v h
theorem RpKd.ext (e : Ext m H m' H') {d : List (D × D)} {v : List (NestedKey × Addr × V)} (h : RpKd K m H d v) : RpKd K m' H' d v:=RpKd.stay e.toStay d v h
theorem RpK.ext (e : Ext m H m' H') {d : List (Key × D)} {v : List (Key × V)} (h : RpK K m H d v) : RpK K m' H' d v:=RpK.stay e.toStay d v h
end
noncomputable def RpU (K : PySem.W.Frag) (m : List Addr) (H : Hp) : U → V → Prop
 | .d x,v=>RpD K m H x v
 | .ref n,v=>∃ a,m[n]? = some a ∧ v = .ref a
noncomputable def RpUs (K : PySem.W.Frag) (m : List Addr) (H : Hp) : List U → List V → Prop
 | [],vs=>vs = []
 | u :: us,vs=>∃ v r,vs = v :: r ∧ RpU K m H u v ∧ RpUs K m H us r
noncomputable def RpUK (K : PySem.W.Frag) (m : List Addr) (H : Hp) : List (Key × U) → List (Key × V) → Prop
 | [],vs=>vs = []
 | (k,u) :: us,vs=>∃ v r,vs = (k,v) :: r ∧ RpU K m H u v ∧ RpUK K m H us r
noncomputable def RpUKd (K : PySem.W.Frag) (m : List Addr) (H : Hp) : List (D × U) → List (NestedKey × Addr × V) → Prop
 | [],es=>es = []
 | (k,u) :: us,es=>∃ n b v r,es = (n,b,v) :: r ∧ keyN k = some n ∧ RpD K m H k (.ref b) ∧ RpU K m H u v ∧ RpUKd K m H us r
noncomputable def RpUF (K : PySem.W.Frag) (m : List Addr) (H : Hp) : List (Str × U) → List (Str × V) → Prop
 | [],vs=>vs = []
 | (k,u) :: us,vs=>∃ v r,vs = (k,v) :: r ∧ RpU K m H u v ∧ RpUF K m H us r
noncomputable def RpO (K : PySem.W.Frag) (m : List Addr) (H : Hp) (b : Addr) : O → HO → Prop
 | .lst us,o=>∃ vs,o = .lst vs ∧ RpUs K m H us vs
 | .tup us,o=>∃ vs,o = .tup vs ∧ RpUs K m H us vs
 | .dct us,o=>∃ vs,o = .dK vs ∧ RpUK K m H us vs
 | .ins C us,o=>∃ dx vs,o = .ins C dx vs ∧ RpUF K m H us vs
 | .lck us,o=>∃ ob vs,o = .frz ob (.dK vs) ∧ RpUK K m H us vs
 | .kdc w us,o=>∃ ob es,o = PinO b ob ∧ KdOk w b ob es ∧ RpUKd K m H us es
 | .tbl P q,o=>b = P ∧ ∃ ps : Array Value,o = .tbl ps ∧ TriplesOk ps.toList ∧ ∀ (pos : Pos) (cv : Value),codeAmong pos ps.toList = some cv → ∃ c,cv = .ref c ∧ c ∉ m ∧ H c = some (LamX.CodeO c q)
structure Rep (K : PySem.W.Frag) (m : List Addr) (st : Store) (H : Hp) : Prop where
 len : m.length = st.length
 nd : m.Nodup
 cell : ∀ (n : Nat) (o : O) (a : Addr),st[n]? = some o → m[n]? = some a → ∃ ho,H a = some ho ∧ RpO K m H a o ho
/-- the frame's names -/
structure RpEnv (K : PySem.W.Frag) (m : List Addr) (H : Hp) (env : VEnv) (σ : L2.St) : Prop where
 len : env.length = σ.length
 at' : ∀ (i : Nat) (u : U),env[i]? = some (some u) → ∃ v,σ[i]? = some (some v) ∧ RpU K m H u v
section
variable {K : PySem.W.Frag} {m m' : List Addr} {H H' : Hp} {st : Store}
theorem RpU.stay (p : m <+: m') (s : Stay m H m' H') : ∀ (u : U) (v : V),RpU K m H u v → RpU K m' H' u v
 | .d x,v,h=>RpD.stay s x v h
 | .ref n,v,⟨a,e,h⟩=>⟨a,by
  obtain ⟨t,rfl⟩:=p
  rw [List.getElem?_append_left (List.getElem?_eq_some_iff.mp e).1]; exact e,h⟩
theorem RpUs.stay (p : m <+: m') (s : Stay m H m' H') : ∀ (us : List U) (vs : List V),RpUs K m H us vs → RpUs K m' H' us vs
 | [],_,h=>h
 | u :: us,_,⟨v,r,e,h1,h2⟩=>⟨v,r,e,RpU.stay p s u v h1,RpUs.stay p s us r h2⟩
theorem RpUK.stay (p : m <+: m') (s : Stay m H m' H') : ∀ (us : List (Key × U)) (vs : List (Key × V)),RpUK K m H us vs → RpUK K m' H' us vs
 | [],_,h=>h
 | (_,u) :: us,_,⟨v,r,e,h1,h2⟩=>⟨v,r,e,RpU.stay p s u v h1,RpUK.stay p s us r h2⟩
theorem RpUKd.stay (p : m <+: m') (s : Stay m H m' H') : ∀ (us : List (D × U)) (vs : List (NestedKey × Addr × V)),RpUKd K m H us vs → RpUKd K m' H' us vs
 | [],_,h=>h
 | (k,u) :: us,_,⟨n,b,v,r,e,q,h0,h1,h2⟩=>⟨n,b,v,r,e,q,RpD.stay s k _ h0,RpU.stay p s u v h1,RpUKd.stay p s us r h2⟩
theorem RpUF.stay (p : m <+: m') (s : Stay m H m' H') : ∀ (us : List (Str × U)) (vs : List (Str × V)),RpUF K m H us vs → RpUF K m' H' us vs
 | [],_,h=>h
 | (_,u) :: us,_,⟨v,r,e,h1,h2⟩=>⟨v,r,e,RpU.stay p s u v h1,RpUF.stay p s us r h2⟩
theorem RpO.stay (p : m <+: m') (s : Stay m H m' H') {b : Addr} : ∀ (o : O) (ho : HO),RpO K m H b o ho → RpO K m' H' b o ho
 | .lst us,_,⟨vs,e,r⟩=>⟨vs,e,RpUs.stay p s us vs r⟩
 | .tup us,_,⟨vs,e,r⟩=>⟨vs,e,RpUs.stay p s us vs r⟩
 | .dct us,_,⟨vs,e,r⟩=>⟨vs,e,RpUK.stay p s us vs r⟩
 | .lck us,_,⟨ob,vs,e,r⟩=>⟨ob,vs,e,RpUK.stay p s us vs r⟩
 | .kdc w us,_,⟨o,vs,e,z,r⟩=>⟨o,vs,e,z,RpUKd.stay p s us vs r⟩
 | .ins C us,_,⟨dx,vs,e,r⟩=>⟨dx,vs,e,RpUF.stay p s us vs r⟩
 | .tbl P q,_,⟨e,ps,e1,e2,h⟩=>⟨e,ps,e1,e2,fun pos cv hc=>let ⟨c,g1,g2,g3⟩:=h pos cv hc; ⟨c,g1,(s.ex c _ g2 g3 (fun _ z=>by cases z) fun _ z=>by cases z).2,(s.ex c _ g2 g3 (fun _ z=>by cases z) fun _ z=>by cases z).1⟩⟩
theorem RpU.ext (e : Ext m H m' H') {u : U} {v : V} (h : RpU K m H u v) : RpU K m' H' u v:=RpU.stay e.pre e.toStay u v h
theorem RpUs.ext (e : Ext m H m' H') {u : List U} {v : List V} (h : RpUs K m H u v) : RpUs K m' H' u v:=RpUs.stay e.pre e.toStay u v h
theorem RpUK.ext (e : Ext m H m' H') {u : List (Key × U)} {v : List (Key × V)} (h : RpUK K m H u v) : RpUK K m' H' u v:=RpUK.stay e.pre e.toStay u v h
theorem RpUKd.ext (e : Ext m H m' H') {u : List (D × U)} {v : List (NestedKey × Addr × V)} (h : RpUKd K m H u v) : RpUKd K m' H' u v:=RpUKd.stay e.pre e.toStay u v h
theorem RpUF.ext (e : Ext m H m' H') {u : List (Str × U)} {v : List (Str × V)} (h : RpUF K m H u v) : RpUF K m' H' u v:=RpUF.stay e.pre e.toStay u v h
theorem RpO.ext (e : Ext m H m' H') {b : Addr} {o : O} {ho : HO} (h : RpO K m H b o ho) : RpO K m' H' b o ho:=RpO.stay e.pre e.toStay o ho h
theorem RpEnv.ext (e : Ext m H m' H') {env : VEnv} {σ : L2.St} (h : RpEnv K m H env σ) : RpEnv K m' H' env σ :=
 ⟨h.len,fun i u hi=>let ⟨v,h1,h2⟩:=h.at' i u hi; ⟨v,h1,h2.ext e⟩⟩
theorem RpEnv.set {env : VEnv} {σ : L2.St} (h : RpEnv K m H env σ) (i : Nat) {u : U} {v : V} (r : RpU K m H u v) : RpEnv K m H (env.set i (some u)) (σ.set i (some v)):=by
 refine ⟨by rw [List.length_set,List.length_set]; exact h.len,fun j w hj=>?_⟩
 by_cases e : i = j
 ·subst e
  by_cases hi : i < env.length
  ·rw [List.getElem?_set_self hi] at hj
   cases hj
   exact ⟨v,by rw [List.getElem?_set_self (by rw [← h.len]; exact hi)],r⟩
  ·rw [List.getElem?_eq_none (by rw [List.length_set]; omega)] at hj
   cases hj
 ·rw [List.getElem?_set_ne e] at hj
  obtain ⟨x,h1,h2⟩:=h.at' j w hj
  exact ⟨x,by rw [List.getElem?_set_ne e]; exact h1,h2⟩
theorem Rep.live (r : Rep K m st H) {a : Addr} (h : a ∈ m) : ∃ ho,H a = some ho:=by
 obtain ⟨n,hn,e⟩:=List.mem_iff_getElem.mp h
 have hs : n < st.length:=by rw [← r.len]; exact hn
 obtain ⟨ho,e1,_⟩:=r.cell n st[n] a (List.getElem?_eq_getElem hs) (by rw [List.getElem?_eq_getElem hn,e])
 exact ⟨ho,e1⟩
theorem Rep.fresh (r : Rep K m st H) {a : Addr} (h : H a = none) : a ∉ m:=fun q=>by
 obtain ⟨ho,e⟩:=r.live q
 rw [h] at e; cases e
/-- a new object that is data -/
theorem ext_new (r : Rep K m st H) {p : Addr} (np : H p = none) (o : HO) : Ext m H m (upd H p o) :=
 .of (List.prefix_refl m) (fun a u n h _=>⟨by rw [upd_ne (ne_of_none h np)]; exact h,n⟩) fun a ob u h=>by rw [upd_ne (ne_of_none h np)]; exact h
theorem Rep.new (r : Rep K m st H) {p : Addr} (np : H p = none) (o : HO) : Rep K m st (upd H p o) :=
 ⟨r.len,r.nd,fun n c a h1 h2=>by
  obtain ⟨ho,e,q⟩:=r.cell n c a h1 h2
  exact ⟨ho,by rw [upd_ne (ne_of_none e np)]; exact e,q.ext (ext_new r np o)⟩⟩
/-- a new cell -/
theorem ext_push (r : Rep K m st H) {p : Addr} (np : H p = none) (o : HO) : Ext m H (m ++ [p]) (upd H p o) :=
 .of (List.prefix_append m [p]) (fun a u n h _=>⟨by rw [upd_ne (ne_of_none h np)]; exact h,fun q=>by
  rcases List.mem_append.mp q with q | q
  ·exact n q
  ·rw [List.mem_singleton] at q
   subst q
   rw [np] at h; cases h⟩) fun a ob u h=>by rw [upd_ne (ne_of_none h np)]; exact h
theorem Rep.push (r : Rep K m st H) {p : Addr} (np : H p = none) {c : O} {o : HO} (q : RpO K (m ++ [p]) (upd H p o) p c o) : Rep K (m ++ [p]) (st ++ [c]) (upd H p o):=by
 refine ⟨by rw [List.length_append,List.length_append,r.len]; rfl,?_,fun n c' a h1 h2=>?_⟩
 ·rw [List.nodup_append]
  refine ⟨r.nd,by simp,fun x hx y hy=>?_⟩
  rw [List.mem_singleton] at hy
  subst hy
  exact fun e=>r.fresh np (by rw [← e]; exact hx)
 ·by_cases hn : n < st.length
  ·rw [List.getElem?_append_left hn] at h1
   rw [List.getElem?_append_left (by rw [r.len]; exact hn)] at h2
   obtain ⟨ho,e,q'⟩:=r.cell n c' a h1 h2
   exact ⟨ho,by rw [upd_ne (ne_of_none e np)]; exact e,q'.ext (ext_push r np o)⟩
  ·have hn2 : n = st.length:=by
    have:=(List.getElem?_eq_some_iff.mp h1).1
    rw [List.length_append] at this
    simp at this; omega
   subst hn2
   rw [List.getElem?_append_right (Nat.le_refl _),Nat.sub_self] at h1
   rw [← r.len,List.getElem?_append_right (Nat.le_refl _),Nat.sub_self] at h2
   cases h1; cases h2
   exact ⟨o,upd_same,q⟩
/-- what lies there is not locked -/
noncomputable def NF (H : Hp) (a : Addr) : Prop:=∀ (o : Obj) (u : HO),H a ≠ some (.frz o u)
theorem nf_l {a : Addr} {vs : List V} (h : H a = some (.lst vs)) : NF H a:=fun o u z=>by rw [h] at z; cases z
theorem nf_d {a : Addr} {vs : List (Key × V)} (h : H a = some (.dK vs)) : NF H a:=fun o u z=>by rw [h] at z; cases z
theorem nf_i {a C dx : Addr} {vs : List (Str × V)} (h : H a = some (.ins C dx vs)) : NF H a:=fun o u z=>by rw [h] at z; cases z
theorem ext_write {a : Addr} (ha : a ∈ m) (o : HO) (nf : NF H a) : Ext m H m (upd H a o) :=
 .of (List.prefix_refl m) (fun b u n h _=>⟨by rw [upd_ne (fun e=>n (by rw [e]; exact ha))]; exact h,n⟩) fun b ob u h=>by rw [upd_ne (fun e=>nf ob u (by rw [← e]; exact h))]; exact h
theorem Rep.write (r : Rep K m st H) {n : Nat} {a : Addr} {c : O} {o : HO} (hn : m[n]? = some a) (q : RpO K m (upd H a o) a c o) (nf : NF H a) : Rep K m (st.set n c) (upd H a o):=by
 have ha : a ∈ m:=List.mem_of_getElem? hn
 refine ⟨by rw [List.length_set]; exact r.len,r.nd,fun k c' b h1 h2=>?_⟩
 by_cases e : n = k
 ·subst e
  rw [hn] at h2; cases h2
  have hl : n < st.length:=by rw [← r.len]; exact (List.getElem?_eq_some_iff.mp hn).1
  rw [List.getElem?_set_self hl] at h1; cases h1
  exact ⟨o,upd_same,q⟩
 ·rw [List.getElem?_set_ne e] at h1
  obtain ⟨ho,e1,q1⟩:=r.cell k c' b h1 h2
  have hb : b ≠ a:=fun z=>by
   subst z
   obtain ⟨l1,g1⟩:=List.getElem?_eq_some_iff.mp hn
   obtain ⟨l2,g2⟩:=List.getElem?_eq_some_iff.mp h2
   exact e ((List.getElem_inj r.nd).mp (g1.trans g2.symm))
  exact ⟨ho,by rw [upd_ne hb]; exact e1,q1.ext (ext_write ha o nf)⟩
end
inductive R (α : Type) where
 | ok (a : α) (st : Store)
 | ex (c : Value) (fs : Option (List (Str × D))) (st : Store)
 | bad
noncomputable abbrev M (α : Type):=Store → R α
noncomputable abbrev F (α : Type):=VEnv → M α
inductive Fl where
 | nx | rt (u : U) | bk | ct
inductive RS where
 | ok (env : VEnv) (f : Fl) (st : Store)
 | ex (c : Value) (fs : Option (List (Str × D))) (env : VEnv) (st : Store)
 | bad
noncomputable abbrev G:=VEnv → Store → RS
noncomputable def RpX (K : PySem.W.Frag) (m : List Addr) (H : Hp) : Option (List (Str × D)) → Option Addr → Prop
 | none,none=>True
 | some fs,some d=>∃ vs,H d = some (.xd vs) ∧ d ∉ m ∧ RpF K m H fs vs
 | _,_=>False
/-- what is wanted of a value's way -/
noncomputable def PO' {α β : Type} (K : PySem.W.Frag) (m : List Addr) (H : Hp) (rel : List Addr → Hp → α → β → Prop) (Q : β → Hp → Prop) (E : XK) : R α → Prop
 | .ok u st'=>∀ v m' H',rel m' H' u v → Rep K m' st' H' → Ext m H m' H' → Q v H'
 | .ex c fs st'=>∀ d m' H',Rep K m' st' H' → Ext m H m' H' → RpX K m' H' fs d → E c d H'
 | .bad=>False
noncomputable abbrev PU (K : PySem.W.Frag) (m : List Addr) (H : Hp) (Q : VK) (E : XK) : R U → Prop:=PO' K m H (RpU K) Q E
noncomputable abbrev PUs (K : PySem.W.Frag) (m : List Addr) (H : Hp) (Q : List V → Hp → Prop) (E : XK) : R (List U) → Prop:=PO' K m H (RpUs K) Q E
noncomputable abbrev PB (K : PySem.W.Frag) (m : List Addr) (H : Hp) (Q : Bool → Hp → Prop) (E : XK) : R Bool → Prop:=PO' K m H (fun _ _ a b=>b = a) Q E
noncomputable def PS' (K : PySem.W.Frag) (m : List Addr) (H : Hp) (D : Ends) (W : WX) : RS → Prop
 | .ok env .nx st'=>∀ σ' m' H',RpEnv K m' H' env σ' → Rep K m' st' H' → Ext m H m' H' → D.nx σ' H'
 | .ok env (.rt u) st'=>∀ v m' H',RpU K m' H' u v → Rep K m' st' H' → Ext m H m' H' → D.rt v H'
 | .ok env .bk st'=>∀ σ' m' H',RpEnv K m' H' env σ' → Rep K m' st' H' → Ext m H m' H' → D.bk σ' H'
 | .ok env .ct st'=>∀ σ' m' H',RpEnv K m' H' env σ' → Rep K m' st' H' → Ext m H m' H' → D.ct σ' H'
 | .ex c fs env st'=>∀ d σ' m' H',RpEnv K m' H' env σ' → Rep K m' st' H' → Ext m H m' H' → RpX K m' H' fs d → W c d σ' H'
 | .bad=>False
theorem PO'.from {α β : Type} {K : PySem.W.Frag} {m m1 : List Addr} {H H1 : Hp} {rel : List Addr → Hp → α → β → Prop} {Q : β → Hp → Prop} {E : XK} (e : Ext m H m1 H1) : ∀ {r : R α},PO' K m H rel Q E r → PO' K m1 H1 rel Q E r
 | .ok u st',h=>fun v m' H' a b c=>h v m' H' a b (e.trans c)
 | .ex c fs st',h=>fun d m' H' a b x=>h d m' H' a (e.trans b) x
 | .bad,h=>h
theorem PO'.imp {α β : Type} {K : PySem.W.Frag} {m : List Addr} {H : Hp} {rel : List Addr → Hp → α → β → Prop} {Q Q' : β → Hp → Prop} {E : XK} (hq : ∀ v H,Q v H → Q' v H) : ∀ {r : R α},PO' K m H rel Q E r → PO' K m H rel Q' E r
 | .ok u st',h=>fun v m' H' a b c=>hq _ _ (h v m' H' a b c)
 | .ex c fs st',h=>h
 | .bad,h=>h
theorem PS'.from {K : PySem.W.Frag} {m m1 : List Addr} {H H1 : Hp} {D : Ends} {W : WX} (e : Ext m H m1 H1) : ∀ {r : RS},PS' K m H D W r → PS' K m1 H1 D W r
 | .ok env .nx st',h=>fun v m' H' a b c=>h v m' H' a b (e.trans c)
 | .ok env (.rt u) st',h=>fun v m' H' a b c=>h v m' H' a b (e.trans c)
 | .ok env .bk st',h=>fun v m' H' a b c=>h v m' H' a b (e.trans c)
 | .ok env .ct st',h=>fun v m' H' a b c=>h v m' H' a b (e.trans c)
 | .ex c fs env st',h=>fun d σ' m' H' a b x y=>h d σ' m' H' a b (e.trans x) y
 | .bad,h=>h
noncomputable def tF (K : PySem.W.Frag) (W : WX) (f : F U) : TE:=fun σ H Q=>∃ m env st,Rep K m st H ∧ RpEnv K m H env σ ∧ PU K m H Q (fun c d H'=>W c d σ H') (f env st)
noncomputable def tFB (K : PySem.W.Frag) (W : WX) (f : F Bool) : TT:=fun σ H Q=>∃ m env st,Rep K m st H ∧ RpEnv K m H env σ ∧ PB K m H Q (fun c d H'=>W c d σ H') (f env st)
noncomputable def tFs (K : PySem.W.Frag) (W : WX) (f : F (List U)) : TA:=fun σ H Q=>∃ m env st,Rep K m st H ∧ RpEnv K m H env σ ∧ PUs K m H Q (fun c d H'=>W c d σ H') (f env st)
noncomputable def tG (K : PySem.W.Frag) (W : WX) (g : G) : TS:=fun D σ H=>∃ m env st,Rep K m st H ∧ RpEnv K m H env σ ∧ PS' K m H D W (g env st)
structure DE (X : Cx) (W : WX) (e : Expr) (f : F U) : Prop where
 pe : PE X e (tF X.K W f)
structure DT (X : Cx) (W : WX) (e : Expr) (f : F Bool) : Prop where
 pt : PT X e (tFB X.K W f)
structure DW (X : Cx) (W : WX) (e : Expr) (f : F Bool) : Prop where
 pw : PW X e (tFB X.K W f)
structure DA (X : Cx) (W : WX) (es : List Expr) (f : F (List U)) : Prop where
 pa : PA X es (tFs X.K W f)
structure DS (X : Cx) (W : WX) (s : Stmt) (g : G) : Prop where
 ps : PS X s (tG X.K W g)
structure DB (X : Cx) (W : WX) (s : List Stmt) (g : G) : Prop where
 pss : PSs X s (tG X.K W g)
theorem PE.imp {X : Cx} {e : Expr} {t t' : TE} (h : PE X e t) (i : ∀ σ H Q,t' σ H Q → t σ H Q) : PE X e t':=⟨fun pins s σ H Q I q=>h.run pins s σ H Q I (i σ H Q q)⟩
theorem PT.imp {X : Cx} {e : Expr} {t t' : TT} (h : PT X e t) (i : ∀ σ H Q,t' σ H Q → t σ H Q) : PT X e t':=⟨fun pins s σ H Q I q=>h.run pins s σ H Q I (i σ H Q q)⟩
theorem PW.imp {X : Cx} {e : Expr} {t t' : TT} (h : PW X e t) (i : ∀ σ H Q,t' σ H Q → t σ H Q) : PW X e t':=⟨fun w pins s σ H Q I q=>h.run w pins s σ H Q I (i σ H Q q)⟩
theorem PA.imp {X : Cx} {e : List Expr} {t t' : TA} (h : PA X e t) (i : ∀ σ H Q,t' σ H Q → t σ H Q) : PA X e t':=⟨fun pos pins s σ H Q I q=>h.run pos pins s σ H Q I (i σ H Q q)⟩
theorem PS.imp {X : Cx} {e : Stmt} {t t' : TS} (h : PS X e t) (i : ∀ D σ H,t' D σ H → t D σ H) : PS X e t':=⟨fun pins s σ H Q I q=>h.run pins s σ H Q I (i Q σ H q)⟩
theorem PSs.imp {X : Cx} {e : List Stmt} {t t' : TS} (h : PSs X e t) (i : ∀ D σ H,t' D σ H → t D σ H) : PSs X e t':=⟨fun pins s σ H Q I q=>h.run pins s σ H Q I (i Q σ H q)⟩
end VL
namespace VL
open PySem PySem.Spec PyProof.Rows L2
noncomputable def bnd {α β : Type} (f : F α) (g : α → F β) : F β:=fun env st=>match f env st with
 | .ok a st1=>g a env st1
 | .ex c fs st1=>.ex c fs st1
 | .bad=>.bad
noncomputable def bndS {α : Type} (f : F α) (g : α → G) : G:=fun env st=>match f env st with
 | .ok a st1=>g a env st1
 | .ex c fs st1=>.ex c fs env st1
 | .bad=>.bad
/-- an operation that leaves the cells -/
noncomputable def R.of {α : Type} (st : Store) : Option α → R α
 | some a=>.ok a st
 | none=>.bad
/-- an operation that may write them -/
noncomputable def R.of2 {α : Type} : Option (α × Store) → R α
 | some (a,st)=>.ok a st
 | none=>.bad
noncomputable def fPure {α : Type} (a : α) : F α:=fun _ st=>.ok a st
section
variable {K : PySem.W.Frag} {W : WX} {m : List Addr} {env : VEnv} {st : Store} {H : Hp} {σ : L2.St} {γ δ : Type} {rel : List Addr → Hp → γ → δ → Prop} {Q : δ → Hp → Prop}
theorem tF_step {f : F U} {g : U → F γ} {Z : VK} (r : Rep K m st H) (re : RpEnv K m H env σ) (p : PO' K m H rel Q (fun c d H'=>W c d σ H') (bnd f g env st))
  (h : ∀ a st1 v m1 H1,RpU K m1 H1 a v → Rep K m1 st1 H1 → RpEnv K m1 H1 env σ → Ext m H m1 H1 → PO' K m1 H1 rel Q (fun c d H'=>W c d σ H') (g a env st1) → Z v H1) : tF K W f σ H Z :=
 ⟨m,env,st,r,re,by
  unfold bnd at p
  cases e : f env st with
  | ok a st1=>rw [e] at p; exact fun v m1 H1 h1 h2 h3=>h a st1 v m1 H1 h1 h2 (re.ext h3) h3 (p.from h3)
  | ex c fs st1=>rw [e] at p; exact p
  | bad=>rw [e] at p; exact p.elim⟩
theorem tFs_step {f : F (List U)} {g : List U → F γ} {Z : List V → Hp → Prop} (r : Rep K m st H) (re : RpEnv K m H env σ) (p : PO' K m H rel Q (fun c d H'=>W c d σ H') (bnd f g env st))
  (h : ∀ a st1 v m1 H1,RpUs K m1 H1 a v → Rep K m1 st1 H1 → RpEnv K m1 H1 env σ → Ext m H m1 H1 → PO' K m1 H1 rel Q (fun c d H'=>W c d σ H') (g a env st1) → Z v H1) : tFs K W f σ H Z :=
 ⟨m,env,st,r,re,by
  unfold bnd at p
  cases e : f env st with
  | ok a st1=>rw [e] at p; exact fun v m1 H1 h1 h2 h3=>h a st1 v m1 H1 h1 h2 (re.ext h3) h3 (p.from h3)
  | ex c fs st1=>rw [e] at p; exact p
  | bad=>rw [e] at p; exact p.elim⟩
theorem tFB_step {f : F Bool} {g : Bool → F γ} {Z : Bool → Hp → Prop} (r : Rep K m st H) (re : RpEnv K m H env σ) (p : PO' K m H rel Q (fun c d H'=>W c d σ H') (bnd f g env st))
  (h : ∀ a st1 m1 H1,Rep K m1 st1 H1 → RpEnv K m1 H1 env σ → Ext m H m1 H1 → PO' K m1 H1 rel Q (fun c d H'=>W c d σ H') (g a env st1) → Z a H1) : tFB K W f σ H Z :=
 ⟨m,env,st,r,re,by
  unfold bnd at p
  cases e : f env st with
  | ok a st1=>rw [e] at p; exact fun v m1 H1 h1 h2 h3=>by subst h1; exact h _ st1 m1 H1 h2 (re.ext h3) h3 (p.from h3)
  | ex c fs st1=>rw [e] at p; exact p
  | bad=>rw [e] at p; exact p.elim⟩
variable {Dn : Ends}
theorem sF_step {f : F U} {g : U → G} {Z : VK} (r : Rep K m st H) (re : RpEnv K m H env σ) (p : PS' K m H Dn W (bndS f g env st))
  (h : ∀ a st1 v m1 H1,RpU K m1 H1 a v → Rep K m1 st1 H1 → RpEnv K m1 H1 env σ → Ext m H m1 H1 → PS' K m1 H1 Dn W (g a env st1) → Z v H1) : tF K W f σ H Z :=
 ⟨m,env,st,r,re,by
  unfold bndS at p
  cases e : f env st with
  | ok a st1=>rw [e] at p; exact fun v m1 H1 h1 h2 h3=>h a st1 v m1 H1 h1 h2 (re.ext h3) h3 (p.from h3)
  | ex c fs st1=>rw [e] at p; exact fun d m' H' h1 h2 h3=>p d σ m' H' (re.ext h2) h1 h2 h3
  | bad=>rw [e] at p; exact p.elim⟩
theorem sFB_step {f : F Bool} {g : Bool → G} {Z : Bool → Hp → Prop} (r : Rep K m st H) (re : RpEnv K m H env σ) (p : PS' K m H Dn W (bndS f g env st))
  (h : ∀ a st1 m1 H1,Rep K m1 st1 H1 → RpEnv K m1 H1 env σ → Ext m H m1 H1 → PS' K m1 H1 Dn W (g a env st1) → Z a H1) : tFB K W f σ H Z :=
 ⟨m,env,st,r,re,by
  unfold bndS at p
  cases e : f env st with
  | ok a st1=>rw [e] at p; exact fun v m1 H1 h1 h2 h3=>by subst h1; exact h _ st1 m1 H1 h2 (re.ext h3) h3 (p.from h3)
  | ex c fs st1=>rw [e] at p; exact fun d m' H' h1 h2 h3=>p d σ m' H' (re.ext h2) h1 h2 h3
  | bad=>rw [e] at p; exact p.elim⟩
theorem sFs_step {f : F (List U)} {g : List U → G} {Z : List V → Hp → Prop} (r : Rep K m st H) (re : RpEnv K m H env σ) (p : PS' K m H Dn W (bndS f g env st))
  (h : ∀ a st1 v m1 H1,RpUs K m1 H1 a v → Rep K m1 st1 H1 → RpEnv K m1 H1 env σ → Ext m H m1 H1 → PS' K m1 H1 Dn W (g a env st1) → Z v H1) : tFs K W f σ H Z :=
 ⟨m,env,st,r,re,by
  unfold bndS at p
  cases e : f env st with
  | ok a st1=>rw [e] at p; exact fun v m1 H1 h1 h2 h3=>h a st1 v m1 H1 h1 h2 (re.ext h3) h3 (p.from h3)
  | ex c fs st1=>rw [e] at p; exact fun d m' H' h1 h2 h3=>p d σ m' H' (re.ext h2) h1 h2 h3
  | bad=>rw [e] at p; exact p.elim⟩
end
noncomputable def vVar (i : Nat) : F U:=fun env st=>match env[i]? with
 | some (some u)=>.ok u st
 | _=>.bad
noncomputable def vC (x : D) : F U:=fun _ st=>.ok (.d x) st
section
variable {X : Cx} {W : WX}
theorem d_var (i : Nat) {x : Str} {pos : Pos} (hN : X.N[i]? = some x:=by rfl) (hv : Vis X.env.scope x:=by first | exact Or.inl rfl | exact Or.inr (Or.inl rfl) | exact Or.inr (Or.inr rfl)) (hd : (x == ("__debug__" : Str)) = false:=by decide)
  (hcd : (x == ("__classdict__" : Str)) = false:=by decide) : DE X W (.Name x pos) (vVar i):=⟨PE.imp (pv i hN hv hd hcd) fun σ H Q ⟨m,env,st,r,re,p⟩=>by
 unfold vVar at p
 split at p
 ·rename_i u hu
  obtain ⟨v,h1,h2⟩:=re.at' i u hu
  exact ⟨v,h1,p v m H h2 r (Ext.refl _ _)⟩
 ·exact p.elim⟩
theorem d_con {e : Expr} {v : V} {x : D} (h : PE X e (tC v)) (hx : ∀ m H,RpD X.K m H x v) : DE X W e (vC x):=⟨PE.imp h fun σ H Q ⟨m,env,st,r,re,p⟩=>p v m H (hx m H) r (Ext.refl _ _)⟩
theorem d_int {i : Int} {j : Nat} {pos : Pos} : DE X W (.Constant (.int i) j pos) (vC (.int i)):=d_con pe_int fun _ _=>rfl
theorem d_bl {i : Bool} {j : Nat} {pos : Pos} : DE X W (.Constant (.bool i) j pos) (vC (.bl i)):=d_con pe_bl fun _ _=>rfl
theorem d_non {j : Nat} {pos : Pos} : DE X W (.Constant .none j pos) (vC .non):=d_con pe_non fun _ _=>rfl
theorem d_str {x : Str} {j : Nat} {pos : Pos} : DE X W (.Constant (.str x) j pos) (vC (.str x)):=d_con pe_str fun _ _=>rfl
/-- a constant of the module that is a number,a text -/
theorem d_glob {x : Str} {v : V} {d : D} {u : Value} {pos : Pos} (hm : X.mg x = some u) (r : RelV v u) (hx : ∀ m H,RpD X.K m H d v) (hg : Gl X x:=by rfl) (hd : (x == ("__debug__" : Str)) = false:=by decide) : DE X W (.Name x pos) (vC d) :=
 d_con (pe_glob hg hm r hd) hx
/-- a built-in class as a value -/
theorem d_ty {x : Str} {n : String} {pos : Pos} (hm : X.mg x = none) (hv : bootBuiltins x = some (.type n)) (hg : Gl X x:=by rfl) (hn : x ≠ "__name__":=by decide) (hd : (x == ("__debug__" : Str)) = false:=by decide) : DE X W (.Name x pos) (vC (.ty n)) :=
 d_con (v:=.ty n) (pe_bltn hg hm hv rfl hn hd) fun _ _=>rfl
end
noncomputable def getL (st : Store) : U → Option (List U)
 | .d (.lst ds)=>some (ds.map .d)
 | .d (.scr ns)=>some (ns.map fun i=>.d (.int i))
 | .ref n=>match st[n]? with
  | some (.lst us)=>some us
  | _=>none
 | _=>none
noncomputable def getT : U → Option (List D)
 | .d (.tup ds)=>some ds
 | _=>none
noncomputable def pureL : List U → Option (List D)
 | []=>some []
 | .d x :: r=>(pureL r).map (x :: ·)
 | _=>none
theorem pureL_map : ∀ ds : List D,pureL (ds.map .d) = some ds
 | []=>rfl
 | d :: ds=>by rw [List.map_cons,pureL,pureL_map ds]; rfl
section
variable {K : PySem.W.Frag} {m : List Addr} {H : Hp} {st : Store}
theorem RpUs.ofD : ∀ {ds : List D} {vs : List V},RpDs K m H ds vs → RpUs K m H (ds.map .d) vs
 | [],_,h=>h
 | d :: ds,_,⟨v,r,e,h1,h2⟩=>⟨v,r,e,h1,RpUs.ofD h2⟩
theorem pureL_rp : ∀ {us : List U} {vs : List V} {ds : List D},RpUs K m H us vs → pureL us = some ds → RpDs K m H ds vs
 | [],vs,ds,h,e=>by cases e; exact h
 | .d x :: r,vs,ds,⟨v,t,ev,h1,h2⟩,e=>by
  unfold pureL at e
  cases q : pureL r with
  | none=>rw [q] at e; cases e
  | some zs =>
   rw [q] at e
   cases e
   exact ⟨v,t,ev,h1,pureL_rp h2 q⟩
 | .ref n :: r,vs,ds,h,e=>by cases e
theorem RpUs.ints : ∀ (ns : List Int),RpUs K m H (ns.map fun i=>.d (.int i)) (ns.map V.int)
 | []=>rfl
 | n :: ns=>⟨.int n,_,rfl,rfl,RpUs.ints ns⟩
theorem getL_rp (r : Rep K m st H) : ∀ {u : U} {v : V} {us : List U},RpU K m H u v → getL st u = some us → ∃ a vs,v = .ref a ∧ SqL K H a vs ∧ RpUs K m H us vs
 | .d (.lst ds),v,us,⟨a,vs,e,h1,h2⟩,q=>by
  cases q
  exact ⟨a,vs,e,h1.sq,RpUs.ofD h2⟩
 | .d (.scr ns),v,us,⟨a,e,h1⟩,q=>by
  cases q
  exact ⟨a,_,e,h1.sq,RpUs.ints ns⟩
 | .ref n,v,us,⟨a,ha,e⟩,q=>by
  simp only [getL] at q
  split at q
  ·rename_i zs hs
   cases q
   obtain ⟨ho,h1,vs,e2,h2⟩:=r.cell n _ a hs ha
   rw [e2] at h1
   exact ⟨a,vs,e,.inl (.inl h1),h2⟩
  ·cases q
 | .d .non,_,_,_,q=>by cases q
 | .d (.bl _),_,_,_,q=>by cases q
 | .d (.int _),_,_,_,q=>by cases q
 | .d (.str _),_,_,_,q=>by cases q
 | .d (.ty _),_,_,_,q=>by cases q
 | .d (.obj _),_,_,_,q=>by cases q
 | .d (.tup _),_,_,_,q=>by cases q
 | .d (.dct _),_,_,_,q=>by cases q
 | .d (.ins _ _),_,_,_,q=>by cases q
 | .d (.exc _ _ _ _),_,_,_,q=>by cases q
 | .d (.kdc _ _),_,_,_,q=>by cases q
theorem getT_rp : ∀ {u : U} {v : V} {us : List D},RpU K m H u v → getT u = some us → ∃ a vs,v = .ref a ∧ TpV K m H a vs ∧ RpDs K m H us vs
 | .d (.tup ds),v,us,⟨a,vs,e,h1,h2⟩,q=>by
  cases q
  exact ⟨a,vs,e,h1,h2⟩
 | .ref n,_,_,_,q=>by cases q
 | .d .non,_,_,_,q=>by cases q
 | .d (.bl _),_,_,_,q=>by cases q
 | .d (.int _),_,_,_,q=>by cases q
 | .d (.str _),_,_,_,q=>by cases q
 | .d (.ty _),_,_,_,q=>by cases q
 | .d (.obj _),_,_,_,q=>by cases q
 | .d (.lst _),_,_,_,q=>by cases q
 | .d (.scr _),_,_,_,q=>by cases q
 | .d (.dct _),_,_,_,q=>by cases q
 | .d (.ins _ _),_,_,_,q=>by cases q
 | .d (.exc _ _ _ _),_,_,_,q=>by cases q
 | .d (.kdc _ _),_,_,_,q=>by cases q
theorem RpUs.length : ∀ {us : List U} {vs : List V},RpUs K m H us vs → vs.length = us.length
 | [],_,h=>by rw [show _ = [] from h]; rfl
 | u :: us,_,⟨v,r,e,h1,h2⟩=>by rw [e,List.length_cons,List.length_cons,RpUs.length h2]
theorem RpDs.length {us : List D} {vs : List V} (h : RpDs K m H us vs) : vs.length = us.length:=by
 have:=(RpUs.ofD h).length
 rwa [List.length_map] at this
theorem RpUs.append : ∀ {us ws : List U} {vs xs : List V},RpUs K m H us vs → RpUs K m H ws xs → RpUs K m H (us ++ ws) (vs ++ xs)
 | [],_,_,_,h,k=>by rw [show _ = [] from h]; exact k
 | u :: us,_,_,_,⟨v,r,e,h1,h2⟩,k=>by subst e; exact ⟨v,_,rfl,h1,RpUs.append h2 k⟩
theorem RpDs.append : ∀ {us ws : List D} {vs xs : List V},RpDs K m H us vs → RpDs K m H ws xs → RpDs K m H (us ++ ws) (vs ++ xs)
 | [],_,_,_,h,k=>by rw [show _ = [] from h]; exact k
 | u :: us,_,_,_,⟨v,r,e,h1,h2⟩,k=>by subst e; exact ⟨v,_,rfl,h1,RpDs.append h2 k⟩
theorem RpUs.get : ∀ {us : List U} {vs : List V} {i : Nat} {u : U},RpUs K m H us vs → us[i]? = some u → ∃ v,vs[i]? = some v ∧ RpU K m H u v
 | [],_,_,_,h,q=>by simp at q
 | u :: us,_,0,w,⟨v,r,e,h1,h2⟩,q=>by subst e; simp at q; subst q; exact ⟨v,rfl,h1⟩
 | u :: us,_,i + 1,w,⟨v,r,e,h1,h2⟩,q=>by
  subst e
  obtain ⟨x,g1,g2⟩:=RpUs.get (i:=i) h2 (by simpa using q)
  exact ⟨x,by simpa using g1,g2⟩
theorem RpUs.set : ∀ {us : List U} {vs : List V} (i : Nat) {u : U} {v : V},RpUs K m H us vs → RpU K m H u v → RpUs K m H (us.set i u) (vs.set i v)
 | [],_,_,_,_,h,_=>by rw [show _ = [] from h]; rfl
 | w :: us,_,0,u,v,⟨x,r,e,h1,h2⟩,k=>by subst e; exact ⟨v,r,rfl,k,h2⟩
 | w :: us,_,i + 1,u,v,⟨x,r,e,h1,h2⟩,k=>by subst e; exact ⟨x,r.set i v,rfl,h1,RpUs.set i h2 k⟩
theorem RpUs.take : ∀ {us : List U} {vs : List V} (n : Nat),RpUs K m H us vs → RpUs K m H (us.take n) (vs.take n)
 | _,_,0,_=>rfl
 | [],_,n + 1,h=>by rw [show _ = [] from h]; rfl
 | u :: us,_,n + 1,⟨x,r,e,h1,h2⟩=>by subst e; exact ⟨x,r.take n,rfl,h1,RpUs.take n h2⟩
theorem RpUs.drop : ∀ {us : List U} {vs : List V} (n : Nat),RpUs K m H us vs → RpUs K m H (us.drop n) (vs.drop n)
 | _,_,0,h=>h
 | [],_,n + 1,h=>by rw [show _ = [] from h]; rfl
 | u :: us,_,n + 1,⟨x,r,e,h1,h2⟩=>by subst e; exact RpUs.drop n h2
theorem RpDs.get {us : List D} {vs : List V} {i : Nat} {u : D} (h : RpDs K m H us vs) (q : us[i]? = some u) : ∃ v,vs[i]? = some v ∧ RpD K m H u v:=by
 obtain ⟨v,h1,h2⟩:=RpUs.get (RpUs.ofD h) (i:=i) (u:=.d u) (by rw [List.getElem?_map,q]; rfl)
 exact ⟨v,h1,h2⟩
theorem RpDs.toD {us : List D} {vs : List V} (h : RpUs K m H (us.map .d) vs) : RpDs K m H us vs:=pureL_rp h (pureL_map us)
/-- new data -/
theorem new_lst (r : Rep K m st H) {p : Addr} (np : H p = none) {ds : List D} {vs : List V} (h : RpDs K m H ds vs) : RpU K m (upd H p (.lst vs)) (.d (.lst ds)) (.ref p) :=
 ⟨p,vs,rfl,⟨r.fresh np,upd_same⟩,h.ext (ext_new r np _)⟩
theorem new_tup (r : Rep K m st H) {p : Addr} (np : H p = none) {ds : List D} {vs : List V} (h : RpDs K m H ds vs) : RpU K m (upd H p (.tup vs)) (.d (.tup ds)) (.ref p) :=
 ⟨p,vs,rfl,.inl ⟨r.fresh np,upd_same⟩,h.ext (ext_new r np _)⟩
end
/-- what an operation that leaves the cells gives -/
noncomputable def PV (K : PySem.W.Frag) (m : List Addr) (st : Store) (H : Hp) (Q : VK) : Option U → Prop
 | some u=>∀ v H',RpU K m H' u v → Rep K m st H' → Ext m H m H' → Q v H'
 | none=>False
theorem PV.of {K : PySem.W.Frag} {m : List Addr} {st : Store} {H : Hp} {Q : VK} {E : XK} : ∀ {o : Option U},PU K m H Q E (R.of st o) → PV K m st H Q o
 | some u,h=>fun v H' a b c=>h v m H' a b c
 | none,h=>h
noncomputable abbrev P1:=U → Store → Option U
noncomputable abbrev P2:=U → U → Store → Option U
noncomputable def rG (K : PySem.W.Frag) (g : P2) : R2:=fun x y H Q=>∃ m st a b,Rep K m st H ∧ RpU K m H a x ∧ RpU K m H b y ∧ PV K m st H Q (g a b st)
noncomputable def rG1 (K : PySem.W.Frag) (g : P1) : V → Hp → VK → Prop:=fun x H Q=>∃ m st a,Rep K m st H ∧ RpU K m H a x ∧ PV K m st H Q (g a st)
noncomputable def f2 (g : P2) (fa fb : F U) : F U:=bnd fa fun a=>bnd fb fun b=>fun _ st=>.of st (g a b st)
noncomputable def f1 (g : P1) (fa : F U) : F U:=bnd fa fun a=>fun _ st=>.of st (g a st)
section
variable {X : Cx} {W : WX} {a b : Expr} {fa fb : F U} {pos : Pos} {g : P2}
theorem t_op2 {σ : L2.St} {H : Hp} {Q : VK} (h : tF X.K W (f2 g fa fb) σ H Q) : tOp (rG X.K g) (tF X.K W fa) (tF X.K W fb) σ H Q:=by
 obtain ⟨m,env,st,r,re,p⟩:=h
 refine tF_step r re p fun a st1 v m1 H1 h1 r1 re1 e1 p1=>?_
 refine tF_step r1 re1 p1 fun b st2 w m2 H2 h2 r2 re2 e2 p2=>?_
 exact ⟨m2,st2,a,b,r2,h1.ext e2,h2,PV.of p2⟩
theorem d_op {op : Operator} (ho : OpR X (binaryOp op) (rG X.K g)) (ha : DE X W a fa) (hb : DE X W b fb) : DE X W (.BinOp a op b pos) (f2 g fa fb) :=
 ⟨PE.imp (pe_op ho ha.pe hb.pe) fun _ _ _ h=>t_op2 h⟩
theorem d_un {op : UnaryOp} {g : P1} (ho : UnR X (unaryOp op) (rG1 X.K g)) (ha : DE X W a fa) : DE X W (.UnaryOp op a pos) (f1 g fa) :=
 ⟨PE.imp (pe_un ho ha.pe) fun σ H Q ⟨m,env,st,r,re,p⟩=>tF_step r re p fun a st1 v m1 H1 h1 r1 re1 e1 p1=>⟨m1,st1,a,r1,h1,PV.of p1⟩⟩
theorem d_cmp {op : CmpOp} (ho : OpR X (compareOp op) (rG X.K g)) (ha : DE X W a fa) (hb : DE X W b fb) (hm : behindInMarks op b = false:=by first | exact nomark _ | rfl) : DE X W (.Compare a [op] [b] pos) (f2 g fa fb) :=
 ⟨PE.imp (pe_cmpR ho ha.pe hb.pe hm) fun _ _ _ h=>t_op2 h⟩
/-- a bool as a test -/
noncomputable def asB (f : F U) : F Bool:=bnd f fun u=>fun _ st=>match u with
 | .d (.bl k)=>.ok k st
 | _=>.bad
theorem PO'.imp' {K : PySem.W.Frag} {m : List Addr} {H : Hp} {Q : Bool → Hp → Prop} {E : XK} {k : Bool} {st : Store} (p : PB K m H Q E (.ok k st)) (r : Rep K m st H) : Q k H:=p k m H rfl r (Ext.refl _ _)
theorem t_asB {f : F U} {σ : L2.St} {H : Hp} {Q : Bool → Hp → Prop} (h : tFB X.K W (asB f) σ H Q) : tF X.K W f σ H (fun x H'=>∃ k,x = .bl k ∧ Q k H'):=by
 obtain ⟨m,env,st,r,re,p⟩:=h
 refine tF_step r re p fun a st1 v m1 H1 h1 r1 re1 e1 p1=>?_
 cases a with
 | ref n=>exact False.elim p1
 | d x =>
  cases x with
  | bl k=>exact ⟨k,h1,PO'.imp' p1 r1⟩
  | _=>exact False.elim p1
theorem dt_cmp {op : CmpOp} (ho : OpR X (compareOp op) (rG X.K g)) (ha : DE X W a fa) (hb : DE X W b fb) (hm : behindInMarks op b = false:=by first | exact nomark _ | rfl) : DT X W (.Compare a [op] [b] pos) (asB (f2 g fa fb)) :=
 ⟨PT.imp (pt_cmpR ho ha.pe hb.pe hm) fun _ _ _ h=>by
  have h2:=t_asB h
  exact t_op2 h2⟩
/-- a < b < c -/
noncomputable def fChain (g g' : P2) (fa fb fc : F U) : F U:=bnd fa fun a=>bnd fb fun b=>fun env st=>match g a b st with
 | some (.d (.bl true))=>bnd fc (fun c=>fun _ st=>.of st (g' b c st)) env st
 | some (.d (.bl false))=>.ok (.d (.bl false)) st
 | _=>.bad
end
end VL
namespace VL
open PySem PySem.Spec PyProof.Rows L2
mutual
noncomputable def toP : D → Option PyData
 | .non=>some .none
 | .bl b=>some (.bool b)
 | .int i=>some (.int i)
 | .str x=>some (.str x)
 | .tup ds=>(toPs ds).map .tuple
 | .lst ds=>(toPs ds).map .list
 | .scr ns=>some (.list (ns.map .int))
 | _=>none
noncomputable def toPs : List D → Option (List PyData)
 | []=>some []
 | d :: ds=>match toP d,toPs ds with
  | some p,some ps=>some (p :: ps)
  | _,_=>none
end
/-- all answers,or none -/
noncomputable def allM {α β : Type} (g : α → Option β) : List α → Option (List β)
 | []=>some []
 | a :: r=>match g a,allM g r with
  | some b,some bs=>some (b :: bs)
  | _,_=>none
/-- a value with its cells written out -/
noncomputable def deep : Nat → Store → U → Option D
 | _,_,.d x=>some x
 | 0,_,.ref _=>none
 | k + 1,st,.ref n=>match st[n]? with
  | some (.lst us)=>(allM (deep k st) us).map .lst
  | _=>none
noncomputable def asP (st : Store) (u : U) : Option PyData:=(deep 4 st u).bind toP
theorem allM_d {st : Store} {k : Nat} : ∀ ds : List D,allM (deep k st) (ds.map .d) = some ds
 | []=>rfl
 | d :: ds=>by
  rw [List.map_cons,allM,allM_d ds]
  cases k <;> rfl
section
variable {K : PySem.W.Frag} {m : List Addr} {H : Hp} {st : Store}
theorem DpAll.ints : ∀ ns : List Int,DpAll K H (ns.map V.int) (ns.map PyData.int)
 | []=>.nil
 | n :: ns=>.cons (.int n) (DpAll.ints ns)
mutual
theorem toP_dp : ∀ (d : D) (v : V) (p : PyData),RpD K m H d v → toP d = some p → Dp K H v p
 | .non,_,_,h,e=>by cases h; cases e; exact .non
 | .bl b,_,_,h,e=>by cases h; cases e; exact .bl b
 | .int i,_,_,h,e=>by cases h; cases e; exact .int i
 | .str x,_,_,h,e=>by cases h; cases e; exact .str x
 | .tup ds,_,_,h,e=>by
  obtain ⟨a,vs,e1,t,r⟩:=h
  unfold toP at e
  cases q : toPs ds with
  | none=>rw [q] at e; cases e
  | some ps=>rw [q] at e; cases e; subst e1; exact .tup t.sq (toPs_dp ds vs ps r q)
 | .lst ds,_,_,h,e=>by
  obtain ⟨a,vs,e1,t,r⟩:=h
  unfold toP at e
  cases q : toPs ds with
  | none=>rw [q] at e; cases e
  | some ps=>rw [q] at e; cases e; subst e1; exact .lst t.sq (toPs_dp ds vs ps r q)
 | .scr ns,_,_,h,e=>by
  obtain ⟨a,e1,t⟩:=h
  cases e; subst e1; exact .lst t.sq (DpAll.ints ns)
 | .ty _,_,_,_,e=>by cases e
 | .obj _,_,_,_,e=>by cases e
 | .dct _,_,_,_,e=>by cases e
 | .ins _ _,_,_,_,e=>by cases e
 | .exc ..,_,_,_,e=>by cases e
 | .kdc ..,_,_,_,e=>by cases e
theorem toPs_dp : ∀ (ds : List D) (vs : List V) (ps : List PyData),RpDs K m H ds vs → toPs ds = some ps → DpAll K H vs ps
 | [],_,_,h,e=>by cases h; cases e; exact .nil
 | d :: ds,_,_,h,e=>by
  obtain ⟨v,r,e1,h1,h2⟩:=h
  unfold toPs at e
  cases q1 : toP d with
  | none=>rw [q1] at e; cases e
  | some p =>
   cases q2 : toPs ds with
   | none=>rw [q1,q2] at e; cases e
   | some ps =>
    rw [q1,q2] at e; cases e
    subst e1
    exact .cons (toP_dp d v p h1 q1) (toPs_dp ds r ps h2 q2)
end
/-- a weaker way of lying there: cells among it -/
inductive WD (K : PySem.W.Frag) (m : List Addr) (H : Hp) : D → V → Prop
 | ofD {d : D} {v : V} (h : RpD K m H d v) : WD K m H d v
 | lst {a : Addr} {ds : List D} {vs : List V} (h : SqL K H a vs) (hl : vs.length = ds.length) (hs : ∀ (i : Nat) (d : D) (v : V),ds[i]? = some d → vs[i]? = some v → WD K m H d v) : WD K m H (.lst ds) (.ref a)
theorem allM_get {α β : Type} {g : α → Option β} : ∀ {l : List α} {r : List β},allM g l = some r → r.length = l.length ∧ ∀ (i : Nat) (b : β),r[i]? = some b → ∃ a,l[i]? = some a ∧ g a = some b
 | [],r,e=>by cases e; exact ⟨rfl,fun i b h=>by simp at h⟩
 | a :: l,r,e=>by
  unfold allM at e
  cases q1 : g a with
  | none=>rw [q1] at e; cases e
  | some b =>
   cases q2 : allM g l with
   | none=>rw [q1,q2] at e; cases e
   | some bs =>
    rw [q1,q2] at e; cases e
    obtain ⟨h1,h2⟩:=allM_get q2
    refine ⟨by rw [List.length_cons,List.length_cons,h1],fun i c h=>?_⟩
    cases i with
    | zero=>simp at h; subst h; exact ⟨a,rfl,q1⟩
    | succ i=>exact h2 i c (by simpa using h)
theorem deep_wd (r : Rep K m st H) : ∀ (k : Nat) (u : U) (v : V) (d : D),RpU K m H u v → deep k st u = some d → WD K m H d v
 | 0,.d x,v,d,h,e=>by cases e; exact .ofD h
 | k + 1,.d x,v,d,h,e=>by cases e; exact .ofD h
 | 0,.ref n,v,d,h,e=>by cases e
 | k + 1,.ref n,v,d,⟨a,ha,ev⟩,e=>by
  simp only [deep] at e
  split at e
  ·rename_i us hs
   cases q : allM (deep k st) us with
   | none=>rw [q] at e; cases e
   | some ds =>
    rw [q] at e
    cases e
    obtain ⟨ho,h1,vs,e2,h2⟩:=r.cell n _ a hs ha
    subst e2 ev
    obtain ⟨hl,hg⟩:=allM_get q
    refine .lst (.inl (.inl h1)) (by rw [h2.length,hl]) fun i d v hd hv=>?_
    obtain ⟨u,hu,e3⟩:=hg i d hd
    obtain ⟨v',hv',ru⟩:=h2.get hu
    rw [hv] at hv'; cases hv'
    exact deep_wd r k u v d ru e3
  ·cases e
theorem dpAll_of : ∀ {vs : List V} {ps : List PyData},vs.length = ps.length → (∀ (i : Nat) (v : V) (p : PyData),vs[i]? = some v → ps[i]? = some p → Dp K H v p) → DpAll K H vs ps
 | [],[],_,_=>.nil
 | v :: vs,p :: ps,hl,h=>.cons (h 0 v p rfl rfl) (dpAll_of (by simpa using hl) fun i w q hw hq=>h (i + 1) w q (by simpa using hw) (by simpa using hq))
 | [],_ :: _,hl,_=>by simp at hl
 | _ :: _,[],hl,_=>by simp at hl
theorem toPs_get : ∀ {ds : List D} {ps : List PyData},toPs ds = some ps → ps.length = ds.length ∧ ∀ (i : Nat) (p : PyData),ps[i]? = some p → ∃ d,ds[i]? = some d ∧ toP d = some p
 | [],r,e=>by cases e; exact ⟨rfl,fun i b h=>by simp at h⟩
 | d :: l,r,e=>by
  unfold toPs at e
  cases q1 : toP d with
  | none=>rw [q1] at e; cases e
  | some b =>
   cases q2 : toPs l with
   | none=>rw [q1,q2] at e; cases e
   | some bs =>
    rw [q1,q2] at e; cases e
    obtain ⟨h1,h2⟩:=toPs_get q2
    refine ⟨by rw [List.length_cons,List.length_cons,h1],fun i c h=>?_⟩
    cases i with
    | zero=>simp at h; subst h; exact ⟨d,rfl,q1⟩
    | succ i=>exact h2 i c (by simpa using h)
theorem wd_dp {d : D} {v : V} (h : WD K m H d v) : ∀ {p : PyData},toP d = some p → Dp K H v p:=by
 induction h with
 | ofD h=>exact fun e=>toP_dp _ _ _ h e
 | lst hq hl hs ih =>
  rename_i a ds vs
  intro p e
  unfold toP at e
  cases q : toPs ds with
  | none=>rw [q] at e; cases e
  | some ps =>
   rw [q] at e; cases e
   obtain ⟨h1,h2⟩:=toPs_get q
   refine .lst hq (dpAll_of (by rw [hl,h1]) fun i w p hw hp=>?_)
   obtain ⟨d,hd,e2⟩:=h2 i p hp
   exact ih i d w hd hw e2
theorem asP_dp (r : Rep K m st H) {u : U} {v : V} {p : PyData} (h : RpU K m H u v) (e : asP st u = some p) : Dp K H v p:=by
 unfold asP at e
 cases q : deep 4 st u with
 | none=>rw [q] at e; cases e
 | some d=>rw [q] at e; exact wd_dp (deep_wd r 4 u v d h q) e
end
noncomputable def oAdd : P2:=fun a b st=>match a,b with
 | .d (.int i),.d (.int j)=>some (.d (.int (i + j)))
 | .d (.str x),.d (.str y)=>if x.length + y.length ≤ sizeLine then some (.d (.str (x ++ y))) else none
 | .d (.tup xs),.d (.tup ys)=>if xs.length + ys.length ≤ sizeLine then some (.d (.tup (xs ++ ys))) else none
 | .d (.lst xs),.d (.lst ys)=>if xs.length + ys.length ≤ sizeLine then some (.d (.lst (xs ++ ys))) else none
 | _,_=>none
noncomputable def oSub : P2:=fun a b _=>match a,b with
 | .d (.int i),.d (.int j)=>some (.d (.int (i - j)))
 | _,_=>none
noncomputable def oMul : P2:=fun a b _=>match a,b with
 | .d (.int i),.d (.int j)=>if (-(2 ^ 64) < i ∧ i < 2 ^ 64) ∨ (-(2 ^ 64) < j ∧ j < 2 ^ 64) then some (.d (.int (i * j))) else none
 | _,_=>none
noncomputable def oFdiv : P2:=fun a b _=>match a,b with
 | .d (.int i),.d (.int j)=>if 0 < j ∧ j < 1073741824 then some (.d (.int (i / j))) else none
 | _,_=>none
noncomputable def oMod : P2:=fun a b _=>match a,b with
 | .d (.int i),.d (.int j)=>if 0 < j then some (.d (.int (i % j))) else none
 | _,_=>none
noncomputable def oPow : P2:=fun a b _=>match a,b with
 | .d (.int i),.d (.int j)=>if 0 ≤ j ∧ j ≤ 1000000 ∧ i.natAbs < 2 ^ 64 then some (.d (.int (i ^ j.toNat))) else none
 | _,_=>none
noncomputable def oNeg : P1:=fun a _=>match a with
 | .d (.int i)=>some (.d (.int (-i)))
 | _=>none
noncomputable def oLt : P2:=fun a b _=>match a,b with
 | .d (.int i),.d (.int j)=>some (.d (.bl (decide (i < j))))
 | _,_=>none
noncomputable def oLe : P2:=fun a b _=>match a,b with
 | .d (.int i),.d (.int j)=>some (.d (.bl (decide (i ≤ j))))
 | _,_=>none
noncomputable def oGt : P2:=fun a b _=>match a,b with
 | .d (.int i),.d (.int j)=>some (.d (.bl (decide (j < i))))
 | _,_=>none
noncomputable def oGe : P2:=fun a b _=>match a,b with
 | .d (.int i),.d (.int j)=>some (.d (.bl (decide (j ≤ i))))
 | _,_=>none
/-- scalars of one kind,or data -/
noncomputable def eqB (st : Store) (a b : U) : Option Bool:=match a,b with
 | .d (.int i),.d (.int j)=>some (decide (i = j))
 | .d (.str i),.d (.str j)=>some (decide (i = j))
 | .d (.bl i),.d (.bl j)=>some (decide (i = j))
 | .d .non,.d .non=>some true
 | .d (.str _),.d .non=>some false
 | .d .non,.d (.str _)=>some false
 | .d (.int _),.d .non=>some false
 | .d .non,.d (.int _)=>some false
 | a,b=>match asP st a,asP st b with
  | some p,some q=>if SeqAt.shaped p = true ∧ SeqAt.shaped q = true then some (PyData.eqv p q) else none
  | _,_=>none
noncomputable def oEq : P2:=fun a b st=>(eqB st a b).map fun k=>.d (.bl k)
noncomputable def oNe : P2:=fun a b st=>(eqB st a b).map fun k=>.d (.bl (!k))
noncomputable def oIsN : P2:=fun a b _=>match a,b with
 | .d .non,.d .non=>some (.d (.bl true))
 | _,.d .non=>some (.d (.bl false))
 | _,_=>none
noncomputable def oNotN : P2:=fun a b _=>match a,b with
 | .d .non,.d .non=>some (.d (.bl false))
 | _,.d .non=>some (.d (.bl true))
 | _,_=>none
/-- flat data -/
noncomputable def flatD : D → Option PyData
 | .non=>some .none
 | .bl b=>some (.bool b)
 | .int i=>some (.int i)
 | .str x=>some (.str x)
 | _=>none
noncomputable def inB (st : Store) (a b : U) : Option Bool:=match a,b with
 | .d (.str x),.d (.str y)=>some (!(Builtin.Str.occurrences y x 0 y.length 1).isEmpty)
 | .d x,.d (.tup ds)=>match flatD x,allM flatD ds with
  | some p,some qs=>some (qs.any fun q=>PyData.eqv q p)
  | _,_=>none
 | a,b=>match asP st a,asP st b with
  | some p,some (.list qs)=>if SeqAt.shaped p = true ∧ SeqAt.shaped (.list qs) = true then some (qs.any fun q=>PyData.eqv q p) else none
  | _,_=>none
noncomputable def oIn : P2:=fun a b st=>(inB st a b).map fun k=>.d (.bl k)
noncomputable def oNotIn : P2:=fun a b st=>(inB st a b).map fun k=>.d (.bl (!k))
section
variable {X : Cx}
theorem pv_flat {K : PySem.W.Frag} {m : List Addr} {st : Store} {H : Hp} {Q : VK} {u : U} {v : V} (r : Rep K m st H) (p : PV K m st H Q (some u)) (h : RpU K m H u v) : Q v H:=p v H h r (Ext.refl _ _)
theorem opg_i {f : Value → Value → Sem Value} {g : P2} {C : Int → Int → Prop} {z : Int → Int → D} (rule : ∀ (pins : List (Addr × Obj)) (s : Shared) (σ : L2.St) (H : Hp) (i j : Int) (v u : Value) (Q : VK),Inv X pins σ H s → RelV (.int i) v → RelV (.int j) u → C i j → (∀ w,RpD X.K [] H (z i j) w → Q w H) →
  wpAny (model X.prog X.w) X.A (f v u) (EP X pins σ Q) X.xe s) (hz : ∀ i j m H w,RpD X.K [] H (z i j) w → RpD X.K m H (z i j) w)
  (hg : ∀ a b st u,g a b st = some u → ∃ i j,a = .d (.int i) ∧ b = .d (.int j) ∧ C i j ∧ u = .d (z i j)) : OpR X f (rG X.K g):=by
 intro pins s σ H x y v u Q I rx ry h
 obtain ⟨m,st,a,b,r,ha,hb,p⟩:=h
 cases e : g a b st with
 | none=>rw [e] at p; exact p.elim
 | some c =>
  rw [e] at p
  obtain ⟨i,j,rfl,rfl,hc,rfl⟩:=hg a b st c e
  obtain rfl : x = .int i:=ha
  obtain rfl : y = .int j:=hb
  exact rule pins s σ H i j v u Q I rx ry hc fun w hw=>pv_flat r p (hz i j m H w hw)
theorem op_sub' : OpR X (binaryOp .Sub) (rG X.K oSub):=opg_i (C:=fun _ _=>True) (z:=fun i j=>.int (i - j))
 (fun pins s σ H i j v u Q I rx ry _ q=>op_sub pins s σ H _ _ v u Q I rx ry ⟨i,j,rfl,rfl,q _ rfl⟩) (fun _ _ _ _ _ h=>h) fun a b st u e=>by
  unfold oSub at e
  split at e
  ·cases e; exact ⟨_,_,rfl,rfl,trivial,rfl⟩
  ·cases e
theorem op_mul' : OpR X (binaryOp .Mult) (rG X.K oMul):=opg_i (C:=CMul) (z:=fun i j=>.int (i * j))
 (fun pins s σ H i j v u Q I rx ry c q=>op_mul pins s σ H _ _ v u Q I rx ry ⟨i,j,rfl,rfl,c,q _ rfl⟩) (fun _ _ _ _ _ h=>h) fun a b st u e=>by
  unfold oMul at e
  split at e
  ·split at e
   ·rename_i h; cases e; exact ⟨_,_,rfl,rfl,h,rfl⟩
   ·cases e
  ·cases e
theorem op_fdiv' : OpR X (binaryOp .FloorDiv) (rG X.K oFdiv):=opg_i (C:=CDiv) (z:=fun i j=>.int (i / j))
 (fun pins s σ H i j v u Q I rx ry c q=>op_fdiv pins s σ H _ _ v u Q I rx ry ⟨i,j,rfl,rfl,c,q _ rfl⟩) (fun _ _ _ _ _ h=>h) fun a b st u e=>by
  unfold oFdiv at e
  split at e
  ·split at e
   ·rename_i h; cases e; exact ⟨_,_,rfl,rfl,h,rfl⟩
   ·cases e
  ·cases e
theorem op_mod' : OpR X (binaryOp .Mod) (rG X.K oMod):=opg_i (C:=fun _ j=>0 < j) (z:=fun i j=>.int (i % j))
 (fun pins s σ H i j v u Q I rx ry c q=>op_mod pins s σ H _ _ v u Q I rx ry ⟨i,j,rfl,rfl,c,q _ rfl⟩) (fun _ _ _ _ _ h=>h) fun a b st u e=>by
  unfold oMod at e
  split at e
  ·split at e
   ·rename_i h; cases e; exact ⟨_,_,rfl,rfl,h,rfl⟩
   ·cases e
  ·cases e
theorem op_pow' : OpR X (binaryOp .Pow) (rG X.K oPow):=opg_i (C:=CPow) (z:=fun i j=>.int (i ^ j.toNat))
 (fun pins s σ H i j v u Q I rx ry c q=>op_pow pins s σ H _ _ v u Q I rx ry ⟨i,j,rfl,rfl,c,q _ rfl⟩) (fun _ _ _ _ _ h=>h) fun a b st u e=>by
  unfold oPow at e
  split at e
  ·split at e
   ·rename_i h; cases e; exact ⟨_,_,rfl,rfl,h,rfl⟩
   ·cases e
  ·cases e
theorem op_lt' : OpR X (compareOp .Lt) (rG X.K oLt):=opg_i (C:=fun _ _=>True) (z:=fun i j=>.bl (decide (i < j)))
 (fun pins s σ H i j v u Q I rx ry _ q=>op_lt pins s σ H _ _ v u Q I rx ry ⟨i,j,rfl,rfl,q _ rfl⟩) (fun _ _ _ _ _ h=>h) fun a b st u e=>by
  unfold oLt at e
  split at e
  ·cases e; exact ⟨_,_,rfl,rfl,trivial,rfl⟩
  ·cases e
theorem op_le' : OpR X (compareOp .LtE) (rG X.K oLe):=opg_i (C:=fun _ _=>True) (z:=fun i j=>.bl (decide (i ≤ j)))
 (fun pins s σ H i j v u Q I rx ry _ q=>op_le pins s σ H _ _ v u Q I rx ry ⟨i,j,rfl,rfl,q _ rfl⟩) (fun _ _ _ _ _ h=>h) fun a b st u e=>by
  unfold oLe at e
  split at e
  ·cases e; exact ⟨_,_,rfl,rfl,trivial,rfl⟩
  ·cases e
theorem op_gt' : OpR X (compareOp .Gt) (rG X.K oGt):=opg_i (C:=fun _ _=>True) (z:=fun i j=>.bl (decide (j < i)))
 (fun pins s σ H i j v u Q I rx ry _ q=>op_gt pins s σ H _ _ v u Q I rx ry ⟨i,j,rfl,rfl,q _ rfl⟩) (fun _ _ _ _ _ h=>h) fun a b st u e=>by
  unfold oGt at e
  split at e
  ·cases e; exact ⟨_,_,rfl,rfl,trivial,rfl⟩
  ·cases e
theorem op_ge' : OpR X (compareOp .GtE) (rG X.K oGe):=opg_i (C:=fun _ _=>True) (z:=fun i j=>.bl (decide (j ≤ i)))
 (fun pins s σ H i j v u Q I rx ry _ q=>op_ge pins s σ H _ _ v u Q I rx ry ⟨i,j,rfl,rfl,q _ rfl⟩) (fun _ _ _ _ _ h=>h) fun a b st u e=>by
  unfold oGe at e
  split at e
  ·cases e; exact ⟨_,_,rfl,rfl,trivial,rfl⟩
  ·cases e
theorem un_neg' : UnR X (unaryOp .USub) (rG1 X.K oNeg):=by
 intro pins s σ H x v Q I rx h
 obtain ⟨m,st,a,r,ha,p⟩:=h
 unfold oNeg at p
 split at p
 ·rename_i i
  obtain rfl : x = .int i:=ha
  exact un_neg pins s σ H _ v Q I rx ⟨i,rfl,pv_flat r p rfl⟩
 ·exact p.elim
theorem op_add' : OpR X (binaryOp .Add) (rG X.K oAdd):=by
 intro pins s σ H x y v u Q I rx ry h
 obtain ⟨m,st,a,b,r,ha,hb,p⟩:=h
 unfold oAdd at p
 split at p
 ·rename_i i j
  obtain rfl : x = .int i:=ha
  obtain rfl : y = .int j:=hb
  exact op_add pins s σ H _ _ v u Q I rx ry ⟨i,j,rfl,rfl,pv_flat r p rfl⟩
 ·rename_i i j
  obtain rfl : x = .str i:=ha
  obtain rfl : y = .str j:=hb
  split at p
  ·rename_i hz
   exact op_add_str pins s σ H _ _ v u Q I rx ry ⟨i,j,rfl,rfl,hz,pv_flat r p rfl⟩
  ·exact p.elim
 ·rename_i xs ys
  split at p
  ·rename_i hz
   obtain ⟨a,vs,rfl,ta,ra⟩:=ha
   obtain ⟨b,ws,rfl,tb,rb⟩:=hb
   have l1:=ra.length
   have l2:=rb.length
   refine op_catA pins s σ H _ _ v u Q I rx ry ⟨a,b,vs,ws,rfl,rfl,ta.sq,tb.sq,by omega,fun e=>?_,fun _ e=>?_,fun _ _ q hq=>?_⟩
   ·subst e
    have : xs = []:=List.length_eq_zero_iff.mp (by simpa using l1.symm)
    subst this
    exact pv_flat r p ⟨b,ws,rfl,tb,rb⟩
   ·subst e
    have : ys = []:=List.length_eq_zero_iff.mp (by simpa using l2.symm)
    subst this
    exact pv_flat r p ⟨a,vs,rfl,ta,by rw [List.append_nil]; exact ra⟩
   ·exact p _ _ (new_tup r hq (ra.append rb)) (r.new hq _) (ext_new r hq _)
  ·exact p.elim
 ·rename_i xs ys
  split at p
  ·rename_i hz
   obtain ⟨a,vs,rfl,ta,ra⟩:=ha
   obtain ⟨b,ws,rfl,tb,rb⟩:=hb
   have l1:=ra.length
   have l2:=rb.length
   exact op_cat pins s σ H _ _ v u Q I rx ry ⟨a,b,vs,ws,rfl,rfl,ta.2,tb.2,by omega,fun q hq=>p _ _ (new_lst r hq (ra.append rb)) (r.new hq _) (ext_new r hq _)⟩
  ·exact p.elim
 ·exact p.elim
theorem eqB_ok {f : Value → Value → Sem Value} {z : Bool → Bool} (hs : OpR X f (fun x y H Q=>scal x y = true ∧ Q (.bl (z (decide (x = y)))) H))
  (hd : OpR X f (fun x y H Q=>∃ d e,Dp X.K H x d ∧ Dp X.K H y e ∧ SeqAt.shaped d = true ∧ SeqAt.shaped e = true ∧ Q (.bl (z (PyData.eqv d e))) H)) :
  OpR X f (rG X.K fun a b st=>(eqB st a b).map fun k=>.d (.bl (z k))):=by
 intro pins s σ H x y v u Q I rx ry h
 obtain ⟨m,st,a,b,r,ha,hb,p⟩:=h
 replace p : PV X.K m st H Q ((eqB st a b).map fun k=>.d (.bl (z k))):=p
 have sc : ∀ {k : Bool},PV X.K m st H Q (some (.d (.bl (z k)))) → scal x y = true → decide (x = y) = k → wpAny (model X.prog X.w) X.A (f v u) (EP X pins σ Q) X.xe s:=fun {k} p h1 h2 =>
  hs pins s σ H x y v u Q I rx ry ⟨h1,by rw [h2]; exact pv_flat r p rfl⟩
 cases e : eqB st a b with
 | none=>rw [e] at p; exact p.elim
 | some k =>
  rw [e] at p
  have p' : PV X.K m st H Q (some (.d (.bl (z k)))):=p
  unfold eqB at e
  split at e
  ·cases ha; cases hb; cases e; exact sc p' rfl (by simp)
  ·cases ha; cases hb; cases e; exact sc p' rfl (by simp)
  ·cases ha; cases hb; cases e; exact sc p' rfl (by simp)
  ·cases ha; cases hb; cases e; exact sc p' rfl (by simp)
  ·cases ha; cases hb; cases e; exact sc p' rfl (by simp)
  ·cases ha; cases hb; cases e; exact sc p' rfl (by simp)
  ·cases ha; cases hb; cases e; exact sc p' rfl (by simp)
  ·cases ha; cases hb; cases e; exact sc p' rfl (by simp)
  ·split at e
   ·rename_i q1 q2
    split at e
    ·rename_i hsh
     cases e
     exact hd pins s σ H x y v u Q I rx ry ⟨_,_,asP_dp r ha q1,asP_dp r hb q2,hsh.1,hsh.2,pv_flat r p' rfl⟩
    ·cases e
   ·cases e
theorem op_eq' (hu : X.A.units + 64 < cLine) : OpR X (compareOp .Eq) (rG X.K oEq):=eqB_ok (z:=fun k=>k) op_eq (op_eqD hu)
theorem op_ne' (hu : X.A.units + 64 < cLine) : OpR X (compareOp .NotEq) (rG X.K oNe):=eqB_ok (z:=fun k=>!k) op_ne (op_neD hu)
theorem op_isN' : OpR X (compareOp .Is) (rG X.K oIsN):=by
 intro pins s σ H x y v u Q I rx ry h
 obtain ⟨m,st,a,b,r,ha,hb,p⟩:=h
 unfold oIsN at p
 split at p
 ·cases ha; cases hb
  exact op_isN pins s σ H _ _ v u Q I rx ry ⟨rfl,pv_flat r p rfl⟩
 ·rename_i hn
  cases hb
  refine op_isN pins s σ H _ _ v u Q I rx ry ⟨rfl,?_⟩
  have : decide (x = .non) = false:=decide_eq_false fun e=>by
   subst e
   cases a with
   | ref n=>obtain ⟨_,_,z⟩:=ha; cases z
   | d w=>cases w <;> first | exact hn rfl | (obtain ⟨_,z,_⟩:=ha; cases z; done) | (obtain ⟨_,_,z,_⟩:=ha; cases z; done) | (obtain ⟨_,_,_,z,_⟩:=ha; cases z; done) | (cases ha; done) | (cases ha.1; done)
  rw [this]
  exact pv_flat r p rfl
 ·exact p.elim
theorem op_notN' : OpR X (compareOp .IsNot) (rG X.K oNotN):=by
 intro pins s σ H x y v u Q I rx ry h
 obtain ⟨m,st,a,b,r,ha,hb,p⟩:=h
 unfold oNotN at p
 split at p
 ·cases ha; cases hb
  exact op_notN pins s σ H _ _ v u Q I rx ry ⟨rfl,pv_flat r p rfl⟩
 ·rename_i hn
  cases hb
  refine op_notN pins s σ H _ _ v u Q I rx ry ⟨rfl,?_⟩
  have : decide (x = .non) = false:=decide_eq_false fun e=>by
   subst e
   cases a with
   | ref n=>obtain ⟨_,_,z⟩:=ha; cases z
   | d w=>cases w <;> first | exact hn rfl | (obtain ⟨_,z,_⟩:=ha; cases z; done) | (obtain ⟨_,_,z,_⟩:=ha; cases z; done) | (obtain ⟨_,_,_,z,_⟩:=ha; cases z; done) | (cases ha; done) | (cases ha.1; done)
  rw [this]
  exact pv_flat r p rfl
 ·exact p.elim
theorem eqV_flat {K : PySem.W.Frag} {m : List Addr} {H : Hp} {d e : D} {x y : V} {p q : PyData} (h1 : RpD K m H d x) (h2 : RpD K m H e y) (e1 : flatD d = some p) (e2 : flatD e = some q) : eqV x y = PyData.eqv p q ∧ flatV x = true:=by
 cases d <;> first | (cases e1; done) | skip
 all_goals (cases e <;> first | (cases e2; done) | skip)
 all_goals (cases h1; cases h2; cases e1; cases e2; exact ⟨rfl,rfl⟩)
theorem allM_flat {K : PySem.W.Frag} {m : List Addr} {H : Hp} {d : D} {x : V} {p : PyData} (h1 : RpD K m H d x) (e1 : flatD d = some p) : ∀ {ds : List D} {vs : List V} {qs : List PyData},RpDs K m H ds vs → allM flatD ds = some qs → inV x vs = qs.any (fun q=>PyData.eqv q p) ∧ vs.all flatV = true
 | [],_,_,h,e=>by cases h; cases e; exact ⟨rfl,rfl⟩
 | d' :: ds,_,qs,⟨v,r,ev,g1,g2⟩,e=>by
  unfold allM at e
  cases q1 : flatD d' with
  | none=>rw [q1] at e; cases e
  | some b =>
   cases q2 : allM flatD ds with
   | none=>rw [q1,q2] at e; cases e
   | some bs =>
    rw [q1,q2] at e; cases e
    subst ev
    obtain ⟨i1,i2⟩:=allM_flat h1 e1 g2 q2
    obtain ⟨j1,j2⟩:=eqV_flat g1 h1 q1 e1
    refine ⟨?_,by rw [List.all_cons,j2,i2]; rfl⟩
    unfold inV at i1 ⊢
    rw [List.any_cons,List.any_cons,i1,j1]
theorem inB_ok {op : CmpOp} {z : Bool → Bool} (hs : OpR X (compareOp op) (fun x y H Q=>∃ i j,x = .str i ∧ y = .str j ∧ Q (.bl (z (!(Builtin.Str.occurrences j i 0 j.length 1).isEmpty))) H))
  (hf : OpR X (compareOp op) (fun x y H Q=>∃ p xs,y = .ref p ∧ (SqL X.K H p xs ∨ SqT X.K H p xs) ∧ flatV x = true ∧ xs.all flatV = true ∧ Q (.bl (z (inV x xs))) H))
  (hd : OpR X (compareOp op) (fun x y H Q=>∃ d ds,Dp X.K H x d ∧ Dp X.K H y (.list ds) ∧ SeqAt.shaped d = true ∧ SeqAt.shaped (.list ds) = true ∧ Q (.bl (z (ds.any fun q=>PyData.eqv q d))) H)) :
  OpR X (compareOp op) (rG X.K fun a b st=>(inB st a b).map fun k=>.d (.bl (z k))):=by
 intro pins s σ H x y v u Q I rx ry h
 obtain ⟨m,st,a,b,r,ha,hb,p⟩:=h
 replace p : PV X.K m st H Q ((inB st a b).map fun k=>.d (.bl (z k))):=p
 cases e : inB st a b with
 | none=>rw [e] at p; exact p.elim
 | some k =>
  rw [e] at p
  have p' : PV X.K m st H Q (some (.d (.bl (z k)))):=p
  unfold inB at e
  split at e
  ·cases ha; cases hb; cases e; exact hs pins s σ H _ _ v u Q I rx ry ⟨_,_,rfl,rfl,pv_flat r p' rfl⟩
  ·split at e
   ·rename_i q1 q2
    cases e
    obtain ⟨b,ws,rfl,tb,rb⟩:=hb
    obtain ⟨i1,i2⟩:=allM_flat ha q1 rb q2
    exact hf pins s σ H _ _ v u Q I rx ry ⟨b,ws,rfl,.inr tb.sq,(eqV_flat ha ha q1 q1).2,i2,by rw [i1]; exact pv_flat r p' rfl⟩
   ·cases e
  ·split at e
   ·rename_i q1 q2
    split at e
    ·rename_i hsh
     cases e
     exact hd pins s σ H x y v u Q I rx ry ⟨_,_,asP_dp r ha q1,asP_dp r hb q2,hsh.1,hsh.2,pv_flat r p' rfl⟩
    ·cases e
   ·cases e
theorem op_in' (hu : X.A.units + 65 < cLine) : OpR X (compareOp .In) (rG X.K oIn):=inB_ok (z:=fun k=>k) op_in_str op_in_seq (op_inD hu)
theorem op_notIn' (hu : X.A.units + 65 < cLine) : OpR X (compareOp .NotIn) (rG X.K oNotIn):=inB_ok (z:=fun k=>!k) op_notin_str op_notIn_seq (op_notInD hu)
noncomputable def truB (st : Store) : U → Option Bool
 | .d .non=>some false
 | .d (.bl b)=>some b
 | .d (.int i)=>some (i != 0)
 | .d (.str x)=>if x.length ≤ sizeLine then some ((x.length : Int) != 0) else none
 | .d (.tup ds)=>some (!ds.isEmpty)
 | .d (.lst ds)=>some (!ds.isEmpty)
 | .d (.scr ns)=>some (!ns.isEmpty)
 | .ref n=>match st[n]? with
  | some (.lst us)=>some (!us.isEmpty)
  | some (.dct us)=>some (!us.isEmpty)
  | _=>none
 | _=>none
end
section
variable {K : PySem.W.Frag} {m : List Addr} {H : Hp} {st : Store}
theorem RpUs.isEmpty {us : List U} {vs : List V} (h : RpUs K m H us vs) : vs.isEmpty = us.isEmpty:=by
 cases us with
 | nil=>rw [show vs = [] from h]; rfl
 | cons u us=>obtain ⟨v,r,e,_⟩:=h; rw [e]; rfl
theorem RpDs.isEmpty {us : List D} {vs : List V} (h : RpDs K m H us vs) : vs.isEmpty = us.isEmpty:=by
 cases us with
 | nil=>rw [show vs = [] from h]; rfl
 | cons u us=>obtain ⟨v,r,e,_⟩:=h; rw [e]; rfl
theorem RpUK.isEmpty {us : List (Key × U)} {vs : List (Key × V)} (h : RpUK K m H us vs) : vs.isEmpty = us.isEmpty:=by
 cases us with
 | nil=>rw [show vs = [] from h]; rfl
 | cons u us=>obtain ⟨v,r,e,_⟩:=h; rw [e]; rfl
theorem truB_ok (r : Rep K m st H) {u : U} {v : V} {k : Bool} (h : RpU K m H u v) (e : truB st u = some k) : TruV K v H k:=by
 cases u with
 | ref n =>
  obtain ⟨a,ha,rfl⟩:=h
  simp only [truB] at e
  split at e
  ·rename_i us hs
   obtain ⟨ho,h1,vs,e2,h2⟩:=r.cell n _ a hs ha
   subst e2
   cases e
   exact .inl ⟨vs,.inl (.inl h1),by rw [h2.isEmpty]⟩
  ·rename_i us hs
   obtain ⟨ho,h1,vs,e2,h2⟩:=r.cell n _ a hs ha
   subst e2
   cases e
   exact .inr (.inr ⟨vs,h1,by rw [h2.isEmpty]⟩)
  ·cases e
 | d x =>
  cases x with
  | non=>cases h; cases e; rfl
  | bl b=>cases h; cases e; rfl
  | int i=>cases h; cases e; rfl
  | str x =>
   cases h
   simp only [truB] at e
   split at e
   ·rename_i hz; cases e; exact ⟨hz,rfl⟩
   ·cases e
  | tup ds =>
   obtain ⟨a,vs,rfl,t,q⟩:=h
   cases e
   exact .inr (.inl ⟨vs,t.sq,by rw [q.isEmpty]⟩)
  | lst ds =>
   obtain ⟨a,vs,rfl,t,q⟩:=h
   cases e
   exact .inl ⟨vs,t.sq,by rw [q.isEmpty]⟩
  | scr ns =>
   obtain ⟨a,rfl,t⟩:=h
   cases e
   exact .inl ⟨_,t.sq,by cases ns <;> rfl⟩
  | _=>cases e
end
/-- a value as a test -/
noncomputable def asT (f : F U) : F Bool:=bnd f fun u=>fun _ st=>.of st (truB st u)
noncomputable def fNot (f : F U) : F U:=bnd f fun u=>fun _ st=>.of st ((truB st u).map fun k=>.d (.bl (!k)))
noncomputable def fIf (c : F Bool) (a b : F U) : F U:=bnd c fun k=>if k = true then a else b
noncomputable def fAnd (a b : F U) : F U:=bnd a fun x=>fun env st=>match x with
 | .d (.bl true)=>b env st
 | .d (.bl false)=>.ok (.d (.bl false)) st
 | _=>.bad
noncomputable def fOr (a b : F U) : F U:=bnd a fun x=>fun env st=>match x with
 | .d (.bl true)=>.ok (.d (.bl true)) st
 | .d (.bl false)=>b env st
 | _=>.bad
noncomputable def bNot (f : F Bool) : F Bool:=bnd f fun k=>fun _ st=>.ok (!k) st
noncomputable def bAnd (a b : F Bool) : F Bool:=bnd a fun k=>if k = true then b else fPure false
noncomputable def bOr (a b : F Bool) : F Bool:=bnd a fun k=>if k = true then fPure true else b
section
variable {X : Cx} {W : WX} {a b c : Expr} {rest : List Expr} {fa fb fc : F U} {ba bb bc : F Bool} {pos : Pos}
theorem t_asT {f : F U} {σ : L2.St} {H : Hp} {Q : Bool → Hp → Prop} (h : tFB X.K W (asT f) σ H Q) : tF X.K W f σ H (fun x H'=>∃ k,TruV X.K x H' k ∧ Q k H'):=by
 obtain ⟨m,env,st,r,re,p⟩:=h
 refine tF_step r re p fun a st1 v m1 H1 h1 r1 re1 e1 p1=>?_
 cases e : truB st1 a with
 | none=>rw [e] at p1; exact False.elim p1
 | some k=>rw [e] at p1; exact ⟨k,truB_ok r1 h1 e,PO'.imp' p1 r1⟩
theorem dt_truth (ha : DE X W a fa) (he : ∀ whole,isTrue a X.env whole = (do let v ← whole; standAt a.pos; holding [v] (truthy v)):=by intro _; rfl) : DT X W a (asT fa) :=
 ⟨PT.imp (pt_truth ha.pe he) fun _ _ _ h=>t_asT h⟩
theorem d_not (ha : DE X W a fa) : DE X W (.UnaryOp .Not a pos) (fNot fa):=⟨PE.imp (pe_notT ha.pe) fun σ H Q ⟨m,env,st,r,re,p⟩ =>
 tF_step r re p fun a st1 v m1 H1 h1 r1 re1 e1 p1=>by
  cases e : truB st1 a with
  | none=>rw [e] at p1; exact False.elim p1
  | some k=>rw [e] at p1; exact ⟨k,truB_ok r1 h1 e,p1 _ m1 H1 rfl r1 (Ext.refl _ _)⟩⟩
theorem d_if (hc : DT X W c bc) (ha : DE X W a fa) (hb : DE X W b fb) : DE X W (.IfExp c a b pos) (fIf bc fa fb):=⟨PE.imp (pe_ifExp hc.pt ha.pe hb.pe) fun σ H Q ⟨m,env,st,r,re,p⟩ =>
 tFB_step r re p fun k st1 m1 H1 r1 re1 e1 p1=>by
  cases k with
  | true=>exact iteT ⟨m1,env,st1,r1,re1,p1⟩
  | false=>exact iteF ⟨m1,env,st1,r1,re1,p1⟩⟩
theorem d_one {op : BoolOp} (h : DE X W a fa) : DE X W (.BoolOp op [a] pos) fa:=⟨pe_one h.pe⟩
theorem d_and (ha : DE X W a fa) (hb : DE X W (.BoolOp .And (b :: rest) pos) fb) : DE X W (.BoolOp .And (a :: b :: rest) pos) (fAnd fa fb):=⟨PE.imp (pe_and ha.pe hb.pe) fun σ H Q ⟨m,env,st,r,re,p⟩ =>
 tF_step r re p fun x st1 v m1 H1 h1 r1 re1 e1 p1=>by
  cases x with
  | ref n=>exact False.elim p1
  | d x =>
   cases x with
   | bl k =>
    refine ⟨k,h1,?_⟩
    cases k with
    | true=>exact iteT ⟨m1,env,st1,r1,re1,p1⟩
    | false=>exact iteF (p1 _ m1 H1 rfl r1 (Ext.refl _ _))
   | _=>exact False.elim p1⟩
theorem d_or (ha : DE X W a fa) (hb : DE X W (.BoolOp .Or (b :: rest) pos) fb) : DE X W (.BoolOp .Or (a :: b :: rest) pos) (fOr fa fb):=⟨PE.imp (pe_or ha.pe hb.pe) fun σ H Q ⟨m,env,st,r,re,p⟩ =>
 tF_step r re p fun x st1 v m1 H1 h1 r1 re1 e1 p1=>by
  cases x with
  | ref n=>exact False.elim p1
  | d x =>
   cases x with
   | bl k =>
    refine ⟨k,h1,?_⟩
    cases k with
    | true=>exact iteT (p1 _ m1 H1 rfl r1 (Ext.refl _ _))
    | false=>exact iteF ⟨m1,env,st1,r1,re1,p1⟩
   | _=>exact False.elim p1⟩
theorem dt_not (h : DT X W a ba) : DT X W (.UnaryOp .Not a pos) (bNot ba):=⟨PT.imp (pt_not h.pt) fun σ H Q ⟨m,env,st,r,re,p⟩ =>
 tFB_step r re p fun k st1 m1 H1 r1 re1 e1 p1=>PO'.imp' p1 r1⟩
theorem dw_and1 (h : DT X W a ba) : DW X W (.BoolOp .And [a] pos) ba:=⟨pw_and1 h.pt⟩
theorem dw_or1 (h : DT X W a ba) : DW X W (.BoolOp .Or [a] pos) ba:=⟨pw_or1 h.pt⟩
theorem dw_and (ha : DT X W a ba) (hb : DW X W (.BoolOp .And (b :: rest) pos) bb) : DW X W (.BoolOp .And (a :: b :: rest) pos) (bAnd ba bb):=⟨PW.imp (pw_and ha.pt hb.pw) fun σ H Q ⟨m,env,st,r,re,p⟩ =>
 tFB_step r re p fun k st1 m1 H1 r1 re1 e1 p1=>by
  cases k with
  | true=>exact iteT ⟨m1,env,st1,r1,re1,p1⟩
  | false=>exact iteF (PO'.imp' p1 r1)⟩
theorem dw_or (ha : DT X W a ba) (hb : DW X W (.BoolOp .Or (b :: rest) pos) bb) : DW X W (.BoolOp .Or (a :: b :: rest) pos) (bOr ba bb):=⟨PW.imp (pw_or ha.pt hb.pw) fun σ H Q ⟨m,env,st,r,re,p⟩ =>
 tFB_step r re p fun k st1 m1 H1 r1 re1 e1 p1=>by
  cases k with
  | true=>exact iteT (PO'.imp' p1 r1)
  | false=>exact iteF ⟨m1,env,st1,r1,re1,p1⟩⟩
theorem dw_pt (h : DW X W a ba) : DT X W a ba:=⟨h.pw.pt⟩
theorem t_chain {g g' : P2} {σ : L2.St} {H : Hp} {Q : VK} (hg' : ∀ a b st u,g' a b st = some u → ∃ k,u = .d (.bl k)) {Z : VK} (hZ : ∀ x H,(∃ k,x = .bl k ∧ Q (.bl k) H) → Z x H) (h : tF X.K W (fChain g g' fa fb fc) σ H Q) :
  tChain (rG X.K g) (rG X.K g') (tF X.K W fa) (tF X.K W fb) (tF X.K W fc) σ H Z:=by
 obtain ⟨m,env,st,r,re,p⟩:=h
 refine tF_step r re p fun a st1 v m1 H1 h1 r1 re1 e1 p1=>?_
 refine tF_step r1 re1 p1 fun b st2 w m2 H2 h2 r2 re2 e2 p2=>?_
 refine ⟨m2,st2,a,b,r2,h1.ext e2,h2,?_⟩
 cases e : g a b st2 with
 | none=>rw [e] at p2; exact False.elim p2
 | some u =>
  rw [e] at p2
  intro z H3 hz r3 e3
  cases u with
  | ref n=>exact False.elim p2
  | d x =>
   cases x with
   | bl k =>
    refine ⟨k,hz,?_⟩
    cases k with
    | false=>exact iteF (hZ _ _ ⟨false,rfl,p2 _ m2 H3 rfl r3 e3⟩)
    | true =>
     refine iteT ?_
     refine tF_step r3 (re2.ext e3) (p2.from e3) fun c st4 t m4 H4 h4 r4 re4 e4 p4=>?_
     refine ⟨m4,st4,b,c,r4,h2.ext (e3.trans e4),h4,?_⟩
     cases e' : g' b c st4 with
     | none=>rw [e'] at p4; exact False.elim p4
     | some u =>
      rw [e'] at p4
      intro v5 H5 h5 r5 e5
      obtain ⟨k,rfl⟩:=hg' _ _ _ _ e'
      cases h5
      exact hZ _ _ ⟨k,rfl,p4 _ m4 H5 rfl r5 e5⟩
   | _=>exact False.elim p2
theorem d_chain {op op' : CmpOp} {g g' : P2} (ho : OpR X (compareOp op) (rG X.K g)) (ho' : OpR X (compareOp op') (rG X.K g')) (hg' : ∀ a b st u,g' a b st = some u → ∃ k,u = .d (.bl k)) (ha : DE X W a fa) (hb : DE X W b fb) (hc : DE X W c fc)
  (hm : lastMarks [op,op'] [b,c] = false:=by with_unfolding_all rfl) : DE X W (.Compare a [op,op'] [b,c] pos) (fChain g g' fa fb fc) :=
 ⟨PE.imp (pe_chain ho ho' ha.pe hb.pe hc.pe hm) fun σ H Q h=>t_chain hg' (fun x H ⟨k,e,q⟩=>by rw [e]; exact q) h⟩
theorem bl_le (a b : U) (st : Store) (u : U) (e : oLe a b st = some u) : ∃ k,u = .d (.bl k):=by
 unfold oLe at e; split at e <;> cases e; exact ⟨_,rfl⟩
end
end VL
namespace VL
open PySem PySem.Spec PyProof.Rows L2
noncomputable def fNil : F (List U):=fPure []
noncomputable def fCons (f : F U) (g : F (List U)) : F (List U):=bnd f fun u=>bnd g fun us=>fPure (u :: us)
noncomputable def vTup : List U → Store → Option U:=fun us _=>match pureL us with
 | some ds=>if ds.length ≤ sizeLine then some (.d (.tup ds)) else none
 | none=>none
noncomputable def vLst : List U → Store → Option U:=fun us _=>match pureL us with
 | some ds=>if ds.length ≤ sizeLine then some (.d (.lst ds)) else none
 | none=>none
noncomputable def fN (g : List U → Store → Option U) (f : F (List U)) : F U:=bnd f fun us=>fun _ st=>.of st (g us st)
/-- a display that is a cell -/
noncomputable def fLstC (f : F (List U)) : F U:=bnd f fun us=>fun _ st=>if us.length ≤ sizeLine then .ok (.ref st.length) (st ++ [.lst us]) else .bad
section
variable {X : Cx} {W : WX} {e : Expr} {es : List Expr} {fe : F U} {fs : F (List U)} {pos : Pos}
theorem da_nil : DA X W [] fNil:=⟨PA.imp pa_nil fun σ H Q ⟨m,env,st,r,re,p⟩=>p [] m H rfl r (Ext.refl _ _)⟩
theorem da_cons (he : DE X W e fe) (hs : DA X W es fs) (hst : starEach (e :: es) X.env = (false,eval e X.env) :: starEach es X.env:=by rfl) : DA X W (e :: es) (fCons fe fs) :=
 ⟨PA.imp (pa_cons he.pe hs.pa hst) fun σ H Q ⟨m,env,st,r,re,p⟩=>tF_step r re p fun u st1 v m1 H1 h1 r1 re1 e1 p1=>tFs_step r1 re1 p1 fun us st2 vs m2 H2 h2 r2 re2 e2 p2 =>
  p2 (v :: vs) m2 H2 ⟨v,vs,rfl,h1.ext e2,h2⟩ r2 (Ext.refl _ _)⟩
/-- a tuple,of data or of cells -/
noncomputable def fTup (f : F (List U)) : F U:=bnd f fun us=>fun _ st=>match pureL us with
 | some ds=>if ds.length ≤ sizeLine then .ok (.d (.tup ds)) st else .bad
 | none=>if us.length ≤ sizeLine then .ok (.ref st.length) (st ++ [.tup us]) else .bad
theorem d_tupC {k : Nat} (h : DA X W es fs) : DE X W (.Tuple es k pos) (fTup fs):=⟨PE.imp (pe_tup h.pa) fun σ H Q ⟨m,env,st,r,re,p⟩=>tFs_step r re p fun us st1 vs m1 H1 h1 r1 re1 e1 p1=>by
 split at p1
 ·rename_i ds hd
  split at p1
  ·rename_i hz
   have hr:=pureL_rp h1 hd
   exact ⟨by rw [hr.length]; exact hz,fun q hq=>p1 _ m1 _ (new_tup r1 hq hr) (r1.new hq _) (ext_new r1 hq _)⟩
  ·exact False.elim p1
 ·split at p1
  ·rename_i hz
   exact ⟨by rw [h1.length]; exact hz,fun q hq=>p1 _ (m1 ++ [q]) _ ⟨q,by rw [← r1.len]; simp,rfl⟩ (r1.push hq ⟨vs,rfl,h1.ext (ext_push r1 hq _)⟩) (ext_push r1 hq _)⟩
  ·exact False.elim p1⟩
theorem d_lst (h : DA X W es fs) : DE X W (.List es pos) (fN vLst fs):=⟨PE.imp (pe_lst h.pa) fun σ H Q ⟨m,env,st,r,re,p⟩=>tFs_step r re p fun us st1 vs m1 H1 h1 r1 re1 e1 p1=>by
 cases e : vLst us st1 with
 | none=>rw [e] at p1; exact False.elim p1
 | some u =>
  rw [e] at p1
  unfold vLst at e
  split at e
  ·rename_i ds hd
   split at e
   ·rename_i hz
    cases e
    have hr:=pureL_rp h1 hd
    exact ⟨by rw [hr.length]; exact hz,fun q hq=>p1 _ m1 _ (new_lst r1 hq hr) (r1.new hq _) (ext_new r1 hq _)⟩
   ·cases e
  ·cases e⟩
theorem push_lst {K : PySem.W.Frag} {m : List Addr} {H : Hp} {st : Store} (r : Rep K m st H) {p : Addr} (np : H p = none) {us : List U} {vs : List V} (h : RpUs K m H us vs) :
  RpU K (m ++ [p]) (upd H p (.lst vs)) (.ref st.length) (.ref p) ∧ Rep K (m ++ [p]) (st ++ [.lst us]) (upd H p (.lst vs)) :=
 ⟨⟨p,by rw [← r.len]; simp,rfl⟩,r.push np ⟨vs,rfl,h.ext (ext_push r np _)⟩⟩
theorem d_lstC (h : DA X W es fs) : DE X W (.List es pos) (fLstC fs):=⟨PE.imp (pe_lst h.pa) fun σ H Q ⟨m,env,st,r,re,p⟩=>tFs_step r re p fun us st1 vs m1 H1 h1 r1 re1 e1 p1=>by
 split at p1
 ·rename_i hz
  refine ⟨by rw [h1.length]; exact hz,fun q hq=>?_⟩
  obtain ⟨g1,g2⟩:=push_lst r1 hq h1
  exact p1 _ _ _ g1 g2 (ext_push r1 hq _)
 ·exact False.elim p1⟩
end
noncomputable def keyD : U → Option Key
 | .d (.int i)=>some (.inl i)
 | .d (.str x)=>some (.inr x)
 | _=>none
noncomputable def lookK {α : Type} (kvs : List (Key × α)) (k : Key) : Option α:=(kvs.find? fun kv=>decide (kv.1 = k)).map (·.2)
/-- a dict's pairs -/
noncomputable def getD (st : Store) : U → Option (List (Key × U))
 | .d (.dct kvs)=>some (kvs.map fun kv=>(kv.1,.d kv.2))
 | .ref n=>match st[n]? with
  | some (.dct us)=>some us
  | some (.lck us)=>some us
  | _=>none
 | _=>none
noncomputable def oIx : P2:=fun a b st=>match getD st a with
 | some kvs=>match keyD b with
  | some k=>lookK kvs k
  | none=>none
 | none=>match b with
  | .d (.int i)=>match getL st a with
   | some us=>atI us i
   | none=>match a with
    | .d (.tup ds)=>(atI ds i).map .d
    | .d (.str z)=>if z.length ≤ sizeLine then (atI z.cps.toList i).map fun c=>.d (.str ⟨#[c]⟩) else none
    | _=>none
  | _=>none
section
variable {K : PySem.W.Frag} {m : List Addr} {H : Hp} {st : Store}
theorem RpUK.ofD : ∀ {ds : List (Key × D)} {vs : List (Key × V)},RpK K m H ds vs → RpUK K m H (ds.map fun kv=>(kv.1,.d kv.2)) vs
 | [],_,h=>h
 | (k,d) :: ds,_,⟨v,r,e,h1,h2⟩=>⟨v,r,e,h1,RpUK.ofD h2⟩
theorem RpUK.toD : ∀ {ds : List (Key × D)} {vs : List (Key × V)},RpUK K m H (ds.map fun kv=>(kv.1,.d kv.2)) vs → RpK K m H ds vs
 | [],_,h=>h
 | (k,d) :: ds,_,⟨v,r,e,h1,h2⟩=>⟨v,r,e,h1,RpUK.toD h2⟩
theorem getD_rp (r : Rep K m st H) : ∀ {u : U} {v : V} {us : List (Key × U)},RpU K m H u v → getD st u = some us → ∃ a vs,v = .ref a ∧ Rd H a (.dK vs) ∧ RpUK K m H us vs
 | .d (.dct ds),v,us,⟨a,vs,e,h1,h2⟩,q=>by
  cases q
  exact ⟨a,vs,e,h1.2,RpUK.ofD h2⟩
 | .ref n,v,us,⟨a,ha,e⟩,q=>by
  simp only [getD] at q
  split at q
  ·rename_i zs hs
   cases q
   obtain ⟨ho,h1,vs,e2,h2⟩:=r.cell n _ a hs ha
   rw [e2] at h1
   exact ⟨a,vs,e,.inl h1,h2⟩
  ·rename_i zs hs
   cases q
   obtain ⟨ho,h1,ob,vs,e2,h2⟩:=r.cell n _ a hs ha
   rw [e2] at h1
   exact ⟨a,vs,e,.inr ⟨ob,h1⟩,h2⟩
  ·cases q
 | .d .non,_,_,_,q=>by cases q
 | .d (.bl _),_,_,_,q=>by cases q
 | .d (.int _),_,_,_,q=>by cases q
 | .d (.str _),_,_,_,q=>by cases q
 | .d (.ty _),_,_,_,q=>by cases q
 | .d (.obj _),_,_,_,q=>by cases q
 | .d (.tup _),_,_,_,q=>by cases q
 | .d (.lst _),_,_,_,q=>by cases q
 | .d (.scr _),_,_,_,q=>by cases q
 | .d (.ins _ _),_,_,_,q=>by cases q
 | .d (.exc _ _ _ _),_,_,_,q=>by cases q
 | .d (.kdc _ _),_,_,_,q=>by cases q
theorem lookK_rp {k : Key} : ∀ {us : List (Key × U)} {vs : List (Key × V)},RpUK K m H us vs → match lookK us k with | some u=>∃ v,valV vs k = some v ∧ RpU K m H u v | none=>valV vs k = none
 | [],_,h=>by cases h; exact rfl
 | (k',u) :: us,_,⟨v,r,e,h1,h2⟩=>by
  subst e
  have ih:=lookK_rp (k:=k) h2
  unfold lookK valV at ih ⊢
  rw [List.find?_cons,List.find?_cons]
  by_cases e : k' = k
  ·rw [decide_eq_true e]; exact ⟨v,rfl,h1⟩
  ·rw [decide_eq_false e]; exact ih
theorem keyD_rp {u : U} {v : V} {k : Key} (h : RpU K m H u v) (e : keyD u = some k) : v = kV k:=by
 unfold keyD at e
 split at e
 ·cases e; exact h
 ·cases e; exact h
 ·cases e
theorem atI_rp {us : List U} {vs : List V} (h : RpUs K m H us vs) {i : Int} {u : U} (e : atI us i = some u) : ∃ v,atI vs i = some v ∧ RpU K m H u v:=by
 unfold atI at e ⊢
 rw [h.length]
 cases q : ixN us.length i with
 | none=>rw [q] at e; cases e
 | some j =>
  rw [q] at e
  exact h.get e
end
section
variable {X : Cx} {W : WX} {a b : Expr} {fa fb : F U} {pos : Pos}
theorem ix_dict (hu : X.A.units + 1 < cLine) : IxR X (fun x y H Q=>∃ p v,x = .ref p ∧ DGet H p y (some v) ∧ Q v H):=by
 intro value slice pins s σ H x y v u Q I rx ry h hs
 obtain ⟨p,w,rfl,g,q⟩:=h
 cases rx
 exact tail_any (ops:=[.ref p,u]) (dict_typeIs I g) PySem.F.slot_dict_getitem.lookup (d_getItem hu I g ry fun w' s' I' r'=>⟨w,H,I',r',q⟩) hs
theorem ix_ok (hu : X.A.units + 1 < cLine) : IxR X (rG X.K oIx):=by
 intro value slice pins s σ H x y v u Q I rx ry h hs
 obtain ⟨m,st,a,b,r,ha,hb,p⟩:=h
 cases e : oIx a b st with
 | none=>rw [e] at p; exact p.elim
 | some w =>
  rw [e] at p
  unfold oIx at e
  split at e
  ·rename_i kvs hk
   split at e
   ·rename_i k hkk
    obtain ⟨q,vs,rfl,h1,h2⟩:=getD_rp r ha hk
    have l:=lookK_rp (k:=k) h2
    rw [e] at l
    obtain ⟨z,hz,rz⟩:=l
    have hy:=keyD_rp hb hkk
    subst hy
    exact ix_dict hu value slice pins s σ H _ _ v u Q I rx ry ⟨q,z,rfl,.inl ⟨vs,k,h1,rfl,hz.symm⟩,pv_flat r p rz⟩ hs
   ·cases e
  ·split at e
   ·cases hb
    split at e
    ·rename_i us hl
     obtain ⟨q,vs,rfl,h1,h2⟩:=getL_rp r ha hl
     obtain ⟨z,hz,rz⟩:=atI_rp h2 e
     exact ix_list value slice pins s σ H _ _ v u Q I rx ry ⟨q,vs,_,z,rfl,rfl,h1,hz,pv_flat r p rz⟩ hs
    ·split at e
     ·rename_i ds _ _
      obtain ⟨q,vs,rfl,h1,h2⟩:=ha
      cases e2 : atI ds _ with
      | none=>rw [e2] at e; cases e
      | some d0 =>
       rw [e2] at e
       cases e
       obtain ⟨z,hz,rz⟩:=atI_rp (RpUs.ofD h2) (i:=_) (u:=.d d0) (by unfold atI at e2 ⊢; rw [List.length_map]; cases q3 : ixN ds.length _ with | none=>rw [q3] at e2; cases e2 | some j=>rw [q3] at e2; show (List.map U.d ds)[j]? = _; rw [List.getElem?_map]; show Option.map _ _ = _; rw [show ds[j]? = some d0 from e2]; rfl)
       exact ix_tup value slice pins s σ H _ _ v u Q I rx ry ⟨q,vs,_,z,rfl,rfl,h1.sq,hz,pv_flat r p rz⟩ hs
     ·cases ha
      split at e
      ·rename_i hz
       cases e2 : atI (Array.toList _) _ with
       | none=>rw [e2] at e; cases e
       | some c =>
        rw [e2] at e
        cases e
        exact ix_str value slice pins s σ H _ _ v u Q I rx ry ⟨_,_,c,rfl,rfl,hz,e2,pv_flat r p rfl⟩ hs
      ·cases e
     ·cases e
   ·cases e
theorem d_ix (hu : X.A.units + 1 < cLine) (ha : DE X W a fa) (hb : DE X W b fb) (hs : PlainIx b:=by intro _ _; rfl) : DE X W (.Subscript a b pos) (f2 oIx fa fb) :=
 ⟨PE.imp (pe_ix (ix_ok hu) ha.pe hb.pe hs) fun _ _ _ h=>t_op2 h⟩
end
noncomputable def tFO (K : PySem.W.Frag) (W : WX) (f : F (Option Int)) : TO:=fun σ H Q=>∃ m env st,Rep K m st H ∧ RpEnv K m H env σ ∧ PO' K m H (fun _ _ a b=>b = a) Q (fun c d H'=>W c d σ H') (f env st)
theorem tFO_step {K : PySem.W.Frag} {W : WX} {m : List Addr} {env : VEnv} {st : Store} {H : Hp} {σ : L2.St} {γ δ : Type} {rel : List Addr → Hp → γ → δ → Prop} {Q : δ → Hp → Prop} {f : F (Option Int)} {g : Option Int → F γ} {Z : Option Int → Hp → Prop}
  (r : Rep K m st H) (re : RpEnv K m H env σ) (p : PO' K m H rel Q (fun c d H'=>W c d σ H') (bnd f g env st))
  (h : ∀ a st1 m1 H1,Rep K m1 st1 H1 → RpEnv K m1 H1 env σ → Ext m H m1 H1 → PO' K m1 H1 rel Q (fun c d H'=>W c d σ H') (g a env st1) → Z a H1) : tFO K W f σ H Z :=
 ⟨m,env,st,r,re,by
  unfold bnd at p
  cases e : f env st with
  | ok a st1=>rw [e] at p; exact fun v m1 H1 h1 h2 h3=>by subst h1; exact h _ st1 m1 H1 h2 (re.ext h3) h3 (p.from h3)
  | ex c fs st1=>rw [e] at p; exact p
  | bad=>rw [e] at p; exact p.elim⟩
structure DO (X : Cx) (W : WX) (e : Option Expr) (f : F (Option Int)) : Prop where
 po : PO X e (tFO X.K W f)
noncomputable def oNone : F (Option Int):=fPure none
noncomputable def oSome (f : F U) : F (Option Int):=bnd f fun u=>fun _ st=>match u with
 | .d (.int i)=>.ok (some i) st
 | _=>.bad
noncomputable def cutG {α : Type} (xs : List α) (lo hi : Option Int) : List α:=(xs.drop (HT.sIx xs.length 0 lo)).take (HT.sIx xs.length xs.length hi - HT.sIx xs.length 0 lo)
noncomputable def oSl (a : U) (lo hi : Option Int) (st : Store) : Option U:=match a with
 | .d (.str z)=>if z.length ≤ sizeLine then some (.d (.str (cutS z lo hi))) else none
 | .d (.tup ds)=>some (.d (.tup (cutG ds lo hi)))
 | a=>match getL st a with
  | some us=>match pureL (cutG us lo hi) with
   | some ds=>some (.d (.lst ds))
   | none=>none
  | none=>none
noncomputable def fSl (f : F U) (l h : F (Option Int)) : F U:=bnd f fun a=>bnd l fun lo=>bnd h fun hi=>fun _ st=>.of st (oSl a lo hi st)
section
variable {K : PySem.W.Frag} {m : List Addr} {H : Hp} {st : Store}
theorem cut_rp {us : List U} {vs : List V} (h : RpUs K m H us vs) (lo hi : Option Int) : RpUs K m H (cutG us lo hi) (cutV vs lo hi):=by
 unfold cutG cutV
 rw [h.length]
 exact (h.drop _).take _
theorem cutG_map {α β : Type} (f : α → β) (xs : List α) (lo hi : Option Int) : cutG (xs.map f) lo hi = (cutG xs lo hi).map f:=by
 unfold cutG
 rw [List.length_map,List.map_take,List.map_drop]
theorem cutG_whole {α : Type} {xs : List α} {lo hi : Option Int} (h : HT.sIx xs.length 0 lo = 0 ∧ HT.sIx xs.length xs.length hi = xs.length) : cutG xs lo hi = xs:=by
 unfold cutG
 rw [h.1,h.2,List.drop_zero,Nat.sub_zero,List.take_length]
end
section
variable {X : Cx} {W : WX} {a e : Expr} {fa fe : F U} {lo hi : Option Expr} {fl fh : F (Option Int)} {pos p2 : Pos}
theorem do_none : DO X W none oNone:=⟨⟨fun pins s σ H Q I h=>po_none.run pins s σ H Q I (by
 obtain ⟨m,env,st,r,re,p⟩:=h
 exact p none m H rfl r (Ext.refl _ _))⟩⟩
theorem do_some (h : DE X W e fe) : DO X W (some e) (oSome fe):=⟨⟨fun pins s σ H Q I hw=>(po_some h.pe).run pins s σ H Q I (by
 obtain ⟨m,env,st,r,re,p⟩:=hw
 refine tF_step r re p fun u st1 v m1 H1 h1 r1 re1 e1 p1=>?_
 cases u with
 | ref n=>exact False.elim p1
 | d x =>
  cases x with
  | int i=>exact ⟨i,h1,p1 _ m1 H1 rfl r1 (Ext.refl _ _)⟩
  | _=>exact False.elim p1)⟩⟩
theorem sl_ok : SlR X (fun x lo hi H Q=>∃ m st a,Rep X.K m st H ∧ RpU X.K m H a x ∧ PV X.K m st H Q (oSl a lo hi st)):=by
 intro pins s σ H x v vl vu lo hi sl Q I rx hs pl pu h
 obtain ⟨m,st,a,r,ha,p⟩:=h
 cases e : oSl a lo hi st with
 | none=>rw [e] at p; exact p.elim
 | some w =>
  rw [e] at p
  unfold oSl at e
  split at e
  ·cases ha
   split at e
   ·rename_i hz
    cases e
    exact sl_str pins s σ H _ v vl vu lo hi sl Q I rx hs pl pu ⟨_,rfl,hz,pv_flat r p rfl⟩
   ·cases e
  ·rename_i ds
   cases e
   obtain ⟨q,vs,rfl,h1,h2⟩:=ha
   have hl:=h2.length
   refine sl_tupA pins s σ H _ v vl vu lo hi sl Q I rx hs pl pu ⟨q,vs,rfl,h1.sq,fun hw=>?_,fun hw z hz=>?_⟩
   ·rw [hl] at hw
    rw [cutG_whole hw] at p
    exact pv_flat r p ⟨q,vs,rfl,h1,h2⟩
   ·have hc:=cut_rp (RpUs.ofD h2) lo hi
    rw [cutG_map] at hc
    exact p _ _ (new_tup r hz (RpDs.toD hc)) (r.new hz _) (ext_new r hz _)
  ·split at e
   ·rename_i us hl
    split at e
    ·rename_i ds hd
     cases e
     obtain ⟨q,vs,rfl,h1,h2⟩:=getL_rp r ha hl
     exact sl_list pins s σ H _ v vl vu lo hi sl Q I rx hs pl pu ⟨q,vs,rfl,h1,fun z hz=>p _ _ (new_lst r hz (pureL_rp (cut_rp h2 lo hi) hd)) (r.new hz _) (ext_new r hz _)⟩
    ·cases e
   ·cases e
theorem d_sl (ha : DE X W a fa) (hl : DO X W lo fl) (hh : DO X W hi fh) : DE X W (.Subscript a (.Slice lo hi none p2) pos) (fSl fa fl fh):=⟨PE.imp (pe_slice sl_ok ha.pe hl.po hh.po) fun σ H Q ⟨m,env,st,r,re,p⟩ =>
 tF_step r re p fun u st1 v m1 H1 h1 r1 re1 e1 p1=>tFO_step r1 re1 p1 fun lo st2 m2 H2 r2 re2 e2 p2=>tFO_step r2 re2 p2 fun hi st3 m3 H3 r3 re3 e3 p3 =>
  ⟨m3,st3,u,r3,(h1.ext e2).ext e3,PV.of p3⟩⟩
end
end VL
namespace VL
open PySem PySem.Spec PyProof.Rows L2
noncomputable def sNil : G:=fun env st=>.ok env .nx st
noncomputable def sSeq (g h : G) : G:=fun env st=>match g env st with
 | .ok env1 .nx st1=>h env1 st1
 | r=>r
noncomputable def sRet (f : F U) : G:=bndS f fun u=>fun env st=>.ok env (.rt u) st
noncomputable def sRetN : G:=fun env st=>.ok env (.rt (.d .non)) st
noncomputable def sExpr (f : F U) : G:=bndS f fun _=>sNil
noncomputable def sIf (c : F Bool) (g h : G) : G:=bndS c fun k=>if k = true then g else h
noncomputable def tgN (i : Nat) (u : U) : G:=fun env st=>.ok (env.set i (some u)) .nx st
noncomputable def sAsg (f : F U) (tg : U → G) : G:=bndS f tg
/-- not reached -/
noncomputable def sNo : G:=fun _ _=>.bad
section
variable {X : Cx} {W : WX} {st : Stmt} {sts a b : List Stmt} {g h ga gb : G} {e c : Expr} {fe : F U} {bc : F Bool} {pos : Pos}
theorem db_nil : DB X W [] sNil:=⟨PSs.imp pss_nil fun D σ H ⟨m,env,st,r,re,p⟩=>p σ m H re r (Ext.refl _ _)⟩
theorem t_seq {D : Ends} {σ : L2.St} {H : Hp} (q : tG X.K W (sSeq g h) D σ H) : tSeq (tG X.K W g) (tG X.K W h) D σ H:=by
 obtain ⟨m,env,st,r,re,p⟩:=q
 refine ⟨m,env,st,r,re,?_⟩
 unfold sSeq at p
 cases e : g env st with
 | bad=>rw [e] at p; exact p
 | ex c fs env1 st1=>rw [e] at p; exact p
 | ok env1 f st1 =>
  rw [e] at p
  cases f with
  | nx=>exact fun σ' m' H' h1 h2 h3=>⟨m',env1,st1,h2,h1,p.from h3⟩
  | rt u=>exact p
  | bk=>exact p
  | ct=>exact p
theorem db_cons (h1 : DS X W st g) (h2 : DB X W sts h) : DB X W (st :: sts) (sSeq g h):=⟨PSs.imp (pss_cons h1.ps h2.pss) fun _ _ _ q=>t_seq q⟩
theorem db_one (h1 : DS X W st g) : DB X W [st] g:=⟨pss_one h1.ps⟩
theorem ds_ret (he : DE X W e fe) : DS X W (.Return (some e) pos) (sRet fe):=⟨PS.imp (ps_ret he.pe) fun D σ H ⟨m,env,st,r,re,p⟩=>sF_step r re p fun u st1 v m1 H1 h1 r1 re1 e1 p1=>p1 v m1 H1 h1 r1 (Ext.refl _ _)⟩
theorem ds_expr (he : DE X W e fe) (hs : swapsWith e none pos.line X.env = pure false:=by rfl) : DS X W (.Expr e pos) (sExpr fe):=⟨PS.imp (ps_expr he.pe hs) fun D σ H ⟨m,env,st,r,re,p⟩=>sF_step r re p fun u st1 v m1 H1 h1 r1 re1 e1 p1=>p1 σ m1 H1 re1 r1 (Ext.refl _ _)⟩
theorem db_no : DB X W sts sNo:=⟨PSs.imp (t:=tNever) pss_never fun D σ H ⟨m,env,st,r,re,p⟩=>p⟩
theorem ds_if (hc : DT X W c bc) (ha : DB X W a ga) (hb : DB X W b gb) : DS X W (.If c a b pos) (sIf bc ga gb):=⟨PS.imp (ps_if hc.pt ha.pss hb.pss) fun D σ H ⟨m,env,st,r,re,p⟩=>sFB_step r re p fun k st1 m1 H1 r1 re1 e1 p1=>by
 cases k with
 | true=>exact iteT ⟨m1,env,st1,r1,re1,p1⟩
 | false=>exact iteF ⟨m1,env,st1,r1,re1,p1⟩⟩
end
/-- the names at the slots is alone are new -/
noncomputable def Out (is : List Nat) (σ σ' : L2.St) : Prop:=σ'.length = σ.length ∧ ∀ i,i ∉ is → σ'[i]? = σ[i]?
theorem Out.refl (is : List Nat) (σ : L2.St) : Out is σ σ:=⟨rfl,fun _ _=>rfl⟩
theorem Out.trans {is js : List Nat} {σ σ1 σ2 : L2.St} (a : Out is σ σ1) (b : Out js σ1 σ2) : Out (is ++ js) σ σ2 :=
 ⟨b.1.trans a.1,fun i h=>(b.2 i fun z=>h (List.mem_append_right _ z)).trans (a.2 i fun z=>h (List.mem_append_left _ z))⟩
theorem Out.set {σ : L2.St} (i : Nat) (v : Option V) : Out [i] σ (σ.set i v):=⟨List.length_set,fun j h=>List.getElem?_set_ne (fun e=>h (by rw [e]; exact List.mem_singleton.mpr rfl))⟩
noncomputable def tTg (K : PySem.W.Frag) (is : List Nat) (g : U → G) : TG:=fun v σ H Q=>∃ m env st u,Rep K m st H ∧ RpEnv K m H env σ ∧ RpU K m H u v ∧ (match g u env st with
 | .ok env' .nx st'=>∀ σ' m' H',RpEnv K m' H' env' σ' → Rep K m' st' H' → Ext m H m' H' → Out is σ σ' → Q σ' H'
 | _=>False)
noncomputable def tTgs (K : PySem.W.Frag) (is : List Nat) (g : List U → G) : TGs:=fun vs σ H Q=>∃ m env st us,Rep K m st H ∧ RpEnv K m H env σ ∧ RpUs K m H us vs ∧ (match g us env st with
 | .ok env' .nx st'=>∀ σ' m' H',RpEnv K m' H' env' σ' → Rep K m' st' H' → Ext m H m' H' → Out is σ σ' → Q σ' H'
 | _=>False)
structure DG (X : Cx) (e : Expr) (is : List Nat) (g : U → G) : Prop where
 pg : PG X e (tTg X.K is g)
structure DGs (X : Cx) (es : List Expr) (is : List Nat) (g : List U → G) : Prop where
 pgs : PGs X es (tTgs X.K is g)
noncomputable def tgNil : List U → G:=fun us=>match us with
 | []=>sNil
 | _=>sNo
noncomputable def tgCons (g : U → G) (h : List U → G) : List U → G:=fun us=>match us with
 | u :: r=>sSeq (g u) (h r)
 | _=>sNo
/-- the items of a tuple,a list -/
noncomputable def unp (st : Store) : U → Option (List U)
 | .d (.tup ds)=>some (ds.map .d)
 | u=>match getL st u with
  | some us=>some us
  | none=>match u with
   | .ref n=>match st[n]? with
    | some (.tup us)=>some us
    | _=>none
   | _=>none
theorem unp_rp {K : PySem.W.Frag} {m : List Addr} {H : Hp} {st : Store} (r : Rep K m st H) {u : U} {v : V} {us : List U} (h : RpU K m H u v) (e : unp st u = some us) : ∃ a vs,v = .ref a ∧ (SqT K H a vs ∨ SqL K H a vs) ∧ RpUs K m H us vs:=by
 unfold unp at e
 split at e
 ·cases e
  obtain ⟨a,vs,rfl,h1,h2⟩:=h
  exact ⟨a,vs,rfl,.inl h1.sq,RpUs.ofD h2⟩
 ·split at e
  ·rename_i us' hl
   cases e
   obtain ⟨a,vs,e1,h1,h2⟩:=getL_rp r h hl
   exact ⟨a,vs,e1,.inr h1,h2⟩
  ·split at e
   ·split at e
    ·rename_i us' hs
     cases e
     obtain ⟨a,ha,rfl⟩:=h
     obtain ⟨ho,h1,vs,e2,h2⟩:=r.cell _ _ a hs ha
     subst e2
     exact ⟨a,vs,rfl,.inl (.inl (.inl h1)),h2⟩
    ·cases e
   ·cases e
/-- a,b,.. = a tuple (list) of that length -/
noncomputable def tgT (n : Nat) (g : List U → G) : U → G:=fun u env st=>match unp st u with
 | some us=>if us.length = n then g us env st else .bad
 | none=>.bad
theorem PG.imp {X : Cx} {e : Expr} {t t' : TG} (h : PG X e t) (i : ∀ v σ H Q,t' v σ H Q → t v σ H Q) : PG X e t':=⟨fun pins s σ H v u Q I r q=>h.run pins s σ H v u Q I r (i v σ H Q q)⟩
theorem PGs.imp {X : Cx} {e : List Expr} {t t' : TGs} (h : PGs X e t) (i : ∀ v σ H Q,t' v σ H Q → t v σ H Q) : PGs X e t':=⟨fun pins s σ H v u Q I r q=>h.run pins s σ H v u Q I r (i v σ H Q q)⟩
theorem PG.or {X : Cx} {e : Expr} {t t' : TG} (h : PG X e t) (h' : PG X e t') : PG X e (fun v σ H Q=>t v σ H Q ∨ t' v σ H Q):=⟨fun pins s σ H v u Q I r q=>by
 rcases q with q | q
 ·exact h.run pins s σ H v u Q I r q
 ·exact h'.run pins s σ H v u Q I r q⟩
section
variable {X : Cx} {W : WX} {e : Expr} {es : List Expr} {is js : List Nat} {g : U → G} {gs : List U → G} {fe : F U} {pos : Pos}
theorem dg_name (i : Nat) {x : Str} (hN : X.N.Nodup) (hi : X.N[i]? = some x:=by rfl) (hx : Loc X.env.scope x:=by first | exact Or.inl rfl | exact Or.inr rfl) (hf : X.fn x = true ∨ X.env.scope.names.lookup x = some .local:=by first | exact .inl rfl | exact .inr rfl | assumption) : DG X (.Name x pos) [i] (tgN i) :=
 ⟨PG.imp (pg_name hN hi hx hf) fun v σ H Q ⟨m,env,st,u,r,re,ru,p⟩=>p _ m H (re.set i ru) r (Ext.refl _ _) (Out.set i _)⟩
theorem dgs_nil : DGs X [] [] tgNil:=⟨PGs.imp pgs_nil fun vs σ H Q ⟨m,env,st,us,r,re,ru,p⟩=>by
 cases us with
 | nil=>exact ⟨ru,p _ m H re r (Ext.refl _ _) (Out.refl _ _)⟩
 | cons u us=>exact p.elim⟩
theorem dgs_cons (h1 : DG X e is g) (h2 : DGs X es js gs) (hs : (assignEach (e :: es) X.env).map (·.2) = assign e X.env :: (assignEach es X.env).map (·.2):=by rfl) : DGs X (e :: es) (is ++ js) (tgCons g gs) :=
 ⟨PGs.imp (pgs_cons h1.pg h2.pgs hs) fun vs σ H Q ⟨m,env,st,us,r,re,ru,p⟩=>by
  cases us with
  | nil=>exact p.elim
  | cons u us =>
   obtain ⟨v,w,rfl,r1,r2⟩:=ru
   refine ⟨v,w,rfl,m,env,st,u,r,re,r1,?_⟩
   unfold tgCons sSeq at p
   simp only at p
   cases e : g u env st with
   | bad=>rw [e] at p; exact p
   | ex c fs env1 st1=>rw [e] at p; exact p
   | ok env1 f st1 =>
    rw [e] at p
    cases f with
    | nx =>
     refine fun σ' m' H' h1 h2 h3 h4=>⟨m',env1,st1,us,h2,h1,r2.ext h3,?_⟩
     cases e2 : gs us env1 st1 with
     | bad=>simp only [e2] at p
     | ex c fs env2 st2=>simp only [e2] at p
     | ok env2 f2 st2 =>
      simp only [e2] at p
      cases f2 with
      | nx=>exact fun σ'' m'' H'' k1 k2 k3 k4=>p σ'' m'' H'' k1 k2 (h3.trans k3) (h4.trans k4)
      | rt u=>exact p
      | bk=>exact p
      | ct=>exact p
    | rt u=>exact p
    | bk=>exact p
    | ct=>exact p⟩
theorem dg_tup {k n : Nat} (hc : X.calm = true) (h : DGs X es is gs) (hn : (assignEach es X.env).length = n:=by rfl) (hst : (assignEach es X.env).findIdx? (·.1) = none:=by rfl) : DG X (.Tuple es k pos) is (tgT n gs) :=
 ⟨PG.imp (PG.or (pg_tup hc h.pgs hn hst) (pg_lst hc h.pgs hn hst)) fun v σ H Q ⟨m,env,st,u,r,re,ru,p⟩=>by
  unfold tgT at p
  cases q : unp st u with
  | none=>rw [q] at p; exact p.elim
  | some us =>
   rw [q] at p
   simp only at p
   by_cases hz : us.length = n
   ·rw [if_pos hz] at p
    obtain ⟨a,vs,rfl,h1,h2⟩:=unp_rp r ru q
    rcases h1 with h1 | h1
    ·exact .inl ⟨a,vs,rfl,h1,by rw [h2.length,hz],m,env,st,us,r,re,h2,p⟩
    ·exact .inr ⟨a,vs,rfl,h1,by rw [h2.length,hz],m,env,st,us,r,re,h2,p⟩
   ·rw [if_neg hz] at p; exact p.elim⟩
/-- what a target does ends well -/
noncomputable def TgNx (g : U → G) : Prop:=∀ u env st,match g u env st with
 | .ok _ .nx _=>True
 | .bad=>True
 | _=>False
theorem t_asg (hnx : TgNx g) {D : Ends} {σ : L2.St} {H : Hp} (q : tG X.K W (sAsg fe g) D σ H) : tAsg (tF X.K W fe) (tTg X.K is g) D σ H:=by
 obtain ⟨m,env,st,r,re,p⟩:=q
 refine sF_step r re p fun u st1 v m1 H1 h1 r1 re1 e1 p1=>⟨m1,env,st1,u,r1,re1,h1,?_⟩
 have:=hnx u env st1
 cases e : g u env st1 with
 | bad=>rw [e] at p1; exact p1.elim
 | ex c fs env1 st1=>rw [e] at this; exact this.elim
 | ok env1 f st1 =>
  rw [e] at p1 this
  cases f with
  | nx=>exact fun σ' m' H' k1 k2 k3 _=>p1 σ' m' H' k1 k2 k3
  | rt u=>exact this.elim
  | bk=>exact this.elim
  | ct=>exact this.elim
theorem nx_name (i : Nat) : TgNx (tgN i):=fun _ _ _=>trivial
theorem ds_asg {tg : Expr} (he : DE X W e fe) (hg : DG X tg is g) (hnx : TgNx g) (hs : swapsWithSole [tg] e pos.line X.env = pure false:=by rfl) (hw : swappedStores [tg] e X.env = pure none:=by rfl)
  (h1 : (assignEach [tg] X.env).map (·.2) = [assign tg X.env]:=by rfl) : DS X W (.Assign [tg] e pos) (sAsg fe g):=⟨PS.imp (ps_asg he.pe hg.pg hs hw h1) fun _ _ _ q=>t_asg hnx q⟩
theorem ds_set (i : Nat) {x : Str} {pos' : Pos} (hN : X.N.Nodup) (he : DE X W e fe) (hi : X.N[i]? = some x:=by rfl) (hx : Loc X.env.scope x:=by first | exact Or.inl rfl | exact Or.inr rfl) (hs : swapsWith e (some (.Name x pos')) pos.line X.env = pure false:=by rfl)
  (hf : X.fn x = true ∨ X.env.scope.names.lookup x = some .local:=by first | exact .inl rfl | exact .inr rfl | assumption) : DS X W (.Assign [.Name x pos'] e pos) (sAsg fe (tgN i)) :=
 ⟨PS.imp (ps_set hN hi hx he.pe hs hf) fun D σ H ⟨m,env,st,r,re,p⟩=>sF_step r re p fun u st1 v m1 H1 h1 r1 re1 e1 p1=>p1 _ m1 H1 (re1.set i h1) r1 (Ext.refl _ _)⟩
/-- a,b = x,y -/
noncomputable def sPar (i j : Nat) (fs : F (List U)) : G:=bndS fs fun us=>fun env st=>match us with
 | [u,w]=>.ok ((env.set i (some u)).set j (some w)) .nx st
 | _=>.bad
theorem ds_par (i j : Nat) {x y : Str} {a b : Expr} {fs : F (List U)} {px py pt : Pos} {kt k2 : Nat} {pt2 : Pos} (hc : X.calm = true) (hN : X.N.Nodup) (ha : DA X W [a,b] fs) (hij : i ≠ j)
  (hw : swappedStores [.Tuple [.Name x px,.Name y py] kt pt] (.Tuple [a,b] k2 pt2) X.env = pure (some [x,y])) (hi : X.N[i]? = some x:=by rfl) (hj : X.N[j]? = some y:=by rfl)
  (hx : X.env.scope.names.lookup x = some .local:=by rfl) (hy : X.env.scope.names.lookup y = some .local:=by rfl)
  (hs : swapsWithSole [.Tuple [.Name x px,.Name y py] kt pt] (.Tuple [a,b] k2 pt2) pos.line X.env = pure false:=by rfl) :
  DS X W (.Assign [.Tuple [.Name x px,.Name y py] kt pt] (.Tuple [a,b] k2 pt2) pos) (sPar i j fs):=⟨PS.imp (ps_par hc hN hi hj hij hx hy ha.pa hw hs) fun D σ H ⟨m,env,st,r,re,p⟩=>sFs_step r re p fun us st1 vs m1 H1 h1 r1 re1 e1 p1=>by
 match us,h1,p1 with
 | [],_,p1=>exact p1.elim
 | [_],_,p1=>exact p1.elim
 | _ :: _ :: _ :: _,_,p1=>exact p1.elim
 | [u,w],h1,p1 =>
  obtain ⟨v,_,rfl,g1,w',_,rfl,g2,rfl⟩:=h1
  exact ⟨v,w',rfl,p1 _ m1 H1 ((re1.set i g1).set j g2) r1 (Ext.refl _ _)⟩⟩
end
inductive Itb where
 | lst (us : List U)
 | cell (n : Nat) (f : Nat → U → Option U)
noncomputable def IsIt (K : PySem.W.Frag) (m1 : List Addr) (H1 : Hp) (J : It) : Itb → Prop
 | .lst us=>(∀ i m' st' H',i < us.length → Rep K m' st' H' → Ext m1 H1 m' H' → J.go i H') ∧ (∀ m' st' H',Rep K m' st' H' → Ext m1 H1 m' H' → J.stop us.length H') ∧
  ∀ i u m' st' H' x H'',us[i]? = some u → Rep K m' st' H' → Ext m1 H1 m' H' → J.yld i H' x H'' → Rep K m' st' H'' ∧ Ext m' H' m' H'' ∧ RpU K m' H'' u x
 | .cell n f=>∀ us m' st' H',Rep K m' st' H' → Ext m1 H1 m' H' → st'[n]? = some (.lst us) → (∀ i,i < us.length → J.go i H') ∧ (∀ i,us.length ≤ i → J.stop i H') ∧
  ∀ i u w x H'',us[i]? = some u → f i u = some w → J.yld i H' x H'' → Rep K m' st' H'' ∧ Ext m' H' m' H'' ∧ RpU K m' H'' w x
noncomputable def tI (K : PySem.W.Frag) (W : WX) (f : F Itb) : TI:=fun σ H R=>∃ m env st,Rep K m st H ∧ RpEnv K m H env σ ∧ PO' K m H (fun _ _ a b=>b = a) (fun t H1=>∀ m1 st1,f env st = .ok t st1 → Rep K m1 st1 H1 → Ext m H m1 H1 → ∀ J,IsIt K m1 H1 J t → R J H1) (fun c d H'=>W c d σ H') (f env st)
structure DI (X : Cx) (W : WX) (tg iter : Expr) (f : F Itb) : Prop where
 pi : PI X tg iter (tI X.K W f)
noncomputable def loopL (tg : U → G) (body : G) : List U → G
 | []=>sNil
 | u :: us=>fun env st=>match tg u env st with
  | .ok env1 .nx st1=>match body env1 st1 with
   | .ok env2 .nx st2=>loopL tg body us env2 st2
   | .ok env2 .ct st2=>loopL tg body us env2 st2
   | .ok env2 .bk st2=>.ok env2 .nx st2
   | r=>r
  | _=>.bad
noncomputable def loopC (tg : U → G) (body : G) (n : Nat) (f : Nat → U → Option U) : Nat → Nat → G
 | 0,_=>sNo
 | k + 1,i=>fun env st=>match st[n]? with
  | some (.lst us)=>match us[i]? with
   | none=>.ok env .nx st
   | some u=>match f i u with
    | none=>.bad
    | some w=>match tg w env st with
     | .ok env1 .nx st1=>match body env1 st1 with
      | .ok env2 .nx st2=>loopC tg body n f k (i + 1) env2 st2
      | .ok env2 .ct st2=>loopC tg body n f k (i + 1) env2 st2
      | .ok env2 .bk st2=>.ok env2 .nx st2
      | r=>r
     | _=>.bad
  | _=>.bad
noncomputable def sFor (fi : F Itb) (tg : U → G) (body : G) : G:=bndS fi fun t=>match t with
 | .lst us=>loopL tg body us
 | .cell n f=>fun env st=>match st[n]? with
  | some (.lst us)=>loopC tg body n f (us.length + 1) 0 env st
  | _=>.bad
section
variable {X : Cx} {W : WX} {tg iter : Expr} {body : List Stmt} {is : List Nat} {g : U → G} {gb : G} {fi : F Itb} {pos : Pos}
theorem step_loop {K : PySem.W.Frag} {is : List Nat} {D : Ends} {N : L2.St → Hp → Prop} {g : U → G} {gb : G} {rest : G} {u : U} {m m1 : List Addr} {env : VEnv} {st : Store} {H H1 : Hp} {σ : L2.St} {x : V} (r : Rep K m st H) (re : RpEnv K m H env σ) (ru : RpU K m H u x)
  (e0 : Ext m1 H1 m H)
  (p : PS' K m H D W (match g u env st with
   | .ok env1 .nx st1=>match gb env1 st1 with
    | .ok env2 .nx st2=>rest env2 st2
    | .ok env2 .ct st2=>rest env2 st2
    | .ok env2 .bk st2=>.ok env2 .nx st2
    | r=>r
   | _=>.bad))
  (hN : ∀ env2 st2 σ' m' H',RpEnv K m' H' env2 σ' → Rep K m' st2 H' → Ext m1 H1 m' H' → PS' K m' H' D W (rest env2 st2) → N σ' H') :
  tTg K is g x σ H fun σ2 H2=>tG K W gb { D with nx:=N,ct:=N,bk:=D.nx } σ2 H2:=by
 refine ⟨m,env,st,u,r,re,ru,?_⟩
 cases e : g u env st with
 | bad=>rw [e] at p; exact p.elim
 | ex c fs env1 st1=>rw [e] at p; exact p.elim
 | ok env1 f st1 =>
  rw [e] at p
  cases f with
  | rt u=>exact p.elim
  | bk=>exact p.elim
  | ct=>exact p.elim
  | nx =>
   refine fun σ2 m2 H2 k1 k2 k3 _=>⟨m2,env1,st1,k2,k1,?_⟩
   have p2:=PS'.from k3 p
   cases e2 : gb env1 st1 with
   | bad=>simp only [e2] at p2; exact p2
   | ex c fs env2 st2=>simp only [e2] at p2; exact p2
   | ok env2 f2 st2 =>
    simp only [e2] at p2
    cases f2 with
    | nx=>exact fun σ' m' H' j1 j2 j3=>hN env2 st2 σ' m' H' j1 j2 (e0.trans (k3.trans j3)) (p2.from j3)
    | ct=>exact fun σ' m' H' j1 j2 j3=>hN env2 st2 σ' m' H' j1 j2 (e0.trans (k3.trans j3)) (p2.from j3)
    | bk=>exact p2
    | rt u=>exact p2
theorem t_for {D : Ends} {σ : L2.St} {H : Hp} (q : tG X.K W (sFor fi g gb) D σ H) : tFor (tI X.K W fi) (tTg X.K is g) (tG X.K W gb) D σ H:=by
 obtain ⟨m,env,st,r,re,p⟩:=q
 refine ⟨m,env,st,r,re,?_⟩
 unfold sFor bndS at p
 cases e : fi env st with
 | bad=>rw [e] at p; exact p.elim
 | ex c fs st1=>rw [e] at p; exact fun d m' H' h1 h2 h3=>p d σ m' H' (re.ext h2) h1 h2 h3
 | ok t st1 =>
  rw [e] at p
  intro t' m0 H0 ht r0 e0 m1 st1' he r1 e1 J hJ
  subst ht
  cases he
  have re1:=re.ext e1
  have p1:=PS'.from e1 p
  cases t' with
  | lst us =>
   obtain ⟨go,stop,yld⟩:=hJ
   refine ⟨fun i k σ H=>∃ m' env' st',Rep X.K m' st' H ∧ RpEnv X.K m' H env' σ ∧ Ext m1 H0 m' H ∧ k = us.length - i ∧ i ≤ us.length ∧ PS' X.K m' H D W (loopL g gb (us.drop i) env' st'),
    ⟨us.length,m1,env,st1,r1,re1,Ext.refl _ _,by simp,Nat.zero_le _,p1⟩,?_⟩
   rintro i k σ' H' ⟨m',env',st',r',re',e',rfl,hi,p'⟩
   by_cases hlt : i < us.length
   ·have hu : us[i]? = some us[i]:=List.getElem?_eq_getElem hlt
    rw [List.drop_eq_getElem_cons hlt] at p'
    refine .inr ⟨go i m' st' H' hlt r' e',fun σ2 H2=>∃ m2 env2 st2,Rep X.K m2 st2 H2 ∧ RpEnv X.K m2 H2 env2 σ2 ∧ Ext m1 H0 m2 H2 ∧ PS' X.K m2 H2 D W (loopL g gb (us.drop (i + 1)) env2 st2),?_,?_⟩
    ·rintro σ2 H2 ⟨m2,env2,st2,r2,re2,e2,p2⟩
     exact ⟨us.length - (i + 1),by omega,m2,env2,st2,r2,re2,e2,rfl,hlt,p2⟩
    ·intro x H'' hy
     obtain ⟨r2,e2,ru⟩:=yld i _ m' st' H' x H'' hu r' e' hy
     exact step_loop r2 (re'.ext e2) ru (e'.trans e2) (PS'.from e2 p') fun env2 st2 σ2 m2 H2 k1 k2 k3 k4=>⟨m2,env2,st2,k2,k1,k3,k4⟩
   ·have : i = us.length:=by omega
    subst this
    rw [List.drop_length] at p'
    exact .inl ⟨stop m' st' H' r' e',p' σ' m' H' re' r' (Ext.refl _ _)⟩
  | cell n f =>
   simp only at p1
   split at p1
   ·rename_i us0 hs0
    refine ⟨fun i k σ H=>∃ m' env' st',Rep X.K m' st' H ∧ RpEnv X.K m' H env' σ ∧ Ext m1 H0 m' H ∧ PS' X.K m' H D W (loopC g gb n f k i env' st'),
     ⟨us0.length + 1,m1,env,st1,r1,re1,Ext.refl _ _,p1⟩,?_⟩
    rintro i k σ' H' ⟨m',env',st',r',re',e',p'⟩
    cases k with
    | zero=>exact p'.elim
    | succ k =>
     unfold loopC at p'
     split at p'
     ·rename_i us hs
      obtain ⟨go,stop,yld⟩:=hJ us m' st' H' r' e' hs
      cases hu : us[i]? with
      | none =>
       simp only [hu] at p'
       exact .inl ⟨stop i (List.getElem?_eq_none_iff.mp hu),p' σ' m' H' re' r' (Ext.refl _ _)⟩
      | some u =>
       simp only [hu] at p'
       cases hf : f i u with
       | none=>simp only [hf] at p'; exact p'.elim
       | some w =>
        simp only [hf] at p'
        refine .inr ⟨go i (List.getElem?_eq_some_iff.mp hu).1,fun σ2 H2=>∃ m2 env2 st2,Rep X.K m2 st2 H2 ∧ RpEnv X.K m2 H2 env2 σ2 ∧ Ext m1 H0 m2 H2 ∧ PS' X.K m2 H2 D W (loopC g gb n f k (i + 1) env2 st2),?_,?_⟩
        ·rintro σ2 H2 ⟨m2,env2,st2,r2,re2,e2,p2⟩
         exact ⟨k,Nat.lt_succ_self k,m2,env2,st2,r2,re2,e2,p2⟩
        ·intro x H'' hy
         obtain ⟨r2,e2,ru⟩:=yld i u w x H'' hu hf hy
         exact step_loop r2 (re'.ext e2) ru (e'.trans e2) (PS'.from e2 p') fun env2 st2 σ2 m2 H2 k1 k2 k3 k4=>⟨m2,env2,st2,k2,k1,k3,k4⟩
     ·exact p'.elim
   ·exact p1.elim
theorem ds_for (hp : PassesOwn (model X.prog X.w) X.A X.env X.xe) (hc : X.calm = true) (hi : DI X W tg iter fi) (hg : DG X tg is g) (hb : DB X W body gb) (hs : ∀ x,foldedSetIterable iter X.env x = pure x:=by intro _; rfl) :
  DS X W (.For tg iter body [] pos) (sFor fi g gb):=⟨PS.imp (ps_for hp hc hi.pi hg.pg hb.pss hs) fun _ _ _ q=>t_for q⟩
end
end VL
namespace VL
open PySem PySem.Spec PyProof.Rows L2
noncomputable def itV (st : Store) (u : U) : Option Itb:=match u with
 | .d (.lst ds)=>some (.lst (ds.map .d))
 | .d (.scr ns)=>some (.lst (ns.map fun i=>.d (.int i)))
 | .d (.tup ds)=>some (.lst (ds.map .d))
 | .d (.str z)=>some (.lst (z.cps.toList.map fun c=>.d (.str ⟨#[c]⟩)))
 | .ref n=>match st[n]? with
  | some (.lst us)=>some (.cell n fun _ u=>some u)
  | _=>none
 | _=>none
noncomputable def fIter (f : F U) : F Itb:=bnd f fun u=>fun _ st=>.of st (itV st u)
theorem PI.or {X : Cx} {tg e : Expr} {t t' : TI} (h : PI X tg e t) (h' : PI X tg e t') : PI X tg e (fun σ H R=>t σ H R ∨ t' σ H R):=⟨fun pins s σ H R I q=>by
 rcases q with q | q
 ·exact h.run pins s σ H R I q
 ·exact h'.run pins s σ H R I q⟩
theorem PI.imp {X : Cx} {tg e : Expr} {t t' : TI} (h : PI X tg e t) (i : ∀ σ H R,t' σ H R → t σ H R) : PI X tg e t':=⟨fun pins s σ H R I q=>h.run pins s σ H R I (i σ H R q)⟩
section
variable {K : PySem.W.Frag} {m : List Addr} {H : Hp} {st : Store}
theorem isIt_lst {a : Addr} {us : List U} {vs : List V} (hs : ∀ m' H',Ext m H m' H' → SqL K H' a vs) (hr : RpUs K m H us vs) : IsIt K m H (Itl K a) (.lst us):=by
 have hl:=hr.length
 refine ⟨fun i m' st' H' hi r e=>⟨vs,vs[i]'(by omega),hs m' H' e,by simp [hl,hi]⟩,fun m' st' H' r e=>⟨vs,hs m' H' e,by omega⟩,fun i u m' st' H' x H'' hu r e y=>?_⟩
 obtain ⟨rfl,y⟩:=y
 obtain ⟨v,hv,rv⟩:=hr.get hu
 have:=(y vs (hs m' _ e)).symm.trans hv
 cases this
 exact ⟨r,Ext.refl _ _,rv.ext e⟩
theorem isIt_tup {a : Addr} {us : List U} {vs : List V} (hs : ∀ m' H',Ext m H m' H' → SqT K H' a vs) (hr : RpUs K m H us vs) : IsIt K m H (Itt K a) (.lst us):=by
 have hl:=hr.length
 refine ⟨fun i m' st' H' hi r e=>⟨vs,vs[i]'(by omega),hs m' H' e,by simp [hl,hi]⟩,fun m' st' H' r e=>⟨vs,hs m' H' e,by omega⟩,fun i u m' st' H' x H'' hu r e y=>?_⟩
 obtain ⟨rfl,y⟩:=y
 obtain ⟨v,hv,rv⟩:=hr.get hu
 have:=(y vs (hs m' _ e)).symm.trans hv
 cases this
 exact ⟨r,Ext.refl _ _,rv.ext e⟩
theorem isIt_cell {a : Addr} {n : Nat} (hn : m[n]? = some a) : IsIt K m H (Itl K a) (.cell n fun _ u=>some u):=by
 intro us m' st' H' r e hs
 have hn' : m'[n]? = some a:=by
  obtain ⟨t,rfl⟩:=e.pre
  rw [List.getElem?_append_left (List.getElem?_eq_some_iff.mp hn).1]; exact hn
 obtain ⟨ho,h1,vs,e2,h2⟩:=r.cell n _ a hs hn'
 subst e2
 have hl:=h2.length
 have hq : SqL K H' a vs:=.inl (.inl h1)
 refine ⟨fun i hi=>⟨vs,vs[i]'(by omega),hq,by simp [hl,hi]⟩,fun i hi=>⟨vs,hq,by omega⟩,fun i u w x H'' hu hw y=>?_⟩
 cases hw
 obtain ⟨rfl,y⟩:=y
 obtain ⟨v,hv,rv⟩:=h2.get hu
 have:=(y vs hq).symm.trans hv
 cases this
 exact ⟨r,Ext.refl _ _,rv⟩
theorem str_items {z : Str} {i : Nat} {c : Nat} (h : z.cps[i]? = some c) : (z.cps.toList.map fun c=>U.d (.str ⟨#[c]⟩))[i]? = some (.d (.str ⟨#[c]⟩)):=by
 rw [List.getElem?_map,Array.getElem?_toList,h]; rfl
theorem isIt_str {z : Str} : IsIt K m H (Its z) (.lst (z.cps.toList.map fun c=>.d (.str ⟨#[c]⟩))):=by
 have hl : (z.cps.toList.map fun c=>U.d (.str ⟨#[c]⟩)).length = z.cps.size:=by rw [List.length_map,Array.length_toList]
 refine ⟨fun i m' st' H' hi r e=>(by rw [hl] at hi; exact hi),fun m' st' H' r e=>(by rw [hl]; exact Nat.le_refl _),fun i u m' st' H' x H'' hu r e y=>?_⟩
 obtain ⟨rfl,c,hc,rfl⟩:=y
 rw [str_items hc] at hu
 cases hu
 exact ⟨r,Ext.refl _ _,rfl⟩
theorem isIt_rng {lo : Int} {n : Nat} : IsIt K m H (Itr lo n) (.lst ((List.range n).map fun i=>.d (.int (lo + (i : Nat))))):=by
 have hl : ((List.range n).map fun i=>U.d (.int (lo + (i : Nat)))).length = n:=by rw [List.length_map,List.length_range]
 refine ⟨fun i m' st' H' hi r e=>(by rw [hl] at hi; exact hi),fun m' st' H' r e=>(by rw [hl]; exact Nat.le_refl _),fun i u m' st' H' x H'' hu r e y=>?_⟩
 obtain ⟨rfl,rfl⟩:=y
 have hi : i < n:=by have:=(List.getElem?_eq_some_iff.mp hu).1; rw [hl] at this; exact this
 rw [List.getElem?_map,List.getElem?_range hi] at hu
 cases hu
 exact ⟨r,Ext.refl _ _,rfl⟩
end
section
variable {X : Cx} {W : WX} {tg e : Expr} {es : List Expr} {fe : F U} {fs : F (List U)} {pos p : Pos}
theorem d_iter (he : DE X W e fe) : DI X W tg e (fIter fe):=⟨PI.imp (PI.or (pi_list he.pe) (PI.or (pi_tup he.pe) (pi_str he.pe))) fun σ H R ⟨m,env,st,r,re,p⟩=>by
 unfold fIter at p
 have run : ∀ (Z : VK),(∀ a st1 v m1 H1,fe env st = .ok a st1 → RpU X.K m1 H1 a v → Rep X.K m1 st1 H1 → RpEnv X.K m1 H1 env σ → Ext m H m1 H1 → Z v H1) → tF X.K W fe σ H Z:=fun Z hz=>by
  refine ⟨m,env,st,r,re,?_⟩
  unfold bnd at p
  cases e : fe env st with
  | ok a st1=>exact fun v m1 H1 h1 h2 h3=>hz a st1 v m1 H1 e h1 h2 (re.ext h3) h3
  | ex c fs st1=>simp only [e] at p; exact p
  | bad=>simp only [e] at p; exact p.elim
 cases e : fe env st with
 | bad=>unfold bnd at p; simp only [e] at p; exact p.elim
 | ex c fs st1=>exact .inl (run _ fun a st2 v m1 H1 q=>by rw [e] at q; cases q)
 | ok u st1 =>
  have e2 : ∀ {t : Itb},itV st1 u = some t → bnd fe (fun u=>fun _ st=>VL.R.of st (itV st u)) env st = .ok t st1:=fun {t} h=>by unfold bnd; simp only [e,h]; rfl
  cases hi : itV st1 u with
  | none=>unfold bnd at p; simp only [e,hi] at p; exact p.elim
  | some t =>
   rw [e2 hi] at p
   have fin : ∀ {m1 H1},Rep X.K m1 st1 H1 → Ext m H m1 H1 → ∀ J,IsIt X.K m1 H1 J t → R J H1:=fun {m1 H1} r1 e1 J hJ=>p t m1 H1 rfl r1 e1 m1 st1 rfl r1 e1 J hJ
   unfold itV at hi
   split at hi
   ·cases hi
    exact .inl (run _ fun a st2 v m1 H1 q h1 h2 h3 h4=>by
     rw [e] at q; cases q
     obtain ⟨b,vs,rfl,g1,g2⟩:=h1
     exact ⟨b,rfl,⟨vs,g1.sq⟩,fin h2 h4 _ (isIt_lst (fun m' H' e'=>(g1.stay e'.toStay).sq) (RpUs.ofD g2))⟩)
   ·cases hi
    exact .inl (run _ fun a st2 v m1 H1 q h1 h2 h3 h4=>by
     rw [e] at q; cases q
     obtain ⟨b,rfl,g1⟩:=h1
     exact ⟨b,rfl,⟨_,g1.sq⟩,fin h2 h4 _ (isIt_lst (fun m' H' e'=>(g1.stay e'.toStay).sq) (RpUs.ints _))⟩)
   ·cases hi
    exact .inr (.inl (run _ fun a st2 v m1 H1 q h1 h2 h3 h4=>by
     rw [e] at q; cases q
     obtain ⟨b,vs,rfl,g1,g2⟩:=h1
     exact ⟨b,rfl,⟨vs,g1.sq⟩,fin h2 h4 _ (isIt_tup (fun m' H' e'=>(g1.stay e'.toStay).sq) (RpUs.ofD g2))⟩))
   ·cases hi
    exact .inr (.inr (run _ fun a st2 v m1 H1 q h1 h2 h3 h4=>by
     rw [e] at q; cases q
     exact ⟨_,h1,fin h2 h4 _ isIt_str⟩))
   ·split at hi
    ·rename_i us hs
     cases hi
     exact .inl (run _ fun a st2 v m1 H1 q h1 h2 h3 h4=>by
      rw [e] at q; cases q
      obtain ⟨b,hb,rfl⟩:=h1
      obtain ⟨ho,k1,vs,k2,k3⟩:=h2.cell _ _ b hs hb
      subst k2
      exact ⟨b,rfl,⟨vs,.inl (.inl k1)⟩,fin h2 h4 _ (isIt_cell hb)⟩)
    ·cases hi
   ·cases hi⟩
/-- range(n),range(a,b) -/
noncomputable def itR (us : List U) : Option Itb:=match us with
 | [.d (.int j)]=>if -(2 ^ 62) ≤ j ∧ j < 2 ^ 62 then some (.lst ((List.range j.toNat).map fun i=>.d (.int (0 + (i : Nat))))) else none
 | _=>none
noncomputable def fItN (g : List U → Option Itb) (f : F (List U)) : F Itb:=bnd f fun us=>fun _ st=>.of st (g us)
theorem t_itN {g : List U → Option Itb} {σ : L2.St} {H : Hp} {R : It → Hp → Prop} (h : tI X.K W (fItN g fs) σ H R) {Z : List V → Hp → Prop}
  (hz : ∀ us vs m1 st1 H1 t,RpUs X.K m1 H1 us vs → Rep X.K m1 st1 H1 → g us = some t → (∀ J,IsIt X.K m1 H1 J t → R J H1) → Z vs H1) : tFs X.K W fs σ H Z:=by
 obtain ⟨m,env,st,r,re,p⟩:=h
 refine ⟨m,env,st,r,re,?_⟩
 unfold fItN at p
 cases e : fs env st with
 | bad=>unfold bnd at p; simp only [e] at p; exact p.elim
 | ex c fs st1=>unfold bnd at p; simp only [e] at p; exact p
 | ok us st1 =>
  intro vs m1 H1 h1 r1 e1
  cases hi : g us with
  | none=>unfold bnd at p; simp only [e,hi] at p; exact p.elim
  | some t =>
   have e2 : bnd fs (fun us=>fun _ st=>VL.R.of st (g us)) env st = .ok t st1:=by unfold bnd; simp only [e,hi]; rfl
   rw [e2] at p
   exact hz us vs m1 st1 H1 t h1 r1 hi fun J hJ=>p t m1 H1 rfl r1 e1 m1 st1 rfl r1 e1 J hJ
theorem d_range1 {a : Expr} (hm : X.mg "range" = none) (ha : DA X W [a] fs) (hg : Gl X "range":=by rfl) (hs : starEach [a] X.env = [(false,eval a X.env)]:=by rfl) : DI X W tg (.Call (.Name "range" p) [a] [] pos) (fItN itR fs) :=
 ⟨PI.imp (pi_range1 hg hm ha.pa hs) fun σ H R h=>t_itN h fun us vs m1 st1 H1 t h1 r1 ht q=>by
  unfold itR at ht
  split at ht
  ·split at ht
   ·rename_i hb
    cases ht
    obtain ⟨v,_,rfl,rfl,rfl⟩:=h1
    exact ⟨_,rfl,hb.1,hb.2,q _ isIt_rng⟩
   ·cases ht
  ·cases ht⟩
end
/-- pairs of an index,an item -/
noncomputable def pairsFrom : Nat → List D → List U
 | _,[]=>[]
 | i,d :: ds=>.d (.tup [.int (i : Nat),d]) :: pairsFrom (i + 1) ds
theorem pairsFrom_get : ∀ (ds : List D) (k i : Nat) (u : U),(pairsFrom k ds)[i]? = some u → ∃ d,ds[i]? = some d ∧ u = .d (.tup [.int ((k + i : Nat) : Int),d])
 | [],k,i,u,h=>by simp [pairsFrom] at h
 | d :: ds,k,0,u,h=>by simp [pairsFrom] at h; exact ⟨d,rfl,h.symm⟩
 | d :: ds,k,i + 1,u,h=>by
  obtain ⟨d',h1,h2⟩:=pairsFrom_get ds (k + 1) i u (by simpa [pairsFrom] using h)
  exact ⟨d',by simpa using h1,by rw [h2]; congr 4; simp; omega⟩
theorem pairsFrom_length : ∀ (ds : List D) (k : Nat),(pairsFrom k ds).length = ds.length
 | [],_=>rfl
 | d :: ds,k=>by rw [pairsFrom,List.length_cons,List.length_cons,pairsFrom_length]
noncomputable def itE (st : Store) (us : List U) : Option Itb:=match us with
 | [.d (.lst ds)]=>some (.lst (pairsFrom 0 ds))
 | [.d (.scr ns)]=>some (.lst (pairsFrom 0 (ns.map .int)))
 | [.ref n]=>match st[n]? with
  | some (.lst _)=>some (.cell n fun i u=>match u with
   | .d x=>some (.d (.tup [.int (i : Nat),x]))
   | _=>none)
  | _=>none
 | _=>none
section
variable {K : PySem.W.Frag} {m : List Addr} {H : Hp} {st : Store}
theorem pair_new (r : Rep K m st H) {T : Addr} (nT : H T = none) {a b : D} {x y : V} (h1 : RpD K m H a x) (h2 : RpD K m H b y) : Rep K m st (upd H T (.tup [x,y])) ∧ Ext m H m (upd H T (.tup [x,y])) ∧ RpU K m (upd H T (.tup [x,y])) (.d (.tup [a,b])) (.ref T) :=
 ⟨r.new nT _,ext_new r nT _,new_tup r nT ⟨x,_,rfl,h1,y,_,rfl,h2,rfl⟩⟩
theorem isIt_enum {a : Addr} {ds : List D} {vs : List V} (hs : ∀ m' H',Ext m H m' H' → SqL K H' a vs) (hr : RpDs K m H ds vs) : IsIt K m H (Ite K a) (.lst (pairsFrom 0 ds)):=by
 have hl:=hr.length
 have hl2:=pairsFrom_length ds 0
 refine ⟨fun i m' st' H' hi r e=>(walk_enum (K:=K) (a:=a) (xs:=vs)).goes i H' (by omega) (hs m' H' e),fun m' st' H' r e=>(by rw [hl2,← hl]; exact (walk_enum (K:=K) (a:=a) (xs:=vs)).stops H' (hs m' H' e)),fun i u m' st' H' x H'' hu r e y=>?_⟩
 have hi:=(List.getElem?_eq_some_iff.mp hu).1
 obtain ⟨T,x1,y1,rfl,nT,rfl,e1,e2⟩:=(walk_enum (K:=K) (a:=a) (xs:=vs)).yields i H' x H'' (by omega) (hs m' H' e) y
 cases e1
 obtain ⟨d,hd,rfl⟩:=pairsFrom_get ds 0 i u hu
 obtain ⟨v,hv,rv⟩:=hr.get hd
 cases hv.symm.trans e2
 rw [Nat.zero_add]
 exact pair_new r nT (a:=.int (i : Nat)) rfl (rv.ext e)
theorem isIt_enumC {a : Addr} {n : Nat} (hn : m[n]? = some a) : IsIt K m H (Ite K a) (.cell n fun i u=>match u with
  | .d x=>some (.d (.tup [.int (i : Nat),x]))
  | _=>none):=by
 intro us m' st' H' r e hs
 have hn' : m'[n]? = some a:=by
  obtain ⟨t,rfl⟩:=e.pre
  rw [List.getElem?_append_left (List.getElem?_eq_some_iff.mp hn).1]; exact hn
 obtain ⟨ho,h1,vs,e2,h2⟩:=r.cell n _ a hs hn'
 subst e2
 have hl:=h2.length
 have hq : SqL K H' a vs:=.inl (.inl h1)
 refine ⟨fun i hi=>(walk_enum (K:=K) (a:=a) (xs:=vs)).goes i H' (by omega) hq,fun i hi=>?_,fun i u w x H'' hu hw y=>?_⟩
 ·exact ⟨vs,hq,by omega⟩
 ·have hi:=(List.getElem?_eq_some_iff.mp hu).1
  obtain ⟨T,x1,y1,rfl,nT,rfl,e1,e2⟩:=(walk_enum (K:=K) (a:=a) (xs:=vs)).yields i H' x H'' (by omega) hq y
  cases e1
  obtain ⟨v,hv,rv⟩:=h2.get hu
  cases hv.symm.trans e2
  cases u with
  | ref k=>cases hw
  | d z=>cases hw; exact pair_new r nT (a:=.int (i : Nat)) rfl rv
end
section
variable {X : Cx} {W : WX} {e e2 : Expr} {fs : F (List U)} {pos p tpos : Pos} {elts : List Expr} {kk : Nat}
noncomputable def fItS (g : Store → List U → Option Itb) (f : F (List U)) : F Itb:=bnd f fun us=>fun _ st=>.of st (g st us)
theorem t_itS {g : Store → List U → Option Itb} {σ : L2.St} {H : Hp} {R : It → Hp → Prop} (h : tI X.K W (fItS g fs) σ H R) {Z : List V → Hp → Prop}
  (hz : ∀ us vs m1 st1 H1 t,RpUs X.K m1 H1 us vs → Rep X.K m1 st1 H1 → g st1 us = some t → (∀ J,IsIt X.K m1 H1 J t → R J H1) → Z vs H1) : tFs X.K W fs σ H Z:=by
 obtain ⟨m,env,st,r,re,p⟩:=h
 refine ⟨m,env,st,r,re,?_⟩
 unfold fItS at p
 cases e : fs env st with
 | bad=>unfold bnd at p; simp only [e] at p; exact p.elim
 | ex c fs st1=>unfold bnd at p; simp only [e] at p; exact p
 | ok us st1 =>
  intro vs m1 H1 h1 r1 e1
  cases hi : g st1 us with
  | none=>unfold bnd at p; simp only [e,hi] at p; exact p.elim
  | some t =>
   have e2 : bnd fs (fun us=>fun _ st=>VL.R.of st (g st us)) env st = .ok t st1:=by unfold bnd; simp only [e,hi]; rfl
   rw [e2] at p
   exact hz us vs m1 st1 H1 t h1 r1 hi fun J hJ=>p t m1 H1 rfl r1 e1 m1 st1 rfl r1 e1 J hJ
theorem d_enum (hm : X.mg "enumerate" = none) (ha : DA X W [e] fs) (hg : Gl X "enumerate":=by rfl) (hs : starEach [e] X.env = [(false,eval e X.env)]:=by rfl) : DI X W (.Tuple elts kk tpos) (.Call (.Name "enumerate" p) [e] [] pos) (fItS itE fs) :=
 ⟨PI.imp (pi_enum hg hm ha.pa hs) fun σ H R h=>t_itS h fun us vs m1 st1 H1 t h1 r1 ht q=>by
  unfold itE at ht
  split at ht
  ·cases ht
   obtain ⟨v,_,rfl,⟨a,ws,rfl,g1,g2⟩,rfl⟩:=h1
   exact ⟨a,ws,rfl,g1.sq,q _ (isIt_enum (fun m' H' e'=>(g1.stay e'.toStay).sq) g2)⟩
  ·cases ht
   rename_i ns
   obtain ⟨v,_,rfl,⟨a,rfl,g1⟩,rfl⟩:=h1
   exact ⟨a,_,rfl,g1.sq,q _ (isIt_enum (fun m' H' e'=>(g1.stay e'.toStay).sq) (RpDs.toD (by rw [List.map_map]; exact RpUs.ints ns)))⟩
  ·split at ht
   ·rename_i us hs
    cases ht
    obtain ⟨v,_,rfl,⟨a,ha,rfl⟩,rfl⟩:=h1
    obtain ⟨ho,k1,ws,k2,k3⟩:=r1.cell _ _ a hs ha
    subst k2
    exact ⟨a,ws,rfl,.inl (.inl k1),q _ (isIt_enumC ha)⟩
   ·cases ht
  ·cases ht⟩
end
end VL
namespace VL
open PySem PySem.Spec PyProof.Rows L2
noncomputable def okU (k : Nat) : U → Bool
 | .d _=>true
 | .ref n=>decide (n < k)
noncomputable def okO (k : Nat) : O → Bool
 | .lst us=>us.all (okU k)
 | .tup us=>us.all (okU k)
 | .dct us=>us.all fun p=>okU k p.2
 | .ins _ us=>us.all fun p=>okU k p.2
 | .tbl _ _=>true
 | .lck us=>us.all fun p=>okU k p.2
 | .kdc _ us=>us.all fun p=>okU k p.2
/-- no cell speaks of one that is not there -/
noncomputable def wfB (st : Store) : Bool:=st.all (okO st.length)
noncomputable def cutS (k : Nat) (st : Store) : Option Store:=if (st.take k).all (okO k) = true then some (st.take k) else none
theorem RpD.less {K : PySem.W.Frag} {m m' : List Addr} {H : Hp} (h : ∀ a,a ∉ m → a ∉ m') {d : D} {v : V} (r : RpD K m H d v) : RpD K m' H d v :=
 RpD.stay ⟨fun a o n e _ _=>⟨e,h a n⟩,fun a kvs n e=>⟨e,h a n⟩,fun _ _ _ e=>e⟩ d v r
section
variable {K : PySem.W.Frag} {m : List Addr} {H : Hp} {st : Store} {k : Nat}
theorem okU_rp {u : U} {v : V} (h : okU k u = true) (r : RpU K m H u v) : RpU K (m.take k) H u v:=by
 cases u with
 | d x=>exact RpD.less (fun a n z=>n (List.mem_of_mem_take z)) r
 | ref n =>
  obtain ⟨a,ha,e⟩:=r
  exact ⟨a,by rw [List.getElem?_take_of_lt (of_decide_eq_true h)]; exact ha,e⟩
theorem okUs_rp : ∀ {us : List U} {vs : List V},us.all (okU k) = true → RpUs K m H us vs → RpUs K (m.take k) H us vs
 | [],_,_,r=>r
 | u :: us,_,h,⟨v,t,e,h1,h2⟩=>by
  rw [List.all_cons,Bool.and_eq_true] at h
  exact ⟨v,t,e,okU_rp h.1 h1,okUs_rp h.2 h2⟩
theorem okUK_rp : ∀ {us : List (Key × U)} {vs : List (Key × V)},(us.all fun p=>okU k p.2) = true → RpUK K m H us vs → RpUK K (m.take k) H us vs
 | [],_,_,r=>r
 | (_,u) :: us,_,h,⟨v,t,e,h1,h2⟩=>by
  rw [List.all_cons,Bool.and_eq_true] at h
  exact ⟨v,t,e,okU_rp h.1 h1,okUK_rp h.2 h2⟩
theorem okUKd_rp : ∀ {us : List (D × U)} {vs : List (NestedKey × Addr × V)},(us.all fun p=>okU k p.2) = true → RpUKd K m H us vs → RpUKd K (m.take k) H us vs
 | [],_,_,r=>r
 | (_,u) :: us,_,h,⟨n,b,v,t,e,q,h0,h1,h2⟩=>by
  rw [List.all_cons,Bool.and_eq_true] at h
  exact ⟨n,b,v,t,e,q,RpD.less (fun a n z=>n (List.mem_of_mem_take z)) h0,okU_rp h.1 h1,okUKd_rp h.2 h2⟩
theorem okUF_rp : ∀ {us : List (Str × U)} {vs : List (Str × V)},(us.all fun p=>okU k p.2) = true → RpUF K m H us vs → RpUF K (m.take k) H us vs
 | [],_,_,r=>r
 | (_,u) :: us,_,h,⟨v,t,e,h1,h2⟩=>by
  rw [List.all_cons,Bool.and_eq_true] at h
  exact ⟨v,t,e,okU_rp h.1 h1,okUF_rp h.2 h2⟩
theorem okO_rp {b : Addr} {c : O} {o : HO} (h : okO k c = true) (r : RpO K m H b c o) : RpO K (m.take k) H b c o:=by
 cases c with
 | lst us=>obtain ⟨vs,e,q⟩:=r; exact ⟨vs,e,okUs_rp h q⟩
 | tup us=>obtain ⟨vs,e,q⟩:=r; exact ⟨vs,e,okUs_rp h q⟩
 | dct us=>obtain ⟨vs,e,q⟩:=r; exact ⟨vs,e,okUK_rp h q⟩
 | ins C us=>obtain ⟨dx,vs,e,q⟩:=r; exact ⟨dx,vs,e,okUF_rp h q⟩
 | lck us=>obtain ⟨ob,vs,e,q⟩:=r; exact ⟨ob,vs,e,okUK_rp h q⟩
 | kdc w us=>obtain ⟨o,vs,e,z,q⟩:=r; exact ⟨o,vs,e,z,okUKd_rp h q⟩
 | tbl P q=>obtain ⟨e,ps,e1,e2,g⟩:=r; exact ⟨e,ps,e1,e2,fun pos cv hc=>let ⟨c,g1,g2,g3⟩:=g pos cv hc; ⟨c,g1,fun z=>g2 (List.mem_of_mem_take z),g3⟩⟩
theorem Rep.cut (r : Rep K m st H) {s : Store} (e : cutS k st = some s) : Rep K (m.take k) s H:=by
 unfold cutS at e
 split at e
 ·rename_i h
  cases e
  refine ⟨by rw [List.length_take,List.length_take,r.len],r.nd.sublist (List.take_sublist _ _),fun n c a h1 h2=>?_⟩
  have hn : n < k:=by
   have:=(List.getElem?_eq_some_iff.mp h1).1
   rw [List.length_take] at this
   omega
  rw [List.getElem?_take_of_lt hn] at h1 h2
  obtain ⟨ho,e1,q⟩:=r.cell n c a h1 h2
  have hc : okO k c = true:=List.all_eq_true.mp h c (List.mem_of_getElem? (i:=n) (by rw [List.getElem?_take_of_lt hn]; exact h1))
  exact ⟨ho,e1,okO_rp hc q⟩
 ·cases e
theorem ext_cut {m0 : List Addr} {H0 : Hp} (e : Ext m0 H0 m H) (hk : m0.length ≤ k) : Ext m0 H0 (m.take k) H:=by
 refine ⟨?_,e.toStay.less fun _ z=>List.mem_of_mem_take z⟩
 obtain ⟨t,rfl⟩:=e.pre
 rw [List.take_append,List.take_of_length_le hk]
 exact List.prefix_append _ _
end
noncomputable def wipeE (env : VEnv) : List Nat → VEnv
 | []=>env
 | v :: vs=>(wipeE env vs).set v none
noncomputable def lcStep (k : Nat) (tg : U → G) (tt : F Bool) (fe : F U) (env0 : VEnv) (u : U) : Store → R Unit:=fun st=>match tg u env0 st with
 | .ok env1 .nx st1=>match tt env1 st1 with
  | .ok true st2=>match fe env1 st2 with
   | .ok x st3=>match st3[k]? with
    | some (.lst acc)=>if acc.length < sizeLine then .ok () (st3.set k (.lst (acc ++ [x]))) else .bad
    | _=>.bad
   | _=>.bad
  | .ok false st2=>.ok () st2
  | _=>.bad
 | _=>.bad
noncomputable def lcL (k : Nat) (tg : U → G) (tt : F Bool) (fe : F U) (env0 : VEnv) : List U → Store → R Unit
 | []=>fun st=>.ok () st
 | u :: us=>fun st=>match lcStep k tg tt fe env0 u st with
  | .ok _ st1=>lcL k tg tt fe env0 us st1
  | _=>.bad
noncomputable def lcC (k : Nat) (tg : U → G) (tt : F Bool) (fe : F U) (env0 : VEnv) (n : Nat) (f : Nat → U → Option U) : Nat → Nat → Store → R Unit
 | 0,_=>fun _=>.bad
 | j + 1,i=>fun st=>match st[n]? with
  | some (.lst us)=>match us[i]? with
   | none=>.ok () st
   | some u=>match f i u with
    | none=>.bad
    | some w=>match lcStep k tg tt fe env0 w st with
     | .ok _ st1=>lcC k tg tt fe env0 n f j (i + 1) st1
     | _=>.bad
  | _=>.bad
noncomputable def lcEnd (k : Nat) : R Unit → R U
 | .ok _ st=>match st[k]? with
  | some (.lst us)=>match pureL us,cutS k st with
   | some ds,some s=>.ok (.d (.lst ds)) s
   | _,_=>.bad
  | _=>.bad
 | _=>.bad
noncomputable def fLc (fi : F Itb) (tg : U → G) (tt : F Bool) (fe : F U) (vs : List Nat) : F U:=bnd fi fun t=>fun env st=>match t with
 | .lst us=>lcEnd st.length (lcL st.length tg tt fe (wipeE env vs) us (st ++ [.lst []]))
 | .cell n f=>match st[n]? with
  | some (.lst us)=>lcEnd st.length (lcC st.length tg tt fe (wipeE env vs) n f (us.length + 1) 0 (st ++ [.lst []]))
  | _=>.bad
noncomputable def tYesB : F Bool:=fPure true
section
variable {K : PySem.W.Frag} {m : List Addr} {H : Hp} {st : Store}
theorem RpEnv.wipe {env : VEnv} {σ : L2.St} (h : RpEnv K m H env σ) : ∀ vs : List Nat,RpEnv K m H (wipeE env vs) (wipe σ vs)
 | []=>h
 | v :: vs=>by
  have ih:=RpEnv.wipe h vs
  refine ⟨by show ((wipeE env vs).set v none).length = ((L2.wipe σ vs).set v none).length; rw [List.length_set,List.length_set]; exact ih.len,fun i u hi=>?_⟩
  have hi' : ((wipeE env vs).set v none)[i]? = some (some u):=hi
  by_cases e : v = i
  ·subst e
   by_cases hv : v < (wipeE env vs).length
   ·rw [List.getElem?_set_self hv] at hi'; cases hi'
   ·rw [List.getElem?_eq_none (by rw [List.length_set]; omega)] at hi'; cases hi'
  ·rw [List.getElem?_set_ne e] at hi'
   obtain ⟨x,h1,h2⟩:=ih.at' i u hi'
   exact ⟨x,by show ((L2.wipe σ vs).set v none)[i]? = _; rw [List.getElem?_set_ne e]; exact h1,h2⟩
theorem wipe_get {σ : L2.St} : ∀ {vs : List Nat} {i : Nat},(L2.wipe σ vs)[i]? = if i ∈ vs then (σ[i]?).map (fun _=>none) else σ[i]?
 | [],i=>by simp [L2.wipe]
 | v :: vs,i=>by
  show ((L2.wipe σ vs).set v none)[i]? = _
  by_cases e : v = i
  ·subst e
   rw [if_pos (List.mem_cons_self)]
   by_cases hv : v < σ.length
   ·rw [List.getElem?_set_self (by rw [wipe_length]; exact hv),List.getElem?_eq_getElem hv]; rfl
   ·rw [List.getElem?_eq_none (by rw [List.length_set,wipe_length]; omega),List.getElem?_eq_none (by omega)]; rfl
  ·rw [List.getElem?_set_ne e,wipe_get]
   have : (i ∈ v :: vs) ↔ i ∈ vs:=by simp [Ne.symm e]
   by_cases h : i ∈ vs
   ·rw [if_pos h,if_pos (this.mpr h)]
   ·rw [if_neg h,if_neg (fun z=>h (this.mp z))]
theorem wipe_out {is vs : List Nat} {σ σ' : L2.St} (h : ∀ i ∈ is,i ∈ vs) (o : Out is (L2.wipe σ vs) σ') : L2.wipe σ' vs = L2.wipe σ vs:=by
 apply List.ext_getElem?
 intro i
 rw [wipe_get]
 by_cases hi : i ∈ vs
 ·rw [if_pos hi,wipe_get,if_pos hi]
  have hl : σ'.length = σ.length:=by rw [o.1,wipe_length]
  by_cases h2 : i < σ.length
  ·rw [List.getElem?_eq_getElem h2,List.getElem?_eq_getElem (by omega)]; rfl
  ·rw [List.getElem?_eq_none (by omega),List.getElem?_eq_none (by omega)]
 ·rw [if_neg hi]
  exact o.2 i fun z=>hi (h i z)
end
/-- a clause's tests -/
structure DTs (X : Cx) (W : WX) (es : List Expr) (f : F Bool) : Prop where
 pts : PTs X es (tFB X.K W f)
section
variable {X : Cx} {W : WX} {c : Expr} {fc : F Bool}
theorem dts_nil : DTs X W [] tYesB:=⟨⟨fun pins s σ H Q I ⟨m,env,st,r,re,p⟩=>pts_nil.run pins s σ H Q I (p true m H rfl r (Ext.refl _ _))⟩⟩
theorem dts_one (h : DT X W c fc) : DTs X W [c] fc:=⟨pts_one h.pt⟩
end
noncomputable def W0 : WX:=fun _ _ _ _=>False
section
variable {X : Cx} {W : WX} {elt tg iter : Expr} {ifs : List Expr} {scope : Scope} {own : List (Str × Nat)} {pos : Pos} {is : List Nat} {g : U → G} {gt : F Bool} {fe : F U} {fi : F Itb}
theorem pre_get {α : Type} {m m' : List α} (p : m <+: m') {k : Nat} {a : α} (h : m[k]? = some a) : m'[k]? = some a:=by
 obtain ⟨t,rfl⟩:=p
 rw [List.getElem?_append_left (List.getElem?_eq_some_iff.mp h).1]; exact h
/-- what holds between two turns -/
structure LcI (K : PySem.W.Frag) (m1 : List Addr) (H1 : Hp) (k : Nat) (D0 : Addr) (m' : List Addr) (st' : Store) (H' : Hp) : Prop where
 rep : Rep K m' st' H'
 ext : Ext m1 H1 m' H'
 at' : m'[k]? = some D0
/-- one turn -/
theorem lc_turn {K : PySem.W.Frag} {σ : L2.St} {env : VEnv} {m1 m' : List Addr} {H1 H'' : Hp} {st' : Store} {u : U} {x : V} {k : Nat} {D0 : Addr} {Nx : Hp → Prop} {vs is : List Nat} {rest : Store → R Unit} {Q : VK} {E : XK}
  (hvs : ∀ i ∈ is,i ∈ vs) (I : LcI K m1 H1 k D0 m' st' H'') (hk : k = m1.length) (h0 : H1 D0 = none) (re : RpEnv K m' H'' (wipeE env vs) (L2.wipe σ vs)) (ru : RpU K m' H'' u x)
  (p : PU K m1 H1 Q E (lcEnd k (match lcStep k g gt fe (wipeE env vs) u st' with
   | .ok _ st1=>rest st1
   | _=>.bad)))
  (hN : ∀ m2 st2 H2,LcI K m1 H1 k D0 m2 st2 H2 → RpEnv K m2 H2 (wipeE env vs) (L2.wipe σ vs) → PU K m1 H1 Q E (lcEnd k (rest st2)) → Nx H2) :
  tTg K is g x (L2.wipe σ vs) H'' fun σ2 H2=>L2.wipe σ2 vs = L2.wipe σ vs ∧ tFB K W0 gt σ2 H2 fun b H3 =>
   if b = true then tF K W0 fe σ2 H3 fun y H4=>∃ acc,H4 D0 = some (.lst acc) ∧ acc.length < sizeLine ∧ Nx (upd H4 D0 (.lst (acc ++ [y]))) else Nx H3:=by
 refine ⟨m',_,st',u,I.rep,re,ru,?_⟩
 unfold lcStep at p
 split
 ·rename_i env1 st1 e1
  simp only [e1] at p
  intro σ2 m2 H2 re2 r2 x2 o2
  refine ⟨wipe_out hvs o2,m2,env1,st1,r2,re2,?_⟩
  cases e2 : gt env1 st1 with
  | bad=>simp only [e2] at p; exact p.elim
  | ex c fs st2=>simp only [e2] at p; exact p.elim
  | ok b st2 =>
   simp only [e2] at p
   intro b' m3 H3 hb r3 x3
   subst hb
   cases b' with
   | false =>
    refine iteF (hN m3 st2 H3 ⟨r3,I.ext.trans (x2.trans x3),pre_get (x2.trans x3).pre I.at'⟩ (re.ext (x2.trans x3)) p)
   | true =>
    refine iteT ⟨m3,env1,st2,r3,re2.ext x3,?_⟩
    cases e3 : fe env1 st2 with
    | bad=>simp only [e3] at p; exact p.elim
    | ex c fs st3=>simp only [e3] at p; exact p.elim
    | ok z st3 =>
     simp only [e3] at p
     intro y m4 H4 ry r4 x4
     have x24:=x2.trans (x3.trans x4)
     have hat:=pre_get x24.pre I.at'
     cases hacc : st3[k]? with
     | none=>simp only [hacc] at p; exact p.elim
     | some cell =>
     cases cell with
     | dct _=>simp only [hacc] at p; exact p.elim
     | tup _=>simp only [hacc] at p; exact p.elim
     | ins _ _=>simp only [hacc] at p; exact p.elim
     | lck _=>simp only [hacc] at p; exact p.elim
     | kdc _ _=>simp only [hacc] at p; exact p.elim
     | tbl _ _=>simp only [hacc] at p; exact p.elim
     | lst acc =>
      simp only [hacc] at p
      by_cases hlen : acc.length < sizeLine
      ·rw [if_pos hlen] at p
       obtain ⟨ho,g1,ws,g2,g3⟩:=r4.cell k _ D0 hacc hat
       subst g2
       refine ⟨ws,g1,by rw [g3.length]; exact hlen,?_⟩
       have hm : D0 ∈ m4:=List.mem_of_getElem? hat
       have rW : Rep K m4 (st3.set k (.lst (acc ++ [z]))) (upd H4 D0 (.lst (ws ++ [y]))) :=
        r4.write hat ⟨_,rfl,(g3.append (show RpUs K m4 H4 [z] [y] from ⟨y,_,rfl,ry,rfl⟩)).ext (ext_write hm _ (nf_l g1))⟩ (nf_l g1)
       have eW : Ext m1 H1 m4 (upd H4 D0 (.lst (ws ++ [y]))):=(I.ext.trans x24).trans (ext_write hm _ (nf_l g1))
       exact hN m4 _ _ ⟨rW,eW,hat⟩ ((re.ext x24).ext (ext_write hm _ (nf_l g1))) p
      ·rw [if_neg hlen] at p; exact p.elim
 ·rename_i hn
  split at p
  ·rename_i q
   split at q
   ·rename_i env1 st1 e1
    exact (hn env1 st1 e1).elim
   ·cases q
  ·exact p.elim
theorem lc_fin {K : PySem.W.Frag} {m1 m' : List Addr} {H1 H' : Hp} {st' : Store} {k : Nat} {D0 : Addr} {Q : VK} {E : XK} (I : LcI K m1 H1 k D0 m' st' H') (hk : k = m1.length) (p : PU K m1 H1 Q E (lcEnd k (.ok () st'))) : Q (.ref D0) H':=by
 unfold lcEnd at p
 simp only at p
 split at p
 ·rename_i us hus
  split at p
  ·rename_i ds s hd hs
   obtain ⟨ho,g1,ws,g2,g3⟩:=I.rep.cell k _ D0 hus I.at'
   subst g2
   have hnot : D0 ∉ m'.take k:=fun z=>by
    obtain ⟨j,hj,e⟩:=List.mem_iff_getElem.mp z
    rw [List.length_take] at hj
    rw [List.getElem_take] at e
    obtain ⟨hk',e'⟩:=List.getElem?_eq_some_iff.mp I.at'
    have:=(List.getElem_inj I.rep.nd).mp (e.trans e'.symm)
    omega
   refine p _ (m'.take k) H' ⟨D0,ws,rfl,⟨hnot,g1⟩,?_⟩ (I.rep.cut hs) (ext_cut I.ext (by omega))
   have:=pureL_rp g3 hd
   exact RpDs.stay ⟨fun a o n e _ _=>⟨e,fun z=>n (List.mem_of_mem_take z)⟩,fun a kvs n e=>⟨e,fun z=>n (List.mem_of_mem_take z)⟩,fun _ _ _ e=>e⟩ _ _ this
  ·exact p.elim
 ·exact p.elim
theorem t_lc {vs : List Nat} (hvs : ∀ i ∈ is,i ∈ vs) {σ : L2.St} {H : Hp} {Q : VK} (q : tF X.K W (fLc fi g gt fe vs) σ H Q) :
  tLc (tI X.K W fi) (tTg X.K is g) (tFB X.K W0 gt) (tF X.K W0 fe) vs σ H Q:=by
 obtain ⟨m,env,st,r,re,p⟩:=q
 refine ⟨m,env,st,r,re,?_⟩
 unfold fLc bnd at p
 cases e : fi env st with
 | bad=>rw [e] at p; exact p.elim
 | ex c fs st1=>rw [e] at p; exact p
 | ok t st1 =>
  rw [e] at p
  intro t' m0 H0 ht r0 e0 m1 st1' he r1 e1 J hJ D0 hD0
  subst ht
  cases he
  have re1:=re.ext e1
  have p1:=PO'.from e1 p
  have hpush:=push_lst r1 hD0 (us:=[]) (vs:=[]) rfl
  have start : LcI X.K m1 H0 m1.length D0 (m1 ++ [D0]) (st1 ++ [.lst []]) (upd H0 D0 (.lst [])):=⟨hpush.2,ext_push r1 hD0 _,by simp⟩
  have reS : RpEnv X.K (m1 ++ [D0]) (upd H0 D0 (.lst [])) (wipeE env vs) (L2.wipe σ vs):=(re1.ext (ext_push r1 hD0 _)).wipe vs
  have hlen:=r1.len
  cases t' with
  | lst us =>
   simp only [← hlen] at p1
   obtain ⟨go,stop,yld⟩:=hJ
   refine ⟨fun i n H=>∃ m' st',LcI X.K m1 H0 m1.length D0 m' st' H ∧ RpEnv X.K m' H (wipeE env vs) (L2.wipe σ vs) ∧ n = us.length - i ∧ i ≤ us.length ∧ PU X.K m1 H0 Q (fun c d H'=>W c d σ H') (lcEnd m1.length (lcL m1.length g gt fe (wipeE env vs) (us.drop i) st')),
    ⟨us.length,_,_,start,reS,by simp,Nat.zero_le _,p1⟩,?_⟩
   rintro i n H' ⟨m',st',I,re',rfl,hi,p'⟩
   by_cases hlt : i < us.length
   ·have hu : us[i]? = some us[i]:=List.getElem?_eq_getElem hlt
    rw [List.drop_eq_getElem_cons hlt] at p'
    refine .inr ⟨go i m' st' H' hlt I.rep I.ext,fun H2=>∃ m2 st2,LcI X.K m1 H0 m1.length D0 m2 st2 H2 ∧ RpEnv X.K m2 H2 (wipeE env vs) (L2.wipe σ vs) ∧ PU X.K m1 H0 Q (fun c d H'=>W c d σ H') (lcEnd m1.length (lcL m1.length g gt fe (wipeE env vs) (us.drop (i + 1)) st2)),?_,?_⟩
    ·rintro H2 ⟨m2,st2,I2,re2,p2⟩
     exact ⟨us.length - (i + 1),by omega,m2,st2,I2,re2,rfl,hlt,p2⟩
    ·intro x H'' hy
     obtain ⟨r2,e2,ru⟩:=yld i _ m' st' H' x H'' hu I.rep I.ext hy
     exact lc_turn hvs ⟨r2,I.ext.trans e2,I.at'⟩ rfl hD0 (re'.ext e2) ru p' fun m2 st2 H2 I2 re2 p2=>⟨m2,st2,I2,re2,p2⟩
   ·have : i = us.length:=by omega
    subst this
    rw [List.drop_length] at p'
    exact .inl ⟨stop m' st' H' I.rep I.ext,lc_fin I rfl p'⟩
  | cell n f =>
   simp only at p1
   split at p1
   ·rename_i us0 hs0
    simp only [← hlen] at p1
    refine ⟨fun i j H=>∃ m' st',LcI X.K m1 H0 m1.length D0 m' st' H ∧ RpEnv X.K m' H (wipeE env vs) (L2.wipe σ vs) ∧ PU X.K m1 H0 Q (fun c d H'=>W c d σ H') (lcEnd m1.length (lcC m1.length g gt fe (wipeE env vs) n f j i st')),
     ⟨us0.length + 1,_,_,start,reS,p1⟩,?_⟩
    rintro i j H' ⟨m',st',I,re',p'⟩
    cases j with
    | zero=>exact p'.elim
    | succ j =>
     unfold lcC at p'
     split at p'
     ·rename_i us hs
      obtain ⟨go,stop,yld⟩:=hJ us m' st' H' I.rep I.ext hs
      cases hu : us[i]? with
      | none =>
       simp only [hu] at p'
       exact .inl ⟨stop i (List.getElem?_eq_none_iff.mp hu),lc_fin I rfl p'⟩
      | some u =>
       simp only [hu] at p'
       cases hf : f i u with
       | none=>simp only [hf] at p'; exact p'.elim
       | some w =>
        simp only [hf] at p'
        refine .inr ⟨go i (List.getElem?_eq_some_iff.mp hu).1,fun H2=>∃ m2 st2,LcI X.K m1 H0 m1.length D0 m2 st2 H2 ∧ RpEnv X.K m2 H2 (wipeE env vs) (L2.wipe σ vs) ∧ PU X.K m1 H0 Q (fun c d H'=>W c d σ H') (lcEnd m1.length (lcC m1.length g gt fe (wipeE env vs) n f j (i + 1) st2)),?_,?_⟩
        ·rintro H2 ⟨m2,st2,I2,re2,p2⟩
         exact ⟨j,Nat.lt_succ_self j,m2,st2,I2,re2,p2⟩
        ·intro x H'' hy
         obtain ⟨r2,e2,ru⟩:=yld i u w x H'' hu hf hy
         exact lc_turn hvs ⟨r2,I.ext.trans e2,I.at'⟩ rfl hD0 (re'.ext e2) ru p' fun m2 st2 H2 I2 re2 p2=>⟨m2,st2,I2,re2,p2⟩
     ·exact p'.elim
   ·exact p1.elim
theorem d_lc (hc : X.calm = true) (hN : X.N.Nodup) (hi : DI X W tg iter fi) (ok : BlkOk X.N X.env.scope scope own)
  (hg : ∀ (s : Shared) (H : Hp) (C : Addr) (cl : List (Str × Addr)) (fp : List Addr),DG (X.blk s H scope (compEnvC scope cl C X.env) fp) tg is g)
  (ht : ∀ (s : Shared) (H : Hp) (C : Addr) (cl : List (Str × Addr)) (fp : List Addr),DTs (X.blk s H scope (compEnvC scope cl C X.env) fp) W0 ifs gt)
  (he : ∀ (s : Shared) (H : Hp) (C : Addr) (cl : List (Str × Addr)) (fp : List Addr),DE (X.blk s H scope (compEnvC scope cl C X.env) fp) W0 elt fe)
  (hvs : ∀ i ∈ is,i ∈ own.map (·.2):=by decide) (hs : ∀ x,foldedSetIterable iter X.env x = pure x:=by intro _; rfl) :
  DE X W (.ListComp elt [⟨tg,iter,ifs,0⟩] scope pos) (fLc fi g gt fe (own.map (·.2))) :=
 ⟨PE.imp (pe_lc hc hN hi.pi ok (fun s H C cl fp=>(hg s H C cl fp).pg) (fun s H C cl fp=>(ht s H C cl fp).pts) (fun s H C cl fp=>(he s H C cl fp).pe) hs) fun _ _ _ q=>t_lc hvs q⟩
/-- name = [..] -/
theorem ds_setLc (i : Nat) {y : Str} {py spos : Pos} (hc : X.calm = true) (hN : X.N.Nodup) (hsw : swapsWith (.ListComp elt [⟨tg,iter,ifs,0⟩] scope pos) (some (.Name y py)) spos.line X.env = pure true) (hi : DI X W tg iter fi) (ok : BlkOk X.N X.env.scope scope own)
  (hg : ∀ (s : Shared) (H : Hp) (C : Addr) (cl : List (Str × Addr)) (fp : List Addr),DG (X.blk s H scope (compEnvC scope cl C X.env) fp) tg is g)
  (ht : ∀ (s : Shared) (H : Hp) (C : Addr) (cl : List (Str × Addr)) (fp : List Addr),DTs (X.blk s H scope (compEnvC scope cl C X.env) fp) W0 ifs gt)
  (he : ∀ (s : Shared) (H : Hp) (C : Addr) (cl : List (Str × Addr)) (fp : List Addr),DE (X.blk s H scope (compEnvC scope cl C X.env) fp) W0 elt fe)
  (hvs : ∀ i ∈ is,i ∈ own.map (·.2):=by decide) (hy : X.N[i]? = some y:=by rfl) (hyl : X.env.scope.names.lookup y = some .local:=by rfl) (hs : ∀ x,foldedSetIterable iter X.env x = pure x:=by intro _; rfl) :
  DS X W (.Assign [.Name y py] (.ListComp elt [⟨tg,iter,ifs,0⟩] scope pos) spos) (sAsg (fLc fi g gt fe (own.map (·.2))) (tgN i)) :=
 ⟨PS.imp (ps_setLc (i:=i) hc hN hy hyl hsw hi.pi ok (fun s H C cl fp=>(hg s H C cl fp).pg) (fun s H C cl fp=>(ht s H C cl fp).pts) (fun s H C cl fp=>(he s H C cl fp).pe) hs) fun D σ H ⟨m,env,st,r,re,p⟩=>by
  have h2 : tF X.K W (fLc fi g gt fe (own.map (·.2))) σ H (fun x H1=>gName i x σ H1 D.nx):=sF_step r re p fun u st1 v m1 H1 h1 r1 re1 e1 p1=>p1 _ m1 H1 (re1.set i h1) r1 (Ext.refl _ _)
  exact t_lc hvs h2⟩
end
end VL
namespace VL
open PySem PySem.Spec PyProof.Rows L2
section
variable {X : Cx} {W : WX} {c : Expr} {body : List Stmt} {bc : F Bool} {gb : G} {pos : Pos}
end
noncomputable abbrev Wr:=Nat → U → Store → R U
noncomputable def wId : Wr:=fun _ u st=>.ok u st
noncomputable def wCut : Wr:=fun k u st=>match u with
 | .d x=>match cutS k st with
  | some s=>.ok (.d x) s
  | none=>.bad
 | .ref n=>if n < k then match cutS k st with
  | some s=>.ok (.ref n) s
  | none=>.bad
  else .bad
noncomputable def frz (st : Store) (k : Nat) : Nat → U → Option D
 | _,.d x=>some x
 | 0,.ref _=>none
 | f + 1,.ref n=>if n < k then none else match st[n]? with
  | some (.lst us)=>(allM (frz st k f) us).map .lst
  | some (.tup us)=>(allM (frz st k f) us).map .tup
  | some (.dct us)=>(allM (fun p=>(frz st k f p.2).map fun d=>(p.1,d)) us).map .dct
  | some (.ins C us)=>(allM (fun p=>(frz st k f p.2).map fun d=>(p.1,d)) us).map (.ins C)
  | some (.lck us)=>(allM (fun p=>(frz st k f p.2).map fun d=>(p.1,d)) us).map .dct
  | some (.kdc w us)=>(allM (fun p=>(frz st k f p.2).map fun d=>(p.1,d)) us).map (.kdc w)
  | some (.tbl _ _)=>none
  | none=>none
noncomputable def wFrz : Wr:=fun k u st=>match frz st k 4 u,cutS k st with
 | some x,some s=>.ok (.d x) s
 | _,_=>.bad
noncomputable def wKeep : Wr:=fun k u st=>match u with
 | .d _=>.bad
 | .ref n=>if n < k then .bad else match st[n]? with
  | some o=>if okO k o = true then match cutS k st with
   | some s=>if s.length = k then .ok (.ref k) (s ++ [o]) else .bad
   | none=>.bad
   else .bad
  | none=>.bad
structure WOk (w : Wr) : Prop where
 ok : ∀ (K : PySem.W.Frag) (k : Nat) (u : U) (st : Store) (m : List Addr) (H : Hp) (v : V),Rep K m st H → RpU K m H u v → k ≤ m.length → match w k u st with
  | .ok u' st'=>∃ m',Rep K m' st' H ∧ RpU K m' H u' v ∧ m.take k <+: m' ∧ ∀ a,a ∈ m' → a ∈ m
  | .ex _ _ _=>False
  | .bad=>True
theorem wId_ok : WOk wId:=⟨fun K k u st m H v r ru hk=>⟨m,r,ru,List.take_prefix _ _,fun _ h=>h⟩⟩
theorem wCut_ok : WOk wCut:=⟨fun K k u st m H v r ru hk=>by
 unfold wCut
 cases u with
 | d x =>
  simp only
  cases e : cutS k st with
  | none=>trivial
  | some s=>exact ⟨m.take k,r.cut e,okU_rp (u:=.d x) rfl ru,List.prefix_refl _,fun _ h=>List.mem_of_mem_take h⟩
 | ref n =>
  simp only
  by_cases hn : n < k
  ·rw [if_pos hn]
   cases e : cutS k st with
   | none=>trivial
   | some s=>exact ⟨m.take k,r.cut e,okU_rp (u:=.ref n) (decide_eq_true hn) ru,List.prefix_refl _,fun _ h=>List.mem_of_mem_take h⟩
  ·rw [if_neg hn]; trivial⟩
section
variable {K : PySem.W.Frag} {m : List Addr} {H : Hp} {st : Store} {k : Nat}
theorem not_take (r : Rep K m st H) {n : Nat} {a : Addr} (hn : ¬ n < k) (ha : m[n]? = some a) : a ∉ m.take k:=fun z=>by
 obtain ⟨j,hj,e⟩:=List.mem_iff_getElem.mp z
 rw [List.length_take] at hj
 rw [List.getElem_take] at e
 obtain ⟨hk',e'⟩:=List.getElem?_eq_some_iff.mp ha
 have:=(List.getElem_inj r.nd).mp (e.trans e'.symm)
 omega
theorem frz_rp (r : Rep K m st H) : ∀ (f : Nat) (u : U) (v : V) (d : D),RpU K m H u v → frz st k f u = some d → RpD K (m.take k) H d v:=by
 intro f
 induction f with
 | zero =>
  intro u v d h e
  cases u with
  | d x=>cases e; exact RpD.less (fun a n z=>n (List.mem_of_mem_take z)) h
  | ref n=>cases e
 | succ f ih =>
  intro u v d h e
  cases u with
  | d x=>cases e; exact RpD.less (fun a n z=>n (List.mem_of_mem_take z)) h
  | ref n =>
   obtain ⟨a,ha,rfl⟩:=h
   unfold frz at e
   by_cases hn : n < k
   ·rw [if_pos hn] at e; cases e
   ·rw [if_neg hn] at e
    have na:=not_take (k:=k) r hn ha
    have all1 : ∀ {us : List U} {vs : List V} {ds : List D},RpUs K m H us vs → allM (frz st k f) us = some ds → RpDs K (m.take k) H ds vs:=by
     intro us
     induction us with
     | nil=>intro vs ds h e; cases e; exact h
     | cons u us ih2 =>
      intro vs ds h e
      obtain ⟨v,t,rfl,h1,h2⟩:=h
      unfold allM at e
      cases q1 : frz st k f u with
      | none=>rw [q1] at e; cases e
      | some x =>
       cases q2 : allM (frz st k f) us with
       | none=>rw [q1,q2] at e; cases e
       | some xs=>rw [q1,q2] at e; cases e; exact ⟨v,t,rfl,ih u v x h1 q1,ih2 h2 q2⟩
    have all2 : ∀ {us : List (Key × U)} {vs : List (Key × V)} {ds : List (Key × D)},RpUK K m H us vs → allM (fun p=>(frz st k f p.2).map fun d=>(p.1,d)) us = some ds → RpK K (m.take k) H ds vs:=by
     intro us
     induction us with
     | nil=>intro vs ds h e; cases e; exact h
     | cons u us ih2 =>
      obtain ⟨kk,u⟩:=u
      intro vs ds h e
      obtain ⟨v,t,rfl,h1,h2⟩:=h
      unfold allM at e
      cases q1 : frz st k f u with
      | none=>simp only [q1] at e; cases e
      | some x =>
       cases q2 : allM (fun p : Key × U=>(frz st k f p.2).map fun d=>(p.1,d)) us with
       | none=>simp only [q1,q2] at e; cases e
       | some xs=>simp only [q1,q2] at e; cases e; exact ⟨v,t,rfl,ih u v x h1 q1,ih2 h2 q2⟩
    have all3 : ∀ {us : List (Str × U)} {vs : List (Str × V)} {ds : List (Str × D)},RpUF K m H us vs → allM (fun p=>(frz st k f p.2).map fun d=>(p.1,d)) us = some ds → RpF K (m.take k) H ds vs:=by
     intro us
     induction us with
     | nil=>intro vs ds h e; cases e; exact h
     | cons u us ih2 =>
      obtain ⟨kk,u⟩:=u
      intro vs ds h e
      obtain ⟨v,t,rfl,h1,h2⟩:=h
      unfold allM at e
      cases q1 : frz st k f u with
      | none=>simp only [q1] at e; cases e
      | some x =>
       cases q2 : allM (fun p : Str × U=>(frz st k f p.2).map fun d=>(p.1,d)) us with
       | none=>simp only [q1,q2] at e; cases e
       | some xs=>simp only [q1,q2] at e; cases e; exact ⟨v,t,rfl,ih u v x h1 q1,ih2 h2 q2⟩
    have all4 : ∀ {us : List (D × U)} {vs : List (NestedKey × Addr × V)} {ds : List (D × D)},RpUKd K m H us vs → allM (fun p=>(frz st k f p.2).map fun d=>(p.1,d)) us = some ds → RpKd K (m.take k) H ds vs:=by
     intro us
     induction us with
     | nil=>intro vs ds h e; cases e; exact h
     | cons u us ih2 =>
      obtain ⟨kk,u⟩:=u
      intro vs ds h e
      obtain ⟨n,b,v,t,rfl,q,h0,h1,h2⟩:=h
      unfold allM at e
      cases q1 : frz st k f u with
      | none=>simp only [q1] at e; cases e
      | some x =>
       cases q2 : allM (fun p : D × U=>(frz st k f p.2).map fun d=>(p.1,d)) us with
       | none=>simp only [q1,q2] at e; cases e
       | some xs=>simp only [q1,q2] at e; cases e; exact ⟨n,b,v,t,rfl,q,RpD.less (fun a n z=>n (List.mem_of_mem_take z)) h0,ih u v x h1 q1,ih2 h2 q2⟩
    split at e
    ·rename_i us hs
     obtain ⟨ho,g1,vs,g2,g3⟩:=r.cell n _ a hs ha
     subst g2
     cases q : allM (frz st k f) us with
     | none=>rw [q] at e; cases e
     | some ds=>rw [q] at e; cases e; exact ⟨a,vs,rfl,⟨na,g1⟩,all1 g3 q⟩
    ·rename_i us hs
     obtain ⟨ho,g1,vs,g2,g3⟩:=r.cell n _ a hs ha
     subst g2
     cases q : allM (frz st k f) us with
     | none=>rw [q] at e; cases e
     | some ds=>rw [q] at e; cases e; exact ⟨a,vs,rfl,.inl ⟨na,g1⟩,all1 g3 q⟩
    ·rename_i us hs
     obtain ⟨ho,g1,vs,g2,g3⟩:=r.cell n _ a hs ha
     subst g2
     cases q : allM (fun p : Key × U=>(frz st k f p.2).map fun d=>(p.1,d)) us with
     | none=>rw [q] at e; cases e
     | some ds=>rw [q] at e; cases e; exact ⟨a,vs,rfl,⟨na,.inl g1⟩,all2 g3 q⟩
    ·rename_i C us hs
     obtain ⟨ho,g1,dx,vs,g2,g3⟩:=r.cell n _ a hs ha
     subst g2
     cases q : allM (fun p : Str × U=>(frz st k f p.2).map fun d=>(p.1,d)) us with
     | none=>rw [q] at e; cases e
     | some ds=>rw [q] at e; cases e; exact ⟨a,dx,vs,rfl,⟨na,g1⟩,all3 g3 q⟩
    ·rename_i us hs
     obtain ⟨ho,g1,ob,vs,g2,g3⟩:=r.cell n _ a hs ha
     subst g2
     cases q : allM (fun p : Key × U=>(frz st k f p.2).map fun d=>(p.1,d)) us with
     | none=>rw [q] at e; cases e
     | some ds=>rw [q] at e; cases e; exact ⟨a,vs,rfl,⟨na,.inr ⟨ob,g1⟩⟩,all2 g3 q⟩
    ·rename_i ww us hs
     obtain ⟨ho,g1,ob,vs,g2,gk,g3⟩:=r.cell n _ a hs ha
     subst g2
     cases q : allM (fun p : D × U=>(frz st k f p.2).map fun d=>(p.1,d)) us with
     | none=>rw [q] at e; cases e
     | some ds=>rw [q] at e; cases e; exact ⟨a,ob,vs,rfl,⟨na,g1⟩,gk,all4 g3 q⟩
    ·cases e
    ·cases e
end
theorem wFrz_ok : WOk wFrz:=⟨fun K k u st m H v r ru hk=>by
 unfold wFrz
 cases e1 : frz st k 4 u with
 | none=>trivial
 | some x =>
  cases e : cutS k st with
  | none=>trivial
  | some s=>exact ⟨m.take k,r.cut e,frz_rp r 4 u v x ru e1,List.prefix_refl _,fun _ h=>List.mem_of_mem_take h⟩⟩
theorem wKeep_ok : WOk wKeep:=⟨fun K k u st m H v r ru hk=>by
 unfold wKeep
 cases u with
 | d x=>trivial
 | ref n =>
  simp only
  by_cases hn : n < k
  ·rw [if_pos hn]; trivial
  ·rw [if_neg hn]
   cases e0 : st[n]? with
   | none=>trivial
   | some o =>
    simp only
    by_cases ho : okO k o = true
    ·rw [if_pos ho]
     cases e : cutS k st with
     | none=>trivial
     | some s =>
      simp only
      by_cases hs : s.length = k
      ·rw [if_pos hs]
       obtain ⟨a,ha,rfl⟩:=ru
       have rc:=r.cut e
       have na:=not_take (k:=k) r hn ha
       have hl : (m.take k).length = k:=by rw [rc.len,hs]
       have less : ∀ b,b ∉ m.take k ++ [a] → b ∉ m.take k:=fun b h z=>h (List.mem_append_left _ z)
       refine ⟨m.take k ++ [a],⟨by rw [List.length_append,List.length_append,rc.len]; rfl,?_,fun j c b h1 h2=>?_⟩,⟨a,by rw [List.getElem?_append_right (by omega),hl,Nat.sub_self]; rfl,rfl⟩,List.prefix_append _ _,fun b hb=>?_⟩
       ·rw [List.nodup_append]
        refine ⟨rc.nd,by simp,fun x hx y hy=>?_⟩
        rw [List.mem_singleton] at hy
        subst hy
        exact fun e=>na (by rw [← e]; exact hx)
       ·-- the cells
        have st0 : Stay m H (m.take k ++ [a]) H:=⟨fun b o nb e _ _=>⟨e,fun z=>by
          rcases List.mem_append.mp z with z | z
          ·exact nb (List.mem_of_mem_take z)
          ·rw [List.mem_singleton] at z; subst z; exact nb (List.mem_of_getElem? ha)⟩,
         fun b kvs nb e=>⟨e,fun z=>by
          rcases List.mem_append.mp z with z | z
          ·exact nb (List.mem_of_mem_take z)
          ·rw [List.mem_singleton] at z; subst z; exact nb (List.mem_of_getElem? ha)⟩,fun _ _ _ e=>e⟩
        have upU : ∀ {u : U} {v : V},okU k u = true → RpU K m H u v → RpU K (m.take k ++ [a]) H u v:=fun {u v} h h2=>by
         cases u with
         | d x=>exact RpD.stay st0 _ _ h2
         | ref j =>
          obtain ⟨b,hb,e⟩:=h2
          have hj : j < k:=of_decide_eq_true h
          exact ⟨b,by rw [List.getElem?_append_left (by omega),List.getElem?_take_of_lt hj]; exact hb,e⟩
        have upO : ∀ {b : Addr} {c : O} {ho : HO},okO k c = true → RpO K m H b c ho → RpO K (m.take k ++ [a]) H b c ho:=fun {b c ho} h h2=>by
         cases c with
         | lst us =>
          obtain ⟨vs,e,q⟩:=h2
          refine ⟨vs,e,?_⟩
          clear e
          induction us generalizing vs with
          | nil=>exact q
          | cons u us ih =>
           obtain ⟨v,t,rfl,h1,h2⟩:=q
           have h' : okU k u = true ∧ us.all (okU k) = true:=by simpa [okO] using h
           exact ⟨v,t,rfl,upU h'.1 h1,ih h'.2 t h2⟩
         | tup us =>
          obtain ⟨vs,e,q⟩:=h2
          refine ⟨vs,e,?_⟩
          clear e
          induction us generalizing vs with
          | nil=>exact q
          | cons u us ih =>
           obtain ⟨v,t,rfl,h1,h2⟩:=q
           have h' : okU k u = true ∧ us.all (okU k) = true:=by simpa [okO] using h
           exact ⟨v,t,rfl,upU h'.1 h1,ih h'.2 t h2⟩
         | dct us =>
          obtain ⟨vs,e,q⟩:=h2
          refine ⟨vs,e,?_⟩
          clear e
          induction us generalizing vs with
          | nil=>exact q
          | cons u us ih =>
           obtain ⟨kk,u⟩:=u
           obtain ⟨v,t,rfl,h1,h2⟩:=q
           have h' : okU k u = true ∧ (us.all fun p=>okU k p.2) = true:=by simpa [okO] using h
           exact ⟨v,t,rfl,upU h'.1 h1,ih h'.2 t h2⟩
         | ins C us =>
          obtain ⟨dx,vs,e,q⟩:=h2
          refine ⟨dx,vs,e,?_⟩
          clear e
          induction us generalizing vs with
          | nil=>exact q
          | cons u us ih =>
           obtain ⟨kk,u⟩:=u
           obtain ⟨v,t,rfl,h1,h2⟩:=q
           have h' : okU k u = true ∧ (us.all fun p=>okU k p.2) = true:=by simpa [okO] using h
           exact ⟨v,t,rfl,upU h'.1 h1,ih h'.2 t h2⟩
         | lck us =>
          obtain ⟨ob,vs,e,q⟩:=h2
          refine ⟨ob,vs,e,?_⟩
          clear e
          induction us generalizing vs with
          | nil=>exact q
          | cons u us ih =>
           obtain ⟨kk,u⟩:=u
           obtain ⟨v,t,rfl,h1,h2⟩:=q
           have h' : okU k u = true ∧ (us.all fun p=>okU k p.2) = true:=by simpa [okO] using h
           exact ⟨v,t,rfl,upU h'.1 h1,ih h'.2 t h2⟩
         | kdc w us =>
          obtain ⟨ob,vs,e,z,q⟩:=h2
          refine ⟨ob,vs,e,z,?_⟩
          clear e z
          induction us generalizing vs with
          | nil=>exact q
          | cons u us ih =>
           obtain ⟨kk,u⟩:=u
           obtain ⟨n,b,v,t,rfl,q,h0,h1,h2⟩:=q
           have h' : okU k u = true ∧ (us.all fun p=>okU k p.2) = true:=by simpa [okO] using h
           exact ⟨n,b,v,t,rfl,q,RpD.stay st0 _ _ h0,upU h'.1 h1,ih h'.2 t h2⟩
         | tbl P q =>
          obtain ⟨e,ps,e1,e2,g⟩:=h2
          exact ⟨e,ps,e1,e2,fun pos cv hc=>let ⟨c,g1,g2,g3⟩:=g pos cv hc
           ⟨c,g1,fun z=>(List.mem_append.mp z).elim (fun z=>g2 (List.mem_of_mem_take z)) fun z=>g2 (by rw [List.mem_singleton.mp z]; exact List.mem_of_getElem? ha),g3⟩⟩
        by_cases hj : j < k
        ·rw [List.getElem?_append_left (by omega)] at h1 h2
         unfold cutS at e
         split at e
         ·rename_i hall
          cases e
          rw [List.getElem?_take_of_lt hj] at h1 h2
          obtain ⟨ho',e1,q⟩:=r.cell j c b h1 h2
          exact ⟨ho',e1,upO (List.all_eq_true.mp hall c (List.mem_of_getElem? (i:=j) (by rw [List.getElem?_take_of_lt hj]; exact h1))) q⟩
         ·cases e
        ·have hjk : j = k:=by
          have:=(List.getElem?_eq_some_iff.mp h1).1
          rw [List.length_append,hs] at this
          simp at this
          omega
         subst hjk
         rw [List.getElem?_append_right (by omega),hs,Nat.sub_self] at h1
         rw [List.getElem?_append_right (by omega),hl,Nat.sub_self] at h2
         cases h1; cases h2
         obtain ⟨ho',e1,q⟩:=r.cell n o a e0 ha
         exact ⟨ho',e1,upO ho q⟩
       ·rcases List.mem_append.mp hb with z | z
        ·exact List.mem_of_mem_take z
        ·rw [List.mem_singleton] at z; subst z; exact List.mem_of_getElem? ha
      ·rw [if_neg hs]; trivial
    ·rw [if_neg ho]; trivial⟩
/-- a def's mirror from its body's -/
noncomputable def fnM (n : Nat) (g : G) (w : Wr) : List U → M U:=fun us st=>match g (us.map some ++ List.replicate (n - us.length) none) st with
 | .ok _ (.rt u) st'=>w st.length u st'
 | .ok _ .nx st'=>w st.length (.d .non) st'
 | .ex c fs _ st'=>match cutS st.length st' with
  | some s=>.ex c fs s
  | none=>.bad
 | _=>.bad
noncomputable def spM (K : PySem.W.Frag) (n : Nat) (mf : List U → M U) : Sp:=fun vs H Q E=>vs.length = n ∧ ∃ m st us,Rep K m st H ∧ RpUs K m H us vs ∧ PU K m H Q E (mf us st)
theorem start_env {K : PySem.W.Frag} {m : List Addr} {H : Hp} {N : List Str} {us : List U} {vs : List V} (h : RpUs K m H us vs) : RpEnv K m H (us.map some ++ List.replicate (N.length - us.length) none) (L2.start N vs):=by
 have hl:=h.length
 refine ⟨by unfold L2.start; rw [List.length_append,List.length_append,List.length_map,List.length_map,List.length_replicate,List.length_replicate]; omega,fun i u hi=>?_⟩
 by_cases hlt : i < us.length
 ·rw [List.getElem?_append_left (by rw [List.length_map]; exact hlt),List.getElem?_map] at hi
  cases q : us[i]? with
  | none=>rw [q] at hi; cases hi
  | some w =>
   rw [q] at hi; cases hi
   obtain ⟨v,hv,rv⟩:=h.get q
   exact ⟨v,by unfold L2.start; rw [List.getElem?_append_left (by rw [List.length_map]; omega),List.getElem?_map,hv]; rfl,rv⟩
 ·rw [List.getElem?_append_right (by rw [List.length_map]; omega),List.getElem?_replicate] at hi
  split at hi <;> cases hi
end VL
namespace VL
open PySem PySem.Spec PyProof.Rows L2
/-- what an operation that may write cells gives -/
noncomputable def PV2 (K : PySem.W.Frag) (m : List Addr) (H : Hp) (Q : VK) : Option (U × Store) → Prop
 | some (u,st')=>∀ v m' H',RpU K m' H' u v → Rep K m' st' H' → Ext m H m' H' → Q v H'
 | none=>False
theorem PV2.of {K : PySem.W.Frag} {m : List Addr} {H : Hp} {Q : VK} {E : XK} : ∀ {o : Option (U × Store)},PU K m H Q E (R.of2 o) → PV2 K m H Q o
 | some (u,st'),h=>h
 | none,h=>h
noncomputable abbrev P3:=List U → Store → Option (U × Store)
noncomputable abbrev P4:=U → List U → Store → Option (U × Store)
/-- leaves the cells -/
noncomputable def pu (g : List U → Store → Option U) : P3:=fun us st=>(g us st).map fun u=>(u,st)
noncomputable def pu4 (g : U → List U → Store → Option U) : P4:=fun u us st=>(g u us st).map fun u=>(u,st)
noncomputable def rM (K : PySem.W.Frag) (g : P3) : List V → Hp → VK → Prop:=fun vs H Q=>∃ m st us,Rep K m st H ∧ RpUs K m H us vs ∧ PV2 K m H Q (g us st)
noncomputable def mM (K : PySem.W.Frag) (g : P4) : V → List V → Hp → VK → Prop:=fun x vs H Q=>∃ m st u us,Rep K m st H ∧ RpU K m H u x ∧ RpUs K m H us vs ∧ PV2 K m H Q (g u us st)
noncomputable def fB (g : P3) (fs : F (List U)) : F U:=bnd fs fun us=>fun _ st=>.of2 (g us st)
section
variable {K : PySem.W.Frag} {m : List Addr} {H : Hp} {st : Store} {Q : VK}
theorem PV2.here {u : U} {v : V} (r : Rep K m st H) (p : PV2 K m H Q (some (u,st))) (h : RpU K m H u v) : Q v H:=p v m H h r (Ext.refl _ _)
theorem PV2.pu {g : List U → Store → Option U} {us : List U} (p : PV2 K m H Q (VL.pu g us st)) : ∃ u,g us st = some u ∧ PV2 K m H Q (some (u,st)):=by
 unfold VL.pu at p
 cases e : g us st with
 | none=>rw [e] at p; exact p.elim
 | some u=>rw [e] at p; exact ⟨u,rfl,p⟩
theorem PV2.pu4 {g : U → List U → Store → Option U} {x : U} {us : List U} (p : PV2 K m H Q (VL.pu4 g x us st)) : ∃ u,g x us st = some u ∧ PV2 K m H Q (some (u,st)):=by
 unfold VL.pu4 at p
 cases e : g x us st with
 | none=>rw [e] at p; exact p.elim
 | some u=>rw [e] at p; exact ⟨u,rfl,p⟩
theorem RpUs.one {u : U} {vs : List V} (h : RpUs K m H [u] vs) : ∃ v,vs = [v] ∧ RpU K m H u v:=by
 obtain ⟨v,_,rfl,h1,rfl⟩:=h
 exact ⟨v,rfl,h1⟩
theorem RpUs.two {u w : U} {vs : List V} (h : RpUs K m H [u,w] vs) : ∃ v x,vs = [v,x] ∧ RpU K m H u v ∧ RpU K m H w x:=by
 obtain ⟨v,_,rfl,h1,x,_,rfl,h2,rfl⟩:=h
 exact ⟨v,x,rfl,h1,h2⟩
end
theorem CallR.imp {X : Cx} {f : Value} {r r' : List V → Hp → VK → Prop} (h : CallR X f r) (i : ∀ vs H Q,r' vs H Q → r vs H Q) : CallR X f r':=fun pins s σ H xs us Q I rv q=>h pins s σ H xs us Q I rv (i xs H Q q)
theorem MtR.imp {X : Cx} {id : String} {r r' : V → List V → Hp → VK → Prop} (h : MtR X id r) (i : ∀ x vs H Q,r' x vs H Q → r x vs H Q) : MtR X id r':=fun pins s σ H x xs v us Q I rx rv q=>h pins s σ H x xs v us Q I rx rv (i x xs H Q q)
section
variable {X : Cx} {W : WX} {x : Str} {p pos : Pos} {e : Expr} {es : List Expr} {fs : F (List U)} {g : P3}
theorem t_fB {σ : L2.St} {H : Hp} {Q : VK} (h : tF X.K W (fB g fs) σ H Q) : tCB (rM X.K g) (tFs X.K W fs) σ H Q:=by
 obtain ⟨m,env,st,r,re,p⟩:=h
 exact tFs_step r re p fun us st1 vs m1 H1 h1 r1 re1 e1 p1=>⟨m1,st1,us,r1,h1,PV2.of p1⟩
/-- len(e),.. -/
theorem d_bi {id : String} (h : CallR X (.builtin id) (rM X.K g)) (hm : X.mg x = none) (hb : bootBuiltins x = some (.builtin id)) (ha : DA X W (e :: es) fs) (hg : Gl X x:=by rfl) (hn : x ≠ "__name__":=by decide) (hd : (x == ("__debug__" : Str)) = false:=by decide)
  (he : starEach (e :: es) X.env = (false,eval e X.env) :: starEach es X.env:=by rfl) (hpl : (backTo pos (starEach es X.env)).any (·.1) = false:=by rfl) : DE X W (.Call (.Name x p) (e :: es) [] pos) (fB g fs) :=
 ⟨PE.imp (pe_callB h hg hm hb ha.pa hn hd he hpl) fun _ _ _ q=>t_fB q⟩
/-- int(e),.. -/
theorem d_bt {T : String} (h : CallR X (.type T) (rM X.K g)) (hm : X.mg x = none) (hb : bootBuiltins x = some (.type T)) (ha : DA X W (e :: es) fs) (hg : Gl X x:=by rfl) (hn : x ≠ "__name__":=by decide) (hd : (x == ("__debug__" : Str)) = false:=by decide)
  (he : starEach (e :: es) X.env = (false,eval e X.env) :: starEach es X.env:=by rfl) (hpl : (backTo pos (starEach es X.env)).any (·.1) = false:=by rfl) : DE X W (.Call (.Name x p) (e :: es) [] pos) (fB g fs) :=
 ⟨PE.imp (pe_callTy h hg hm hb ha.pa hn hd he hpl) fun _ _ _ q=>t_fB q⟩
end
noncomputable def lenN (st : Store) (u : U) : Option Nat:=match u with
 | .d (.str x)=>if x.length ≤ sizeLine then some x.length else none
 | .d (.tup ds)=>some ds.length
 | u=>match getL st u with
  | some us=>some us.length
  | none=>(getD st u).map (·.length)
noncomputable def oLen : List U → Store → Option U:=fun us st=>match us with
 | [u]=>(lenN st u).map fun n=>.d (.int n)
 | _=>none
noncomputable def oInt : List U → Store → Option U:=fun us _=>match us with
 | [.d (.int i)]=>some (.d (.int i))
 | [.d (.bl k)]=>some (.d (.int (if k = true then 1 else 0)))
 | [.d (.str a)]=>if a.length ≤ 640 then (intText? a).map fun n=>.d (.int n) else none
 | _=>none
noncomputable def oAbs : List U → Store → Option U:=fun us _=>match us with
 | [.d (.int i)]=>some (.d (.int (if i < 0 then -i else i)))
 | _=>none
noncomputable def oMin : List U → Store → Option U:=fun us _=>match us with
 | [.d (.int i),.d (.int j)]=>some (.d (.int (if j < i then j else i)))
 | _=>none
noncomputable def oMax : List U → Store → Option U:=fun us _=>match us with
 | [.d (.int i),.d (.int j)]=>some (.d (.int (if j > i then j else i)))
 | _=>none
noncomputable def oStr : List U → Store → Option U:=fun us _=>match us with
 | [.d (.int i)]=>if i.natAbs.log2 < 1920 then some (.d (.str (Str.ofString (toString i)))) else none
 | _=>none
noncomputable def itemsU (st : Store) (u : U) : Option (List U):=match getL st u with
 | some us=>some us
 | none=>(getT u).map fun ds=>ds.map .d
/-- list(x): data -/
noncomputable def oList : List U → Store → Option U:=fun us st=>match us with
 | [u]=>match itemsU st u with
  | some us=>(pureL us).map fun ds=>.d (.lst ds)
  | none=>none
 | _=>none
/-- list(x): a cell -/
noncomputable def oListC : P3:=fun us st=>match us with
 | [u]=>match itemsU st u with
  | some us=>some (.ref st.length,st ++ [.lst us])
  | none=>none
 | _=>none
noncomputable def oTuple : List U → Store → Option U:=fun us st=>match us with
 | [.d (.tup ds)]=>some (.d (.tup ds))
 | [u]=>match getL st u with
  | some us=>(pureL us).map fun ds=>.d (.tup ds)
  | none=>none
 | _=>none
noncomputable def blsU : List U → Option (List Bool):=allM fun u=>match u with
 | .d (.bl k)=>some k
 | _=>none
noncomputable def strsU : List U → Option (List Str):=allM fun u=>match u with
 | .d (.str k)=>some k
 | _=>none
noncomputable def oAll : List U → Store → Option U:=fun us st=>match us with
 | [u]=>match getL st u with
  | some us=>(blsU us).map fun ks=>.d (.bl (ks.all id))
  | none=>none
 | _=>none
noncomputable def oAny : List U → Store → Option U:=fun us st=>match us with
 | [u]=>match getL st u with
  | some us=>(blsU us).map fun ks=>.d (.bl (ks.any id))
  | none=>none
 | _=>none
/-- a value's class -/
noncomputable def tyN (cs : List Addr) (st : Store) : U → Option Value
 | .d .non=>some (.type "NoneType")
 | .d (.bl _)=>some (.type "bool")
 | .d (.int _)=>some (.type "int")
 | .d (.str _)=>some (.type "str")
 | .d (.tup _)=>some (.type "tuple")
 | .d (.lst _)=>some (.type "list")
 | .d (.scr _)=>some (.type "list")
 | .d (.dct _)=>some (.type "dict")
 | .d (.ins C _)=>if C ∈ cs then some (.ref C) else none
 | .ref n=>match st[n]? with
  | some (.lst _)=>some (.type "list")
  | some (.tup _)=>some (.type "tuple")
  | some (.dct _)=>some (.type "dict")
  | some (.ins C _)=>if C ∈ cs then some (.ref C) else none
  | some (.tbl _ _)=>none
  | some (.lck _)=>none
  | some (.kdc _ _)=>none
  | none=>none
 | _=>none
noncomputable def oIsi (K : PySem.W.Frag) (cs : List Addr) : List U → Store → Option U:=fun us st=>match us with
 | [u,.d (.ty n)]=>match tyN cs st u with
  | some t=>(PySem.W.kitOne K t (.type n)).map fun k=>.d (.bl k)
  | none=>none
 | [u,.d (.obj C)]=>match tyN cs st u with
  | some t=>(PySem.W.kitOne K t (.ref C)).map fun k=>.d (.bl k)
  | none=>none
 | _=>none
section
variable {K : PySem.W.Frag} {m : List Addr} {H : Hp} {st : Store}
theorem RpUK.length : ∀ {us : List (Key × U)} {vs : List (Key × V)},RpUK K m H us vs → vs.length = us.length
 | [],_,h=>by rw [show _ = [] from h]; rfl
 | (k,u) :: us,_,⟨v,r,e,h1,h2⟩=>by rw [e,List.length_cons,List.length_cons,RpUK.length h2]
theorem lenN_rp (r : Rep K m st H) {u : U} {v : V} {n : Nat} (h : RpU K m H u v) (e : lenN st u = some n) : LenV K v H n ∨ ∃ a kvs,v = .ref a ∧ Rd H a (.dK kvs) ∧ kvs.length = n:=by
 unfold lenN at e
 split at e
 ·rename_i x
  cases h
  split at e
  ·rename_i hz; cases e; exact .inl ⟨hz,rfl⟩
  ·cases e
 ·rename_i ds
  obtain ⟨a,vs,rfl,t,q⟩:=h
  cases e
  exact .inl (.inr ⟨vs,t.sq,q.length.symm⟩)
 ·split at e
  ·rename_i us hl
   obtain ⟨a,vs,rfl,t,q⟩:=getL_rp r h hl
   cases e
   exact .inl (.inl ⟨vs,t,q.length.symm⟩)
  ·cases q : getD st u with
   | none=>rw [q] at e; cases e
   | some kvs =>
    rw [q] at e; cases e
    obtain ⟨a,vs,rfl,t,q⟩:=getD_rp r h q
    refine .inr ⟨a,vs,rfl,t,?_⟩
    exact q.length
theorem bls_rp : ∀ {us : List U} {vs : List V} {ns : List Bool},RpUs K m H us vs → blsU us = some ns → vs = ns.map V.bl
 | [],vs,ns,h,e=>by cases e; exact h
 | u :: us,vs,ns,⟨v,r,ev,h1,h2⟩,e=>by
  subst ev
  unfold blsU allM at e
  split at e
  ·rename_i b bs q1 q2
   cases e
   rw [List.map_cons,← bls_rp h2 q2]
   split at q1
   ·cases q1; rw [show v = V.bl b from h1]
   ·cases q1
  ·cases e
theorem strs_rp : ∀ {us : List U} {vs : List V} {ns : List Str},RpUs K m H us vs → strsU us = some ns → vs = ns.map V.str
 | [],vs,ns,h,e=>by cases e; exact h
 | u :: us,vs,ns,⟨v,r,ev,h1,h2⟩,e=>by
  subst ev
  unfold strsU allM at e
  split at e
  ·rename_i b bs q1 q2
   cases e
   rw [List.map_cons,← strs_rp h2 q2]
   split at q1
   ·cases q1; rw [show v = V.str b from h1]
   ·cases q1
  ·cases e
theorem RpDs.ints : ∀ (ns : List Int),RpDs K m H (ns.map .int) (ns.map V.int)
 | []=>rfl
 | n :: ns=>⟨.int n,_,rfl,rfl,RpDs.ints ns⟩
theorem RpDs.strs : ∀ (ns : List Str),RpDs K m H (ns.map .str) (ns.map V.str)
 | []=>rfl
 | n :: ns=>⟨.str n,_,rfl,rfl,RpDs.strs ns⟩
theorem itemsU_rp (r : Rep K m st H) {u : U} {v : V} {us : List U} (h : RpU K m H u v) (e : itemsU st u = some us) : ∃ a vs,v = .ref a ∧ (SqL K H a vs ∨ SqT K H a vs) ∧ RpUs K m H us vs:=by
 unfold itemsU at e
 split at e
 ·rename_i us' hl
  cases e
  obtain ⟨a,vs,e1,t,q⟩:=getL_rp r h hl
  exact ⟨a,vs,e1,.inl t,q⟩
 ·cases q : getT u with
  | none=>rw [q] at e; cases e
  | some ds =>
   rw [q] at e; cases e
   obtain ⟨a,vs,e1,t,q⟩:=getT_rp h q
   exact ⟨a,vs,e1,.inr t.sq,RpUs.ofD q⟩
/-- the class of an own class's instances,as the model asks it -/
structure ClsTy (K : PySem.W.Frag) (C : Addr) : Prop where
 cl : Cls K C
 f1 : PySem.W.findIn K (.ref C) "__class__" = some (some (.builtin "object.__class__"))
 f2 : PySem.W.specialIn K (.builtin "object.__class__") "__get__" = some (some (.builtin "getset_descriptor.__get__"))
 f3 : PySem.W.takesIn K (.builtin "object.__class__") = some true
 f4 : PySem.W.mroIn K C (.type "object") = some true
theorem ktup_ty {a : Addr} {vs : List V} (h : TpV K m H a vs) : TyX K H (.ref a) (.type "tuple"):=by
 rcases h with ⟨_,r⟩ | (r | ⟨_,r⟩) | ⟨o,its,n,h1,h2,_⟩
 ·exact .base (.tup r)
 ·cases r
 ·cases r
 ·exact .kTuple h1 h2
theorem scV_ty {a : Addr} {vs : List V} (h : ScV K m H a vs) : TyX K H (.ref a) (.type "list"):=by
 rcases h with ⟨_,ob,r⟩ | (r | ⟨_,r⟩) | ⟨o,its,n,h1,h2,_⟩
 ·exact .base (.frz r)
 ·cases r
 ·cases r
 ·exact .kList h1 h2
/-- the own classes whose instances are asked for their class -/
noncomputable def Own (K : PySem.W.Frag) (cs : List Addr) : Prop:=∀ C ∈ cs,ClsTy K C
theorem tyN_rp {cs : List Addr} (r : Rep K m st H) (hC : Own K cs) {u : U} {v : V} {t : Value} (h : RpU K m H u v) (e : tyN cs st u = some t) : TyX K H v t:=by
 cases u with
 | ref n =>
  obtain ⟨a,ha,rfl⟩:=h
  simp only [tyN] at e
  split at e
  ·rename_i us hs
   obtain ⟨ho,h1,vs,e2,h2⟩:=r.cell n _ a hs ha
   subst e2; cases e; exact .base (.lst h1)
  ·rename_i us hs
   obtain ⟨ho,h1,vs,e2,h2⟩:=r.cell n _ a hs ha
   subst e2; cases e; exact .base (.tup h1)
  ·rename_i us hs
   obtain ⟨ho,h1,vs,e2,h2⟩:=r.cell n _ a hs ha
   subst e2; cases e; exact .base (.dK h1)
  ·rename_i C us hs
   obtain ⟨ho,h1,dx,vs,e2,h2⟩:=r.cell n _ a hs ha
   split at e
   ·rename_i hc
    subst e2; cases e
    have c:=hC C hc
    exact .base (.ins h1 c.cl c.f1 c.f2 c.f3 c.f4)
   ·cases e
  ·cases e
  ·cases e
  ·cases e
  ·cases e
 | d x =>
  cases x with
  | non=>cases h; cases e; exact .base .non
  | bl b=>cases h; cases e; exact .base (.bl b)
  | int i=>cases h; cases e; exact .base (.int i)
  | str x=>cases h; cases e; exact .base (.str x)
  | tup ds =>
   obtain ⟨a,vs,rfl,t,q⟩:=h
   cases e
   exact ktup_ty t
  | lst ds =>
   obtain ⟨a,vs,rfl,t,q⟩:=h
   cases e
   exact .base (.lst t.2)
  | scr ns =>
   obtain ⟨a,rfl,t⟩:=h
   cases e
   exact scV_ty t
  | dct kvs =>
   obtain ⟨a,vs,rfl,t,q⟩:=h
   cases e
   rcases t.2 with t | ⟨o,t⟩
   ·exact .base (.dK t)
   ·exact .fDict t
  | ins C fs =>
   obtain ⟨a,dx,vs,rfl,t,q⟩:=h
   simp only [tyN] at e
   split at e
   ·rename_i hc
    cases e
    have c:=hC C hc
    exact .base (.ins t.2 c.cl c.f1 c.f2 c.f3 c.f4)
   ·cases e
  | _=>cases e
end
section
variable {X : Cx}
theorem cr_len : CallR X (.builtin "len") (rM X.K (pu oLen)):=by
 have h2 : CallR X (.builtin "len") (fun xs H Q=>∃ a kvs,xs = [V.ref a] ∧ Rd H a (.dK kvs) ∧ Q (.int (kvs.length : Nat)) H):=by
  intro pins s σ H xs us Q I r h
  obtain ⟨a,kvs,rfl,ha,q⟩:=h
  obtain ⟨u,rfl,ru⟩:=L2.vals1 r
  cases ru
  exact L2.d_len I ha fun t s' I'=>⟨.int (kvs.length : Nat),H,I',⟨t,rfl⟩,q⟩
 refine CallR.imp (call_len.or h2) fun vs H Q ⟨m,st,us,r,ru,p⟩=>?_
 obtain ⟨u,e,p⟩:=p.pu
 unfold oLen at e
 split at e
 ·rename_i x
  obtain ⟨v,rfl,hv⟩:=ru.one
  cases q : lenN st x with
  | none=>rw [q] at e; cases e
  | some n =>
   rw [q] at e; cases e
   rcases lenN_rp r hv q with h | ⟨a,kvs,rfl,h,rfl⟩
   ·exact .inl ⟨v,n,rfl,h,p.here r rfl⟩
   ·exact .inr ⟨a,kvs,rfl,h,p.here r rfl⟩
 ·cases e
theorem cr_int : CallR X (.type "int") (rM X.K (pu oInt)):=by
 refine CallR.imp (call_int1.or call_int_str) fun vs H Q ⟨m,st,us,r,ru,p⟩=>?_
 obtain ⟨u,e,p⟩:=p.pu
 unfold oInt at e
 split at e
 ·obtain ⟨v,rfl,hv⟩:=ru.one
  cases hv; cases e
  exact .inl (.inl ⟨_,rfl,p.here r rfl⟩)
 ·obtain ⟨v,rfl,hv⟩:=ru.one
  cases hv; cases e
  exact .inl (.inr ⟨_,rfl,p.here r rfl⟩)
 ·obtain ⟨v,rfl,hv⟩:=ru.one
  cases hv
  split at e
  ·rename_i hz
   cases q : intText? _ with
   | none=>rw [q] at e; cases e
   | some n=>rw [q] at e; cases e; exact .inr ⟨_,n,rfl,q,hz,p.here r rfl⟩
  ·cases e
 ·cases e
theorem cr_abs : CallR X (.builtin "abs") (rM X.K (pu oAbs)):=by
 refine CallR.imp call_abs fun vs H Q ⟨m,st,us,r,ru,p⟩=>?_
 obtain ⟨u,e,p⟩:=p.pu
 unfold oAbs at e
 split at e
 ·obtain ⟨v,rfl,hv⟩:=ru.one
  cases hv; cases e
  exact ⟨_,rfl,p.here r rfl⟩
 ·cases e
theorem cr_min (hc : X.calm = true) : CallR X (.builtin "min") (rM X.K (pu oMin)):=by
 refine CallR.imp (call_min2 hc) fun vs H Q ⟨m,st,us,r,ru,p⟩=>?_
 obtain ⟨u,e,p⟩:=p.pu
 unfold oMin at e
 split at e
 ·obtain ⟨v,x,rfl,hv,hx⟩:=ru.two
  cases hv; cases hx; cases e
  exact ⟨_,_,rfl,p.here r rfl⟩
 ·cases e
theorem cr_max (hc : X.calm = true) : CallR X (.builtin "max") (rM X.K (pu oMax)):=by
 refine CallR.imp (call_max2 hc) fun vs H Q ⟨m,st,us,r,ru,p⟩=>?_
 obtain ⟨u,e,p⟩:=p.pu
 unfold oMax at e
 split at e
 ·obtain ⟨v,x,rfl,hv,hx⟩:=ru.two
  cases hv; cases hx; cases e
  exact ⟨_,_,rfl,p.here r rfl⟩
 ·cases e
theorem cr_list : CallR X (.type "list") (rM X.K (pu oList)):=by
 refine CallR.imp call_list_of fun vs H Q ⟨m,st,us,r,ru,p⟩=>?_
 obtain ⟨u,e,p⟩:=p.pu
 unfold oList at e
 split at e
 ·obtain ⟨v,rfl,hv⟩:=ru.one
  split at e
  ·rename_i us hl
   obtain ⟨a,ws,rfl,t,q⟩:=itemsU_rp r hv hl
   cases q2 : pureL us with
   | none=>rw [q2] at e; cases e
   | some ds =>
    rw [q2] at e; cases e
    exact ⟨a,ws,rfl,t,fun l hl=>p _ m _ (new_lst r hl (pureL_rp q q2)) (r.new hl _) (ext_new r hl _)⟩
  ·cases e
 ·cases e
theorem cr_all' (hc : X.calm = true) : CallR X (.builtin "all") (rM X.K (pu oAll)):=by
 refine CallR.imp (cr_all hc) fun vs H Q ⟨m,st,us,r,ru,p⟩=>?_
 obtain ⟨u,e,p⟩:=p.pu
 unfold oAll at e
 split at e
 ·obtain ⟨v,rfl,hv⟩:=ru.one
  split at e
  ·rename_i us hl
   obtain ⟨a,ws,rfl,t,q⟩:=getL_rp r hv hl
   cases q2 : blsU us with
   | none=>rw [q2] at e; cases e
   | some ds =>
    rw [q2] at e; cases e
    have:=bls_rp q q2
    subst this
    exact ⟨a,ds,rfl,t,p.here r rfl⟩
  ·cases e
 ·cases e
theorem cr_isi {cs : List Addr} (hC : Own X.K cs) : CallR X (.builtin "isinstance") (rM X.K (pu (oIsi X.K cs))):=by
 refine CallR.imp call_isi fun vs H Q ⟨m,st,us,r,ru,p⟩=>?_
 obtain ⟨u,e,p⟩:=p.pu
 unfold oIsi at e
 split at e
 ·obtain ⟨v,x,rfl,hv,hx⟩:=ru.two
  cases hx
  split at e
  ·rename_i t ht
   cases q : PySem.W.kitOne X.K t (.type _) with
   | none=>rw [q] at e; cases e
   | some k =>
    rw [q] at e; cases e
    exact ⟨v,_,t,_,k,rfl,.ty _,tyN_rp r hC hv ht,q,p.here r rfl⟩
  ·cases e
 ·obtain ⟨v,x,rfl,hv,hx⟩:=ru.two
  cases hx
  split at e
  ·rename_i t ht
   cases q : PySem.W.kitOne X.K t (.ref _) with
   | none=>rw [q] at e; cases e
   | some k =>
    rw [q] at e; cases e
    exact ⟨v,_,t,_,k,rfl,.own _,tyN_rp r hC hv ht,q,p.here r rfl⟩
  ·cases e
 ·cases e
end
end VL
namespace VL
open PySem PySem.Spec PyProof.Rows L2
noncomputable def tyB (T : String) (st : Store) (u : U) : Bool:=match u with
 | .d (.str _)=>decide (T = "str")
 | .ref n=>match st[n]? with
  | some (.lst _)=>decide (T = "list")
  | some (.dct _)=>decide (T = "dict")
  | _=>false
 | u=>decide (T = "list") && (getL st u).isSome
noncomputable def fM (T : String) (g : P4) (fo : F U) (fs : F (List U)) : F U:=bnd fo fun u=>fun env st=>if tyB T st u = true then bnd fs (fun us=>fun _ st=>.of2 (g u us st)) env st else .bad
section
variable {K : PySem.W.Frag} {m : List Addr} {H : Hp} {st : Store}
theorem tyB_rp {T : String} (r : Rep K m st H) {u : U} {v : V} (h : RpU K m H u v) (e : tyB T st u = true) : tyV K T v H:=by
 unfold tyB at e
 split at e
 ·cases h; exact (of_decide_eq_true e : T = "str")
 ·obtain ⟨a,ha,rfl⟩:=h
  split at e
  ·rename_i us hs
   obtain ⟨ho,h1,vs,e2,h2⟩:=r.cell _ _ a hs ha
   subst e2
   exact .inl ⟨of_decide_eq_true e,vs,.inl (.inl h1)⟩
  ·rename_i us hs
   obtain ⟨ho,h1,vs,e2,h2⟩:=r.cell _ _ a hs ha
   subst e2
   exact .inr (.inr (.inl ⟨of_decide_eq_true e,.inl ⟨vs,h1⟩⟩))
  ·cases e
 ·rw [Bool.and_eq_true] at e
  obtain ⟨e1,e2⟩:=e
  obtain ⟨us,hus⟩:=Option.isSome_iff_exists.mp e2
  obtain ⟨a,vs,rfl,t,q⟩:=getL_rp r h hus
  exact .inl ⟨of_decide_eq_true e1,vs,t⟩
end
section
variable {X : Cx} {W : WX} {pos apos cpos : Pos} {o e : Expr} {es : List Expr} {fo : F U} {fs : F (List U)} {g : P4} {T id : String} {name : Str}
theorem t_fM {σ : L2.St} {H : Hp} {Q : VK} (h : tF X.K W (fM T g fo fs) σ H Q) : tBM X.K T (mM X.K g) (tF X.K W fo) (tFs X.K W fs) σ H Q:=by
 obtain ⟨m,env,st,r,re,p⟩:=h
 refine tF_step r re p fun u st1 v m1 H1 h1 r1 re1 e1 p1=>?_
 by_cases ht : tyB T st1 u = true
 ·simp only [ht,if_true] at p1
  exact ⟨tyB_rp r1 h1 ht,tFs_step r1 re1 p1 fun us st2 vs m2 H2 h2 r2 re2 e2 p2=>⟨m2,st2,u,us,r2,h1.ext e2,h2,PV2.of p2⟩⟩
 ·rw [if_neg ht] at p1; exact p1.elim
theorem d_m (hp : PlainAttrs T) (hs : Slot T name id) (ht : typeOf (.builtin id) = pure (.type "method_descriptor")) (h : MtR X id (mM X.K g)) (ho : DE X W o fo) (ha : DA X W (e :: es) fs)
  (h1 : attributeBase o name X.env (eval o X.env) = eval o X.env:=by rfl)
  (h2 : (((backTo cpos (starEach (e :: es) X.env)).all (fun x=>!x.1) && (backToKw cpos (keywordEach [] X.env)).all (fun x=>x.1.isSome)) && decide ((e :: es).length + ([] : List Keyword).length + (if ([] : List Keyword).isEmpty = true then 0 else 1) < 30)) = true:=by rfl)
  (h3 : (apos.endLine == cpos.line) = true:=by rfl) (h4 : starEach (e :: es) X.env = (false,eval e X.env) :: starEach es X.env:=by rfl) (h5 : (backTo cpos (starEach es X.env)).any (fun x=>x.1) = false:=by rfl) :
  DE X W (.Call (.Attribute o name apos) (e :: es) [] cpos) (fM T g fo fs):=⟨PE.imp (pe_bm hp hs ht h ho.pe ha.pa h1 h2 h3 h4 h5) fun _ _ _ q=>t_fM q⟩
end
noncomputable def lstC (st : Store) : U → Option (Nat × List U)
 | .ref n=>match st[n]? with
  | some (.lst us)=>some (n,us)
  | _=>none
 | _=>none
noncomputable def mAppend : P4:=fun u us st=>match lstC st u,us with
 | some (n,xs),[y]=>if xs.length < sizeLine then some (.d .non,st.set n (.lst (xs ++ [y]))) else none
 | _,_=>none
noncomputable def mSplit : U → List U → Store → Option U:=fun u us _=>match u,us with
 | .d (.str a),[.d (.str b)]=>if (b.length == 0) = false ∧ a.length + 2 ≤ sizeLine then some (.d (.lst ((Txt.split a b).map .str))) else none
 | _,_=>none
noncomputable def mPartition : U → List U → Store → Option U:=fun u us _=>match u,us with
 | .d (.str a),[.d (.str b)]=>if (b.length == 0) = false ∧ a.length ≤ sizeLine then some (.d (.tup [.str (Txt.partition a b).1,.str (Txt.partition a b).2.1,.str (Txt.partition a b).2.2])) else none
 | _,_=>none
noncomputable def mJoin : U → List U → Store → Option U:=fun u us st=>match u,us with
 | .d (.str a),[b]=>match itemsU st b with
  | some us=>match strsU us with
   | some ys=>if (ys.map fun x=>x.length).sum + ys.length * a.length ≤ 16777216 then some (.d (.str (Txt.join a ys))) else none
   | none=>none
  | none=>none
 | _,_=>none
noncomputable def mStarts : U → List U → Store → Option U:=fun u us _=>match u,us with
 | .d (.str a),[.d (.str b)]=>some (.d (.bl (Txt.startswith a b)))
 | _,_=>none
section
variable {K : PySem.W.Frag} {m : List Addr} {H : Hp} {st : Store}
theorem lstC_rp (r : Rep K m st H) {u : U} {v : V} {n : Nat} {us : List U} (h : RpU K m H u v) (e : lstC st u = some (n,us)) :
  ∃ a vs,v = .ref a ∧ H a = some (.lst vs) ∧ RpUs K m H us vs ∧ (∀ us' vs',RpUs K m H us' vs' → Rep K m (st.set n (.lst us')) (upd H a (.lst vs')) ∧ Ext m H m (upd H a (.lst vs'))):=by
 cases u with
 | d x=>cases e
 | ref k =>
  obtain ⟨a,ha,rfl⟩:=h
  simp only [lstC] at e
  split at e
  ·rename_i zs hs
   cases e
   obtain ⟨ho,h1,vs,e2,h2⟩:=r.cell _ _ a hs ha
   subst e2
   have ma : a ∈ m:=List.mem_of_getElem? ha
   exact ⟨a,vs,rfl,h1,h2,fun us' vs' q=>⟨r.write ha ⟨vs',rfl,q.ext (ext_write ma _ (nf_l h1))⟩ (nf_l h1),ext_write ma _ (nf_l h1)⟩⟩
  ·cases e
theorem RpUs.snoc {us : List U} {vs : List V} {u : U} {v : V} (h : RpUs K m H us vs) (k : RpU K m H u v) : RpUs K m H (us ++ [u]) (vs ++ [v]):=h.append ⟨v,[],rfl,k,rfl⟩
theorem RpUs.nil {vs : List V} (h : RpUs K m H [] vs) : vs = []:=h
end
section
variable {X : Cx}
theorem mt_append' : MtR X "list.append" (mM X.K mAppend):=by
 refine MtR.imp mt_append fun x vs H Q ⟨m,st,u,us,r,ru,rus,p⟩=>?_
 unfold mAppend at p
 split at p
 ·rename_i n xs y hl
  split at p
  ·rename_i hz
   obtain ⟨a,ws,rfl,h1,h2,h3⟩:=lstC_rp r ru hl
   obtain ⟨v,rfl,hv⟩:=rus.one
   obtain ⟨g1,g2⟩:=h3 _ _ (h2.snoc hv)
   exact ⟨a,ws,v,rfl,rfl,h1,by rw [h2.length]; exact hz,p _ m _ rfl g1 g2⟩
  ·exact p.elim
 ·exact p.elim
theorem mt_split' : MtR X "str.split" (mM X.K (pu4 mSplit)):=by
 refine MtR.imp mt_split fun x vs H Q ⟨m,st,u,us,r,ru,rus,p⟩=>?_
 obtain ⟨w,e,p⟩:=p.pu4
 unfold mSplit at e
 split at e
 ·rename_i a b
  obtain ⟨v,rfl,hv⟩:=rus.one
  cases ru; cases hv
  split at e
  ·rename_i hz; cases e
   exact ⟨a,b,rfl,rfl,hz.1,hz.2,fun l hl=>p _ m _ (new_lst r hl (RpDs.strs _)) (r.new hl _) (ext_new r hl _)⟩
  ·cases e
 ·cases e
theorem mt_partition' : MtR X "str.partition" (mM X.K (pu4 mPartition)):=by
 refine MtR.imp mt_partition fun x vs H Q ⟨m,st,u,us,r,ru,rus,p⟩=>?_
 obtain ⟨w,e,p⟩:=p.pu4
 unfold mPartition at e
 split at e
 ·rename_i a b
  obtain ⟨v,rfl,hv⟩:=rus.one
  cases ru; cases hv
  split at e
  ·rename_i hz; cases e
   exact ⟨a,b,rfl,rfl,hz.1,hz.2,fun l hl=>p _ m _ (new_tup r hl (RpDs.strs [_,_,_])) (r.new hl _) (ext_new r hl _)⟩
  ·cases e
 ·cases e
theorem mt_join' : MtR X "str.join" (mM X.K (pu4 mJoin)):=by
 refine MtR.imp mt_join fun x vs H Q ⟨m,st,u,us,r,ru,rus,p⟩=>?_
 obtain ⟨w,e,p⟩:=p.pu4
 unfold mJoin at e
 split at e
 ·rename_i a b
  obtain ⟨v,rfl,hv⟩:=rus.one
  cases ru
  split at e
  ·rename_i zs hz
   obtain ⟨l,ws,rfl,t,q⟩:=itemsU_rp r hv hz
   split at e
   ·rename_i ys hy
    have:=strs_rp q hy
    subst this
    split at e
    ·rename_i hs; cases e
     exact ⟨a,l,ys,rfl,rfl,t,hs,p.here r rfl⟩
    ·cases e
   ·cases e
  ·cases e
 ·cases e
theorem mt_starts' : MtR X "str.startswith" (mM X.K (pu4 mStarts)):=by
 refine MtR.imp mt_startswith fun x vs H Q ⟨m,st,u,us,r,ru,rus,p⟩=>?_
 obtain ⟨w,e,p⟩:=p.pu4
 unfold mStarts at e
 split at e
 ·obtain ⟨v,rfl,hv⟩:=rus.one
  cases ru; cases hv; cases e
  exact ⟨_,_,rfl,rfl,p.here r rfl⟩
 ·cases e
end
noncomputable def putU (kvs : List (Key × U)) (k : Key) (v : U) : List (Key × U) :=
 if (kvs.any fun kv=>decide (kv.1 = k)) = true then kvs.map fun kv=>if kv.1 = k then (kv.1,v) else kv else kvs ++ [(k,v)]
noncomputable def setU (o i u : U) (st : Store) : Option Store:=match o with
 | .ref n=>match st[n]? with
  | some (.lst us)=>match i with
   | .d (.int j)=>(ixN us.length j).map fun k=>st.set n (.lst (us.set k u))
   | _=>none
  | some (.dct kvs)=>match keyD i with
   | some k=>if kvs.length < sizeLine then some (st.set n (.dct (putU kvs k u))) else none
   | none=>none
  | _=>none
 | _=>none
noncomputable def tgSub (fo fi : F U) : U → G:=fun u env st=>match fo env st with
 | .ok o st1=>match fi env st1 with
  | .ok i st2=>match setU o i u st2 with
   | some st'=>.ok env .nx st'
   | none=>.bad
  | _=>.bad
 | _=>.bad
section
variable {K : PySem.W.Frag} {m : List Addr} {H : Hp} {st : Store}
theorem RpUK.any {k : Key} : ∀ {us : List (Key × U)} {vs : List (Key × V)},RpUK K m H us vs → (us.any fun kv=>decide (kv.1 = k)) = (vs.any fun kv=>decide (kv.1 = k))
 | [],_,h=>by rw [show _ = [] from h]; rfl
 | (k',u) :: us,_,⟨v,r,e,h1,h2⟩=>by subst e; rw [List.any_cons,List.any_cons,RpUK.any h2]
theorem RpUK.mapP {k : Key} {w : U} {x : V} (hw : RpU K m H w x) : ∀ {us : List (Key × U)} {vs : List (Key × V)},RpUK K m H us vs → RpUK K m H (us.map fun kv=>if kv.1 = k then (kv.1,w) else kv) (vs.map fun kv=>if kv.1 = k then (kv.1,x) else kv)
 | [],_,h=>by rw [show _ = [] from h]; rfl
 | (k',u) :: us,_,⟨v,r,e,h1,h2⟩=>by
  subst e
  rw [List.map_cons,List.map_cons]
  by_cases hk : k' = k
  ·subst hk; simp only [if_true]; exact ⟨x,_,rfl,hw,RpUK.mapP hw h2⟩
  ·simp only [hk,if_false]; exact ⟨v,_,rfl,h1,RpUK.mapP hw h2⟩
theorem RpUK.snoc {k : Key} {w : U} {x : V} (hw : RpU K m H w x) : ∀ {us : List (Key × U)} {vs : List (Key × V)},RpUK K m H us vs → RpUK K m H (us ++ [(k,w)]) (vs ++ [(k,x)])
 | [],_,h=>by rw [show _ = [] from h]; exact ⟨x,[],rfl,hw,rfl⟩
 | (k',u) :: us,_,⟨v,r,e,h1,h2⟩=>by subst e; exact ⟨v,_,rfl,h1,RpUK.snoc hw h2⟩
theorem RpUK.put {us : List (Key × U)} {vs : List (Key × V)} (h : RpUK K m H us vs) (k : Key) {w : U} {x : V} (hw : RpU K m H w x) : RpUK K m H (putU us k w) (putK vs k x):=by
 unfold putU putK
 rw [h.any]
 split
 ·exact h.mapP hw
 ·exact h.snoc hw
noncomputable def dctC (st : Store) : U → Option (Nat × List (Key × U))
 | .ref n=>match st[n]? with
  | some (.dct us)=>some (n,us)
  | _=>none
 | _=>none
theorem dctC_rp (r : Rep K m st H) {u : U} {v : V} {n : Nat} {us : List (Key × U)} (h : RpU K m H u v) (e : dctC st u = some (n,us)) :
  ∃ a vs,v = .ref a ∧ H a = some (.dK vs) ∧ RpUK K m H us vs ∧ (∀ us' vs',RpUK K m H us' vs' → Rep K m (st.set n (.dct us')) (upd H a (.dK vs')) ∧ Ext m H m (upd H a (.dK vs'))):=by
 cases u with
 | d x=>cases e
 | ref k =>
  obtain ⟨a,ha,rfl⟩:=h
  simp only [dctC] at e
  split at e
  ·rename_i zs hs
   cases e
   obtain ⟨ho,h1,vs,e2,h2⟩:=r.cell _ _ a hs ha
   subst e2
   have ma : a ∈ m:=List.mem_of_getElem? ha
   exact ⟨a,vs,rfl,h1,h2,fun us' vs' q=>⟨r.write ha ⟨vs',rfl,q.ext (ext_write ma _ (nf_d h1))⟩ (nf_d h1),ext_write ma _ (nf_d h1)⟩⟩
  ·cases e
end
section
variable {X : Cx} {W : WX} {o i : Expr} {fo fi : F U} {pos : Pos}
noncomputable def tSetU (K : PySem.W.Frag) : TSet:=fun o i v H Q=>∃ m st a b u,Rep K m st H ∧ RpU K m H a o ∧ RpU K m H b i ∧ RpU K m H u v ∧ (match setU a b u st with
 | some st'=>∀ H',Rep K m st' H' → Ext m H m H' → Q H'
 | none=>False)
theorem set_ok (hu : X.A.units + 1 < cLine) : PSet X (tSetU X.K):=by
 intro pins s σ H o i v ov iv u Q I ro ri rv h
 obtain ⟨m,st,a,b,w,r,ha,hb,hw,p⟩:=h
 have run : (rSetL o i v H Q ∨ rSetD o i v H Q) → wpAny (model X.prog X.w) X.A (setItem ov iv u) (fun x s'=>∃ H',L2.Inv X pins σ H' s' ∧ Q H') X.xe s:=fun h=>by
  rcases h with h | h
  ·exact set_list pins s σ H o i v ov iv u Q I ro ri rv h
  ·exact set_dict hu pins s σ H o i v ov iv u Q I ro ri rv h
 refine run ?_
 cases e : setU a b w st with
 | none=>rw [e] at p; exact p.elim
 | some st' =>
  rw [e] at p
  unfold setU at e
  split at e
  ·rename_i n
   split at e
   ·rename_i us hs
    split at e
    ·rename_i j
     cases q : ixN us.length j with
     | none=>rw [q] at e; cases e
     | some k =>
      rw [q] at e; cases e
      obtain ⟨l,vs,rfl,h1,h2,h3⟩:=lstC_rp r ha (show lstC st (.ref n) = some (n,us) by simp only [lstC,hs])
      cases hb
      obtain ⟨g1,g2⟩:=h3 _ _ (h2.set k hw)
      exact .inl ⟨l,vs,j,k,rfl,rfl,h1,by rw [h2.length]; exact q,p _ g1 g2⟩
    ·cases e
   ·rename_i us hs
    split at e
    ·rename_i k hk
     split at e
     ·rename_i hz
      cases e
      obtain ⟨l,vs,rfl,h1,h2,h3⟩:=dctC_rp r ha (show dctC st (.ref n) = some (n,us) by simp only [dctC,hs])
      obtain ⟨g1,g2⟩:=h3 _ _ (h2.put k hw)
      have hy:=keyD_rp hb hk
      subst hy
      exact .inr ⟨l,_,rfl,.inl ⟨vs,k,h1,rfl,by rw [h2.length]; exact hz,rfl⟩,p _ g1 g2⟩
     ·cases e
    ·cases e
   ·cases e
  ·cases e
theorem dg_sub (hu : X.A.units + 1 < cLine) (ho : DE X W o fo) (hi : DE X W i fi)
  (ha : ∀ (v : Value),assign (Expr.Subscript o i pos) X.env v = (do
    let ov ← holding [v] (eval o X.env)
    let iv ← holding [v,ov] (eval i X.env)
    standAt pos
    holding [v,ov,iv] (setItem ov iv v)
    release [v,ov,iv] []):=by intro _; rfl) : DG X (.Subscript o i pos) [] (tgSub fo fi) :=
 ⟨PG.imp (pg_sub ho.pe hi.pe (set_ok hu) ha) fun v σ H Q ⟨m,env,st,u,r,re,ru,p⟩=>by
  cases e1 : fo env st with
  | bad=>simp only [tgSub,e1] at p
  | ex c fs st1=>simp only [tgSub,e1] at p
  | ok a st1 =>
   simp only [tgSub,e1] at p
   refine ⟨m,env,st,r,re,?_⟩
   rw [e1]
   intro ov m1 H1 h1 r1 x1
   refine ⟨m1,env,st1,r1,re.ext x1,?_⟩
   cases e2 : fi env st1 with
   | bad=>simp only [e2] at p
   | ex c fs st1=>simp only [e2] at p
   | ok b st2 =>
    simp only [e2] at p
    intro iv m2 H2 h2 r2 x2
    refine ⟨m2,st2,a,b,u,r2,h1.ext x2,h2,(ru.ext x1).ext x2,?_⟩
    cases e3 : setU a b u st2 with
    | none=>simp only [e3] at p
    | some st3 =>
     simp only [e3] at p
     exact fun H' r3 x3=>p σ m2 H' (re.ext (x1.trans (x2.trans x3))) r3 (x1.trans (x2.trans x3)) (Out.refl _ _)⟩
theorem nx_sub : TgNx (tgSub fo fi):=fun u env st=>by
 unfold tgSub
 cases fo env st with
 | bad=>trivial
 | ex c fs st1=>trivial
 | ok a st1 =>
  simp only
  cases fi env st1 with
  | bad=>trivial
  | ex c fs st1=>trivial
  | ok b st2 =>
   simp only
   cases setU a b u st2 with
   | none=>trivial
   | some st3=>trivial
end
end VL
namespace VL
open PySem PySem.Spec PyProof.Rows L2
structure RoomG (k : Nat) (A : Around) : Prop where
 rm : Room k A
 gd : A.guards = some []
theorem RoomG.deeper {k : Nat} {A : Around} (r : RoomG (k + 1) A) (env : Env) : RoomG k (A.deeper env):=⟨r.rm.deeper env,r.gd⟩
theorem RoomG.mono {j k : Nat} {A : Around} (r : RoomG k A) (h : j ≤ k) : RoomG j A:=⟨r.rm.mono h,r.gd⟩
theorem RoomG.make {k : Nat} {A : Around} (r : RoomG (k + 1) A) (C : Addr) (us : List Value) (kw : List (Str × Value)) : RoomG k (A.under (.builtin "type.__call__" { pos:=Value.ref C :: us,kw:=kw })) :=
 ⟨r.rm.make C us kw,r.gd⟩
structure FnG (P : Program) (w : World) (K : PySem.W.Frag) (mg : Str → Option Value) (base : Heap) (k : Nat) (f : Addr) (fd : FuncData) (ps : List Str) (sp : Sp) : Prop where
 len : ∀ (vs : List V) (H : Hp) (Q : VK) (E : XK),sp vs H Q E → vs.length = ps.length
 run : ∀ (A : Around) (outer : List Env) (s : Shared) (H : Hp) (args : Args) (us : List Value) (vs : List V) (Q : VK) (E : XK),RoomG k A → Env0 P w K mg base A outer s H → BindsTo s fd args (ps.zip us) → Vals vs us → sp vs H Q E →
  codeAny (model P w) A (.call (.ref f) args) (CR (L2.CX P w) outer P w H s Q E) s
section
variable {P : Program} {w : World} {K : PySem.W.Frag} {mg : Str → Option Value} {base : Heap}
theorem FnG.mono {j k : Nat} {f : Addr} {fd : FuncData} {ps : List Str} {sp : Sp} (F : FnG P w K mg base j f fd ps sp) (h : j ≤ k) : FnG P w K mg base k f fd ps sp :=
 ⟨F.len,fun A outer s H args us vs Q E r=>F.run A outer s H args us vs Q E (r.mono h)⟩
theorem fn_ofG {k : Nat} {f : Addr} {name qual : Str} {params : Arguments} {body : List Stmt} {scope : Scope} {dV kV doc pm cdv ct oc : Value} {an od : Option Addr} {osl : Array (Option Value)} {N ps : List Str} {sp : Sp}
  (lk : K.lookup f = some { cls:=oc,dict:=od,data:=.func (PySem.W.fnOf name qual params body scope dV kV doc pm an cdv ct),slots:=osl }) (hcd : PySem.W.codeIn K cdv qual = true) (S : FnScope N ps scope)
  (len : ∀ (vs : List V) (H : Hp) (Q : VK) (E : XK),sp vs H Q E → vs.length = ps.length)
  (hbody : ∀ (A : Around) (outer : List Env) (s : Shared) (H : Hp) (vs : List V) (Q : VK) (E : XK),RoomG k (A.deeper (envOfC qual scope s.heap.objs.size f cdv)) → sp vs H Q E →
   ∃ t,PSs (cxOf (L2.CX P w) P w K mg base N qual scope f cdv A outer s H E) body t ∧ t { nx:=fun _ H'=>Q .non H',rt:=Q } (L2.start N vs) H) :
  FnG P w K mg base (k + 1) f (PySem.W.fnOf name qual params body scope dV kV doc pm an cdv ct) ps sp:=⟨len,fun A outer s H args us vs Q E hr e0 hb r hsp=>by
 have hl:=len vs H Q E hsp
 have KX : PySem.W.Frag.In K s.heap:=PySem.W.Frag.In.keeps e0.mod.kin fun b o e=>(e0.bs b o e).1
 have lim:=Heap.NoLimit.keeps e0.mod.nolimit fun b o e=>(e0.bs b o e).1
 have hkind : ∀ x ∈ ps.zip us,scope.names.lookup x.1 = some .local ∨ scope.names.lookup x.1 = some .cell ∧ ((cellsFrom (s.heap.objs.size + 1) scope.names []).lookup x.1).isSome = true:=fun x hy=>by
  obtain ⟨n,v⟩:=x
  rcases S.par n (List.of_mem_zip hy).1 with q | q
  ·exact .inl q
  ·exact .inr ⟨q,PySem.W.cellsFrom_some scope.names (s.heap.objs.size + 1) [] (.inl q)⟩
 refine codeAny_call_function hr.rm.depth (KX f _ lk) rfl S.co S.gen rfl (PySem.W.codeRec_of KX hcd) (hb (model P w) A.in1 _ _ ?_)
 refine wpAny_newFunctionEnv_cells S.kind hkind fun env he s1 x=>?_
 subst he
 refine ⟨Heap.NoLimit.keeps lim x.toInCall.keep,codeAny_func ?_⟩
 obtain ⟨t,ht,hq⟩:=hbody A outer s H vs Q E (hr.deeper _) hsp
 have I:=inv_start (CX:=L2.CX P w) (mg:=mg) (E:=E) S hr.rm.hd e0 hl r x
 refine wpAny_mono (ht.run [] s1 (L2.start N vs) H { nx:=fun _ H'=>Q .non H',rt:=Q } I hq) (fun fl s' hs=>?_) fun e s' hs=>hs
 cases fl with
 | next =>
  obtain ⟨σ',H',J,q⟩:=hs
  exact ⟨.non,H',J.os,J.bare,J.base,J.hok,rfl,q⟩
 | brk=>obtain ⟨_,_,_,q⟩:=hs; exact q.elim
 | cont=>obtain ⟨_,_,_,q⟩:=hs; exact q.elim
 | ret u =>
  obtain ⟨v,σ',H',J,rv,q⟩:=hs
  exact ⟨v,H',J.os,J.bare,J.base,J.hok,rv,q⟩⟩
theorem law_callG {mb : Str → Option Value} {k : Nat} {fa a : Addr} {fd : FuncData} {x : Str} {sp : Sp} {s₁ : Shared} {vs : List Value} {ns : List Int} (KX : PySem.W.Frag.In K s₁.heap) (hns : s₁.heap.Ns mainGlobals mg) (hb : s₁.heap.Ns builtinsNs mb)
  (hbb : ∀ x : Str,x ≠ "__name__" → mb x = bootBuiltins x) (hlim : s₁.heap.NoLimit) (hg : s₁.gens = #[]) (ha : s₁.heap.get? a = some { cls:=.type "list",data:=.seq vs.toArray }) (hi : IntsAre vs ns) (hl : ns.length ≤ sizeLine)
  (hr : RoomG k callerA) (F : ∀ base : Heap,PySem.W.Frag.In K base → base.Ns mainGlobals mg → FnG P w K mg base k fa fd [x] sp) (hbind : ∀ (s : Shared) (u : Value),BindsTo s fd { pos:=[u] } [(x,u)])
  (hsp : ∀ H : Hp,Only H → SqL K H a (ns.map V.int) → sp [.ref a] H (fun v _=>v = .bl true) fun _ _ _=>False) :
  codeAny (model P w) callerA (.call (.ref fa) { pos:=[.ref a] }) (fun r s'=>r = .ok (.ret (.bool true)) ∧ OldK s₁.heap s'.heap ∧ s'.os = s₁.os ∧ AllBare s'.gens) s₁:=by
 have rv:=vals_ints hi
 have lenV:=hi.length
 have core : ∀ H : Hp,Only H → SqL K H a (ns.map V.int) → HOk P w H s₁.heap → (∀ b,H b ≠ none → b = a) → (H a ≠ none → K.lookup a = none) →
   codeAny (model P w) callerA (.call (.ref fa) { pos:=[.ref a] }) (fun r s'=>r = .ok (.ret (.bool true)) ∧ OldK s₁.heap s'.heap ∧ s'.os = s₁.os ∧ AllBare s'.gens) s₁:=fun H hO hS hok hA hK=>by
  have noA : ∀ {b : Addr} {o : Obj} {es : _} {ep : _},s₁.heap.get? b = some o → o.data = .dict es ep → H b = none:=fun {b o es ep} e d=>by
   cases q : H b with
   | none=>rfl
   | some u =>
    have e':=hA b (by rw [q]; exact fun z=>nomatch z)
    subst e'
    rw [ha] at e
    cases e
    cases d
  have nsK : ∀ {b : Addr} {m : Str → Option Value},s₁.heap.Ns b m → (hidT s₁.heap H).Ns b m:=fun {b m} x=>by
   obtain ⟨o,es,ep,e,d,r⟩:=x
   exact ⟨o,es,ep,hidT_get e (noA e d),d,r⟩
  have hKb : PySem.W.Frag.In K (hidT s₁.heap H):=fun b o e=>hidT_get (KX b o e) (by
   cases q : H b with
   | none=>rfl
   | some u =>
    have e':=hA b (by rw [q]; exact fun z=>nomatch z)
    subst e'
    rw [hK (by rw [q]; exact fun z=>nomatch z)] at e
    cases e)
  have hM : L2.Mod K mg (hidT s₁.heap H):=⟨hKb,nsK hns,⟨mb,nsK hb,hbb⟩,by
   obtain ⟨mc,h1,h2⟩:=hlim
   exact ⟨mc,nsK h1,h2⟩⟩
  have e0 : Env0 P w K mg (hidT s₁.heap H) callerA [] s₁ H :=
   { frames:=rfl,mod:=hM,bs:=fun b o e=>of_hidT e,bsz:=Nat.le_of_eq (hidT_size s₁.heap H),funs:=trivial,frf:=fun b hb=>absurd hb List.not_mem_nil,hok:=hok,bare:=AllBare.of_eq hg }
  refine codeAny_mono ((F (hidT s₁.heap H) hKb (nsK hns)).run callerA [] s₁ H { pos:=[.ref a] } [.ref a] [.ref a] (fun v _=>v = .bl true) (fun _ _ _=>False) hr e0 (hbind s₁ (.ref a)) (.cons rfl .nil) (hsp H hO hS)) fun r s' h=>?_
  cases r with
  | error e =>
   obtain ⟨_,_,_,_,_,_,_,_,_,_,_,_,h⟩:=h
   exact h.elim
  | ok fl =>
   cases fl with
   | next=>exact False.elim h
   | brk=>exact False.elim h
   | cont=>exact False.elim h
   | ret u =>
    obtain ⟨v,H',os,bare,un,hok',r',q⟩:=h
    have q' : v = .bl true:=q
    subst q'
    have r2 : u = .bool true:=r'
    subst r2
    refine ⟨rfl,OldK.of_keep fun b o e=>?_,os,bare⟩
    cases q : H b with
    | none=>exact un.keep b o e q List.not_mem_nil List.not_mem_nil
    | some u =>
     rcases hO b with z | ⟨ob,xs,z⟩
     ·rw [q] at z; cases z
     ·have z2:=un.frzs b ob _ z
      have h1:=hok b _ z
      have h2:=hok' b _ z2
      obtain ⟨e1,_⟩:=h1
      obtain ⟨e2,_⟩:=h2
      rw [e] at e1
      cases e1
      exact e2
 cases hk : K.lookup a with
 | none =>
  refine core (fun b=>if b = a then some (.frz { cls:=.type "list",data:=.seq vs.toArray } (.lst (ns.map V.int))) else none) (fun b=>?_) (.inl (.inr ⟨_,if_pos rfl⟩)) (fun b u z=>?_) (fun b z=>?_) fun _=>hk
  ·by_cases hb : b = a
   ·exact .inr ⟨_,_,if_pos hb⟩
   ·exact .inl (if_neg hb)
  ·by_cases hb : b = a
   ·subst hb
    have z':=(if_pos rfl).symm.trans z
    cases z'
    exact ⟨ha,by rw [List.length_map]; exact hl,vs,0,rv,ha⟩
   ·have z':=(if_neg hb).symm.trans z
    cases z'
  ·by_cases hb : b = a
   ·exact hb
   ·exact absurd (if_neg hb) z
 | some o =>
  have e:=KX a o hk
  rw [ha] at e
  cases e
  refine core (fun _=>none) (fun _=>.inl rfl) (.inr ⟨_,vs.toArray,0,hk,rfl,rfl,rfl,?_,rv⟩) (fun b u z=>by cases z) (fun b z=>absurd rfl z) fun z=>absurd rfl z
  rw [List.size_toArray,lenV]; exact hl
end
end VL
namespace VL
open PySem PySem.Spec PyProof.Rows L2
section
variable {P : Program} {w : World} {K : PySem.W.Frag} {mg : Str → Option Value} {base : Heap}
theorem okG {x qual : Str} {st : Stmt} {f : Addr} {fd : FuncData} {N ps : List Str} {k : Nat} {sp : Sp} (Fn : Fun K x qual st f fd) (S : FnScope N ps (defScope st)) (len : ∀ (vs : List V) (H : Hp) (Q : VK) (E : XK),sp vs H Q E → vs.length = ps.length)
  (hbody : ∀ (cdv : Value),fd.code = cdv → ∀ (A : Around) (outer : List Env) (s : Shared) (H : Hp) (vs : List V) (Q : VK) (E : XK),RoomG k (A.deeper (envOfC qual (defScope st) s.heap.objs.size f cdv)) → sp vs H Q E →
   ∃ t,PSs (cxOf (L2.CX P w) P w K mg base N qual (defScope st) f cdv A outer s H E) (defBody st) t ∧ t { nx:=fun _ H'=>Q .non H',rt:=Q } (L2.start N vs) H) : FnG P w K mg base (k + 1) f fd ps sp:=by
 obtain ⟨oc,od,kV,doc,pm,an,cdv,ct,osl,rfl,lk,hcd⟩:=Fn.ex
 exact fn_ofG lk hcd S len fun A outer s H vs Q E hr hsp=>hbody cdv rfl A outer s H vs Q E hr hsp
/-- THE RULE for a def -/
theorem fn_okC {x qual : Str} {st : Stmt} {f : Addr} {fd : FuncData} {N ps : List Str} {k : Nat} {g : G} {wr : Wr} (Fn : Fun K x qual st f fd) (S : FnScope N ps (defScope st)) (hw : WOk wr)
  (hbody : ∀ (cdv : Value),fd.code = cdv → ∀ (A : Around) (outer : List Env) (s : Shared) (H : Hp) (E : XK),RoomG k (A.deeper (envOfC qual (defScope st) s.heap.objs.size f cdv)) →
   DB (cxOf (L2.CX P w) P w K mg base N qual (defScope st) f cdv A outer s H E) (fun c d _ H'=>E c d H') (defBody st) g) : FnG P w K mg base (k + 1) f fd ps (spM K ps.length (fnM N.length g wr)):=by
 refine okG Fn S (fun vs H Q E h=>h.1) fun cdv hcv A outer s H vs Q E hr h=>?_
 obtain ⟨hl,m,st,us,r,ru,p⟩:=h
 refine ⟨tG K (fun c d _ H'=>E c d H') g,(hbody cdv hcv A outer s H E hr).pss,m,_,st,r,start_env ru,?_⟩
 unfold fnM at p
 have fin : ∀ {u : U} {st' : Store},PU K m H Q E (wr st.length u st') → ∀ v m' H',RpU K m' H' u v → Rep K m' st' H' → Ext m H m' H' → Q v H':=fun {u st'} p v m' H' h1 h2 h3=>by
  have hk : st.length ≤ m'.length:=by rw [← r.len]; exact h3.pre.length_le
  have:=hw.ok K st.length u st' m' H' v h2 h1 hk
  cases e : wr st.length u st' with
  | bad=>rw [e] at p; exact p.elim
  | ex c fs s=>rw [e] at this; exact this.elim
  | ok u' s =>
   rw [e] at p this
   obtain ⟨m2,g1,g2,g3,g4⟩:=this
   refine p v m2 H' g2 g1 ⟨?_,h3.toStay.less g4⟩
   obtain ⟨t,ht⟩:=h3.pre
   have : m'.take st.length = m:=by rw [← ht,← r.len]; simp
   rw [this] at g3
   exact g3
 cases e : g (us.map some ++ List.replicate (N.length - us.length) none) st with
 | bad=>rw [e] at p; exact p
 | ex c fs env2 st2 =>
  rw [e] at p
  simp only at p
  intro d σ' m' H' h0 h1 h2 h3
  cases q : cutS st.length st2 with
  | none=>simp only [q] at p; exact p.elim
  | some s2 =>
   simp only [q] at p
   refine p d (m'.take st.length) H' (h1.cut q) (ext_cut h2 (by rw [r.len]; exact Nat.le_refl _)) ?_
   cases fs with
   | none=>cases d with
    | none=>trivial
    | some d=>exact h3.elim
   | some fs=>cases d with
    | none=>exact h3.elim
    | some d =>
     obtain ⟨vs,g1,g2,g3⟩:=h3
     exact ⟨vs,g1,fun z=>g2 (List.mem_of_mem_take z),RpF.stay ⟨fun a o n e _ _=>⟨e,fun z=>n (List.mem_of_mem_take z)⟩,fun a kvs n e=>⟨e,fun z=>n (List.mem_of_mem_take z)⟩,fun _ _ _ e=>e⟩ _ _ g3⟩
 | ok env2 fl st2 =>
  rw [e] at p
  cases fl with
  | nx=>exact fun σ' m' H' h0 h1 h2=>fin p .non m' H' rfl h1 h2
  | rt u=>exact fun v m' H' h0 h1 h2=>fin p v m' H' h0 h1 h2
  | bk=>exact p.elim
  | ct=>exact p.elim
end
section
variable {P : Program} {w : World} {K : PySem.W.Frag} {mg : Str → Option Value} {base : Heap}
theorem fn_ok {x qual : Str} {st : Stmt} {f : Addr} {fd : FuncData} {N ps : List Str} {k : Nat} {g : G} {wr : Wr} (Fn : Fun K x qual st f fd) (S : FnScope N ps (defScope st)) (hw : WOk wr)
  (hbody : ∀ (cdv : Value) (A : Around) (outer : List Env) (s : Shared) (H : Hp) (E : XK),RoomG k (A.deeper (envOfC qual (defScope st) s.heap.objs.size f cdv)) →
   DB (cxOf (L2.CX P w) P w K mg base N qual (defScope st) f cdv A outer s H E) (fun c d _ H'=>E c d H') (defBody st) g) : FnG P w K mg base (k + 1) f fd ps (spM K ps.length (fnM N.length g wr)) :=
 fn_okC Fn S hw fun cdv _ A outer s H E hr=>hbody cdv A outer s H E hr
end
theorem PK.imp {X : Cx} {e : List Keyword} {t t' : TA} (h : PK X e t) (i : ∀ σ H Q,t' σ H Q → t σ H Q) : PK X e t':=⟨fun pos pins s σ H Q I q=>h.run pos pins s σ H Q I (i σ H Q q)⟩
noncomputable def fCW (f g : F (List U)) : F (List U × List U):=bnd f fun us=>bnd g fun ws=>fPure (us,ws)
noncomputable def rel2 (K : PySem.W.Frag) (m : List Addr) (H : Hp) (a : List U × List U) (b : List V × List V) : Prop:=RpUs K m H a.1 b.1 ∧ RpUs K m H a.2 b.2
noncomputable def tFs2 (K : PySem.W.Frag) (W : WX) (f : F (List U × List U)) (σ : L2.St) (H : Hp) (Z : List V × List V → Hp → Prop) : Prop:=∃ m env st,Rep K m st H ∧ RpEnv K m H env σ ∧ PO' K m H (rel2 K) Z (fun c d H'=>W c d σ H') (f env st)
theorem tFs2_step {K : PySem.W.Frag} {W : WX} {m : List Addr} {env : VEnv} {st : Store} {H : Hp} {σ : L2.St} {γ δ : Type} {rel : List Addr → Hp → γ → δ → Prop} {Q : δ → Hp → Prop} {f : F (List U × List U)} {g : List U × List U → F γ} {Z : List V × List V → Hp → Prop}
  (r : Rep K m st H) (re : RpEnv K m H env σ) (p : PO' K m H rel Q (fun c d H'=>W c d σ H') (bnd f g env st))
  (h : ∀ a st1 v m1 H1,rel2 K m1 H1 a v → Rep K m1 st1 H1 → RpEnv K m1 H1 env σ → Ext m H m1 H1 → PO' K m1 H1 rel Q (fun c d H'=>W c d σ H') (g a env st1) → Z v H1) : tFs2 K W f σ H Z :=
 ⟨m,env,st,r,re,by
  unfold bnd at p
  cases e : f env st with
  | ok a st1=>rw [e] at p; exact fun v m1 H1 h1 h2 h3=>h a st1 v m1 H1 h1 h2 (re.ext h3) h3 (p.from h3)
  | ex c fs st1=>rw [e] at p; exact p
  | bad=>rw [e] at p; exact p.elim⟩
/-- a call's arguments,by place and by name -/
structure DCW (X : Cx) (W : WX) (pos : Pos) (args : List Expr) (kws : List Keyword) (ks : List Str) (f : F (List U × List U)) : Prop where
 run : ∀ (pins : List (Addr × Obj)) (s : Shared) (σ : L2.St) (H : Hp) (c : Value) (first : List Value) (Q : Value → Shared → Prop) (Z : List V × List V → Hp → Prop),Inv X pins σ H s → PySem.W.keepIn X.K c = true → tFs2 X.K W f σ H Z →
  (∀ (vs zs : List V) (us ws : List Value) (H' : Hp) (s' : Shared),Inv X pins σ H' s' → Vals vs us → Vals zs ws → Z (vs,zs) H' → wpAny (model X.prog X.w) X.A (call c (first ++ us) (ks.zip ws)) Q X.xe s') →
  wpAny (model X.prog X.w) X.A (callWith pos c first (backTo pos (starEach args X.env)) (backToKw pos (keywordEach kws X.env))) Q X.xe s
section
variable {X : Cx} {W : WX} {e : Expr} {es : List Expr} {kws : List Keyword} {ks : List Str} {fs fk : F (List U)} {pos : Pos}
theorem split2 {σ : L2.St} {H : Hp} {Z : List V × List V → Hp → Prop} (h : tFs2 X.K W (fCW fs fk) σ H Z) : tFs X.K W fs σ H fun vs H1=>tFs X.K W fk σ H1 fun zs H2=>Z (vs,zs) H2:=by
 obtain ⟨m,env,st,r,re,p⟩:=h
 exact tFs_step r re p fun us st1 vs m1 H1 h1 r1 re1 e1 p1=>tFs_step r1 re1 p1 fun ws st2 zs m2 H2 h2 r2 re2 e2 p2=>p2 (vs,zs) m2 H2 ⟨h1.ext e2,h2⟩ r2 (Ext.refl _ _)
theorem tNilF {σ : L2.St} {H : Hp} {Z : List V → Hp → Prop} (h : tFs X.K W fNil σ H Z) : Z [] H:=by
 obtain ⟨m,env,st,r,re,p⟩:=h
 exact p [] m H rfl r (Ext.refl _ _)
theorem cw_pos (ha : DA X W (e :: es) fs) (he : starEach (e :: es) X.env = (false,eval e X.env) :: starEach es X.env:=by rfl) (hpl : (backTo pos (starEach es X.env)).any (·.1) = false:=by rfl) : DCW X W pos (e :: es) [] [] (fCW fs fNil) :=
 ⟨fun pins s σ H c first Q Z I hk t k=>PySem.W.callWith_K (Mod.kin I.ok.mod) hk (thn (ha.pa.run pos pins s σ H _ I (split2 t)) fun us s1 ⟨vs,H1,I1,rv,q⟩=>⟨I1.kIn,k vs [] us [] H1 s1 I1 rv .nil (tNilF q)⟩) he hpl⟩
theorem cw_none : DCW X W pos [] [] [] (fCW fNil fNil) :=
 ⟨fun pins s σ H c first Q Z I hk t k=>PySem.W.callWith_K0 I.kIn hk (k [] [] [] [] H s I .nil .nil (tNilF (tNilF (split2 t))))⟩
end
structure Bd (K : PySem.W.Frag) (fd : FuncData) (ps : List Str) (n : Nat) (ks : List Str) (g : List Value → List Value → List Value) (gV : List V → List V → List V) (gU : List U → List U → List U) : Prop where
 to : ∀ (s : Shared) (us ws : List Value),PySem.W.Frag.In K s.heap → us.length = n → ws.length = ks.length → BindsTo s fd { pos:=us,kw:=ks.zip ws } (ps.zip (g us ws))
 relV : ∀ {vs : List V} {us : List Value} {zs : List V} {ws : List Value},vs.length = n → zs.length = ks.length → Vals vs us → Vals zs ws → Vals (gV vs zs) (g us ws)
 relU : ∀ {m : List Addr} {H : Hp} {us ws : List U} {vs zs : List V},us.length = n → ws.length = ks.length → RpUs K m H us vs → RpUs K m H ws zs → RpUs K m H (gU us ws) (gV vs zs)
 len : ∀ {us ws : List U},us.length = n → ws.length = ks.length → (gU us ws).length = ps.length
noncomputable def gPos {α : Type} (us _ws : List α) : List α:=us
theorem bd_pos {K : PySem.W.Frag} {fd : FuncData} {ps : List Str} (b : Binds K fd ps []) : Bd K fd ps ps.length [] gPos gPos gPos :=
 ⟨fun s us ws KX h1 h2=>by
  have:=b s us KX (by rw [List.append_nil]; exact h1)
  rw [List.append_nil] at this
  exact this,fun _ _ r _=>r,fun _ _ r _=>r,fun h _=>h⟩
/-- a def as its callers see it -/
structure Fd (P : Program) (w : World) (K : PySem.W.Frag) (mg : Str → Option Value) (base : Heap) (f : Addr) (k n : Nat) (ks : List Str) (gU : List U → List U → List U) (mf : List U → M U) : Prop where
 run : ∀ (A : Around) (outer : List Env) (s : Shared) (H : Hp) (us ws : List Value) (vs zs : List V) (m : List Addr) (st : Store) (as bs : List U) (Q : VK) (E : XK),RoomG k A → Env0 P w K mg base A outer s H → Vals vs us → Vals zs ws →
  Rep K m st H → RpUs K m H as vs → RpUs K m H bs zs → as.length = n → bs.length = ks.length → PU K m H Q E (mf (gU as bs) st) →
  codeAny (model P w) A (.call (.ref f) { pos:=us,kw:=ks.zip ws }) (CR (L2.CX P w) outer P w H s Q E) s
theorem env0_in {P : Program} {w : World} {K : PySem.W.Frag} {mg : Str → Option Value} {base : Heap} {A : Around} {outer : List Env} {s : Shared} {H : Hp} (e0 : Env0 P w K mg base A outer s H) : PySem.W.Frag.In K s.heap :=
 PySem.W.Frag.In.keeps e0.mod.kin fun b o e=>(e0.bs b o e).1
theorem Fd.of {P : Program} {w : World} {K : PySem.W.Frag} {mg : Str → Option Value} {base : Heap} {f : Addr} {k n : Nat} {ks : List Str} {gU : List U → List U → List U} {mf : List U → M U} {fd : FuncData} {ps : List Str} {g : List Value → List Value → List Value} {gV : List V → List V → List V}
  (F : FnG P w K mg base k f fd ps (spM K ps.length mf)) (b : Bd K fd ps n ks g gV gU) : Fd P w K mg base f k n ks gU mf:=⟨fun A outer s H us ws vs zs m st as bs Q E hr e0 rv rz r ra rb la lb h=>by
 have l1 : vs.length = n:=ra.length.trans la
 have l2 : zs.length = ks.length:=rb.length.trans lb
 have rg:=b.relU la lb ra rb
 exact F.run A outer s H { pos:=us,kw:=ks.zip ws } (g us ws) (gV vs zs) Q E hr e0 (b.to s us ws (env0_in e0) (by rw [← l1]; exact (Vals.length rv).symm) (by rw [← l2]; exact (Vals.length rz).symm)) (b.relV l1 l2 rv rz)
  ⟨rg.length.trans (b.len la lb),m,st,gU as bs,r,rg,h⟩⟩
theorem Fd.mono {P : Program} {w : World} {K : PySem.W.Frag} {mg : Str → Option Value} {base : Heap} {f : Addr} {j k n : Nat} {ks : List Str} {gU : List U → List U → List U} {mf : List U → M U} (h : Fd P w K mg base f j n ks gU mf) (hk : j ≤ k) : Fd P w K mg base f k n ks gU mf :=
 ⟨fun A outer s H us ws vs zs m st as bs Q E hr=>h.run A outer s H us ws vs zs m st as bs Q E (hr.mono hk)⟩
section
variable {X : Cx} {W : WX}
theorem run_g {k n : Nat} {f : Addr} {ks : List Str} {gU : List U → List U → List U} {mf : List U → M U} {pins : List (Addr × Obj)} {σ : L2.St} {H : Hp} {s : Shared} {Q : VK} {us ws : List Value} {vs zs : List V} {m : List Addr} {st : Store} {as bs : List U} (F : Fd X.prog X.w X.K X.mg X.base f k n ks gU mf) (hr : RoomG k X.A) (tk : Takes X W) (I : Inv X pins σ H s)
  (rv : Vals vs us) (rz : Vals zs ws) (r : Rep X.K m st H) (ra : RpUs X.K m H as vs) (rb : RpUs X.K m H bs zs) (la : as.length = n) (lb : bs.length = ks.length) (h : PU X.K m H Q (fun c d H'=>W c d σ H') (mf (gU as bs) st)) :
  wpAny (model X.prog X.w) X.A (call (.ref f) us (ks.zip ws)) (EP X pins σ Q) X.xe s:=by
 refine wpAny_call (codeAny_mono (F.run X.A X.stack s H us ws vs zs m st as bs Q (fun c d H'=>W c d σ H') hr I.env0 rv rz r ra rb la lb h) fun r s' hq=>?_)
 cases r with
 | error e=>exact passAt tk σ pins H s e s' I hq
 | ok fl =>
  cases fl with
  | next=>exact False.elim hq
  | brk=>exact False.elim hq
  | cont=>exact False.elim hq
  | ret u=>exact Inv.after I hq
noncomputable def fCall (n m : Nat) (gU : List U → List U → List U) (mf : List U → M U) (f : F (List U × List U)) : F U:=bnd f fun p=>fun _ st=>if p.1.length = n ∧ p.2.length = m then mf (gU p.1 p.2) st else .bad
/-- f(..) -/
theorem d_call {x : Str} {p pos : Pos} {args : List Expr} {kws : List Keyword} {ks : List Str} {k n : Nat} {f : Addr} {gU : List U → List U → List U} {mf : List U → M U} {fc : F (List U × List U)} (Fn : Fd X.prog X.w X.K X.mg X.base f k n ks gU mf) (hm : X.mg x = some (.ref f)) (hk : PySem.W.keepIn X.K (.ref f) = true) (hr : RoomG k X.A) (tk : Takes X W) (ha : DCW X W pos args kws ks fc)
  (hg : Gl X x:=by rfl) (hdb : (x == ("__debug__" : Str)) = false:=by decide) : DE X W (.Call (.Name x p) args kws pos) (fCall n ks.length gU mf fc) :=
 ⟨⟨fun pins s σ H Q I q=>wpAny_Call_Name_kw (ld_glob I hg hm (by
  obtain ⟨m,env,st,r,re,p⟩:=q
  refine ha.run pins s σ H (.ref f) [] _ (fun v H1=>∃ m1 st1 as bs,Rep X.K m1 st1 H1 ∧ RpUs X.K m1 H1 as v.1 ∧ RpUs X.K m1 H1 bs v.2 ∧ as.length = n ∧ bs.length = ks.length ∧ PU X.K m1 H1 Q (fun c d H'=>W c d σ H') (mf (gU as bs) st1)) I hk (tFs2_step r re p fun a st1 v m1 H1 h1 r1 re1 e1 p1=>?_) ?_
  ·by_cases hl : a.1.length = n ∧ a.2.length = ks.length
   ·rw [if_pos hl] at p1
    exact ⟨m1,st1,a.1,a.2,r1,h1.1,h1.2,hl.1,hl.2,p1⟩
   ·rw [if_neg hl] at p1; exact p1.elim
  ·rintro vs zs us ws H' s' I' rv rz ⟨m1,st1,as,bs,r1,h1,h2,la,lb,p1⟩
   exact run_g Fn hr tk I' rv rz r1 h1 h2 la lb p1) hdb)⟩⟩
theorem run_makeG {k n : Nat} {f C : Addr} {ks : List Str} {gU : List U → List U → List U} {mf : List U → M U} {pins : List (Addr × Obj)} {σ : L2.St} {H : Hp} {s : Shared} {Q : VK} {us ws : List Value} {vs zs : List V} {m : List Addr} {st : Store} {as bs : List U} (Mc : Mk X.K C f) (F : Fd X.prog X.w X.K X.mg X.base f k (n + 1) ks gU mf) (hr : RoomG (k + 1) X.A) (tk : Takes X W) (I : Inv X pins σ H s)
  (rv : Vals vs us) (rz : Vals zs ws) (r : Rep X.K m st H) (ra : RpUs X.K m H as vs) (rb : RpUs X.K m H bs zs) (la : as.length = n) (lb : bs.length = ks.length)
  (h : PU X.K m H Q (fun c d H'=>W c d σ H') (match mf (gU (.ref st.length :: as) bs) (st ++ [.ins C []]) with
   | .ok (.d .non) st'=>.ok (.ref st.length) st'
   | .ok _ _=>.bad
   | .ex c fs st'=>.ex c fs st'
   | .bad=>.bad)) :
  wpAny (model X.prog X.w) X.A (call (.ref C) us (ks.zip ws)) (EP X pins σ Q) X.xe s:=by
 have nx : H (s.heap.objs.size + 1) = none:=HOk.fresh I.hok (Nat.le_succ _)
 have nd : H s.heap.objs.size = none:=HOk.fresh I.hok (Nat.le_refl _)
 have ne : s.heap.objs.size ≠ s.heap.objs.size + 1:=Nat.ne_of_lt (Nat.lt_succ_self _)
 have I2:=Inv.made (C:=C) I
 have e1:=ext_new r nd (.own (s.heap.objs.size + 1))
 have r1:=r.new nd (.own (s.heap.objs.size + 1))
 have nx1 : (upd H s.heap.objs.size (.own (s.heap.objs.size + 1))) (s.heap.objs.size + 1) = none:=by rw [upd_ne ne.symm]; exact nx
 have e2:=ext_push r1 nx1 (.ins C s.heap.objs.size [])
 have r2:=r1.push nx1 (c:=.ins C []) (o:=.ins C s.heap.objs.size []) ⟨_,[],rfl,rfl⟩
 have e12:=e1.trans e2
 have l1 : vs.length = n:=ra.length.trans la
 have l2 : zs.length = ks.length:=rb.length.trans lb
 have rx : RpUs X.K (m ++ [s.heap.objs.size + 1]) (upd (upd H s.heap.objs.size (.own (s.heap.objs.size + 1))) (s.heap.objs.size + 1) (.ins C s.heap.objs.size [])) (.ref st.length :: as) (.ref (s.heap.objs.size + 1) :: vs):=⟨_,_,rfl,⟨_,by rw [← r.len]; simp,rfl⟩,ra.ext e12⟩
 refine wpAny_call (make_map I.kIn Mc.makes Mc.init (beq_iff_eq.mp Mc.fn) (codeAny_mono (F.run _ X.stack _ _ (.ref (s.heap.objs.size + 1) :: us) ws (.ref (s.heap.objs.size + 1) :: vs) zs _ _ (.ref st.length :: as) bs (fun v H2=>v = .non ∧ Q (.ref (s.heap.objs.size + 1)) H2) (fun c d H'=>W c d σ H')
  (hr.make C us _) (Env0.make I2.env0 C us _) (.cons rfl rv) rz r2 rx (rb.ext e12) (by rw [List.length_cons,la]) lb ?_) fun r s' hq=>?_))
 ·cases e : mf (gU (.ref st.length :: as) bs) (st ++ [.ins C []]) with
  | bad=>rw [e] at h; exact h.elim
  | ex c fs st'=>rw [e] at h; exact fun d m' H' g1 g2 g3=>h d m' H' g1 (e12.trans g2) g3
  | ok u st' =>
   rw [e] at h
   intro v m' H' g1 g2 g3
   split at h
   ·rename_i st'' he
    cases he
    cases g1
    refine ⟨rfl,h (.ref (s.heap.objs.size + 1)) m' H' ⟨_,pre_get g3.pre ?_,rfl⟩ g2 (e12.trans g3)⟩
    rw [← r.len]; simp
   ·exact h.elim
   ·rename_i he; cases he
   ·rename_i he; cases he
 ·cases r with
  | error e=>exact passAt tk σ pins _ _ e s' I2 hq
  | ok fl =>
   cases fl with
   | next=>exact False.elim hq
   | brk=>exact False.elim hq
   | cont=>exact False.elim hq
   | ret u =>
    obtain ⟨v,H',I3,rv,ev,q3⟩:=Inv.after I2 hq
    subst ev
    exact ⟨rv,.ref (s.heap.objs.size + 1),H',I3,rfl,q3⟩
noncomputable def fMake (C : Addr) (n m : Nat) (gU : List U → List U → List U) (mf : List U → M U) (f : F (List U × List U)) : F U:=bnd f fun p=>fun _ st=>if p.1.length = n ∧ p.2.length = m then (match mf (gU (.ref st.length :: p.1) p.2) (st ++ [.ins C []]) with
   | .ok (.d .non) st'=>.ok (.ref st.length) st'
   | .ok _ _=>.bad
   | .ex c fs st'=>.ex c fs st'
   | .bad=>.bad) else .bad
theorem d_make {x : Str} {p pos : Pos} {args : List Expr} {kws : List Keyword} {ks : List Str} {k n : Nat} {f C : Addr} {gU : List U → List U → List U} {mf : List U → M U} {fc : F (List U × List U)} (Mc : Mk X.K C f) (Fn : Fd X.prog X.w X.K X.mg X.base f k (n + 1) ks gU mf) (hm : X.mg x = some (.ref C)) (hr : RoomG (k + 1) X.A) (tk : Takes X W) (ha : DCW X W pos args kws ks fc)
  (hg : Gl X x:=by rfl) (hdb : (x == ("__debug__" : Str)) = false:=by decide) : DE X W (.Call (.Name x p) args kws pos) (fMake C n ks.length gU mf fc) :=
 ⟨⟨fun pins s σ H Q I q=>wpAny_Call_Name_kw (ld_glob I hg hm (by
  obtain ⟨m,env,st,r,re,p⟩:=q
  refine ha.run pins s σ H (.ref C) [] _ (fun v H1=>∃ m1 st1 as bs,Rep X.K m1 st1 H1 ∧ RpUs X.K m1 H1 as v.1 ∧ RpUs X.K m1 H1 bs v.2 ∧ as.length = n ∧ bs.length = ks.length ∧ PU X.K m1 H1 Q (fun c d H'=>W c d σ H') (match mf (gU (.ref st1.length :: as) bs) (st1 ++ [.ins C []]) with
   | .ok (.d .non) st'=>.ok (.ref st1.length) st'
   | .ok _ _=>.bad
   | .ex c fs st'=>.ex c fs st'
   | .bad=>.bad)) I Mc.kp (tFs2_step r re p fun a st1 v m1 H1 h1 r1 re1 e1 p1=>?_) ?_
  ·by_cases hl : a.1.length = n ∧ a.2.length = ks.length
   ·rw [if_pos hl] at p1
    exact ⟨m1,st1,a.1,a.2,r1,h1.1,h1.2,hl.1,hl.2,p1⟩
   ·rw [if_neg hl] at p1; exact p1.elim
  ·rintro vs zs us ws H' s' I' rv rz ⟨m1,st1,as,bs,r1,h1,h2,la,lb,p1⟩
   exact run_makeG Mc Fn hr tk I' rv rz r1 h1 h2 la lb p1) hdb)⟩⟩
/-- an instance's class and fields -/
noncomputable def insU (st : Store) : U → Option (Addr × List (Str × U))
 | .d (.ins C fs)=>some (C,fs.map fun p=>(p.1,.d p.2))
 | .ref n=>match st[n]? with
  | some (.ins C us)=>some (C,us)
  | _=>none
 | _=>none
end
section
variable {K : PySem.W.Frag} {m : List Addr} {H : Hp} {st : Store}
theorem RpUF.ofD : ∀ {ds : List (Str × D)} {vs : List (Str × V)},RpF K m H ds vs → RpUF K m H (ds.map fun p=>(p.1,.d p.2)) vs
 | [],_,h=>h
 | (k,d) :: ds,_,⟨v,r,e,h1,h2⟩=>⟨v,r,e,h1,RpUF.ofD h2⟩
theorem RpUF.lookup {f : Str} : ∀ {us : List (Str × U)} {vs : List (Str × V)},RpUF K m H us vs → match us.lookup f with | some u=>∃ v,vs.lookup f = some v ∧ RpU K m H u v | none=>vs.lookup f = none
 | [],_,h=>by cases h; exact rfl
 | (k,u) :: us,_,⟨v,r,e,h1,h2⟩=>by
  subst e
  have ih:=RpUF.lookup (f:=f) h2
  rw [List.lookup_cons,List.lookup_cons]
  by_cases e : (f == k) = true
  ·rw [e]; exact ⟨v,rfl,h1⟩
  ·rw [Bool.not_eq_true] at e; rw [e]; exact ih
theorem insU_rp (r : Rep K m st H) {u : U} {v : V} {C : Addr} {us : List (Str × U)} (h : RpU K m H u v) (e : insU st u = some (C,us)) : ∃ a dx vs,v = .ref a ∧ H a = some (.ins C dx vs) ∧ RpUF K m H us vs:=by
 cases u with
 | ref n =>
  obtain ⟨a,ha,rfl⟩:=h
  simp only [insU] at e
  split at e
  ·rename_i C' us' hs
   cases e
   obtain ⟨ho,h1,dx,vs,e2,h2⟩:=r.cell n _ a hs ha
   subst e2
   exact ⟨a,dx,vs,rfl,h1,h2⟩
  ·cases e
 | d x =>
  cases x with
  | ins C' fs =>
   obtain ⟨a,dx,vs,rfl,t,q⟩:=h
   cases e
   exact ⟨a,dx,vs,rfl,t.2,RpUF.ofD q⟩
  | _=>cases e
end
section
variable {X : Cx} {W : WX} {o e : Expr} {fo fe : F U} {pos apos cpos : Pos} {f : Str}
noncomputable def fMeth (C : Addr) (nm : Str) (n m : Nat) (gU : List U → List U → List U) (mf : List U → M U) (fo : F U) (fc : F (List U × List U)) : F U:=bnd fo fun u=>fun env st=>match insU st u with
 | some (C',us)=>if C' = C ∧ us.lookup nm = none then bnd fc (fun p=>fun _ st=>if p.1.length = n ∧ p.2.length = m then mf (gU (u :: p.1) p.2) st else .bad) env st else .bad
 | none=>.bad
/-- o.m(..) -/
theorem d_meth {nm : Str} {args : List Expr} {kws : List Keyword} {ks : List Str} {k n : Nat} {g C : Addr} {gU : List U → List U → List U} {mf : List U → M U} {fc : F (List U × List U)} {pl : Sem Bool} (ho : DE X W o fo) (hC : Cls X.K C) (hM : Meth X.K C nm g) (Fn : Fd X.prog X.w X.K X.mg X.base g k (n + 1) ks gU mf) (hr : RoomG k X.A) (tk : Takes X W) (ha : DCW X W cpos args kws ks fc)
  (hev : eval (.Call (.Attribute o nm apos) args kws cpos) X.env = (do
     let ov ← eval o X.env
     standAt (Pos.atName apos)
     let __x ← holding [ov] (getMethod ov nm pl)
     match __x with
      | (f,first)=>callWith cpos f first (backTo cpos (starEach args X.env)) (backToKw cpos (keywordEach kws X.env))):=by rfl) :
  DE X W (.Call (.Attribute o nm apos) args kws cpos) (fMeth C nm n ks.length gU mf fo fc) :=
 ⟨⟨fun pins s σ H Q I q=>PySem.W.methodCall_KW (by
  obtain ⟨m,env,st,r,re,p⟩:=q
  refine thn (ho.pe.run pins s σ H (fun x H1=>∃ a dx vs,x = .ref a ∧ H1 a = some (.ins C dx vs) ∧ vs.lookup nm = none ∧ tFs2 X.K W fc σ H1 fun v H2=>∃ m2 st2 u as bs,Rep X.K m2 st2 H2 ∧ RpU X.K m2 H2 u x ∧ RpUs X.K m2 H2 as v.1 ∧ RpUs X.K m2 H2 bs v.2 ∧ as.length = n ∧ bs.length = ks.length ∧ PU X.K m2 H2 Q (fun c d H'=>W c d σ H') (mf (gU (u :: as) bs) st2)) I (tF_step r re p fun u st1 v m1 H1 h1 r1 re1 e1 p1=>?_)) ?_
  ·split at p1
   ·rename_i C' us hi
    split at p1
    ·rename_i hc
     obtain ⟨a,dx,vs,rfl,ha,rf⟩:=insU_rp r1 h1 hi
     have hlk:=rf.lookup (f:=nm)
     rw [hc.2] at hlk
     rw [hc.1] at ha
     refine ⟨a,dx,vs,rfl,ha,hlk,tFs2_step r1 re1 p1 fun b st2 w m2 H2 h2 r2 re2 e2 p2=>?_⟩
     by_cases hl : b.1.length = n ∧ b.2.length = ks.length
     ·rw [if_pos hl] at p2
      exact ⟨m2,st2,u,b.1,b.2,r2,h1.ext e2,h2.1,h2.2,hl.1,hl.2,p2⟩
     ·rw [if_neg hl] at p2; exact p2.elim
    ·exact p1.elim
   ·exact p1.elim
  ·rintro ov s1 ⟨x,H1,I1,rx,a,dx,vs,rfl,hins,hlk,ht⟩
   cases rx
   refine getmeth_ok I1 hins hC hM hlk ?_
   refine ha.run pins s1 σ H1 (.ref g) [.ref a] _ _ I1 hM.kp ht ?_
   rintro vs' zs us ws H' s' I' rv rz ⟨m2,st2,u,as,bs,r2,ru,h1,h2,la,lb,p2⟩
   exact run_g (vs:=.ref a :: vs') (as:=u :: as) Fn hr tk I' (.cons rfl rv) rz r2 ⟨_,_,rfl,ru,h1⟩ h2 (by rw [List.length_cons,la]) lb p2) hev⟩⟩
noncomputable def Flds (K : PySem.W.Frag) (cs : List Addr) (f : Str) : Prop:=∀ C ∈ cs,Cls K C ∧ NoAttr K C f
noncomputable def oFld (cs : List Addr) (f : Str) (u : U) (st : Store) : Option U:=match insU st u with
 | some (C,us)=>if C ∈ cs then us.lookup f else none
 | none=>none
noncomputable def fFld (cs : List Addr) (f : Str) (fo : F U) : F U:=f1 (oFld cs f) fo
theorem d_fld {cs : List Addr} (ho : DE X W o fo) (hc : Flds X.K cs f) (hb : attributeBase o f X.env (eval o X.env) = eval o X.env:=by rfl) : DE X W (.Attribute o f pos) (fFld cs f fo) :=
 ⟨PE.imp (pe_fld ho.pe hb) fun σ H Q ⟨m,env,st,r,re,p⟩=>tF_step (f:=fo) (g:=fun a=>fun _ st=>.of st (oFld cs f a st)) (rel:=RpU X.K) (Q:=Q) r re p fun u st1 v m1 H1 h1 r1 re1 e1 p1=>by
  cases e : oFld cs f u st1 with
  | none=>rw [e] at p1; exact False.elim p1
  | some w =>
   rw [e] at p1
   unfold oFld at e
   split at e
   ·rename_i C us hi
    split at e
    ·rename_i hC
     obtain ⟨a,dx,vs,rfl,ha,rf⟩:=insU_rp r1 h1 hi
     have hlk:=rf.lookup (f:=f)
     rw [e] at hlk
     obtain ⟨x,hx,rx⟩:=hlk
     exact ⟨a,C,dx,vs,x,rfl,ha,(hc C hC).1,(hc C hC).2,hx,p1 x m1 H1 rx r1 (Ext.refl _ _)⟩
    ·cases e
   ·cases e⟩
noncomputable def putFU (f : Str) (u : U) : List (Str × U) → List (Str × U)
 | []=>[(f,u)]
 | (k,w) :: r=>if k = f then (k,u) :: r else (k,w) :: putFU f u r
theorem RpUF.put {K : PySem.W.Frag} {m : List Addr} {H : Hp} {f : Str} {w : U} {x : V} (hw : RpU K m H w x) : ∀ {us : List (Str × U)} {vs : List (Str × V)},RpUF K m H us vs → RpUF K m H (putFU f w us) (putF f x vs)
 | [],_,h=>by rw [show _ = [] from h]; exact ⟨x,[],rfl,hw,rfl⟩
 | (k,u) :: us,_,⟨v,r,e,h1,h2⟩=>by
  subst e
  unfold putFU putF
  by_cases hk : k = f
  ·rw [if_pos hk,if_pos hk]; exact ⟨x,r,rfl,hw,h2⟩
  ·rw [if_neg hk,if_neg hk]; exact ⟨v,_,rfl,h1,RpUF.put hw h2⟩
theorem RpUF.length {K : PySem.W.Frag} {m : List Addr} {H : Hp} : ∀ {us : List (Str × U)} {vs : List (Str × V)},RpUF K m H us vs → vs.length = us.length
 | [],_,h=>by rw [show _ = [] from h]; rfl
 | (k,u) :: us,_,⟨v,r,e,h1,h2⟩=>by rw [e,List.length_cons,List.length_cons,RpUF.length h2]
noncomputable def setFld (cs : List Addr) (f : Str) (u o : U) (st : Store) : Option Store:=match o with
 | .ref n=>match st[n]? with
  | some (.ins C us)=>if C ∈ cs ∧ us.length < 1000 then some (st.set n (.ins C (putFU f u us))) else none
  | _=>none
 | _=>none
noncomputable def sFldS (cs : List Addr) (f : Str) (fo fe : F U) : G:=bndS fe fun u=>bndS fo fun o=>fun env st=>match setFld cs f u o st with
 | some st'=>.ok env .nx st'
 | none=>.bad
theorem ds_fld {cs : List Addr} {pos' : Pos} (ho : DE X W o fo) (he : DE X W e fe) (hc : Flds X.K cs f) (hs : swapsWith e (some (.Attribute o f pos')) pos.line X.env = pure false:=by rfl) : DS X W (.Assign [.Attribute o f pos'] e pos) (sFldS cs f fo fe) :=
 ⟨PS.imp (ps_fld ho.pe he.pe hs) fun D σ H ⟨m,env,st,r,re,p⟩=>sF_step r re p fun u st1 v m1 H1 h1 r1 re1 e1 p1=>sF_step r1 re1 p1 fun w st2 x m2 H2 h2 r2 re2 e2 p2=>by
  cases q : setFld cs f u w st2 with
  | none=>rw [q] at p2; exact False.elim p2
  | some st3 =>
   rw [q] at p2
   unfold setFld at q
   split at q
   ·rename_i n
    split at q
    ·rename_i C us hs
     split at q
     ·rename_i hC
      cases q
      obtain ⟨a,ha,rfl⟩:=h2
      obtain ⟨ho,g1,dx,vs,g2,g3⟩:=r2.cell n _ a hs ha
      subst g2
      have ma : a ∈ m2:=List.mem_of_getElem? ha
      have ew:=ext_write (H:=H2) ma (.ins C dx (putF f v vs)) (nf_i g1)
      exact ⟨a,C,dx,vs,rfl,g1,(hc C hC.1).1,(hc C hC.1).2,by rw [g3.length]; exact hC.2,p2 σ m2 _ (re2.ext ew) (r2.write ha ⟨dx,_,rfl,(g3.put (h1.ext e2)).ext ew⟩ (nf_i g1)) ew⟩
     ·cases q
    ·cases q
   ·cases q⟩
noncomputable def fWr (w : Wr) (f : F U) : F U:=fun env st=>match f env st with
 | .ok u st'=>w st.length u st'
 | r=>r
theorem d_wr {w : Wr} (hw : WOk w) (he : DE X W e fe) : DE X W e (fWr w fe):=⟨PE.imp he.pe fun σ H Q ⟨m,env,st,r,re,p⟩=>⟨m,env,st,r,re,by
 unfold fWr at p
 cases e : fe env st with
 | bad=>rw [e] at p; exact p
 | ex c fs st'=>rw [e] at p; exact p
 | ok u st' =>
  rw [e] at p
  simp only at p
  intro v m' H' h1 h2 h3
  have hk : st.length ≤ m'.length:=by rw [← r.len]; exact h3.pre.length_le
  have:=hw.ok X.K st.length u st' m' H' v h2 h1 hk
  cases q : w st.length u st' with
  | bad=>rw [q] at p; exact p.elim
  | ex c fs s=>rw [q] at this; exact this.elim
  | ok u' s =>
   rw [q] at p this
   obtain ⟨m2,g1,g2,g3,g4⟩:=this
   refine p v m2 H' g2 g1 ⟨?_,h3.toStay.less g4⟩
   obtain ⟨t,ht⟩:=h3.pre
   have : m'.take st.length = m:=by rw [← ht,← r.len]; simp
   rw [this] at g3
   exact g3⟩⟩
end
end VL
namespace VL
open PySem PySem.Spec PyProof.Rows L2
noncomputable def putD (kvs : List (Key × D)) (k : Key) (v : D) : List (Key × D) :=
 if (kvs.any fun kv=>decide (kv.1 = k)) = true then kvs.map fun kv=>if kv.1 = k then (kv.1,v) else kv else kvs ++ [(k,v)]
noncomputable def mergeD (kvs more : List (Key × D)) : List (Key × D):=more.foldl (fun acc kv=>putD acc kv.1 kv.2) kvs
noncomputable def pairD : U → Option (Key × D)
 | .d (.tup [k,v])=>(keyD (.d k)).map fun k=>(k,v)
 | _=>none
noncomputable def oDict : List U → Store → Option U:=fun us st=>match us with
 | [u]=>match getL st u with
  | some us=>(allM pairD us).map fun kvs=>.d (.dct (mergeD [] kvs))
  | none=>none
 | _=>none
section
variable {K : PySem.W.Frag} {m : List Addr} {H : Hp} {st : Store}
theorem RpK.any {k : Key} : ∀ {us : List (Key × D)} {vs : List (Key × V)},RpK K m H us vs → (us.any fun kv=>decide (kv.1 = k)) = (vs.any fun kv=>decide (kv.1 = k))
 | [],_,h=>by rw [show _ = [] from h]; rfl
 | (k',u) :: us,_,⟨v,r,e,h1,h2⟩=>by subst e; rw [List.any_cons,List.any_cons,RpK.any h2]
theorem RpK.mapP {k : Key} {w : D} {x : V} (hw : RpD K m H w x) : ∀ {us : List (Key × D)} {vs : List (Key × V)},RpK K m H us vs → RpK K m H (us.map fun kv=>if kv.1 = k then (kv.1,w) else kv) (vs.map fun kv=>if kv.1 = k then (kv.1,x) else kv)
 | [],_,h=>by rw [show _ = [] from h]; rfl
 | (k',u) :: us,_,⟨v,r,e,h1,h2⟩=>by
  subst e
  rw [List.map_cons,List.map_cons]
  by_cases hk : k' = k
  ·subst hk; simp only [if_true]; exact ⟨x,_,rfl,hw,RpK.mapP hw h2⟩
  ·simp only [hk,if_false]; exact ⟨v,_,rfl,h1,RpK.mapP hw h2⟩
theorem RpK.snoc {k : Key} {w : D} {x : V} (hw : RpD K m H w x) : ∀ {us : List (Key × D)} {vs : List (Key × V)},RpK K m H us vs → RpK K m H (us ++ [(k,w)]) (vs ++ [(k,x)])
 | [],_,h=>by rw [show _ = [] from h]; exact ⟨x,[],rfl,hw,rfl⟩
 | (k',u) :: us,_,⟨v,r,e,h1,h2⟩=>by subst e; exact ⟨v,_,rfl,h1,RpK.snoc hw h2⟩
theorem RpK.put {us : List (Key × D)} {vs : List (Key × V)} (h : RpK K m H us vs) (k : Key) {w : D} {x : V} (hw : RpD K m H w x) : RpK K m H (putD us k w) (putK vs k x):=by
 unfold putD putK
 rw [h.any]
 split
 ·exact h.mapP hw
 ·exact h.snoc hw
theorem RpK.merge : ∀ {more : List (Key × D)} {mv : List (Key × V)} {us : List (Key × D)} {vs : List (Key × V)},RpK K m H us vs → RpK K m H more mv → RpK K m H (mergeD us more) (mergeK vs mv)
 | [],_,_,_,h,q=>by rw [show _ = [] from q]; exact h
 | (k,d) :: more,_,us,vs,h,⟨v,r,e,h1,h2⟩=>by
  subst e
  show RpK K m H (mergeD (putD us k d) more) (mergeK (putK vs k v) r)
  exact RpK.merge (h.put k h1) h2
theorem pairs_rp (r : Rep K m st H) : ∀ {us : List U} {vs : List V} {kvs : List (Key × D)},RpUs K m H us vs → allM pairD us = some kvs → ∃ ps mv,vs = ps.map V.ref ∧ Paired (fun p (kv : Key × V)=>SqT K H p [kV kv.1,kv.2]) ps mv ∧ RpK K m H kvs mv
 | [],vs,kvs,h,e=>by cases e; exact ⟨[],[],h,.nil,rfl⟩
 | u :: us,vs,kvs,⟨v,t,ev,h1,h2⟩,e=>by
  subst ev
  unfold allM at e
  split at e
  ·rename_i b bs q1 q2
   cases e
   obtain ⟨ps,mv,rfl,g2,g3⟩:=pairs_rp r h2 q2
   unfold pairD at q1
   split at q1
   ·rename_i k d
    obtain ⟨a,ws,rfl,t,w1,_,rfl,i1,w2,_,rfl,i2,rfl⟩:=h1
    cases hk : keyD (.d k) with
    | none=>rw [hk] at q1; cases q1
    | some kk =>
     rw [hk] at q1; cases q1
     have:=keyD_rp (u:=.d k) i1 hk
     subst this
     exact ⟨a :: ps,(kk,w2) :: mv,rfl,.cons t.sq g2,w2,mv,rfl,i2,g3⟩
   ·cases q1
  ·cases e
theorem new_dct (r : Rep K m st H) {p : Addr} (np : H p = none) {ds : List (Key × D)} {vs : List (Key × V)} (h : RpK K m H ds vs) : RpU K m (upd H p (.dK vs)) (.d (.dct ds)) (.ref p) :=
 ⟨p,vs,rfl,⟨r.fresh np,.inl upd_same⟩,h.ext (ext_new r np _)⟩
end
section
variable {X : Cx} {W : WX}
theorem cr_dict (hc : X.calm = true) : CallR X (.type "dict") (rM X.K (pu oDict)):=by
 refine CallR.imp (call_dictP hc) fun vs H Q ⟨m,st,us,r,ru,p⟩=>?_
 obtain ⟨u,e,p⟩:=p.pu
 unfold oDict at e
 split at e
 ·obtain ⟨v,rfl,hv⟩:=ru.one
  split at e
  ·rename_i us hl
   obtain ⟨a,ws,rfl,t,q⟩:=getL_rp r hv hl
   cases q2 : allM pairD us with
   | none=>rw [q2] at e; cases e
   | some kvs =>
    rw [q2] at e; cases e
    obtain ⟨ps,mv,rfl,g1,g2⟩:=pairs_rp r q q2
    exact ⟨a,ps,mv,rfl,t,g1,fun l hl=>p _ m _ (new_dct r hl (RpK.merge (us:=[]) (vs:=[]) rfl g2)) (r.new hl _) (ext_new r hl _)⟩
  ·cases e
 ·cases e
end
section
variable {X : Cx} {W : WX} {o e f : Expr} {fo fk fx : F U} {apos cpos : Pos}
end
noncomputable def oFmt : P1:=fun u _=>match u with
 | .d (.str y)=>if y.length ≤ sizeLine then some (.d (.str y)) else none
 | .d (.int i)=>if i.natAbs.log2 < 1920 then some (.d (.str (Str.ofString (toString i)))) else none
 | _=>none
noncomputable def fJs : List (F U) → Str → F U
 | [],acc=>fun _ st=>.ok (.d (.str acc)) st
 | f :: fs,acc=>bnd f fun u=>match u with
  | .d (.str y)=>if (acc ++ y).length ≤ sizeLine then fJs fs (acc ++ y) else fun _ _=>.bad
  | _=>fun _ _=>.bad
structure DJ (X : Cx) (W : WX) (es : List Expr) (fs : List (F U)) : Prop where
 pj : PJ X es (fs.map (tF X.K W))
section
variable {X : Cx} {W : WX} {e e2 : Expr} {es : List Expr} {fe : F U} {fs : List (F U)} {pos : Pos}
theorem d_fmt (he : DE X W e fe) : DE X W (.FormattedValue e (-1) none pos) (f1 oFmt fe):=⟨PE.imp (pe_fmt he.pe) fun σ H Q ⟨m,env,st,r,re,p⟩ =>
 tF_step (f:=fe) (g:=fun a=>fun _ st=>.of st (oFmt a st)) (rel:=RpU X.K) (Q:=Q) r re p fun u st1 v m1 H1 h1 r1 re1 e1 p1=>by
  cases q : oFmt u st1 with
  | none=>rw [q] at p1; exact False.elim p1
  | some w =>
   rw [q] at p1
   unfold oFmt at q
   split at q
   ·split at q
    ·rename_i hz; cases q; cases h1; exact .inl ⟨_,rfl,hz,p1 _ m1 H1 rfl r1 (Ext.refl _ _)⟩
    ·cases q
   ·split at q
    ·rename_i hz; cases q; cases h1; exact .inr ⟨_,rfl,hz,p1 _ m1 H1 rfl r1 (Ext.refl _ _)⟩
    ·cases q
   ·cases q⟩
theorem dj_nil : DJ X W [] []:=⟨.nil⟩
theorem dj_cons (he : DE X W e fe) (hs : DJ X W es fs) : DJ X W (e :: es) (fe :: fs):=⟨.cons he.pe hs.pj⟩
theorem t_js : ∀ (fs : List (F U)) (acc : Str) {σ : L2.St} {H : Hp} {Q : VK},tF X.K W (fJs fs acc) σ H Q → tJs (fs.map (tF X.K W)) acc σ H fun out H1=>Q (.str out) H1
 | [],acc,σ,H,Q,⟨m,env,st,r,re,p⟩=>p _ m H rfl r (Ext.refl _ _)
 | f :: fs,acc,σ,H,Q,⟨m,env,st,r,re,p⟩=>tF_step r re p fun u st1 v m1 H1 h1 r1 re1 e1 p1=>by
  split at p1
  ·rename_i y
   cases h1
   split at p1
   ·rename_i hz
    exact ⟨y,rfl,hz,t_js fs _ ⟨m1,env,st1,r1,re1,p1⟩⟩
   ·exact p1.elim
  ·exact p1.elim
theorem d_joined (h : DJ X W (e :: e2 :: es) fs) : DE X W (.JoinedStr (e :: e2 :: es) pos) (fJs fs Str.empty):=⟨PE.imp (pe_joined h.pj) fun σ H Q q=>t_js fs _ q⟩
end
end VL
namespace VL
open PySem PySem.Spec PyProof.Rows L2
theorem bt_len : bootBuiltins "len" = some (.builtin "len"):=by decide +kernel
theorem bt_abs : bootBuiltins "abs" = some (.builtin "abs"):=by decide +kernel
theorem bt_min : bootBuiltins "min" = some (.builtin "min"):=by decide +kernel
theorem bt_max : bootBuiltins "max" = some (.builtin "max"):=by decide +kernel
theorem bt_all : bootBuiltins "all" = some (.builtin "all"):=by decide +kernel
theorem bt_isinstance : bootBuiltins "isinstance" = some (.builtin "isinstance"):=by decide +kernel
theorem bt_int : bootBuiltins "int" = some (.type "int"):=by decide +kernel
theorem bt_str : bootBuiltins "str" = some (.type "str"):=by decide +kernel
theorem bt_list : bootBuiltins "list" = some (.type "list"):=by decide +kernel
theorem bt_dict : bootBuiltins "dict" = some (.type "dict"):=by decide +kernel
theorem RoomG.u1 {k : Nat} {A : Around} (h : RoomG k A) : A.units + 1 < cLine:=by have:=h.rm.un; omega
theorem RoomG.u64 {k : Nat} {A : Around} (h : RoomG k A) : A.units + 64 < cLine:=by have:=h.rm.un; omega
theorem RoomG.u65 {k : Nat} {A : Around} (h : RoomG k A) : A.units + 65 < cLine:=by have:=h.rm.un; omega
section
variable {X : Cx} {W : WX}
/-- a module's text,number -/
noncomputable def GStr (mg : Str → Option Value) (x y : Str) : Prop:=∃ u,mg x = some u ∧ RelV (.str y) u
noncomputable def GInt (mg : Str → Option Value) (x : Str) (i : Int) : Prop:=∃ u,mg x = some u ∧ RelV (.int i) u
theorem d_gstr {x y : Str} {pos : Pos} (h : GStr X.mg x y) (hg : Gl X x:=by rfl) (hd : (x == ("__debug__" : Str)) = false:=by decide) : DE X W (.Name x pos) (vC (.str y)):=by
 obtain ⟨u,h1,h2⟩:=h
 exact d_glob (v:=.str y) h1 h2 (fun _ _=>rfl) hg hd
theorem d_gint {x : Str} {y : Int} {pos : Pos} (h : GInt X.mg x y) (hg : Gl X x:=by rfl) (hd : (x == ("__debug__" : Str)) = false:=by decide) : DE X W (.Name x pos) (vC (.int y)):=by
 obtain ⟨u,h1,h2⟩:=h
 exact d_glob (v:=.int y) h1 h2 (fun _ _=>rfl) hg hd
theorem d_gobj {x : Str} {a : Addr} {pos : Pos} (h : X.mg x = some (.ref a)) (hg : Gl X x:=by rfl) (hd : (x == ("__debug__" : Str)) = false:=by decide) : DE X W (.Name x pos) (vC (.obj a)) :=
 d_glob (v:=.ref a) h rfl (fun _ _=>rfl) hg hd
noncomputable def TgsNx (gs : List U → G) : Prop:=∀ us env st,match gs us env st with
 | .ok _ .nx _=>True
 | .bad=>True
 | _=>False
theorem nxs_nil : TgsNx tgNil:=fun us env st=>by cases us <;> trivial
theorem nxs_cons {g : U → G} {gs : List U → G} (h : TgNx g) (h2 : TgsNx gs) : TgsNx (tgCons g gs):=fun us env st=>by
 cases us with
 | nil=>trivial
 | cons u us =>
  show match sSeq (g u) (gs us) env st with
   | .ok _ .nx _=>True
   | .bad=>True
   | _=>False
  unfold sSeq
  have:=h u env st
  cases e : g u env st with
  | bad=>trivial
  | ex c fs env1 st1=>rw [e] at this; exact this.elim
  | ok env1 f st1 =>
   rw [e] at this
   cases f with
   | nx=>exact h2 us env1 st1
   | rt u=>exact this.elim
   | bk=>exact this.elim
   | ct=>exact this.elim
theorem nx_tup {n : Nat} {gs : List U → G} (h : TgsNx gs) : TgNx (tgT n gs):=fun u env st=>by
 unfold tgT
 cases unp st u with
 | none=>trivial
 | some us =>
  simp only
  by_cases hz : us.length = n
  ·rw [if_pos hz]; exact h us env st
  ·rw [if_neg hz]; trivial
/-- a,b,c = x,y,z -/
noncomputable def sPar3 (i j l : Nat) (fs : F (List U)) : G:=bndS fs fun us=>fun env st=>match us with
 | [u,w,z]=>.ok (((env.set i (some u)).set j (some w)).set l (some z)) .nx st
 | _=>.bad
end
section
variable {X : Cx} {W : WX} {elt tg iter : Expr} {ifs : List Expr} {scope : Scope} {own : List (Str × Nat)} {pos : Pos} {is : List Nat} {g : U → G} {gt : F Bool} {fe : F U} {fi : F Itb}
theorem d_lcV {vs : List Nat} (hc : X.calm = true) (hN : X.N.Nodup) (hi : DI X W tg iter fi) (ok : BlkOk X.N X.env.scope scope own)
  (hg : ∀ (s : Shared) (H : Hp) (C : Addr) (cl : List (Str × Addr)) (fp : List Addr),DG (X.blk s H scope (compEnvC scope cl C X.env) fp) tg is g)
  (ht : ∀ (s : Shared) (H : Hp) (C : Addr) (cl : List (Str × Addr)) (fp : List Addr),DTs (X.blk s H scope (compEnvC scope cl C X.env) fp) W0 ifs gt)
  (he : ∀ (s : Shared) (H : Hp) (C : Addr) (cl : List (Str × Addr)) (fp : List Addr),DE (X.blk s H scope (compEnvC scope cl C X.env) fp) W0 elt fe)
  (hvv : own.map (·.2) = vs:=by rfl) (hvs : ∀ i ∈ is,i ∈ own.map (·.2):=by decide) (hs : ∀ x,foldedSetIterable iter X.env x = pure x:=by intro _; rfl) :
  DE X W (.ListComp elt [⟨tg,iter,ifs,0⟩] scope pos) (fLc fi g gt fe vs):=by
 subst hvv; exact d_lc hc hN hi ok hg ht he hvs hs
/-- name = [..] -/
theorem ds_setLcV {vs : List Nat} (i : Nat) {y : Str} {py spos : Pos} (hc : X.calm = true) (hN : X.N.Nodup) (hsw : swapsWith (.ListComp elt [⟨tg,iter,ifs,0⟩] scope pos) (some (.Name y py)) spos.line X.env = pure true) (hi : DI X W tg iter fi) (ok : BlkOk X.N X.env.scope scope own)
  (hg : ∀ (s : Shared) (H : Hp) (C : Addr) (cl : List (Str × Addr)) (fp : List Addr),DG (X.blk s H scope (compEnvC scope cl C X.env) fp) tg is g)
  (ht : ∀ (s : Shared) (H : Hp) (C : Addr) (cl : List (Str × Addr)) (fp : List Addr),DTs (X.blk s H scope (compEnvC scope cl C X.env) fp) W0 ifs gt)
  (he : ∀ (s : Shared) (H : Hp) (C : Addr) (cl : List (Str × Addr)) (fp : List Addr),DE (X.blk s H scope (compEnvC scope cl C X.env) fp) W0 elt fe)
  (hvv : own.map (·.2) = vs:=by rfl) (hvs : ∀ i ∈ is,i ∈ own.map (·.2):=by decide) (hy : X.N[i]? = some y:=by rfl) (hyl : X.env.scope.names.lookup y = some .local:=by rfl) (hs : ∀ x,foldedSetIterable iter X.env x = pure x:=by intro _; rfl) :
  DS X W (.Assign [.Name y py] (.ListComp elt [⟨tg,iter,ifs,0⟩] scope pos) spos) (sAsg (fLc fi g gt fe vs) (tgN i)):=by
 subst hvv; exact ds_setLc i hc hN hsw hi ok hg ht he hvs hy hyl hs
end
/-- by place and by name,in order -/
noncomputable def gApp {α : Type} (us ws : List α) : List α:=us ++ ws
theorem FnG.imp {P : Program} {w : World} {K : PySem.W.Frag} {mg : Str → Option Value} {base : Heap} {k : Nat} {f : Addr} {fd : FuncData} {ps : List Str} {sp sp' : Sp} (F : FnG P w K mg base k f fd ps sp) (h : ∀ vs H Q E,sp' vs H Q E → sp vs H Q E) : FnG P w K mg base k f fd ps sp' :=
 ⟨fun vs H Q E q=>F.len vs H Q E (h vs H Q E q),fun A outer s H args us vs Q E r e0 b rv q=>F.run A outer s H args us vs Q E r e0 b rv (h vs H Q E q)⟩
/-- the law at a script -/
theorem law_sp {K : PySem.W.Frag} {mf : List U → M U} {ns : List Int} {H : Hp} {a : Addr} (h : ∃ st,mf [.d (.scr ns)] [] = .ok (.d (.bl true)) st) (hO : Only H) (hS : SqL K H a (ns.map V.int)) : spM K 1 mf [.ref a] H (fun v _=>v = .bl true) fun _ _ _=>False:=by
 have hv : ScV K [] H a (ns.map V.int):=by
  rcases hS with (q | ⟨o,q⟩) | q
  ·rcases hO a with z | ⟨o,xs,z⟩
   ·rw [q] at z; cases z
   ·rw [q] at z; cases z
  ·exact .inl ⟨List.not_mem_nil,o,q⟩
  ·exact .inr (.inr q)
 refine ⟨rfl,[],[],[.d (.scr ns)],⟨rfl,List.nodup_nil,fun n o b h=>by simp at h⟩,⟨_,_,rfl,⟨a,rfl,hv⟩,rfl⟩,?_⟩
 obtain ⟨st,e⟩:=h
 rw [e]
 exact fun v m' H' h1 _ _=>h1
end VL
namespace VL
open PySem PySem.Spec PyProof.Rows L2
theorem okU_mono {j k : Nat} (h : j ≤ k) {u : U} (q : okU j u = true) : okU k u = true:=by
 cases u with
 | d x=>rfl
 | ref n=>exact decide_eq_true (Nat.lt_of_lt_of_le (of_decide_eq_true q) h)
theorem okO_mono {j k : Nat} (h : j ≤ k) {o : O} (q : okO j o = true) : okO k o = true:=by
 cases o with
 | lst us=>exact List.all_eq_true.mpr fun u hu=>okU_mono h (List.all_eq_true.mp q u hu)
 | tup us=>exact List.all_eq_true.mpr fun u hu=>okU_mono h (List.all_eq_true.mp q u hu)
 | dct us=>exact List.all_eq_true.mpr fun u hu=>okU_mono h (List.all_eq_true.mp q u hu)
 | ins C us=>exact List.all_eq_true.mpr fun u hu=>okU_mono h (List.all_eq_true.mp q u hu)
 | tbl P q=>rfl
 | lck us=>exact List.all_eq_true.mpr fun u hu=>okU_mono h (List.all_eq_true.mp q u hu)
 | kdc w us=>exact List.all_eq_true.mpr fun u hu=>okU_mono h (List.all_eq_true.mp q u hu)
noncomputable def WF (st : Store) : Prop:=wfB st = true
theorem WF.cut {st : Store} (h : WF st) : cutS st.length st = some st:=by
 unfold cutS
 rw [List.take_length]
 exact if_pos h
theorem WF.push {st : Store} (h : WF st) {o : O} (q : okO (st.length + 1) o = true) : WF (st ++ [o]):=by
 unfold WF wfB at *
 rw [List.all_append,Bool.and_eq_true,List.length_append]
 exact ⟨List.all_eq_true.mpr fun x hx=>okO_mono (Nat.le_add_right _ _) (List.all_eq_true.mp h x hx),by simpa using q⟩
theorem WF.set {st : Store} (h : WF st) {n : Nat} {o : O} (q : okO st.length o = true) : WF (st.set n o):=by
 unfold WF wfB at *
 rw [List.length_set]
 refine List.all_eq_true.mpr fun x hx=>?_
 rcases List.mem_or_eq_of_mem_set hx with hx | hx
 ·exact List.all_eq_true.mp h x hx
 ·subst hx; exact q
theorem WF.nil : WF []:=rfl
theorem okO_pure (k : Nat) (ds : List D) : okO k (.lst (ds.map .d)) = true:=by
 show ((ds.map U.d).all (okU k)) = true
 rw [List.all_map]
 exact List.all_eq_true.mpr fun _ _=>rfl
theorem WF.pushL {st : Store} (h : WF st) (ds : List D) : WF (st ++ [.lst (ds.map .d)]):=h.push (okO_pure _ _)
theorem WF.setL {st : Store} (h : WF st) (n : Nat) (ds : List D) : WF (st.set n (.lst (ds.map .d))):=h.set (okO_pure _ _)
/-- what is above is cut off -/
theorem WF.cutA {st : Store} (h : WF st) (st' : Store) : cutS st.length (st ++ st') = some st:=by
 unfold cutS
 rw [List.take_left']
 ·exact if_pos h
 ·rfl
theorem wFrz_d {st : Store} (h : WF st) (x : D) : wFrz st.length (.d x) st = .ok (.d x) st:=by
 unfold wFrz frz
 rw [h.cut]
theorem wCut_d {st : Store} (h : WF st) (x : D) : wCut st.length (.d x) st = .ok (.d x) st:=by
 unfold wCut
 simp only [h.cut]
section
variable {fi : F Itb} {tg : U → G} {tt : F Bool} {fe : F U} {vs : List Nat} {env : VEnv} {st st0 : Store} {us : List U}
theorem lcL_pure {k : Nat} {env0 : VEnv} (P : U → Bool) (q : U → D) (hk : k = st.length) (hw : WF st) : ∀ (us : List U) (acc : List D),acc.length + us.length ≤ sizeLine →
  (∀ u ∈ us,∀ st' : Store,WF st' → ∃ env1,tg u env0 st' = .ok env1 .nx st' ∧ tt env1 st' = .ok (P u) st' ∧ (P u = true → fe env1 st' = .ok (.d (q u)) st')) →
  lcL k tg tt fe env0 us (st ++ [.lst (acc.map .d)]) = .ok () (st ++ [.lst ((acc ++ (us.filter P).map q).map .d)])
 | [],acc,_,_=>by simp [lcL]
 | u :: us,acc,hl,h=>by
  obtain ⟨env1,h1,h2,h3⟩:=h u (List.mem_cons_self ..) _ (hw.pushL acc)
  unfold lcL lcStep
  rw [h1]
  simp only
  rw [h2]
  rw [List.length_cons] at hl
  cases e : P u with
  | false =>
   simp only
   have:=lcL_pure (env0:=env0) P q hk hw us acc (by omega) (fun w hw=>h w (List.mem_cons_of_mem _ hw))
   rw [this,List.filter_cons_of_neg (by rw [e]; exact Bool.false_ne_true)]
  | true =>
   simp only
   rw [h3 e]
   subst hk
   simp only [List.getElem?_append_right (Nat.le_refl _),Nat.sub_self,List.getElem?_cons_zero]
   rw [if_pos (by rw [List.length_map]; omega)]
   simp only
   have hs : (st ++ [O.lst (acc.map .d)]).set st.length (.lst (acc.map .d ++ [.d (q u)])) = st ++ [.lst ((acc ++ [q u]).map .d)]:=by
    rw [List.set_append_right _ _ (Nat.le_refl _),Nat.sub_self,List.set_cons_zero,List.map_append,List.map_singleton]
   rw [hs,lcL_pure (env0:=env0) P q rfl hw us (acc ++ [q u]) (by rw [List.length_append,List.length_singleton]; omega) (fun w hw=>h w (List.mem_cons_of_mem _ hw)),
    List.filter_cons_of_pos e,List.map_cons,List.append_assoc]
   rfl
theorem fLc_pure (P : U → Bool) (q : U → D) (hw : WF st) (hi : fi env st = .ok (.lst us) st) (hl : us.length ≤ sizeLine)
  (h : ∀ u ∈ us,∀ st' : Store,WF st' → ∃ env1,tg u (wipeE env vs) st' = .ok env1 .nx st' ∧ tt env1 st' = .ok (P u) st' ∧ (P u = true → fe env1 st' = .ok (.d (q u)) st')) :
  fLc fi tg tt fe vs env st = .ok (.d (.lst ((us.filter P).map q))) st:=by
 unfold fLc bnd
 rw [hi]
 simp only
 have:=lcL_pure (env0:=wipeE env vs) P q rfl hw us [] (by simpa using hl) h
 rw [show ([] : List D).map U.d = [] from rfl] at this
 rw [this]
 unfold lcEnd
 simp only [List.getElem?_append_right (Nat.le_refl _),Nat.sub_self,List.getElem?_cons_zero,List.nil_append,pureL_map,hw.cutA]
end
section
variable {fi : F Itb} {tg : U → G} {tt : F Bool} {fe : F U} {vs : List Nat} {env : VEnv} {st st0 : Store} {us : List U}
theorem lcC_pure {n k : Nat} {env0 : VEnv} (P : U → Bool) (q : U → D) (hk : k = st.length) (hw : WF st) (hn : st[n]? = some (.lst us)) : ∀ (fuel i : Nat) (acc : List D),i ≤ us.length → us.length - i < fuel → acc.length + us.length ≤ sizeLine + i →
  (∀ u ∈ us,∀ st' : Store,WF st' → ∃ env1,tg u env0 st' = .ok env1 .nx st' ∧ tt env1 st' = .ok (P u) st' ∧ (P u = true → fe env1 st' = .ok (.d (q u)) st')) →
  lcC k tg tt fe env0 n (fun _ u=>some u) fuel i (st ++ [.lst (acc.map .d)]) = .ok () (st ++ [.lst ((acc ++ ((us.drop i).filter P).map q).map .d)])
 | 0,i,acc,_,h1,_,_=>absurd h1 (Nat.not_lt_zero _)
 | fuel + 1,i,acc,hi,hf,hl,h=>by
  have ln:=(List.getElem?_eq_some_iff.mp hn).1
  have e0 : (st ++ [O.lst (acc.map .d)])[n]? = some (.lst us):=by rw [List.getElem?_append_left ln]; exact hn
  unfold lcC
  simp only [e0]
  by_cases hlt : i < us.length
  ·have hu : us[i]? = some us[i]:=List.getElem?_eq_getElem hlt
   obtain ⟨env1,h1,h2,h3⟩:=h _ (List.getElem_mem hlt) _ (hw.pushL acc)
   rw [hu,List.drop_eq_getElem_cons hlt]
   simp only
   unfold lcStep
   rw [h1]
   simp only
   rw [h2]
   cases e : P us[i] with
   | false =>
    simp only
    rw [lcC_pure (env0:=env0) P q hk hw hn fuel (i + 1) acc hlt (by omega) (by omega) h,List.filter_cons_of_neg (by rw [e]; exact Bool.false_ne_true)]
   | true =>
    simp only
    rw [h3 e]
    subst hk
    simp only [List.getElem?_append_right (Nat.le_refl _),Nat.sub_self,List.getElem?_cons_zero]
    rw [if_pos (by rw [List.length_map]; omega)]
    simp only
    have hs : (st ++ [O.lst (acc.map .d)]).set st.length (.lst (acc.map .d ++ [.d (q us[i])])) = st ++ [.lst ((acc ++ [q us[i]]).map .d)]:=by
     rw [List.set_append_right _ _ (Nat.le_refl _),Nat.sub_self,List.set_cons_zero,List.map_append,List.map_singleton]
    rw [hs,lcC_pure (env0:=env0) P q rfl hw hn fuel (i + 1) (acc ++ [q us[i]]) hlt (by omega) (by rw [List.length_append,List.length_singleton]; omega) h,
     List.filter_cons_of_pos e,List.map_cons,List.append_assoc]
    rfl
  ·have : i = us.length:=by omega
   subst this
   rw [List.getElem?_eq_none (Nat.le_refl _),List.drop_length]
   simp
theorem fLc_pureC {n : Nat} (P : U → Bool) (q : U → D) (hw : WF st) (hi : fi env st = .ok (.cell n fun _ u=>some u) st) (hn : st[n]? = some (.lst us)) (hl : us.length ≤ sizeLine)
  (h : ∀ u ∈ us,∀ st' : Store,WF st' → ∃ env1,tg u (wipeE env vs) st' = .ok env1 .nx st' ∧ tt env1 st' = .ok (P u) st' ∧ (P u = true → fe env1 st' = .ok (.d (q u)) st')) :
  fLc fi tg tt fe vs env st = .ok (.d (.lst ((us.filter P).map q))) st:=by
 unfold fLc bnd
 rw [hi]
 simp only [hn]
 have:=lcC_pure (env0:=wipeE env vs) P q rfl hw hn (us.length + 1) 0 [] (Nat.zero_le _) (by omega) (by simpa using hl) h
 rw [show ([] : List D).map U.d = [] from rfl] at this
 rw [this]
 unfold lcEnd
 simp only [List.getElem?_append_right (Nat.le_refl _),Nat.sub_self,List.getElem?_cons_zero,List.nil_append,List.drop_zero,pureL_map,hw.cutA]
end
/-- one turn of a loop -/
noncomputable def turn (tg : U → G) (body : G) (u : U) : G:=fun env st=>match tg u env st with
 | .ok env1 .nx st1=>match body env1 st1 with
  | .ok env2 .ct st2=>.ok env2 .nx st2
  | r=>r
 | _=>.bad
theorem fItN_ok {g : List U → Option Itb} {f : F (List U)} {env : VEnv} {st st1 : Store} {us : List U} {t : Itb} (h : f env st = .ok us st1) (hg : g us = some t) : fItN g f env st = .ok t st1:=by
 unfold fItN bnd
 rw [h]
 show R.of st1 (g us) = _
 rw [hg]
 rfl
theorem sFor_lst {fi : F Itb} {tg : U → G} {body : G} {env : VEnv} {st st1 : Store} {us : List U} (h : fi env st = .ok (.lst us) st1) : sFor fi tg body env st = loopL tg body us env st1:=by
 unfold sFor bndS
 rw [h]
theorem sz0 : (0 ≤ sizeLine) = True:=eq_true (by decide)
theorem szl0 : (0 < sizeLine) = True:=eq_true (by decide)
theorem sz1 : (1 ≤ sizeLine) = True:=eq_true (by decide)
theorem szl1 : (1 < sizeLine) = True:=eq_true (by decide)
theorem sz2 : (2 ≤ sizeLine) = True:=eq_true (by decide)
theorem szl2 : (2 < sizeLine) = True:=eq_true (by decide)
theorem sz3 : (3 ≤ sizeLine) = True:=eq_true (by decide)
theorem szl3 : (3 < sizeLine) = True:=eq_true (by decide)
theorem sz4 : (4 ≤ sizeLine) = True:=eq_true (by decide)
theorem szl4 : (4 < sizeLine) = True:=eq_true (by decide)
theorem sz5 : (5 ≤ sizeLine) = True:=eq_true (by decide)
theorem szl5 : (5 < sizeLine) = True:=eq_true (by decide)
theorem sz6 : (6 ≤ sizeLine) = True:=eq_true (by decide)
theorem szl6 : (6 < sizeLine) = True:=eq_true (by decide)
theorem sz7 : (7 ≤ sizeLine) = True:=eq_true (by decide)
theorem szl7 : (7 < sizeLine) = True:=eq_true (by decide)
theorem sz8 : (8 ≤ sizeLine) = True:=eq_true (by decide)
theorem szl8 : (8 < sizeLine) = True:=eq_true (by decide)
theorem sz9 : (9 ≤ sizeLine) = True:=eq_true (by decide)
theorem szl9 : (9 < sizeLine) = True:=eq_true (by decide)
theorem sz10 : (10 ≤ sizeLine) = True:=eq_true (by decide)
theorem szl10 : (10 < sizeLine) = True:=eq_true (by decide)
theorem sz11 : (11 ≤ sizeLine) = True:=eq_true (by decide)
theorem szl11 : (11 < sizeLine) = True:=eq_true (by decide)
theorem sz12 : (12 ≤ sizeLine) = True:=eq_true (by decide)
theorem szl12 : (12 < sizeLine) = True:=eq_true (by decide)
theorem sz13 : (13 ≤ sizeLine) = True:=eq_true (by decide)
theorem szl13 : (13 < sizeLine) = True:=eq_true (by decide)
theorem sz14 : (14 ≤ sizeLine) = True:=eq_true (by decide)
theorem szl14 : (14 < sizeLine) = True:=eq_true (by decide)
theorem sz15 : (15 ≤ sizeLine) = True:=eq_true (by decide)
theorem szl15 : (15 < sizeLine) = True:=eq_true (by decide)
end VL
namespace VL
open PySem PySem.Spec PyProof.Rows L2
end VL
namespace VL
open PySem PySem.Spec PyProof.Rows L2
variable {K : PySem.W.Frag} {st : Store}
theorem isi_str : PySem.W.kitOne K (.type "str") (.type "str") = some true:=rfl
theorem blsU_map {α : Type} (l : List α) (f : α → Bool) : blsU (l.map fun x=>U.d (.bl (f x))) = some (l.map f):=by
 induction l with
 | nil=>rfl
 | cons x l ih=>unfold blsU at ih ⊢; rw [List.map_cons,allM]; rw [ih]; rfl
theorem itV_str (st : Store) (s : Str) : itV st (.d (.str s)) = some (.lst (s.cps.toList.map fun c=>.d (.str ⟨#[c]⟩))):=rfl
theorem eqv_int (a b : Int) : PyData.eqv (.int a) (.int b) = (a == b):=rfl
theorem eqv_str (a b : Str) : PyData.eqv (.str a) (.str b) = (a == b):=rfl
theorem w640 {n : Nat} (h : n ≤ 640) : n ≤ sizeLine:=Nat.le_trans h (by decide)
theorem at_1 {α : Type} (x y : α) (r : List α) : atI (x :: y :: r) 1 = some y:=by
 unfold atI ixN; simp only [List.length_cons]; rw [if_pos (by decide),if_pos (by omega)]; rfl
theorem at_0 {α : Type} (x : α) (r : List α) : atI (x :: r) 0 = some x:=by unfold atI ixN; simp
theorem at_2 {α : Type} (x y z : α) (r : List α) : atI (x :: y :: z :: r) 2 = some z:=by
 unfold atI ixN; simp only [List.length_cons]; rw [if_pos (by decide),if_pos (by omega)]; rfl
theorem at_3 {α : Type} (x y z w : α) (r : List α) : atI (x :: y :: z :: w :: r) 3 = some w:=by
 unfold atI ixN; simp only [List.length_cons]; rw [if_pos (by decide),if_pos (by omega)]; rfl
theorem at_4 {α : Type} (x y z w v : α) (r : List α) : atI (x :: y :: z :: w :: v :: r) 4 = some v:=by
 unfold atI ixN; simp only [List.length_cons]; rw [if_pos (by decide),if_pos (by omega)]; rfl
theorem allM_dd {st : Store} (k : Nat) (ds : List D) : allM (deep k st) (ds.map U.d) = some ds:=allM_d ds
theorem asP_d (st : Store) (x : D) : asP st (.d x) = toP x:=rfl
theorem asP_ref {st : Store} {i : Nat} {ds : List D} (h : st[i]? = some (.lst (ds.map U.d))) : asP st (.ref i) = (toPs ds).map .list:=by
 unfold asP deep
 simp only [h,allM_dd]
 rfl
theorem wCut_len {n : Nat} {st : Store} (h : WF st) (hl : st.length = n) (x : D) : wCut n (.d x) st = .ok (.d x) st:=by
 subst hl; exact wCut_d h x
theorem map_snoc (xs : List D) (x : D) : xs.map U.d ++ [.d x] = (xs ++ [x]).map U.d:=by rw [List.map_append]; rfl
theorem set_at {st : Store} {r : Nat} {o o' : O} (h : st[r]? = some o) : (st.set r o')[r]? = some o':=List.getElem?_set_self (List.getElem?_eq_some_iff.mp h).1
theorem app_at {st : Store} {r : Nat} {o o' : O} (h : st[r]? = some o) : (st ++ [o'])[r]? = some o:=by
 rw [List.getElem?_append_left (List.getElem?_eq_some_iff.mp h).1]; exact h
theorem new_at {st : Store} {o : O} : (st ++ [o])[st.length]? = some o:=by
 rw [List.getElem?_append_right (Nat.le_refl _),Nat.sub_self]; rfl
theorem take_same {st st' : Store} {k : Nat} (hk : k = st.length) (h : ∀ n,n < k → st'[n]? = st[n]?) : st'.take k = st:=by
 apply List.ext_getElem?
 intro n
 by_cases hn : n < k
 ·rw [List.getElem?_take_of_lt hn]; exact h n hn
 ·rw [List.getElem?_eq_none (by rw [List.length_take]; omega),List.getElem?_eq_none (by omega)]
theorem cut_same {st st' : Store} (w : WF st) (h : ∀ n,n < st.length → st'[n]? = st[n]?) : cutS st.length st' = some st:=by
 unfold cutS
 rw [take_same rfl h]
 exact if_pos w
theorem allM_frz {st : Store} (k f : Nat) (ds : List D) : allM (frz st k f) (ds.map U.d) = some ds:=by
 induction ds with
 | nil=>rfl
 | cons d ds ih =>
  rw [List.map_cons,allM,ih]
  cases f <;> rfl
theorem wKeep_of {st st' : Store} (w : WF st) {n : Nat} {ds : List D} (h : st'[n]? = some (.lst (ds.map U.d))) (hn : st.length ≤ n) (hf : ∀ m,m < st.length → st'[m]? = st[m]?) : wKeep st.length (.ref n) st' = .ok (.ref st.length) (st ++ [.lst (ds.map U.d)]):=by
 unfold wKeep
 simp only [h,okO_pure,cut_same w hf,if_true]
 rw [if_neg (by omega)]
noncomputable def Bag (st : Store) (b : Nat) : Prop:=∃ n x : Int,st[b]? = some (.lst [.d (.int n),.d (.int x)])
structure Fb (st st' : Store) (b : Nat) : Prop where
 wf : WF st'
 len : st'.length = st.length
 bag : Bag st' b
 fr : ∀ n,n ≠ b → st'[n]? = st[n]?
theorem Fb.trans {s0 s1 s2 : Store} {b : Nat} (x : Fb s0 s1 b) (y : Fb s1 s2 b) : Fb s0 s2 b:=⟨y.wf,y.len.trans x.len,y.bag,fun n h=>(y.fr n h).trans (x.fr n h)⟩
theorem Fb.refl {b : Nat} (h : WF st) (hb : Bag st b) : Fb st st b:=⟨h,rfl,hb,fun _ _=>rfl⟩
theorem ixn0 : ixN 2 0 = some 0:=rfl
theorem ixn1 : ixN 2 1 = some 1:=rfl
theorem fb_set {b : Nat} (h : WF st) {o : O} (hb : st[b]? = some o) (n x : Int) : Fb st (st.set b (.lst [.d (.int n),.d (.int x)])) b :=
 ⟨h.setL b [.int n,.int x],List.length_set,⟨n,x,set_at hb⟩,fun m hm=>List.getElem?_set_ne (Ne.symm hm)⟩
theorem at_lt {α : Type} {xs : List α} {d : Nat} (h : d < xs.length) : atI xs (d : Int) = some xs[d]:=by
 unfold atI ixN
 rw [if_pos (by omega),if_pos (by omega)]
 simp [List.getElem?_eq_getElem h]
theorem pure_ints (ns : List Int) : pureL (ns.map fun i=>U.d (.int i)) = some (ns.map .int):=by
 have:=pureL_map (ns.map D.int)
 rw [List.map_map] at this
 exact this
noncomputable def sD (ss : List Str) : List D:=ss.map D.str
noncomputable def sU (ss : List Str) : List U:=(sD ss).map U.d
theorem cut_fb {st st' : Store} {b : Nat} (h : WF st) (hB : Bag st' b) (hb : b < st.length) (hl : st.length ≤ st'.length) (hf : ∀ n,n < st.length → n ≠ b → st'[n]? = st[n]?) : cutS st.length st' = some (st'.take st.length) ∧ Fb st (st'.take st.length) b:=by
 have hall : (st'.take st.length).all (okO st.length) = true:=by
  refine List.all_eq_true.mpr fun o ho=>?_
  obtain ⟨n,hn,e⟩:=List.mem_iff_getElem.mp ho
  rw [List.length_take] at hn
  have hn' : n < st.length:=by omega
  rw [List.getElem_take] at e
  by_cases hnb : n = b
  ·subst hnb
   obtain ⟨p,x,q⟩:=hB
   rw [List.getElem?_eq_getElem (by omega)] at q
   have:=Option.some.inj q
   rw [← e,this]
   rfl
  ·have q:=hf n hn' hnb
   rw [List.getElem?_eq_getElem (by omega),List.getElem?_eq_getElem hn'] at q
   have:=Option.some.inj q
   rw [← e,this]
   exact List.all_eq_true.mp h _ (List.getElem_mem hn')
 have hlen : (st'.take st.length).length = st.length:=by rw [List.length_take]; omega
 refine ⟨if_pos hall,⟨?_,hlen,?_,fun n hn=>?_⟩⟩
 ·show wfB _ = true
  unfold wfB
  rw [hlen]; exact hall
 ·obtain ⟨p,x,q⟩:=hB
  exact ⟨p,x,by rw [List.getElem?_take_of_lt hb]; exact q⟩
 ·by_cases hn' : n < st.length
  ·rw [List.getElem?_take_of_lt hn']; exact hf n hn' hn
  ·rw [List.getElem?_eq_none (by omega),List.getElem?_eq_none (by omega)]
theorem Bag.lt {b : Nat} (h : Bag st b) : b < st.length:=by
 obtain ⟨n,x,q⟩:=h
 exact (List.getElem?_eq_some_iff.mp q).1
theorem Bag.set {b i : Nat} (h : Bag st b) (hb : b ≠ i) (o : O) : Bag (st.set i o) b:=by
 obtain ⟨n,x,q⟩:=h
 exact ⟨n,x,by rw [List.getElem?_set_ne hb.symm]; exact q⟩
theorem rng_ok {w : Nat} (h : w < 1000) : -(2 ^ 62) ≤ ((w : Nat) : Int) ∧ ((w : Nat) : Int) < 2 ^ 62:=by
 have e : (2 : Int) ^ 62 = 4611686018427387904:=by decide
 rw [e]; omega
theorem eqv_tup (a b : List PyData) : PyData.eqv (.tuple a) (.tuple b) = PyData.eqvAll a b:=by simp [PyData.eqv]
theorem eqv_cons (a b : List PyData) (x y : PyData) : PyData.eqvAll (x :: a) (y :: b) = (PyData.eqv x y && PyData.eqvAll a b):=by simp [PyData.eqvAll]
theorem itR_eq {w : Nat} (h : w < 1000) : itR [.d (.int ((w : Nat) : Int))] = some (.lst ((List.range w).map fun i=>.d (.int (0 + (i : Nat))))):=by
 have hr:=rng_ok h
 unfold itR
 simp only [hr,and_self,if_true,Int.toNat_natCast]
theorem Bag.push {b : Nat} (h : Bag st b) (o : O) : Bag (st ++ [o]) b:=by
 obtain ⟨n,x,q⟩:=h
 exact ⟨n,x,app_at q⟩
theorem szb {n : Nat} (h : n ≤ 300) : n ≤ sizeLine:=Nat.le_trans h (by decide)
theorem cutTake {ss : List Str} {d : Nat} : cutG (sD ss) none (some (d : Int)) = sD (ss.take d):=by
 unfold cutG HT.sIx sD
 simp
 rw [if_neg (by omega)]
 omega
theorem join_nil : Txt.join ("\n" : Str) [] = ("" : Str):=by decide +kernel
theorem join_len : ∀ (parts : List Str) (k : Nat),(∀ p ∈ parts,p.length ≤ 60) → parts.length ≤ k → (parts.map fun x=>x.length).sum + parts.length * ("\n" : Str).length ≤ 61 * k:=fun parts=>by
 have h1 : ("\n" : Str).length = 1:=by decide +kernel
 rw [h1]
 induction parts with
 | nil=>intro k _ _; simp
 | cons p ps ih =>
  intro k h hk
  rw [List.length_cons] at hk
  have:=ih (k - 1) (fun q hq=>h q (List.mem_cons_of_mem _ hq)) (by omega)
  have:=h p (List.mem_cons_self ..)
  rw [List.map_cons,List.sum_cons,List.length_cons]
  omega
theorem cut_len (s : Str) (lo hi : Option Int) : (L2.cutS s lo hi).length ≤ s.length:=by
 unfold L2.cutS Str.length
 simp [List.length_take,List.length_drop]
 omega
noncomputable def AllR {α β : Type} (P : α → β → Prop) : List α → List β → Prop
 | [],[]=>True
 | a :: as,b :: bs=>P a b ∧ AllR P as bs
 | _,_=>False
theorem AllR.length {α β : Type} {P : α → β → Prop} : ∀ {as : List α} {bs : List β},AllR P as bs → bs.length = as.length
 | [],[],_=>rfl
 | a :: as,b :: bs,h=>by rw [List.length_cons,List.length_cons,AllR.length h.2]
 | [],_ :: _,h=>h.elim
 | _ :: _,[],h=>h.elim
theorem AllR.right {α β : Type} {P : α → β → Prop} {Q : β → Prop} (hq : ∀ a b,P a b → Q b) : ∀ {as : List α} {bs : List β},AllR P as bs → ∀ b ∈ bs,Q b
 | [],[],_,b,hb=>by cases hb
 | a :: as,b :: bs,h,c,hc=>by
  rcases List.mem_cons.mp hc with rfl | hc
  ·exact hq _ _ h.1
  ·exact AllR.right hq h.2 c hc
 | [],_ :: _,h,_,_=>h.elim
 | _ :: _,[],h,_,_=>h.elim
section
variable {fi : F Itb} {tg : U → G} {tt : F Bool} {fe : F U} {vs : List Nat} {env env0 : VEnv} {us : List U}
end
end VL
namespace VL
open PySem PySem.Spec PyProof.Rows
section
open PySem.W PySem.Calls PySem.HandSPX Builtin Builtin.ObjectAttr
/-- a class right below a built-in error class,as the frag has it -/
structure Below (K : Frag) (C : Addr) (cd : ClassData) (B : String) (bm : List Value) : Prop where
 sf : StoreFacts B bm "object.__setattr__" "object"
 mro : cd.mro = .ref C :: bm
 cin : clsIn K C = some cd
 hd : cd.hasDict = true
variable {prog : Program} {w : World} {A : Around} {E : Value → Shared → Prop} {R : Result → Shared → Prop} {hp : Heap} {g : Array GenState} {d : Drawn} {t : Nat} {os : OsState}
theorem Below.obj {K : Frag} {C : Addr} {cd : ClassData} {B : String} {bm : List Value} (b : Below K C cd B bm) : mroIn K C (.type "object") = some true:=by
 have q : cd.mro.contains (.type "object") = true:=by
  rw [b.mro,List.contains_cons,b.sf.hasOwner,Bool.or_true]
 have e : cd.mro.isEmpty = false:=by rw [b.mro]; rfl
 unfold mroIn
 rw [b.cin,Option.bind_some,if_neg (by rw [e]; exact Bool.false_ne_true),q]
end
open L2
/-- what the written part says of an own error class -/
structure OexB (K : PySem.W.Frag) (C : Addr) : Prop where
 cls : ∃ B nw ini bm nm q N bs sn sub ab col dd k0 k1 k2 k3 k5,PySem.ExcBaseFacts B nw ini bm ∧ PySem.StoreFacts B bm "object.__setattr__" "object" ∧ K.lookup C = some (excClassObj nm q C N bs bm true sn sub ab col dd k0 k1 k2 k3 k5 nw)
 sa : PySem.W.findIn K (.ref C) "__setattr__" = some (some (.builtin "object.__setattr__"))
 exC : PySem.W.subIn K (.ref C) (.type "BaseException") = some true
 tyC : PySem.W.typeIn K (.ref C) = some (.type "type")
 kC : PySem.W.keepIn K (.ref C) = true
theorem OexB.below {K : PySem.W.Frag} {C : Addr} (T : OexB K C) : ∃ cd B bm,Below K C cd B bm:=by
 obtain ⟨B,nw,ini,bm,nm,q,N,bs,sn,sub,ab,col,dd,k0,k1,k2,k3,k5,eb,sf,hC⟩:=T.cls
 exact ⟨_,B,bm,sf,rfl,by unfold PySem.W.clsIn; rw [hC] <;> rfl,rfl⟩
section
variable {X : Cx} {pins : List (Addr × Obj)} {σ : L2.St} {H : Hp} {s : Shared} {a C dx : Addr} {f : Str} {y : V} {u : Value} {fs : List (Str × V)} {Q : Unit → Shared → Prop} {E : Value → Shared → Prop} {A : Around}
end
section
variable {X : Cx} {o e : Expr} {es : List Expr} {to te : TE} {ta : TA} {f : Str} {p p' pos : Pos}
end
end VL
namespace VL
open PySem PySem.Spec PyProof.Rows L2
section
variable {P : Program} {w : World} {K : PySem.W.Frag} {mg : Str → Option Value} {base : Heap}
end
theorem RpF.app {K : PySem.W.Frag} {m : List Addr} {H : Hp} : ∀ {xs ys : List (Str × D)} {vs ws : List (Str × V)},RpF K m H xs vs → RpF K m H ys ws → RpF K m H (xs ++ ys) (vs ++ ws)
 | [],_,_,_,h,k=>by rw [show _ = [] from h]; exact k
 | (n,d) :: xs,_,_,_,⟨v,r,e,h1,h2⟩,k=>by subst e; exact ⟨v,_,rfl,h1,RpF.app h2 k⟩
theorem RpF.zip {K : PySem.W.Frag} {m : List Addr} {H : Hp} : ∀ {ns : List Str} {ds : List D} {vs : List V},RpDs K m H ds vs → RpF K m H (ns.zip ds) (ns.zip vs)
 | [],_,_,_=>rfl
 | n :: ns,[],_,h=>by rw [show _ = [] from h]; rfl
 | n :: ns,d :: ds,_,⟨v,r,e,h1,h2⟩=>by subst e; exact ⟨v,_,rfl,h1,RpF.zip h2⟩
section
variable {X : Cx} {W : WX} {e : Expr} {es : List Expr} {fa : F (List U)} {C : Addr} {ns : List Str} {x : Str} {p pos pos' : Pos}
end
section
variable {X : Cx} {W : WX} {x n : Str} {c : Value} {body suite : List Stmt} {b₀ : Stmt} {np pos pos' : Pos} {gb gs : G}
end
section
variable {X : Cx} {W : WX} {x n A1 A2 A3 n1 n2 : Str} {C a1 a2 a3 : Addr} {tn : String} {i : Nat} {body : List Stmt} {gb : G} {z : Str} {k1 k2 k3 : Nat} {np p1 p2 p3 p4 p5 p6 p7 p8 p9 p10 p11 p12 p13 p14 p15 p16 p17 p18 p19 p20 p21 p22 pos pos' : Pos}
end
end VL
namespace VL
open PySem PySem.Spec PyProof.Rows L2
/-- a list's items,data or cell -/
noncomputable def lstG (st : Store) : U → Option (List U)
 | .d (.lst ds)=>some (ds.map .d)
 | .ref n=>match st[n]? with
  | some (.lst us)=>some us
  | _=>none
 | _=>none
theorem lstG_rp {K : PySem.W.Frag} {m : List Addr} {H : Hp} {st : Store} (r : Rep K m st H) {u : U} {v : V} {us : List U} (h : RpU K m H u v) (e : lstG st u = some us) : ∃ a vs,v = .ref a ∧ H a = some (.lst vs) ∧ RpUs K m H us vs:=by
 cases u with
 | ref n =>
  obtain ⟨a,ha,rfl⟩:=h
  simp only [lstG] at e
  split at e
  ·rename_i zs hs
   cases e
   obtain ⟨ho,h1,vs,rfl,h2⟩:=r.cell n _ a hs ha
   exact ⟨a,vs,rfl,h1,h2⟩
  ·cases e
 | d x =>
  cases x with
  | lst ds =>
   obtain ⟨a,vs,rfl,t,q⟩:=h
   cases e
   exact ⟨a,vs,rfl,t.2,RpUs.ofD q⟩
  | _=>cases e
noncomputable def oAddL : P2:=fun a b st=>match lstG st a,lstG st b with
 | some us,some ws=>if us.length + ws.length ≤ sizeLine then (pureL (us ++ ws)).map fun ds=>.d (.lst ds) else none
 | _,_=>oAdd a b st
theorem op_addL {X : Cx} : OpR X (binaryOp .Add) (rG X.K oAddL):=by
 intro pins s σ H x y v u Q I rx ry h
 obtain ⟨m,st,a,b,r,ha,hb,p⟩:=h
 unfold oAddL at p
 split at p
 ·rename_i us ws e1 e2
  split at p
  ·rename_i hz
   obtain ⟨p1,vs,rfl,t1,q1⟩:=lstG_rp r ha e1
   obtain ⟨p2,zs,rfl,t2,q2⟩:=lstG_rp r hb e2
   have l1:=q1.length
   have l2:=q2.length
   cases e3 : pureL (us ++ ws) with
   | none=>rw [e3] at p; exact p.elim
   | some ds =>
    rw [e3] at p
    exact op_cat pins s σ H _ _ v u Q I rx ry ⟨p1,p2,vs,zs,rfl,rfl,t1,t2,by omega,fun q hq=>p _ _ (new_lst r hq (pureL_rp (q1.append q2) e3)) (r.new hq _) (ext_new r hq _)⟩
  ·exact p.elim
 ·exact op_add' pins s σ H x y v u Q I rx ry ⟨m,st,a,b,r,ha,hb,p⟩
noncomputable abbrev P2S:=U → U → Store → R U
noncomputable def f2s (g : P2S) (fa fb : F U) : F U:=bnd fa fun a=>bnd fb fun b=>fun _ st=>g a b st
noncomputable def vAddC : P2S:=fun a b st=>match lstG st a,lstG st b with
 | some us,some ws=>if us.length + ws.length ≤ sizeLine then .ok (.ref st.length) (st ++ [.lst (us ++ ws)]) else .bad
 | _,_=>.bad
noncomputable def rGS (K : PySem.W.Frag) (g : P2S) : R2:=fun x y H Q=>∃ m st a b,Rep K m st H ∧ RpU K m H a x ∧ RpU K m H b y ∧ PU K m H Q (fun _ _ _=>False) (g a b st)
theorem PO'.noex {α β : Type} {K : PySem.W.Frag} {m : List Addr} {H : Hp} {rel : List Addr → Hp → α → β → Prop} {Q : β → Hp → Prop} {E : XK} {r : R α} (h : PO' K m H rel Q E r) (hn : ∀ c fs st,r ≠ .ex c fs st) : PO' K m H rel Q (fun _ _ _=>False) r:=by
 cases r with
 | ok a st=>exact h
 | ex c fs st=>exact (hn c fs st rfl).elim
 | bad=>exact h
section
variable {X : Cx} {W : WX} {a b : Expr} {fa fb : F U} {pos : Pos} {g : P2S}
theorem d_opS {op : Operator} (ho : OpR X (binaryOp op) (rGS X.K g)) (hn : ∀ a b st c fs st',g a b st ≠ .ex c fs st') (ha : DE X W a fa) (hb : DE X W b fb) : DE X W (.BinOp a op b pos) (f2s g fa fb) :=
 ⟨PE.imp (pe_op ho ha.pe hb.pe) fun σ H Q ⟨m,env,st,r,re,p⟩=>tF_step r re p fun a st1 v m1 H1 h1 r1 re1 e1 p1=>tF_step r1 re1 p1 fun b st2 w m2 H2 h2 r2 re2 e2 p2 =>
  ⟨m2,st2,a,b,r2,h1.ext e2,h2,p2.noex fun c fs st'=>hn a b st2 c fs st'⟩⟩
theorem vAddC_no : ∀ a b st c fs st',vAddC a b st ≠ .ex c fs st':=fun a b st c fs st'=>by
 unfold vAddC
 split
 ·split <;> intro z <;> cases z
 ·intro z; cases z
theorem op_addC {X : Cx} : OpR X (binaryOp .Add) (rGS X.K vAddC):=by
 intro pins s σ H x y v u Q I rx ry h
 obtain ⟨m,st,a,b,r,ha,hb,p⟩:=h
 unfold vAddC at p
 split at p
 ·rename_i us ws e1 e2
  split at p
  ·rename_i hz
   obtain ⟨p1,vs,rfl,t1,q1⟩:=lstG_rp r ha e1
   obtain ⟨p2,zs,rfl,t2,q2⟩:=lstG_rp r hb e2
   have l1:=q1.length
   have l2:=q2.length
   refine op_cat pins s σ H _ _ v u Q I rx ry ⟨p1,p2,vs,zs,rfl,rfl,t1,t2,by omega,fun q hq=>?_⟩
   obtain ⟨g1,g2⟩:=push_lst r hq (q1.append q2)
   exact p _ _ _ g1 g2 (ext_push r hq _)
  ·exact p.elim
 ·exact p.elim
/-- a slice of a list,as a cell -/
noncomputable def oSlC (a : U) (lo hi : Option Int) (st : Store) : R U:=match getL st a with
 | some us=>.ok (.ref st.length) (st ++ [.lst (cutG us lo hi)])
 | none=>.bad
noncomputable def fSlC (f : F U) (l h : F (Option Int)) : F U:=bnd f fun a=>bnd l fun lo=>bnd h fun hi=>fun _ st=>oSlC a lo hi st
theorem sl_okC : SlR X (fun x lo hi H Q=>∃ m st a,Rep X.K m st H ∧ RpU X.K m H a x ∧ PU X.K m H Q (fun _ _ _=>False) (oSlC a lo hi st)):=by
 intro pins s σ H x v vl vu lo hi sl Q I rx hs pl pu h
 obtain ⟨m,st,a,r,ha,p⟩:=h
 unfold oSlC at p
 split at p
 ·rename_i us hl
  obtain ⟨q,vs,rfl,h1,h2⟩:=getL_rp r ha hl
  refine sl_list pins s σ H _ v vl vu lo hi sl Q I rx hs pl pu ⟨q,vs,rfl,h1,fun z hz=>?_⟩
  obtain ⟨g1,g2⟩:=push_lst r hz (cut_rp h2 lo hi)
  exact p _ _ _ g1 g2 (ext_push r hz _)
 ·exact p.elim
theorem d_slC {lo hi : Option Expr} {fl fh : F (Option Int)} {p2 : Pos} (ha : DE X W a fa) (hl : DO X W lo fl) (hh : DO X W hi fh) : DE X W (.Subscript a (.Slice lo hi none p2) pos) (fSlC fa fl fh):=⟨PE.imp (pe_slice sl_okC ha.pe hl.po hh.po) fun σ H Q ⟨m,env,st,r,re,p⟩ =>
 tF_step r re p fun u st1 v m1 H1 h1 r1 re1 e1 p1=>tFO_step r1 re1 p1 fun lo st2 m2 H2 r2 re2 e2 p2=>tFO_step r2 re2 p2 fun hi st3 m3 H3 r3 re3 e3 p3 =>
  ⟨m3,st3,u,r3,(h1.ext e2).ext e3,by
   have p4 : PU X.K m3 H3 Q _ (oSlC u lo hi st3):=p3
   refine p4.noex fun c fs st'=>?_
   unfold oSlC
   split <;> intro z <;> cases z⟩⟩
end
end VL
namespace VL
open PySem PySem.Spec PyProof.Rows L2 GenW
section
variable {X : Cx} {pos : Pos}
noncomputable def tGIf (tc : TT) (t u : TGn) : TGn:=fun D ys σ H=>tc σ H fun b H1=>if b = true then t D ys σ H1 else u D ys σ H1
theorem gs_if {c : Expr} {p q : List Stmt} {tc : TT} {t u : TGn} (hc : PT X c tc) (ha : GSs X p t) (hb : GSs X q u) : GS X (.If c p q pos) (tGIf tc t u):=by
 refine ⟨fun A S ip R n ys s₀ cd fs K J gd lv s σ H D g hn k hI ht=>?_⟩
 obtain ⟨acc,cc,r,I⟩:=hI
 refine seg_at (seg_bind_wrap (wpAny_pure (seg_bind_wrap ?_)))
 rw [g.over]
 refine wpAny_mono (hc.run _ s σ H _ I ht) (fun b s1 hb1=>?_) fun x s1 hx=>k.exc n s₀ x s1 hx
 obtain ⟨H2,I2,q2⟩:=hb1
 cases b with
 | true=>exact ha.run A S ip R n ys s₀ cd fs K J gd lv s1 σ H2 D g hn k ⟨acc,cc,r,I2⟩ q2
 | false=>exact hb.run A S ip R n ys s₀ cd fs K J gd lv s1 σ H2 D g hn k ⟨acc,cc,r,I2⟩ q2
noncomputable def tGFor (wi : TI) (g : TG) (tb : TGn) : TGn:=fun D ys σ H=>wi σ H fun J H1=>∃ Z : Nat → Nat → List V → L2.St → Hp → Prop,(∃ m,Z 0 m ys σ H1) ∧
 ∀ i m zs σ H,Z i m zs σ H → (J.stop i H ∧ D.nx zs σ H) ∨
  (J.go i H ∧ ∃ N : List V → L2.St → Hp → Prop,(∀ zs' σ' H',N zs' σ' H' → ∃ m',m' < m ∧ Z (i + 1) m' zs' σ' H') ∧
   ∀ x H',J.yld i H x H' → g x σ H' fun σ2 H2=>tb { D with nx:=N,ct:=N,bk:=D.nx } zs σ2 H2)
/-- what is done with an exception that leaves the loop's code -/
noncomputable abbrev leaves (env : Env) (x : Value) : Sem PySem.Fin:=(do noteFrame x env; theTreesLotGoes x : Sem Unit).wrap (fun _=>.raise x) .raise id id
theorem gs_for {tg iter : Expr} {body : List Stmt} {wi : TI} {g : TG} {tb : TGn} (hp : PassesOwn (model X.prog X.w) X.A X.env X.xe) (hc : X.calm = true) (hi : PI X tg iter wi) (hg : PG X tg g) (hb : GSs X body tb)
  (hf : ∀ x,foldedSetIterable iter X.env x = pure x:=by intro _; rfl) : GS X (.For tg iter body [] pos) (tGFor wi g tb):=by
 refine ⟨fun A S ip R n ys s₀ cd fs K J gd lv s σ H D q hn k hI ht=>?_⟩
 obtain ⟨acc,cc,rv,I⟩:=hI
 refine seg_at (seg_bind_wrap (wpAny_pure (seg_bind_wrap ?_)))
 rw [q.over]
 refine wpAny_mono (hi.run _ s σ H _ I ht) (fun v s1 e1=>?_) fun x s1 hx=>k.exc n s₀ x s1 hx
 refine seg_bind_wrap (wpAny_of_eq (hf v) (seg_bind_wrap (wpAny_standAt (seg_bind_wrap (wpAny_holding ?_)))))
 rw [q.over]
 refine wpAny_mono e1 (fun itv s2 e2=>?_) fun x s1 hx=>k.exc n s₀ x s1 hx
 obtain ⟨it,fp,tn,It0,H2,ei,I2,T,st2,f2,Z,⟨m0,z0⟩,turn⟩:=e2
 subst ei
 refine seg_call fun p=>?_
 have fS : ∀ b ∈ fp,S ≠ b:=fun b hb=>(f2 b hb).2.2.2.2.2 (S,lstObj acc cc) (List.mem_append_right _ List.mem_cons_self)
 have stat : ∀ {H' : Hp} {ac : Array Value} {c' : Nat},(∀ b ∈ fp,H' b = none) → ∀ b ∈ fp,FpOk X ((S,lstObj ac c') :: ip) H' b:=fun {H' ac c'} hz b hb=>by
  obtain ⟨_,a1,a2,a3,a4,a5⟩:=f2 b hb
  refine ⟨hz b hb,a1,a2,a3,a4,fun y hy=>?_⟩
  rcases List.mem_append.mp hy with z | z
  ·exact a5 y (List.mem_append_left _ z)
  ·rcases List.mem_cons.mp z with z | z
   ·rw [z]; exact fS b hb
   ·exact a5 y (List.mem_append_right _ (List.mem_cons_of_mem _ z))
 have unpin : ∀ {pl : List (Addr × Obj)} {zs : List V} {σ' : L2.St} {H' : Hp} {s' : Shared},GI X S (ip ++ pl) zs σ' H' s' → GI X S ip zs σ' H' s':=fun {pl zs σ' H' s'} h=>by
  obtain ⟨ac,c',r',I'⟩:=h
  exact ⟨ac,c',r',Inv.unpinned (pins:=(S,lstObj ac c') :: ip) I'⟩
 generalize hk' : (fun r : Result=>((match r with | .ok f=>(.pure f : Sem Flow) | .error e=>.raise e).onRaise (cameBack X.env)).wrap K J gd lv) = kk
 have gl:=gc_loop (k:=kk) (c':=.forLoop tg (.ref it) body [] X.env) (l:=lv []) (kp:=[]) (p:=p) q rfl rfl
 have ee : ∀ (n : Nat) (s₀ : Shared) (x : Value) (s' : Shared),X.xe x s' → Seg (model X.prog X.w) A R (GY X S) n s₀ (.forLoop tg (.ref it) body [] X.env)
   ((do noteFrame x X.env; theTreesLotGoes x : Sem Unit).bind fun _=>.raise x) (.ret kk none (gd false) (lv []) cd p [] :: fs) s':=fun n s₀ x s' hx=>by
  rw [Sem.bind_eq_wrap]
  refine seg_wrap ?_
  rw [gl.over]
  refine wpAny_bind (wpAny_mono (hp x s' hx) (fun _ s'' hcb=>wpAny_theTreesLotGoes ?_) fun y s'' hcb=>?_)
  ·exact seg_leaf (.error x) (by rw [← hk']; exact seg_cameBack q k hcb)
  ·exact seg_leaf (.error y) (by rw [← hk']; exact seg_cameBack q k hcb)
 have out : ∀ (f : Flow) (n : Nat) (s₀ s' : Shared) (cl : Code),Seg (model X.prog X.w) A R (GY X S) n s₀ cd (K f) fs s' → Seg (model X.prog X.w) A R (GY X S) n s₀ cl (leafOf (.ok f)) (.ret kk none (gd false) (lv []) cd p [] :: fs) s':=fun f n s₀ s' cl h =>
  seg_leaf (.ok f) (by rw [← hk']; exact h)
 have loop : ∀ (m n i : Nat) (zs : List V) (s₀ s : Shared) (σ : L2.St) (H : Hp),n + zs.length = sizeLine → Z i m zs σ H → GI X S ip zs σ H s → tn i s.heap → (∀ b ∈ fp,H b = none) →
   Seg (model X.prog X.w) A R (GY X S) n s₀ (.forLoop tg (.ref it) body [] X.env) ((model X.prog X.w).den (.forLoop tg (.ref it) body [] X.env)) (.ret kk none (gd false) (lv []) cd p [] :: fs) s:=by
  intro m
  induction m using Nat.strongRecOn with
  | ind m ih =>
   intro n i zs s₀ s σ H hn z hI st hfr
   obtain ⟨ac,c1,r1,I1⟩:=hI
   show Seg _ _ _ _ _ _ _ ((forTurn tg (.ref it) body [] X.env).onRaise fun x=>do noteFrame x X.env; theTreesLotGoes x) _ s
   rw [Sem.onRaise_eq_wrap]
   unfold forTurn
   refine seg_bind_wrap (wpAny_standAt (seg_bind_wrap ?_))
   rw [gl.over]
   rcases turn i m zs σ H z with ⟨stop,qn⟩ | ⟨go,N,hN,step⟩
   ·refine wpAny_onRaise (wpAny_mono (T.done X rfl rfl rfl hc i _ s σ H X.xe I1 (stat hfr) st stop) (fun r' s4 h4=>?_) fun x s4 hx=>wpAny_standAt (ee n s₀ x s4 hx))
    obtain ⟨er,I4⟩:=h4
    subst er
    exact seg_again rfl (out .next n s₀ s4 _ (k.ok n zs s₀ s4 .next hn ⟨σ,H,⟨ac,c1,r1,I4⟩,qn⟩))
   ·refine wpAny_onRaise (wpAny_mono (T.item X rfl rfl rfl hc i _ s σ H X.xe I1 (stat hfr) st go) (fun r' s4 h4=>?_) fun x s4 hx=>wpAny_standAt (ee n s₀ x s4 hx))
    obtain ⟨u,er,h5⟩:=h4
    subst er
    refine seg_bind_wrap ?_
    rw [gl.over]
    refine wpAny_mono h5 (fun _ s5 h6=>?_) fun x s4 hx=>ee n s₀ x s4 hx
    obtain ⟨x,H5,I5,r5,y5,st5,fr5⟩:=h6
    have J5:=I5.pinned (stat fr5) (T.obj _ _ st5)
    refine seg_bind_wrap ?_
    rw [gl.over]
    refine wpAny_mono (hg.run _ s5 σ H5 x u _ J5 r5 (step x H5 y5)) (fun _ s6 h7=>?_) fun x s4 hx=>ee n s₀ x s4 hx
    obtain ⟨σ6,H6,I6,q6⟩:=h7
    rw [Sem.bind_eq_wrap',Sem.wrap_wrap]
    have back : ∀ {zs' : List V} {σ' : L2.St} {H' : Hp} {s' : Shared},GI X S (ip ++ pinsAt fp s5.heap) zs' σ' H' s' → tn (i + 1) s'.heap ∧ ∀ b ∈ fp,H' b = none:=fun {zs' σ' H' s'} h=>by
     obtain ⟨ac',c',r',I'⟩:=h
     refine ⟨T.keep _ _ _ st5 fun b hb o e=>(I'.pin (b,o) (List.mem_append_right _ (List.mem_cons_of_mem _ (List.mem_append_right _ (mem_pinsAt hb e))))).1,fun b hb=>?_⟩
     obtain ⟨o,e,d⟩:=T.obj _ _ st5 b hb
     exact (I'.pin (b,o) (List.mem_append_right _ (List.mem_cons_of_mem _ (List.mem_append_right _ (mem_pinsAt hb e))))).2.1
    refine hb.run A S (ip ++ pinsAt fp s5.heap) R n zs s₀ _ _ _ _ _ _ s6 σ6 H6 { D with nx:=N,ct:=N,bk:=D.nx } ⟨gl.pn,fun y hy=>?_,gl.apart,gl.over,gl.split,gl.guard,rfl⟩ hn ⟨fun n' zs' s₀' s7 f hn' hs=>?_,fun n' s₀' x s7 hx=>ee n' s₀' x s7 hx⟩ ⟨ac,c1,r1,I6⟩ q6
    ·rcases List.mem_append.mp hy with z1 | z1
     ·exact gl.ip y z1
     ·exact fun e=>fS y.1 (of_pinsAt z1).1 e.symm
    ·cases f with
     | next =>
      obtain ⟨σ7,H7,I7,n7⟩:=hs
      obtain ⟨m',hm,z7⟩:=hN zs' σ7 H7 n7
      exact seg_again rfl (ih m' hm n' (i + 1) zs' s₀' s7 σ7 H7 hn' z7 (unpin I7) (back I7).1 (back I7).2)
     | cont =>
      obtain ⟨σ7,H7,I7,n7⟩:=hs
      obtain ⟨m',hm,z7⟩:=hN zs' σ7 H7 n7
      exact seg_again rfl (ih m' hm n' (i + 1) zs' s₀' s7 σ7 H7 hn' z7 (unpin I7) (back I7).1 (back I7).2)
     | brk =>
      obtain ⟨σ7,H7,I7,n7⟩:=hs
      exact out .next n' s₀' s7 _ (k.ok n' zs' s₀' s7 .next hn' ⟨σ7,H7,unpin I7,n7⟩)
     | ret v =>
      obtain ⟨x7,σ7,H7,I7,r7,n7⟩:=hs
      exact out (.ret v) n' s₀' s7 _ (k.ok n' zs' s₀' s7 (.ret v) hn' ⟨x7,σ7,H7,unpin I7,r7,n7⟩)
 exact hk' ▸ loop m0 n 0 ys s₀ s2 σ H2 hn z0 ⟨acc,cc,rv,I2⟩ st2 fun b hb=>(f2 b hb).1
end
end VL
namespace VL
open PySem PySem.Spec PyProof.Rows L2 GenW
inductive RY where
 | ok (env : VEnv) (f : Fl) (st : Store) (ys : List U)
 | bad
noncomputable abbrev Y:=VEnv → Store → List U → RY
noncomputable def PY (K : PySem.W.Frag) (m : List Addr) (H : Hp) (D : GEnds) : RY → Prop
 | .ok env .nx st' ys=>∀ σ' m' H' zs,RpEnv K m' H' env σ' → Rep K m' st' H' → Ext m H m' H' → RpUs K m' H' ys zs → D.nx zs σ' H'
 | .ok env (.rt u) st' ys=>∀ v m' H' zs,RpU K m' H' u v → Rep K m' st' H' → Ext m H m' H' → RpUs K m' H' ys zs → D.rt zs v H'
 | .ok env .bk st' ys=>∀ σ' m' H' zs,RpEnv K m' H' env σ' → Rep K m' st' H' → Ext m H m' H' → RpUs K m' H' ys zs → D.bk zs σ' H'
 | .ok env .ct st' ys=>∀ σ' m' H' zs,RpEnv K m' H' env σ' → Rep K m' st' H' → Ext m H m' H' → RpUs K m' H' ys zs → D.ct zs σ' H'
 | .bad=>False
theorem PY.from {K : PySem.W.Frag} {m m1 : List Addr} {H H1 : Hp} {D : GEnds} (e : Ext m H m1 H1) : ∀ {r : RY},PY K m H D r → PY K m1 H1 D r
 | .ok _ .nx _ _,h=>fun v m' H' zs a b c=>h v m' H' zs a b (e.trans c)
 | .ok _ (.rt _) _ _,h=>fun v m' H' zs a b c=>h v m' H' zs a b (e.trans c)
 | .ok _ .bk _ _,h=>fun v m' H' zs a b c=>h v m' H' zs a b (e.trans c)
 | .ok _ .ct _ _,h=>fun v m' H' zs a b c=>h v m' H' zs a b (e.trans c)
 | .bad,h=>h
noncomputable def tY (K : PySem.W.Frag) (g : Y) : TGn:=fun D ys σ H=>∃ m env st us,Rep K m st H ∧ RpEnv K m H env σ ∧ RpUs K m H us ys ∧ PY K m H D (g env st us)
theorem GS.imp {X : Cx} {s : Stmt} {t t' : TGn} (h : GS X s t) (i : ∀ D ys σ H,t' D ys σ H → t D ys σ H) : GS X s t' :=
 ⟨fun A S ip R n ys s₀ c fs K J gd lv s σ H D a b k d e=>h.run A S ip R n ys s₀ c fs K J gd lv s σ H D a b k d (i _ _ _ _ e)⟩
theorem GSs.imp {X : Cx} {s : List Stmt} {t t' : TGn} (h : GSs X s t) (i : ∀ D ys σ H,t' D ys σ H → t D ys σ H) : GSs X s t' :=
 ⟨fun A S ip R n ys s₀ c fs K J gd lv s σ H D a b k d e=>h.run A S ip R n ys s₀ c fs K J gd lv s σ H D a b k d (i _ _ _ _ e)⟩
structure DY (X : Cx) (s : Stmt) (g : Y) : Prop where
 gs : GS X s (tY X.K g)
structure DYs (X : Cx) (s : List Stmt) (g : Y) : Prop where
 gss : GSs X s (tY X.K g)
noncomputable def yNil : Y:=fun env st ys=>.ok env .nx st ys
noncomputable def ySeq (g h : Y) : Y:=fun env st ys=>match g env st ys with
 | .ok env1 .nx st1 ys1=>h env1 st1 ys1
 | r=>r
noncomputable def yBnd {α : Type} (f : F α) (g : α → Y) : Y:=fun env st ys=>match f env st with
 | .ok a st1=>g a env st1 ys
 | _=>.bad
noncomputable def yYield (f : F U) : Y:=yBnd f fun u=>fun env st ys=>if ys.length < sizeLine then .ok env .nx st (ys ++ [u]) else .bad
noncomputable def yIf (c : F Bool) (g h : Y) : Y:=yBnd c fun k=>if k = true then g else h
theorem rpUs_snoc {K : PySem.W.Frag} {m : List Addr} {H : Hp} : ∀ {us : List U} {vs : List V} {u : U} {v : V},RpUs K m H us vs → RpU K m H u v → RpUs K m H (us ++ [u]) (vs ++ [v])
 | [],_,_,_,rfl,r=>⟨_,_,rfl,r,rfl⟩
 | _ :: _,_,_,_,⟨x,xs,rfl,h1,h2⟩,r=>⟨x,_,rfl,h1,rpUs_snoc h2 r⟩
section
variable {X : Cx} {W : WX} {s : Stmt} {ss a b : List Stmt} {g h ga gb : Y} {e c : Expr} {fe : F U} {bc : F Bool} {pos : Pos}
theorem yF_step {α : Type} {K : PySem.W.Frag} {m : List Addr} {H : Hp} {env : VEnv} {st : Store} {us : List U} {zs : List V} {σ : L2.St} {D : GEnds} {f : F α} {gy : α → Y} {E : XK} {β : Type} {rl : List Addr → Hp → α → β → Prop} {Z : β → Hp → Prop}
  (re : RpEnv K m H env σ) (ru : RpUs K m H us zs) (p : PY K m H D (yBnd f gy env st us))
  (hz : ∀ x st1 v m1 H1,rl m1 H1 x v → Rep K m1 st1 H1 → RpEnv K m1 H1 env σ → Ext m H m1 H1 → RpUs K m1 H1 us zs → PY K m1 H1 D (gy x env st1 us) → Z v H1) : PO' K m H rl Z E (f env st):=by
 unfold yBnd at p
 cases q : f env st with
 | bad=>rw [q] at p; exact p.elim
 | ex c fs st1=>rw [q] at p; exact p.elim
 | ok x st1 =>
  rw [q] at p
  exact fun v m1 H1 h1 r1 e1=>hz x st1 v m1 H1 h1 r1 (re.ext e1) e1 (ru.ext e1) (p.from e1)
theorem dy_nil : DYs X [] yNil:=⟨GSs.imp gss_nil fun D ys σ H ⟨m,env,st,us,r,re,ru,p⟩=>p σ m H ys re r (Ext.refl _ _) ru⟩
theorem dy_cons (h1 : DY X s g) (h2 : DYs X ss h) : DYs X (s :: ss) (ySeq g h):=⟨GSs.imp (gss_cons h1.gs h2.gss) fun D ys σ H ⟨m,env,st,us,r,re,ru,p⟩=>by
 refine ⟨m,env,st,us,r,re,ru,?_⟩
 unfold ySeq at p
 cases q : g env st us with
 | bad=>rw [q] at p; exact p
 | ok env1 f st1 ys1 =>
  rw [q] at p
  cases f with
  | nx=>exact fun σ' m' H' zs k1 k2 k3 k4=>⟨m',env1,st1,ys1,k2,k1,k4,p.from k3⟩
  | rt u=>exact p
  | bk=>exact p
  | ct=>exact p⟩
theorem dy_yield {yp : Pos} (he : DE X W e fe) (hco : X.env.scope.isCoroutine = false:=by rfl) (hi : interactive X.env = false:=by rfl) : DY X (.Expr (.Yield (some e) yp) pos) (yYield fe) :=
 ⟨GS.imp (gs_yield he.pe hco hi) fun D ys σ H ⟨m,env,st,us,r,re,ru,p⟩=>by
  have hlt : ys.length < sizeLine:=by
   unfold yYield yBnd at p
   cases q : fe env st with
   | bad=>rw [q] at p; exact p.elim
   | ex c fs st1=>rw [q] at p; exact p.elim
   | ok u st1 =>
    rw [q] at p
    simp only at p
    split at p
    ·rename_i hl
     rw [ru.length]; exact hl
    ·exact p.elim
  refine ⟨hlt,m,env,st,r,re,yF_step re ru p fun u st1 v m1 H1 h1 r1 re1 e1 ru1 p1=>?_⟩
  split at p1
  ·exact p1 σ m1 H1 _ re1 r1 (Ext.refl _ _) (rpUs_snoc ru1 h1)
  ·exact p1.elim⟩
theorem dy_if (hc : DT X W c bc) (ha : DYs X a ga) (hb : DYs X b gb) : DY X (.If c a b pos) (yIf bc ga gb):=⟨GS.imp (gs_if hc.pt ha.gss hb.gss) fun D ys σ H ⟨m,env,st,us,r,re,ru,p⟩ =>
 ⟨m,env,st,r,re,yF_step re ru p fun k st1 v m1 H1 h1 r1 re1 e1 ru1 p1=>by
  subst h1
  cases v with
  | true=>rw [if_pos rfl] at p1 ⊢; exact ⟨m1,env,st1,us,r1,re1,ru1,p1⟩
  | false=>rw [if_neg Bool.false_ne_true] at p1 ⊢; exact ⟨m1,env,st1,us,r1,re1,ru1,p1⟩⟩⟩
end
noncomputable def loopLY (tg : U → G) (body : Y) : List U → Y
 | []=>yNil
 | u :: us=>fun env st ys=>match tg u env st with
  | .ok env1 .nx st1=>match body env1 st1 ys with
   | .ok env2 .nx st2 ys2=>loopLY tg body us env2 st2 ys2
   | .ok env2 .ct st2 ys2=>loopLY tg body us env2 st2 ys2
   | .ok env2 .bk st2 ys2=>.ok env2 .nx st2 ys2
   | r=>r
  | _=>.bad
noncomputable def loopCY (tg : U → G) (body : Y) (n : Nat) (f : Nat → U → Option U) : Nat → Nat → Y
 | 0,_=>fun _ _ _=>.bad
 | k + 1,i=>fun env st ys=>match st[n]? with
  | some (.lst us)=>match us[i]? with
   | none=>.ok env .nx st ys
   | some u=>match f i u with
    | none=>.bad
    | some w=>match tg w env st with
     | .ok env1 .nx st1=>match body env1 st1 ys with
      | .ok env2 .nx st2 ys2=>loopCY tg body n f k (i + 1) env2 st2 ys2
      | .ok env2 .ct st2 ys2=>loopCY tg body n f k (i + 1) env2 st2 ys2
      | .ok env2 .bk st2 ys2=>.ok env2 .nx st2 ys2
      | r=>r
     | _=>.bad
  | _=>.bad
noncomputable def yFor (fi : F Itb) (tg : U → G) (body : Y) : Y:=yBnd fi fun t=>match t with
 | .lst us=>loopLY tg body us
 | .cell n f=>fun env st ys=>match st[n]? with
  | some (.lst us)=>loopCY tg body n f (us.length + 1) 0 env st ys
  | _=>.bad
section
variable {X : Cx} {W : WX} {tg iter : Expr} {body : List Stmt} {is : List Nat} {g : U → G} {gb : Y} {fi : F Itb} {pos : Pos}
theorem turnY {K : PySem.W.Frag} {is : List Nat} {D : GEnds} {N : List V → L2.St → Hp → Prop} {g : U → G} {gb : Y} {rest : Y} {u : U} {m m1 : List Addr} {env : VEnv} {st : Store} {us : List U} {zs : List V} {H H1 : Hp} {σ : L2.St} {x : V} (r : Rep K m st H) (re : RpEnv K m H env σ) (ry : RpUs K m H us zs) (ru : RpU K m H u x)
  (e0 : Ext m1 H1 m H)
  (p : PY K m H D (match g u env st with
   | .ok env1 .nx st1=>match gb env1 st1 us with
    | .ok env2 .nx st2 ys2=>rest env2 st2 ys2
    | .ok env2 .ct st2 ys2=>rest env2 st2 ys2
    | .ok env2 .bk st2 ys2=>.ok env2 .nx st2 ys2
    | r=>r
   | _=>.bad))
  (hN : ∀ env2 st2 us2 zs' σ' m' H',RpEnv K m' H' env2 σ' → Rep K m' st2 H' → Ext m1 H1 m' H' → RpUs K m' H' us2 zs' → PY K m' H' D (rest env2 st2 us2) → N zs' σ' H') :
  tTg K is g x σ H fun σ2 H2=>tY K gb { D with nx:=N,ct:=N,bk:=D.nx } zs σ2 H2:=by
 refine ⟨m,env,st,u,r,re,ru,?_⟩
 cases e : g u env st with
 | bad=>rw [e] at p; exact p.elim
 | ex c fs env1 st1=>rw [e] at p; exact p.elim
 | ok env1 f st1 =>
  rw [e] at p
  cases f with
  | rt w=>exact p.elim
  | bk=>exact p.elim
  | ct=>exact p.elim
  | nx =>
   refine fun σ2 m2 H2 k1 k2 k3 _=>⟨m2,env1,st1,us,k2,k1,ry.ext k3,?_⟩
   have p2:=PY.from k3 p
   cases e2 : gb env1 st1 us with
   | bad=>simp only [e2] at p2; exact p2
   | ok env2 f2 st2 ys2 =>
    simp only [e2] at p2
    cases f2 with
    | nx=>exact fun σ' m' H' zs' j1 j2 j3 j4=>hN env2 st2 ys2 zs' σ' m' H' j1 j2 (e0.trans (k3.trans j3)) j4 (p2.from j3)
    | ct=>exact fun σ' m' H' zs' j1 j2 j3 j4=>hN env2 st2 ys2 zs' σ' m' H' j1 j2 (e0.trans (k3.trans j3)) j4 (p2.from j3)
    | bk=>exact p2
    | rt w=>exact p2
theorem t_forY {D : GEnds} {zs : List V} {σ : L2.St} {H : Hp} (q : tY X.K (yFor fi g gb) D zs σ H) : tGFor (tI X.K W fi) (tTg X.K is g) (tY X.K gb) D zs σ H:=by
 obtain ⟨m,env,st,us,r,re,ry,p⟩:=q
 refine ⟨m,env,st,r,re,?_⟩
 unfold yFor yBnd at p
 cases e : fi env st with
 | bad=>rw [e] at p; exact p.elim
 | ex c fs st1=>rw [e] at p; exact p.elim
 | ok t st1 =>
  rw [e] at p
  intro t' m0 H0 ht r0 e0 m1 st1' he r1 e1 J hJ
  subst ht
  cases he
  have re1:=re.ext e1
  have ry1:=ry.ext e1
  have p1:=PY.from e1 p
  cases t' with
  | lst xs =>
   obtain ⟨go,stop,yld⟩:=hJ
   refine ⟨fun i k zs σ H=>∃ m' env' st' us',Rep X.K m' st' H ∧ RpEnv X.K m' H env' σ ∧ RpUs X.K m' H us' zs ∧ Ext m1 H0 m' H ∧ k = xs.length - i ∧ i ≤ xs.length ∧ PY X.K m' H D (loopLY g gb (xs.drop i) env' st' us'),
    ⟨xs.length,m1,env,st1,us,r1,re1,ry1,Ext.refl _ _,by simp,Nat.zero_le _,p1⟩,?_⟩
   rintro i k zs' σ' H' ⟨m',env',st',us',r',re',ry',e',rfl,hi,p'⟩
   by_cases hlt : i < xs.length
   ·have hu : xs[i]? = some xs[i]:=List.getElem?_eq_getElem hlt
    rw [List.drop_eq_getElem_cons hlt] at p'
    refine .inr ⟨go i m' st' H' hlt r' e',fun z2 σ2 H2=>∃ m2 env2 st2 us2,Rep X.K m2 st2 H2 ∧ RpEnv X.K m2 H2 env2 σ2 ∧ RpUs X.K m2 H2 us2 z2 ∧ Ext m1 H0 m2 H2 ∧ PY X.K m2 H2 D (loopLY g gb (xs.drop (i + 1)) env2 st2 us2),?_,?_⟩
    ·rintro z2 σ2 H2 ⟨m2,env2,st2,us2,r2,re2,ry2,e2,p2⟩
     exact ⟨xs.length - (i + 1),by omega,m2,env2,st2,us2,r2,re2,ry2,e2,rfl,hlt,p2⟩
    ·intro x H'' hy
     obtain ⟨r2,e2,ru⟩:=yld i _ m' st' H' x H'' hu r' e' hy
     exact turnY r2 (re'.ext e2) (ry'.ext e2) ru (e'.trans e2) (PY.from e2 p') fun env2 st2 us2 z2 σ2 m2 H2 k1 k2 k3 k4 k5=>⟨m2,env2,st2,us2,k2,k1,k4,k3,k5⟩
   ·have : i = xs.length:=by omega
    subst this
    rw [List.drop_length] at p'
    exact .inl ⟨stop m' st' H' r' e',p' σ' m' H' zs' re' r' (Ext.refl _ _) ry'⟩
  | cell n f =>
   simp only at p1
   split at p1
   ·rename_i us0 hs0
    refine ⟨fun i k zs σ H=>∃ m' env' st' us',Rep X.K m' st' H ∧ RpEnv X.K m' H env' σ ∧ RpUs X.K m' H us' zs ∧ Ext m1 H0 m' H ∧ PY X.K m' H D (loopCY g gb n f k i env' st' us'),
     ⟨us0.length + 1,m1,env,st1,us,r1,re1,ry1,Ext.refl _ _,p1⟩,?_⟩
    rintro i k zs' σ' H' ⟨m',env',st',us',r',re',ry',e',p'⟩
    cases k with
    | zero=>exact p'.elim
    | succ k =>
     unfold loopCY at p'
     split at p'
     ·rename_i xs hs
      obtain ⟨go,stop,yld⟩:=hJ xs m' st' H' r' e' hs
      cases hu : xs[i]? with
      | none =>
       simp only [hu] at p'
       exact .inl ⟨stop i (List.getElem?_eq_none_iff.mp hu),p' σ' m' H' zs' re' r' (Ext.refl _ _) ry'⟩
      | some u =>
       simp only [hu] at p'
       cases hf : f i u with
       | none=>simp only [hf] at p'; exact p'.elim
       | some w =>
        simp only [hf] at p'
        refine .inr ⟨go i (List.getElem?_eq_some_iff.mp hu).1,fun z2 σ2 H2=>∃ m2 env2 st2 us2,Rep X.K m2 st2 H2 ∧ RpEnv X.K m2 H2 env2 σ2 ∧ RpUs X.K m2 H2 us2 z2 ∧ Ext m1 H0 m2 H2 ∧ PY X.K m2 H2 D (loopCY g gb n f k (i + 1) env2 st2 us2),?_,?_⟩
        ·rintro z2 σ2 H2 ⟨m2,env2,st2,us2,r2,re2,ry2,e2,p2⟩
         exact ⟨k,Nat.lt_succ_self k,m2,env2,st2,us2,r2,re2,ry2,e2,p2⟩
        ·intro x H'' hy
         obtain ⟨r2,e2,ru⟩:=yld i u w x H'' hu hf hy
         exact turnY r2 (re'.ext e2) (ry'.ext e2) ru (e'.trans e2) (PY.from e2 p') fun env2 st2 us2 z2 σ2 m2 H2 k1 k2 k3 k4 k5=>⟨m2,env2,st2,us2,k2,k1,k4,k3,k5⟩
     ·exact p'.elim
   ·exact p1.elim
theorem dy_for (hp : PassesOwn (model X.prog X.w) X.A X.env X.xe) (hc : X.calm = true) (hi : DI X W tg iter fi) (hg : DG X tg is g) (hb : DYs X body gb) (hs : ∀ x,foldedSetIterable iter X.env x = pure x:=by intro _; rfl) :
  DY X (.For tg iter body [] pos) (yFor fi g gb):=⟨GS.imp (gs_for hp hc hi.pi hg.pg hb.gss hs) fun _ _ _ _ q=>t_forY q⟩
end
noncomputable def runY (n : Nat) (g : Y) (us : List U) (st : Store) : Option (Store × List U):=match g (us.map some ++ List.replicate (n - us.length) none) st [] with
 | .ok _ .nx st' ys=>some (st',ys)
 | _=>none
noncomputable def spY (K : PySem.W.Frag) (n : Nat) (mY : List U → Store → Option (Store × List U)) : SpG:=fun vs H cont _=>vs.length = n ∧ ∃ m st us,Rep K m st H ∧ RpUs K m H us vs ∧ match mY us st with
 | some (st',ys)=>∀ zs m' H',Rep K m' st' H' → Ext m H m' H' → RpUs K m' H' ys zs → cont zs H'
 | none=>False
theorem gen_ok {P : Program} {w : World} {K : PySem.W.Frag} {mg : Str → Option Value} {base : Heap} {x qual : Str} {st : Stmt} {f : Addr} {fd : FuncData} {N ps : List Str} {k : Nat} {g : Y} (Fn : Fun K x qual st f fd) (S : GScope N ps (defScope st))
  (hbody : ∀ (cdv : Value) (A : Around) (outer : List Env) (s : Shared) (H : Hp) (E : XK) (pn : List (Addr × Obj)),Room k (A.deeper (envOfC qual (defScope st) s.heap.objs.size f cdv)) →
   DYs (gcxOf P w K mg base N qual (defScope st) f cdv A outer s H E pn) (defBody st) g) : GFn P w K mg base (k + 1) f fd ps (spY K ps.length (runY N.length g)):=by
 obtain ⟨oc,od,kV,doc,pm,an,cdv,ct,osl,rfl,lk,hcd⟩:=Fn.ex
 refine gfn_of lk hcd S (fun vs H Q E h=>h.1) fun A outer s H vs Q E pn hr h=>⟨tY K g,(hbody cdv A outer s H E pn hr).gss,?_⟩
 obtain ⟨hl,m,st0,us,r,ru,p⟩:=h
 refine ⟨m,_,st0,[],r,start_env ru,rfl,?_⟩
 unfold runY at p
 cases q : g (us.map some ++ List.replicate (N.length - us.length) none) st0 [] with
 | bad=>rw [q] at p; exact p.elim
 | ok env fl st1 ys =>
  rw [q] at p
  cases fl with
  | nx=>exact fun σ' m' H' zs h0 h1 h2 h3=>p zs m' H' h1 h2 h3
  | rt u=>exact p.elim
  | bk=>exact p.elim
  | ct=>exact p.elim
/-- a generator method of one parameter -/
structure GnOk (P : Program) (w : World) (K : PySem.W.Frag) (mg : Str → Option Value) (base : Heap) (f : Addr) (k : Nat) (mY : List U → Store → Option (Store × List U)) : Prop where
 ex : ∃ (fd : FuncData) (ps : List Str),GFn P w K mg base k f fd ps (spY K 1 mY) ∧ Binds K fd ps []
noncomputable def fListY (C : Addr) (nm : Str) (mY : List U → Store → Option (Store × List U)) (fo : F U) : F U:=bnd fo fun u=>fun _ st=>match insU st u with
 | some (C',us)=>if C' = C ∧ us.lookup nm = none then match mY [u] st with
  | some (st',ys)=>match pureL ys with
   | some ds=>.ok (.d (.lst ds)) st'
   | none=>.bad
  | none=>.bad
  else .bad
 | none=>.bad
section
variable {X : Cx} {W : WX} {o : Expr} {fo : F U} {C f : Addr} {nm x : Str} {k : Nat} {mY : List U → Store → Option (Store × List U)} {p pos pos' apos : Pos} {pl : Sem Bool}
theorem d_listY (ho : DE X W o fo) (hC : Cls X.K C) (hM : Meth X.K C nm f) (Fn : GnOk X.prog X.w X.K X.mg X.base f k mY) (hr : Room (k + 3) X.A) (hmg : X.mg x = none) (hv : bootBuiltins x = some (.type "list")) (hg : Gl X x:=by rfl) (hnm : x ≠ "__name__":=by decide) (hdb : (x == ("__debug__" : Str)) = false:=by decide)
  (ht : eval (.Call (.Attribute o nm apos) [] [] pos') X.env = (do
   let ov ← eval o X.env
   standAt apos.atName
   let (f,first) ← holding [ov] (getMethod ov nm pl)
   callWith pos' f first (backTo pos' (starEach [] X.env)) (backToKw pos' (keywordEach [] X.env))):=by rfl)
  (he : starEach [(.Call (.Attribute o nm apos) [] [] pos' : Expr)] X.env = (false,eval (.Call (.Attribute o nm apos) [] [] pos') X.env) :: starEach [] X.env:=by rfl) :
  DE X W (.Call (.Name x p) [.Call (.Attribute o nm apos) [] [] pos'] [] pos) (fListY C nm mY fo):=by
 obtain ⟨fd,ps,Fn,hb⟩:=Fn.ex
 have hroom : Room k X.A:=hr.mono (by omega)
 refine ⟨PE.imp (pe_listG (E:=fun _ _ _=>False) (pgen_meth0 (pl:=pl) (dvs:=[]) ho.pe hC hM Fn hroom hb .nil ht) (fun pins σ H s e s' I c=>?_) (fun _ _ _ h=>h.elim) hr hg hmg hv hnm hdb he) fun σ H Q q=>?_⟩
 ·obtain ⟨a,B,H',cls,d,_,_,_,_,_,_,_,hW⟩:=c
  exact hW.elim
 ·obtain ⟨m,env,st,r,re,p⟩:=q
  refine tF_step r re p fun u st1 v m1 H1 h1 r1 re1 e1 p1=>?_
  split at p1
  ·rename_i C' us hi
   split at p1
   ·rename_i hc
    obtain ⟨a,dx,vs,rfl,ha,rf⟩:=insU_rp r1 h1 hi
    have hlk:=rf.lookup (f:=nm)
    rw [hc.2] at hlk
    rw [hc.1] at ha
    split at p1
    ·rename_i st' ys hm
     split at p1
     ·rename_i ds hd
      refine ⟨a,dx,vs,rfl,ha,hlk,rfl,m1,st1,[u],r1,⟨_,_,rfl,h1,rfl⟩,?_⟩
      rw [hm]
      intro zs m2 H2 r2 e2 r3 q hq
      have hD:=pureL_rp r3 hd
      exact p1 _ m2 _ (new_lst r2 hq hD) (r2.new hq _) (e2.trans (ext_new r2 hq _))
     ·exact p1.elim
    ·exact p1.elim
   ·exact p1.elim
  ·exact p1.elim
end
end VL
namespace VL
open PySem PySem.Spec PyProof.Rows L2
section
variable {X : Cx} {pins : List (Addr × Obj)} {σ : L2.St} {H : Hp} {s : Shared}
theorem fr_of (I : L2.Inv X pins σ H s) : ∃ m,Fr X.base X.env.locals s.heap m:=by
 obtain ⟨m,n,_⟩:=I.loc
 exact ⟨m,n,fun b o e=>(I.bs b o e).1,Nat.le_trans I.ok.bsz I.ok.above⟩
theorem inst_of (I : L2.Inv X pins σ H s) {a dx C : Addr} {fs : List (Str × V)} (e : H a = some (.ins C dx fs)) : ∃ od,PySem.W.InstAt s.heap a (PySem.W.instObj C dx) C (some od):=by
 obtain ⟨mA,O,_⟩:=ins_get I.hok e
 obtain ⟨od,h1,_⟩:=lookIn_ns O.ns
 exact ⟨od,O.obj,rfl,rfl,h1⟩
end
/-- a method of an own class that raises nothing,run where it is asked for by a builtin -/
theorem run_own {X : Cx} {pins : List (Addr × Obj)} {σ : L2.St} {H : Hp} {s : Shared} {Q : VK} {k n : Nat} {f : Addr} {gU : List U → List U → List U} {mf : List U → M U} {us : List Value} {vs : List V} {m : List Addr} {st : Store} {as : List U} {A' : Around} {E' : Value → Shared → Prop}
  (F : Fd X.prog X.w X.K X.mg X.base f k n [] gU mf) (hr : RoomG k A') (hf : A'.frames = X.A.frames) (I : L2.Inv X pins σ H s)
  (rv : Vals vs us) (r : Rep X.K m st H) (ra : RpUs X.K m H as vs) (la : as.length = n) (h : PU X.K m H Q (fun _ _ _=>False) (mf (gU as []) st)) :
  wpAny (model X.prog X.w) A' (call (.ref f) us) (EP X pins σ Q) E' s:=by
 have e0:=I.env0
 refine wpAny_call (codeAny_mono (F.run A' X.stack s H us [] vs [] m st as [] Q (fun _ _ _=>False) hr ⟨hf.trans e0.frames,e0.mod,e0.bs,e0.bsz,e0.funs,e0.frf,e0.hok,e0.bare⟩ rv .nil r ra rfl la rfl h) fun r' s' hq=>?_)
 cases r' with
 | error e =>
  obtain ⟨_,_,_,_,_,_,_,_,_,_,_,_,hW⟩:=hq
  exact hW.elim
 | ok fl =>
  cases fl with
  | next=>exact False.elim hq
  | brk=>exact False.elim hq
  | cont=>exact False.elim hq
  | ret u=>exact L2.Inv.after I hq
noncomputable def oLenO (C : Addr) (mf : List U → M U) : P3:=fun us st=>match us with
 | [u]=>match insU st u with
  | some (C',_)=>if C' = C then match mf [u] st with
   | .ok (.d (.int n)) st'=>if 0 ≤ n ∧ n < 2 ^ 63 then some (.d (.int n),st') else none
   | _=>none
   else none
  | none=>none
 | _=>none
section
variable {X : Cx} {C f : Addr} {k : Nat} {gU : List U → List U → List U} {mf : List U → M U}
theorem cr_lenO (hM : Meth X.K C "__len__" f) (F : Fd X.prog X.w X.K X.mg X.base f k 1 [] gPos mf) (hr : RoomG (k + 1) X.A) : CallR X (.builtin "len") (rM X.K (oLenO C mf)):=by
 intro pins s σ H xs us Q I rv h
 obtain ⟨m,st,as,r,ra,p⟩:=h
 unfold oLenO at p
 split at p
 ·rename_i u
  split at p
  ·rename_i C' ws hi
   split at p
   ·rename_i hc
    subst hc
    split at p
    ·rename_i n st' hm
     split at p
     ·rename_i hn
      obtain ⟨x,rfl,rx⟩:=ra.one
      obtain ⟨a,dx,vs,rfl,ha,_⟩:=insU_rp r rx hi
      obtain ⟨w,rfl,rw'⟩:=L2.vals1 rv
      cases rw'
      obtain ⟨mA,Fm⟩:=fr_of I
      obtain ⟨od,Ia⟩:=inst_of I ha
      have hr1 : RoomG k X.A.in1:=⟨⟨hr.rm.hd,by have:=hr.rm.dp; show X.A.depth + 3 * k + 5 < _; omega,by have:=hr.rm.un; show X.A.units + 1 + 16 * k + 200 < _; omega⟩,hr.gd⟩
      refine PySem.W.len_K Fm I.ok.mod.kin Ia hM.at_ hM.fn ?_
      refine wpAny_mono (run_own (Q:=fun v H'=>v = .int n ∧ Q (.int n) H') F hr1 rfl I (vs:=[.ref a]) (us:=[.ref a]) (.cons rfl .nil) r ra rfl ?_) (fun v s' hv=>?_) fun _ _ e=>e
      ·show PU X.K m H _ _ (mf [u] st)
       rw [hm]
       intro v m' H' h1 h2 h3
       cases (show v = .int n from h1)
       exact ⟨rfl,p (.int n) m' H' rfl h2 h3⟩
      ·obtain ⟨y,H',I',ry,ey,q⟩:=hv
       subst ey
       obtain ⟨t,rfl⟩:=(show ∃ t,v = Value.int n t from ry)
       exact ⟨hn,.int n,H',I'.tok _,⟨_,rfl⟩,q⟩
     ·exact p.elim
    ·exact p.elim
   ·exact p.elim
  ·exact p.elim
 ·exact p.elim
end
section
variable {X : Cx} {C f : Addr} {k : Nat} {gU : List U → List U → List U} {mf : List U → M U}
end
section
variable {X : Cx} {W : WX} {a b : Expr} {fa fb : F U} {pos : Pos} {g : P2S}
theorem d_cmpS {op : CmpOp} (ho : OpR X (compareOp op) (rGS X.K g)) (hn : ∀ a b st c fs st',g a b st ≠ .ex c fs st') (ha : DE X W a fa) (hb : DE X W b fb) (hm : behindInMarks op b = false:=by first | exact nomark _ | rfl) : DE X W (.Compare a [op] [b] pos) (f2s g fa fb) :=
 ⟨PE.imp (pe_cmpR ho ha.pe hb.pe hm) fun σ H Q ⟨m,env,st,r,re,p⟩=>tF_step r re p fun a st1 v m1 H1 h1 r1 re1 e1 p1=>tF_step r1 re1 p1 fun b st2 w m2 H2 h2 r2 re2 e2 p2 =>
  ⟨m2,st2,a,b,r2,h1.ext e2,h2,p2.noex fun c fs st'=>hn a b st2 c fs st'⟩⟩
theorem dt_cmpS {op : CmpOp} (ho : OpR X (compareOp op) (rGS X.K g)) (hn : ∀ a b st c fs st',g a b st ≠ .ex c fs st') (ha : DE X W a fa) (hb : DE X W b fb) (hm : behindInMarks op b = false:=by first | exact nomark _ | rfl) : DT X W (.Compare a [op] [b] pos) (asB (f2s g fa fb)) :=
 ⟨PT.imp (pt_cmpR ho ha.pe hb.pe hm) fun σ H Q h=>by
  have h2:=t_asB h
  obtain ⟨m,env,st,r,re,p⟩:=h2
  exact tF_step r re p fun a st1 v m1 H1 h1 r1 re1 e1 p1=>tF_step r1 re1 p1 fun b st2 w m2 H2 h2 r2 re2 e2 p2=>⟨m2,st2,a,b,r2,h1.ext e2,h2,p2.noex fun c fs st'=>hn a b st2 c fs st'⟩⟩
end
section
variable {X : Cx}
end
end VL
namespace VL
open PySem PySem.Spec PyProof.Rows L2
theorem run_ownC {X : Cx} {pins : List (Addr × Obj)} {σ : L2.St} {H : Hp} {s : Shared} {Q : VK} {k n : Nat} {f : Addr} {gU : List U → List U → List U} {mf : List U → M U} {us : List Value} {vs : List V} {m : List Addr} {st : Store} {as : List U} {A' : Around}
  (F : Fd X.prog X.w X.K X.mg X.base f k n [] gU mf) (hr : RoomG k A') (hf : A'.frames = X.A.frames) (I : L2.Inv X pins σ H s)
  (rv : Vals vs us) (r : Rep X.K m st H) (ra : RpUs X.K m H as vs) (la : as.length = n) (h : PU X.K m H Q (fun _ _ _=>False) (mf (gU as []) st)) :
  codeAny (model X.prog X.w) A' (.call (.ref f) ⟨us,[]⟩) (fun r s'=>match r with | .ok (.ret u)=>EP X pins σ Q u s' | _=>False) s:=by
 have e0:=I.env0
 refine codeAny_mono (F.run A' X.stack s H us [] vs [] m st as [] Q (fun _ _ _=>False) hr ⟨hf.trans e0.frames,e0.mod,e0.bs,e0.bsz,e0.funs,e0.frf,e0.hok,e0.bare⟩ rv .nil r ra rfl la rfl h) fun r' s' hq=>?_
 cases r' with
 | error e =>
  obtain ⟨_,_,_,_,_,_,_,_,_,_,_,_,hW⟩:=hq
  exact hW.elim
 | ok fl =>
  cases fl with
  | next=>exact False.elim hq
  | brk=>exact False.elim hq
  | cont=>exact False.elim hq
  | ret u=>exact L2.Inv.after I hq
noncomputable def oStrO (C : Addr) (mf : List U → M U) : P3:=fun us st=>match us with
 | [u]=>match insU st u with
  | some (C',_)=>if C' = C then match mf [u] st with
   | .ok (.d (.str x)) st'=>some (.d (.str x),st')
   | _=>none
   else none
  | none=>none
 | _=>none
theorem cr_strO {X : Cx} {C f : Addr} {k : Nat} {mf : List U → M U} (hM : Meth X.K C "__str__" f) (F : Fd X.prog X.w X.K X.mg X.base f k 1 [] gPos mf) (hr : RoomG (k + 1) X.A) : CallR X (.type "str") (rM X.K (oStrO C mf)):=by
 intro pins s σ H xs us Q I rv h
 obtain ⟨m,st,as,r,ra,p⟩:=h
 unfold oStrO at p
 split at p
 ·rename_i u
  split at p
  ·rename_i C' ws hi
   split at p
   ·rename_i hc
    subst hc
    split at p
    ·rename_i n st' hm
     obtain ⟨x,rfl,rx⟩:=ra.one
     obtain ⟨a,dx,vs,rfl,ha,_⟩:=insU_rp r rx hi
     obtain ⟨w,rfl,rw'⟩:=L2.vals1 rv
     cases rw'
     obtain ⟨od,Ia⟩:=inst_of I ha
     have hu:=hr.rm.un
     have hr1 : RoomG k X.A.in1.in1:=⟨⟨hr.rm.hd,by have:=hr.rm.dp; show X.A.depth + 3 * k + 5 < _; omega,by show X.A.units + 1 + 1 + 16 * k + 200 < _; omega⟩,hr.gd⟩
     refine PySem.W.kso_call (by show X.A.units + 1 + 1 < _; omega) I.kIn Ia hM.at_ hM.fn ?_
     refine wpAny_mono (run_own (Q:=fun v H'=>v = .str n ∧ Q (.str n) H') F hr1 rfl I (vs:=[.ref a]) (us:=[.ref a]) (.cons rfl .nil) r ra rfl ?_) (fun v s' hv=>?_) fun _ _ e=>e
     ·show PU X.K m H _ _ (mf [u] st)
      rw [hm]
      intro v m' H' h1 h2 h3
      cases (show v = .str n from h1)
      exact ⟨rfl,p (.str n) m' H' rfl h2 h3⟩
     ·obtain ⟨y,H',I',ry,ey,q⟩:=hv
      subst ey
      obtain ⟨t,rfl⟩:=(show ∃ t,v = Value.str n t from ry)
      exact ⟨.str n,H',I',⟨t,rfl⟩,q⟩
    ·exact p.elim
   ·exact p.elim
  ·exact p.elim
 ·exact p.elim
noncomputable def fProp (C : Addr) (mf : List U → M U) (fo : F U) : F U:=bnd fo fun u=>fun _ st=>match insU st u with
 | some (C',_)=>if C' = C then match mf [u] st with
  | .ok v st'=>.ok v st'
  | _=>.bad
  else .bad
 | none=>.bad
section
variable {X : Cx} {W : WX} {e : Expr} {fo : F U} {C p g : Addr} {f : Str} {k : Nat} {mf : List U → M U} {pos : Pos}
theorem d_prop (ho : DE X W e fo) (c : Cls X.K C) (hp : PropOf X.K C f p g) (F : Fd X.prog X.w X.K X.mg X.base g k 1 [] gPos mf) (hr : RoomG (k + 1) X.A) (hab : attributeBase e f X.env (eval e X.env) = eval e X.env:=by rfl) : DE X W (.Attribute e f pos) (fProp C mf fo):=by
 refine ⟨⟨fun pins s σ H Q I q=>?_⟩⟩
 obtain ⟨m,env,st,r,re,pq⟩:=q
 refine attr_of hab (thn (ho.pe.run pins s σ H (fun x H1=>∃ a dx fs,x = .ref a ∧ H1 a = some (.ins C dx fs) ∧ ∃ m1 st1 u,Rep X.K m1 st1 H1 ∧ RpU X.K m1 H1 u x ∧ PU X.K m1 H1 Q (fun _ _ _=>False) (mf [u] st1)) I (tF_step r re pq fun u st1 v m1 H1 h1 r1 re1 e1 p1=>?_)) fun u s1 hh=>?_)
 ·split at p1
  ·rename_i C' ws hi
   split at p1
   ·rename_i hc
    subst hc
    obtain ⟨a,dx,vs,rfl,ha,_⟩:=insU_rp r1 h1 hi
    refine ⟨a,dx,vs,rfl,ha,m1,st1,u,r1,h1,?_⟩
    cases hm : mf [u] st1 with
    | bad=>rw [hm] at p1; exact p1.elim
    | ex cc fs st2=>rw [hm] at p1; exact p1.elim
    | ok v st2=>rw [hm] at p1; exact p1
   ·exact p1.elim
  ·exact p1.elim
 ·obtain ⟨x,H1,I1,rx,a,dx,fs,rfl,ha,m1,st1,uu,r1,h1,pu⟩:=hh
  cases rx
  obtain ⟨mA,O,_⟩:=ins_get I1.hok ha
  obtain ⟨od,J,_⟩:=O.look
  obtain ⟨rest,hrec⟩:=hp.rec_
  have I2:=I1.tok (s1.toks + 1)
  have hc : (PySem.W.clsIn X.K C).isSome = true:=by
   obtain ⟨cd,hcd,_⟩:=PySem.W.any_some c.hd
   rw [hcd]; rfl
  have pg:=PySem.W.plainGet_of (c.get f)
  have hr1 : RoomG k X.A.in1:=⟨⟨hr.rm.hd,by have:=hr.rm.dp; show X.A.depth + 3 * k + 5 < _; omega,by have:=hr.rm.un; show X.A.units + 1 + 16 * k + 200 < _; omega⟩,hr.gd⟩
  have run:=run_ownC F hr1 rfl I2 (vs:=[.ref a]) (us:=[.ref a]) (as:=[uu]) (.cons rfl .nil) r1 ⟨_,_,rfl,h1,rfl⟩ rfl pu
  refine PySem.W.get_bind I1.kIn J pg.1 (PySem.W.findObj_data hc hp.at_ hp.get hp.tak) pg.2 ?_
  refine wpAny_call (PySem.W.prop_get (s:={ s1 with toks:=s1.toks + 1 }) I1.kIn hrec (codeAny_mono run fun r' s2 hq=>?_))
  cases r' with
  | error er=>exact False.elim hq
  | ok fl =>
   cases fl with
   | ret w =>
    obtain ⟨v,H2,I3,rv,q3⟩:=hq
    show wpAny _ _ (handedOut w) _ _ _
    rw [PySem.W.handedOut_of (handed_of rv)]
    exact wpAny_pure ⟨v,H2,I3,rv,q3⟩
   | next=>exact False.elim hq
   | brk=>exact False.elim hq
   | cont=>exact False.elim hq
end
section
variable {X : Cx} {pins : List (Addr × Obj)} {σ : L2.St} {H : Hp} {s : Shared} {a dx C f : Addr} {fs : List (Str × V)} {A' : Around} {E' : Value → Shared → Prop}
end
section
variable {X : Cx} {W : WX} {C f : Addr} {k : Nat} {mf : List U → M U}
end
end VL
namespace VL
open PySem PySem.Spec PyProof.Rows L2
section
variable {X : Cx} {W : WX} {elt tg iter : Expr} {ifs : List Expr} {scope : Scope} {own : List (Str × Nat)} {pos : Pos} {is : List Nat} {g : U → G} {gt : F Bool} {fe : F U} {fi : F Itb}
end
noncomputable def oStrS : List U → Store → Option U:=fun us _=>match us with
 | [.d (.str x)]=>some (.d (.str x))
 | _=>none
theorem cr_strS {X : Cx} : CallR X (.type "str") (rM X.K (pu oStrS)):=by
 refine CallR.imp SkE.call_str_str fun vs H Q ⟨m,st,us,r,ru,p⟩=>?_
 obtain ⟨u,e,p⟩:=p.pu
 unfold oStrS at e
 split at e
 ·obtain ⟨v,rfl,hv⟩:=ru.one
  cases hv
  cases e
  exact ⟨_,rfl,p.here r rfl⟩
 ·cases e
theorem _root_.L2.Room.u1 {k : Nat} {A : Around} (h : L2.Room k A) : A.units + 1 < cLine:=by have:=h.un; omega
theorem _root_.L2.Room.u64 {k : Nat} {A : Around} (h : L2.Room k A) : A.units + 64 < cLine:=by have:=h.un; omega
theorem _root_.L2.Room.u65 {k : Nat} {A : Around} (h : L2.Room k A) : A.units + 65 < cLine:=by have:=h.un; omega
end VL
namespace VL
open PySem PySem.Spec PyProof.Rows L2
section
variable {X : Cx} {C f : Addr} {k : Nat} {mf : List U → M U}
end
noncomputable def okTy (C : Addr) (ns : List String) (st : Store) (b : U) : Bool:=(match insU st b with
 | some (C2,_)=>decide (C2 = C)
 | none=>false) || (match tyN [] st b with
 | some (.type n)=>ns.contains n
 | _=>false)
noncomputable def eqOA (C : Addr) (ns : List String) (mf : List U → M U) : P2S:=fun a b st=>match insU st a with
 | some (C',_)=>if C' = C ∧ okTy C ns st b = true then match mf [a,b] st with
  | .ok (.d (.bl k)) st'=>.ok (.d (.bl k)) st'
  | _=>.bad
  else .bad
 | none=>.bad
theorem eqOA_no (C : Addr) (ns : List String) (mf : List U → M U) : ∀ a b st c fs st',eqOA C ns mf a b st ≠ .ex c fs st':=fun a b st c fs st'=>by
 unfold eqOA
 split
 ·split
  ·split <;> intro z <;> cases z
  ·intro z; cases z
 ·intro z; cases z
section
variable {X : Cx} {C f : Addr} {k : Nat} {mf : List U → M U} {ns : List String}
theorem okTy_looks {pins : List (Addr × Obj)} {σ : L2.St} {H : Hp} {s : Shared} {m : List Addr} {st : Store} {b : U} {y : V} {u : Value} (hT : ∀ n ∈ ns,PySem.W.subIn X.K (.type n) (.ref C) = some false) (I : L2.Inv X pins σ H s) (r : Rep X.K m st H) (hb : RpU X.K m H b y) (ry : RelV y u) (h : okTy C ns st b = true) :
  ∃ tb,PySem.W.Looks (model X.prog X.w) s.heap (typeOf u) tb ∧ PySem.W.notFirst X.K C tb = true:=by
 unfold okTy at h
 rcases Bool.or_eq_true_iff.mp h with h | h
 ·split at h
  ·rename_i C2 ws hi
   obtain ⟨q2,dx2,vs2,rfl,hq2,_⟩:=insU_rp r hb hi
   cases ry
   obtain ⟨od2,Ib⟩:=inst_of I hq2
   have : C2 = C:=of_decide_eq_true h
   subst this
   exact ⟨.ref C2,Ib.type,by simp [PySem.W.notFirst]⟩
  ·cases h
 ·split at h
  ·rename_i n ht
   obtain ⟨P,kx,hP,_⟩:=L2.kit_of I ry (tyN_rp (cs:=[]) r (fun _ h=>nomatch h) hb ht)
   refine ⟨.type n,kx.ty _ _ I.kIn hP,?_⟩
   have:=hT n (List.contains_iff_mem.mp h)
   simp [PySem.W.notFirst,this]
  ·cases h
theorem op_eqOA (hT : ∀ n ∈ ns,PySem.W.subIn X.K (.type n) (.ref C) = some false) (hM : Meth X.K C "__eq__" f) (F : Fd X.prog X.w X.K X.mg X.base f k 2 [] gPos mf) (hr : RoomG k X.A) : OpR X (compareOp .Eq) (rGS X.K (eqOA C ns mf)):=by
 intro pins s σ H x y v u Q I rx ry h
 obtain ⟨m,st,a,b,r,ha,hb,p⟩:=h
 unfold eqOA at p
 split at p
 ·rename_i C' ws hi
  split at p
  ·rename_i hc
   obtain ⟨c1,c2⟩:=hc
   subst c1
   split at p
   ·rename_i kk st' hm
    obtain ⟨tb,lk,nf⟩:=okTy_looks hT I r hb ry c2
    obtain ⟨q,dx,vs,rfl,hq,_⟩:=insU_rp r ha hi
    cases rx
    obtain ⟨mA,Fm⟩:=fr_of I
    obtain ⟨od,Ia⟩:=inst_of I hq
    show wpAny _ _ (richCompare .Eq (.ref q) u) _ _ _
    refine PySem.W.cmp_K (op:=.Eq) (tb:=tb) (by have:=hr.rm.un; omega) Fm I.ok.mod.kin Ia lk nf hM.at_ hM.fn ?_
    refine wpAny_mono (run_own (Q:=fun v H'=>v = .bl kk ∧ Q (.bl kk) H') F hr rfl I (vs:=[.ref q,y]) (us:=[.ref q,u]) (as:=[a,b]) (.cons rfl (.cons ry .nil)) r ⟨_,_,rfl,ha,_,_,rfl,hb,rfl⟩ rfl ?_) (fun w s' hv=>?_) fun _ _ e=>e
    ·show PU X.K m H _ _ (mf [a,b] st)
     rw [hm]
     intro v' m' H' h1 h2 h3
     cases (show v' = .bl kk from h1)
     exact ⟨rfl,p _ m' H' rfl h2 h3⟩
    ·obtain ⟨w',H',I',rw',ey,qq⟩:=hv
     subst ey
     cases (show w = Value.bool kk from rw')
     exact ⟨.bl kk,H',I',rfl,qq⟩
   ·exact p.elim
  ·exact p.elim
 ·exact p.elim
end
section
variable {prog : Program} {w : World} {A : Around} {E : Value → Shared → Prop} {s : Shared} {K : PySem.W.Frag} {x C f : Addr} {ox : Obj} {od : Option Obj} {b tb : Value}
theorem ne_body {Q : Fin → Shared → Prop} (hu : A.units < cLine) (ki : K.In s.heap) (io : PySem.W.InstAt s.heap x ox C od) (fe : PySem.W.findIn K (.ref C) "__eq__" = some (some (.ref f))) (ff : PySem.W.isFn K (.ref f) = true)
  (h : wpAny (model prog w) A (call (.ref f) [.ref x,b]) (fun v s'=>∃ k,v = .bool k ∧ Q (.done (.ret (.bool (!k)))) s') E s) :
  wpAny (model prog w) A (Builtin.«object.__ne__» ⟨[.ref x,b],[]⟩) Q E s:=by
 unfold Builtin.«object.__ne__»
 repeat (first
  | with_reducible refine wpAny_cRoomFor hu ?_
  | (refine wpAny_bind (m:=callSpecialIfBound? (.ref x) (Str.ofString "__eq__") [b]) (PySem.W.ifBound_K ki io fe ff (wpAny_mono h (fun v s' z=>by
    obtain ⟨k,rfl,z⟩:=z
    repeat (first | exact z | exact wpAny_pure z | exact wpAny_truthy_bool z | (refine wpAny_bind (m:=truthy (.bool _)) (wpAny_truthy_bool ?_)) | wp_step)) fun _ _ z=>z)))
  | wp_step)
theorem ne_call {Q : Value → Shared → Prop} (hu : A.units + 1 < cLine) (ki : K.In s.heap) (io : PySem.W.InstAt s.heap x ox C od) (fe : PySem.W.findIn K (.ref C) "__eq__" = some (some (.ref f))) (ff : PySem.W.isFn K (.ref f) = true) (mo : PySem.W.mroIn K C (.type "object") = some true)
  (h : wpAny (model prog w) A.in1 (call (.ref f) [.ref x,b]) (fun v s'=>∃ k,v = .bool k ∧ Q (.bool (!k)) s') E s) :
  wpAny (model prog w) A (call (.builtin "object.__ne__") [.ref x,b]) Q E s:=by
 refine wpAny_call (codeAny_call_builtin F.cmp_object.ne.plain F.cmpEntry_ne ?_)
 refine PySem.W.check_slot F.cmpKind_ne F.cmpSplit_ne (io.type.andThen (PySem.W.looks_mroIn ki mo)) (F.cmpArgs_ne _ _) ?_
 refine ne_body (A:=A.in1) hu ki io fe ff (wpAny_mono h (fun v s' z=>?_) fun _ _ z=>z)
 obtain ⟨k,rfl,z⟩:=z
 exact ⟨k,rfl,z⟩
theorem ne_bound {M : Model} {args : List Value} {Q : Option Value → Shared → Prop} (ki : K.In s.heap) (io : PySem.W.InstAt s.heap x ox C od) (nn : PySem.W.findIn K (.ref C) "__ne__" = some (some (.builtin "object.__ne__")))
  (h : wpAny M A (call (.builtin "object.__ne__") (.ref x :: args)) (fun v=>Q (some v)) E s) : wpAny M A (callSpecialIfBound? (.ref x) "__ne__" args) Q E s:=by
 have last : wpAny M A (call (.builtin "object.__ne__") ([.ref x] ++ args) >>= fun v=>pure (some v)) Q E s :=
  wpAny_bind (wpAny_mono h (fun _ _ z=>wpAny_pure z) fun _ _ z=>z)
 have bn:=F.cmp_object.ne.bind (.ref x)
 simp only [callSpecialIfBound?,bindSpecialIfBound?]
 refine wpAny_holding (wpAny_bind (wpAny_bind (wpAny_bind ?_)))
 refine io.type.here ((PySem.W.looks_findIn ki nn).here (wpAny_bind (wpAny_askSetting (wpAny_ite ?_))))
 split
 ·exact wpAny_bind (wpAny_of_eq bn (wpAny_pure (by exact last)))
 ·exact wpAny_tryCatch (wpAny_bind (wpAny_of_eq bn (wpAny_pure (by exact last))))
theorem rich_ne {h₀ : Heap} {L : Addr} {mL : Str → Option Value} {Q : Value → Shared → Prop} (hu : A.units + 1 < cLine) (fr : Fr h₀ L s.heap mL) (k0 : K.In h₀) (io : PySem.W.InstAt s.heap x ox C od) (lk : PySem.W.Looks (model prog w) s.heap (typeOf b) tb) (nf : PySem.W.notFirst K C tb = true)
  (fe : PySem.W.findIn K (.ref C) "__eq__" = some (some (.ref f))) (ff : PySem.W.isFn K (.ref f) = true) (nn : PySem.W.findIn K (.ref C) "__ne__" = some (some (.builtin "object.__ne__"))) (mo : PySem.W.mroIn K C (.type "object") = some true)
  (h : wpAny (model prog w) A.in1 (call (.ref f) [.ref x,b]) (fun v s'=>∃ k,v = .bool k ∧ Q (.bool (!k)) s') E s) : wpAny (model prog w) A (richCompare .NotEq (.ref x) b) Q E s:=by
 have ki:=k0.keeps fr.keep
 have try1 : wpAny (model prog w) A (tryCompare (.ref x) "__ne__" b) (fun r s'=>∃ v,r = some v ∧ Q v s') E s:=by
  unfold tryCompare
  refine wpAny_bind (ne_bound ki io nn (ne_call hu ki io fe ff mo (wpAny_mono h (fun v s' z=>?_) fun _ _ z=>z)))
  obtain ⟨k,rfl,z⟩:=z
  exact ⟨k,rfl,wpAny_pure ⟨_,rfl,z⟩⟩
 unfold richCompare
 simp only [oneThing_ref]
 refine wpAny_holding (wpAny_bind (wpAny_cRoomFor (Nat.lt_of_succ_lt hu) ?_))
 rw [cmpInfo_NotEq]
 dsimp only
 refine wpAny_bind (io.type.here (wpAny_bind (lk.here ?_)))
 have tail : wpAny (model prog w) A (tryCompare (.ref x) "__ne__" b) (fun r s'=>∃ v,r = some v ∧ Q v s') E s:=try1
 by_cases q : (Value.ref C != tb) = true
 ·have sb : PySem.W.subIn K tb (.ref C) = some false:=by
   unfold PySem.W.notFirst at nf
   rcases Bool.or_eq_true_iff.mp nf with z | z
   ·rw [beq_iff_eq.mp z] at q; simp at q
   ·exact beq_iff_eq.mp z
  rw [if_pos q]
  refine wpAny_bind ((PySem.W.looks_subIn ki sb).here ?_)
  simp only [Bool.false_eq_true,if_false]
  refine wpAny_bind (wpAny_mono tail (fun r s' z=>?_) fun _ _ z=>z)
  obtain ⟨v,rfl,z⟩:=z
  exact wpAny_pure z
 ·rw [if_neg q]
  refine wpAny_bind (wpAny_pure ?_)
  simp only [Bool.false_eq_true,if_false]
  refine wpAny_bind (wpAny_mono tail (fun r s' z=>?_) fun _ _ z=>z)
  obtain ⟨v,rfl,z⟩:=z
  exact wpAny_pure z
end
noncomputable def neOA (C : Addr) (ns : List String) (mf : List U → M U) : P2S:=fun a b st=>match insU st a with
 | some (C',_)=>if C' = C ∧ okTy C ns st b = true then match mf [a,b] st with
  | .ok (.d (.bl k)) st'=>.ok (.d (.bl (!k))) st'
  | _=>.bad
  else .bad
 | none=>.bad
theorem neOA_no (C : Addr) (ns : List String) (mf : List U → M U) : ∀ a b st c fs st',neOA C ns mf a b st ≠ .ex c fs st':=fun a b st c fs st'=>by
 unfold neOA
 split
 ·split
  ·split <;> intro z <;> cases z
  ·intro z; cases z
 ·intro z; cases z
section
variable {X : Cx} {C f : Addr} {k : Nat} {mf : List U → M U} {ns : List String}
theorem op_neOA (hT : ∀ n ∈ ns,PySem.W.subIn X.K (.type n) (.ref C) = some false) (hM : Meth X.K C "__eq__" f) (hN : PySem.W.findIn X.K (.ref C) "__ne__" = some (some (.builtin "object.__ne__"))) (hO : PySem.W.mroIn X.K C (.type "object") = some true) (F : Fd X.prog X.w X.K X.mg X.base f k 2 [] gPos mf) (hr : RoomG (k + 1) X.A) : OpR X (compareOp .NotEq) (rGS X.K (neOA C ns mf)):=by
 intro pins s σ H x y v u Q I rx ry h
 obtain ⟨m,st,a,b,r,ha,hb,p⟩:=h
 unfold neOA at p
 split at p
 ·rename_i C' ws hi
  split at p
  ·rename_i hc
   obtain ⟨c1,c2⟩:=hc
   subst c1
   split at p
   ·rename_i kk st' hm
    obtain ⟨tb,lk,nf⟩:=okTy_looks hT I r hb ry c2
    obtain ⟨q,dx,vs,rfl,hq,_⟩:=insU_rp r ha hi
    cases rx
    obtain ⟨mA,Fm⟩:=fr_of I
    obtain ⟨od,Ia⟩:=inst_of I hq
    have hr1 : RoomG k X.A.in1:=⟨⟨hr.rm.hd,by have:=hr.rm.dp; show X.A.depth + 3 * k + 5 < _; omega,by have:=hr.rm.un; show X.A.units + 1 + 16 * k + 200 < _; omega⟩,hr.gd⟩
    show wpAny _ _ (richCompare .NotEq (.ref q) u) _ _ _
    refine rich_ne (tb:=tb) (by have:=hr.rm.un; omega) Fm I.ok.mod.kin Ia lk nf hM.at_ hM.fn hN hO ?_
    refine wpAny_mono (run_own (Q:=fun v H'=>v = .bl kk ∧ Q (.bl (!kk)) H') F hr1 rfl I (vs:=[.ref q,y]) (us:=[.ref q,u]) (as:=[a,b]) (.cons rfl (.cons ry .nil)) r ⟨_,_,rfl,ha,_,_,rfl,hb,rfl⟩ rfl ?_) (fun w s' hv=>?_) fun _ _ e=>e
    ·show PU X.K m H _ _ (mf [a,b] st)
     rw [hm]
     intro v' m' H' h1 h2 h3
     cases (show v' = .bl kk from h1)
     exact ⟨rfl,p _ m' H' rfl h2 h3⟩
    ·obtain ⟨w',H',I',rw',ey,qq⟩:=hv
     subst ey
     cases (show w = Value.bool kk from rw')
     exact ⟨kk,rfl,.bl (!kk),H',I',rfl,qq⟩
   ·exact p.elim
  ·exact p.elim
 ·exact p.elim
end
section
variable {prog : Program} {w : World} {A : Around} {E : Value → Shared → Prop} {s : Shared} {K : PySem.W.Frag} {x C f : Addr} {ox : Obj} {od : Option Obj} {v tv : Value}
theorem rich_back {h₀ : Heap} {L : Addr} {mL : Str → Option Value} {Q : Value → Shared → Prop} (hu : A.units < cLine) (fr : Fr h₀ L s.heap mL) (k0 : K.In h₀) (io : PySem.W.InstAt s.heap x ox C od) (lk : PySem.W.Looks (model prog w) s.heap (typeOf v) tv) (sb : PySem.W.subIn K (.ref C) tv = some false)
  (one : oneThing? .Eq v (.ref x) = none) (dec : wpAny (model prog w) A (tryCompare v "__eq__" (.ref x)) (fun r s'=>r = none ∧ s' = s) E s)
  (fe : PySem.W.findIn K (.ref C) "__eq__" = some (some (.ref f))) (ff : PySem.W.isFn K (.ref f) = true)
  (h : wpAny (model prog w) A (call (.ref f) [.ref x,v]) (PySem.W.CmpBack Q) E s) : wpAny (model prog w) A (richCompare .Eq v (.ref x)) Q E s:=by
 have ki:=k0.keeps fr.keep
 have back : wpAny (model prog w) A (tryCompare (.ref x) "__eq__" v) (fun r s'=>∃ v,r = some v ∧ Q v s') E s:=by
  unfold tryCompare
  refine wpAny_bind (PySem.W.ifBound_K ki io fe ff (wpAny_mono h (fun v s' z=>?_) fun _ _ z=>z))
  cases v <;> first | exact z.elim | exact wpAny_pure ⟨_,rfl,z⟩
 unfold richCompare
 simp only [one]
 refine wpAny_holding (wpAny_bind (wpAny_cRoomFor hu ?_))
 rw [cmpInfo_Eq]
 dsimp only
 refine wpAny_bind (lk.here (wpAny_bind (io.type.here ?_)))
 have both : wpAny (model prog w) A (tryCompare v "__eq__" (.ref x)) (fun r s'=>r = none ∧ s' = s) E s:=dec
 split
 ·refine wpAny_bind ((PySem.W.looks_subIn ki sb).here ?_)
  simp only [Bool.false_eq_true,if_false,Bool.not_false,if_true]
  refine wpAny_bind (wpAny_mono both (fun r s1 z=>?_) fun _ _ z=>z)
  obtain ⟨z1,z2⟩:=z
  subst z1
  subst z2
  refine wpAny_bind (wpAny_mono back (fun r s1 z=>?_) fun _ _ z=>z)
  obtain ⟨v,rfl,z⟩:=z
  exact wpAny_pure z
 ·refine wpAny_bind (wpAny_pure ?_)
  simp only [Bool.false_eq_true,if_false,Bool.not_false,if_true]
  refine wpAny_bind (wpAny_mono both (fun r s1 z=>?_) fun _ _ z=>z)
  obtain ⟨z1,z2⟩:=z
  subst z1
  subst z2
  refine wpAny_bind (wpAny_mono back (fun r s1 z=>?_) fun _ _ z=>z)
  obtain ⟨v,rfl,z⟩:=z
  exact wpAny_pure z
end
section
variable {prog : Program} {w : World} {A : Around} {E : Value → Shared → Prop} {s : Shared} {x C dx : Addr}
theorem str_declines {z : Str} {t : Tok} (h : s.heap.get? x = some (PySem.W.instObj C dx)) : wpAny (model prog w) A (tryCompare (.str z t) "__eq__" (.ref x)) (fun r s'=>r = none ∧ s' = s) E s:=by
 refine wpAny_tryCompare_declines (T:="str") rfl F.slot_str_eq (GQ.call_here F.slot_str_eq rfl F.entry_str_eq (F.args_str_eq_2 _ _) ?_)
 obtain ⟨hp,g,d,tk,os⟩:=s
 wp_walk using wpAny_loadPart' h
 all_goals exact ⟨rfl,rfl,rfl⟩
theorem int_declines {z : Int} {t : Tok} (h : s.heap.get? x = some (PySem.W.instObj C dx)) : wpAny (model prog w) A (tryCompare (.int z t) "__eq__" (.ref x)) (fun r s'=>r = none ∧ s' = s) E s:=by
 refine wpAny_tryCompare_declines (T:="int") rfl F.slot_int_eq (GQ.call_here F.slot_int_eq rfl F.entry_int_eq (F.args_int_eq_2 _ _) ?_)
 obtain ⟨hp,g,d,tk,os⟩:=s
 wp_walk using wpAny_loadPart' h
 all_goals exact ⟨rfl,rfl,rfl⟩
theorem bool_declines {z : Bool} (h : s.heap.get? x = some (PySem.W.instObj C dx)) : wpAny (model prog w) A (tryCompare (.bool z) "__eq__" (.ref x)) (fun r s'=>r = none ∧ s' = s) E s:=by
 refine wpAny_tryCompare_declines (T:="bool") rfl F.slot_bool_eq (GQ.call_here F.slot_bool_eq rfl F.entry_int_eq (F.args_int_eq_2 _ _) ?_)
 obtain ⟨hp,g,d,tk,os⟩:=s
 wp_walk using wpAny_loadPart' h
 all_goals exact ⟨rfl,rfl,rfl⟩
theorem none_declines (h : s.heap.get? x = some (PySem.W.instObj C dx)) : wpAny (model prog w) A (tryCompare .none "__eq__" (.ref x)) (fun r s'=>r = none ∧ s' = s) E s:=by
 refine wpAny_tryCompare_declines (T:="NoneType") rfl F.slot_NoneType_eq (GQ.call_here F.slot_NoneType_eq rfl F.entry_NoneType_eq (F.args_NoneType_eq_2 _ _) ?_)
 obtain ⟨hp,g,d,tk,os⟩:=s
 wp_walk using wpAny_loadPart' h
 all_goals exact ⟨rfl,rfl,rfl⟩
end
noncomputable def sclU : U → Bool
 | .d .non=>true
 | .d (.bl _)=>true
 | .d (.int _)=>true
 | .d (.str _)=>true
 | _=>false
/-- a text,number,truth value or None at the left,an own object at the right -/
noncomputable def eqOR (C : Addr) (mf : List U → M U) : P2S:=fun a b st=>match insU st b with
 | some (C',_)=>if C' = C ∧ sclU a = true then match mf [b,a] st with
  | .ok (.d (.bl k)) st'=>.ok (.d (.bl k)) st'
  | _=>.bad
  else .bad
 | none=>.bad
section
variable {X : Cx} {C f : Addr} {k : Nat} {mf : List U → M U}
theorem op_eqOR (hT : ∀ n ∈ ["NoneType","bool","int","str"],PySem.W.subIn X.K (.ref C) (.type n) = some false) (hM : Meth X.K C "__eq__" f) (F : Fd X.prog X.w X.K X.mg X.base f k 2 [] gPos mf) (hr : RoomG k X.A) : OpR X (compareOp .Eq) (rGS X.K (eqOR C mf)):=by
 intro pins s σ H x y v u Q I rx ry h
 obtain ⟨m,st,a,b,r,ha,hb,p⟩:=h
 unfold eqOR at p
 split at p
 ·rename_i C' ws hi
  split at p
  ·rename_i hc
   obtain ⟨c1,c2⟩:=hc
   subst c1
   split at p
   ·rename_i kk st' hm
    obtain ⟨q,dx,vs,rfl,hq,_⟩:=insU_rp r hb hi
    cases ry
    obtain ⟨mA,Fm⟩:=fr_of I
    obtain ⟨od,Ia⟩:=inst_of I hq
    have low : ∀ T : String,PySem.W.subIn X.K (.ref C') (.type T) = some false → PySem.W.Looks (model X.prog X.w) s.heap (typeOf v) (.type T) → oneThing? .Eq v (.ref q) = none → (∀ E : Value → Shared → Prop,wpAny (model X.prog X.w) X.A (tryCompare v "__eq__" (.ref q)) (fun r s'=>r = none ∧ s' = s) E s) → wpAny (model X.prog X.w) X.A (compareOp .Eq v (.ref q)) (EP X pins σ Q) X.xe s:=fun T h1 h2 h3 h4=>by
     show wpAny _ _ (richCompare .Eq v (.ref q)) _ _ _
     refine rich_back (by have:=hr.rm.un; omega) Fm I.ok.mod.kin Ia h2 h1 h3 (h4 _) hM.at_ hM.fn ?_
     refine wpAny_mono (run_own (Q:=fun v H'=>v = .bl kk ∧ Q (.bl kk) H') F hr rfl I (vs:=[.ref q,x]) (us:=[.ref q,v]) (as:=[b,a]) (.cons rfl (.cons rx .nil)) r ⟨_,_,rfl,hb,_,_,rfl,ha,rfl⟩ rfl ?_) (fun w s' hv=>?_) fun _ _ e=>e
     ·show PU X.K m H _ _ (mf [b,a] st)
      rw [hm]
      intro v' m' H' h1 h2 h3
      cases (show v' = .bl kk from h1)
      exact ⟨rfl,p _ m' H' rfl h2 h3⟩
     ·obtain ⟨w',H',I',rw',ey,qq⟩:=hv
      subst ey
      cases (show w = Value.bool kk from rw')
      exact ⟨.bl kk,H',I',rfl,qq⟩
    unfold sclU at c2
    split at c2
    ·cases (show x = .non from ha)
     cases (show v = Value.none from rx)
     exact low "NoneType" (hT _ (by simp)) (PySem.W.Looks.of_pure rfl) rfl fun E=>none_declines Ia.at_
    ·rename_i kb
     cases (show x = .bl kb from ha)
     cases (show v = Value.bool kb from rx)
     exact low "bool" (hT _ (by simp)) (PySem.W.Looks.of_pure rfl) rfl fun E=>bool_declines Ia.at_
    ·rename_i i
     cases (show x = .int i from ha)
     obtain ⟨t,e⟩:=(show ∃ t,v = Value.int i t from rx)
     cases e
     exact low "int" (hT _ (by simp)) (PySem.W.Looks.of_pure rfl) rfl fun E=>int_declines Ia.at_
    ·rename_i z
     cases (show x = .str z from ha)
     obtain ⟨t,e⟩:=(show ∃ t,v = Value.str z t from rx)
     cases e
     exact low "str" (hT _ (by simp)) (PySem.W.Looks.of_pure rfl) rfl fun E=>str_declines Ia.at_
    ·cases c2
   ·exact p.elim
  ·exact p.elim
 ·exact p.elim
end
end VL
namespace VL
open PySem PySem.Spec PyProof.Rows L2
section
variable {prog : Program} {w : World} {A : Around} {E : Value → Shared → Prop} {s : Shared} {K : PySem.W.Frag} {x l C : Addr} {ox : Obj} {od : Option Obj}
theorem list_declines (hl : s.TypeIs (.ref l) "list") (ki : K.In s.heap) (io : PySem.W.InstAt s.heap x ox C od) (sb : PySem.W.subIn K (.ref C) (.type "list") = some false) : wpAny (model prog w) A (tryCompare (.ref l) "__eq__" (.ref x)) (fun r s'=>r = none ∧ s' = s) E s:=by
 refine wpAny_tryCompare_declines (T:="list") hl F.slot_list_eq (GQ.call_here F.slot_list_eq hl F.entry_list_eq (F.args_list_eq_2 _ _) ?_)
 have lk : PySem.W.Looks (model prog w) s.heap (isInstance (.ref x) (.type "list")) false:=io.type.andThen (PySem.W.looks_subIn ki sb)
 obtain ⟨hp,g,d,tk,os⟩:=s
 unfold Builtin.«list.__eq__»
 repeat (first | with_reducible refine lk.at ?_ | (refine wpAny_bind (lk.here ?_)) | wp_step)
 all_goals exact ⟨rfl,rfl,rfl⟩
theorem tuple_declines (hl : s.TypeIs (.ref l) "tuple") (ki : K.In s.heap) (io : PySem.W.InstAt s.heap x ox C od) (sb : PySem.W.subIn K (.ref C) (.type "tuple") = some false) : wpAny (model prog w) A (tryCompare (.ref l) "__eq__" (.ref x)) (fun r s'=>r = none ∧ s' = s) E s:=by
 refine wpAny_tryCompare_declines (T:="tuple") hl F.slot_tuple_eq (GQ.call_here F.slot_tuple_eq hl F.entry_tuple_eq (F.args_tuple_eq_2 _ _) ?_)
 have lk : PySem.W.Looks (model prog w) s.heap (isInstance (.ref x) (.type "tuple")) false:=io.type.andThen (PySem.W.looks_subIn ki sb)
 obtain ⟨hp,g,d,tk,os⟩:=s
 unfold Builtin.«tuple.__eq__»
 repeat (first | with_reducible refine lk.at ?_ | (refine wpAny_bind (lk.here ?_)) | wp_step)
 all_goals exact ⟨rfl,rfl,rfl⟩
end
noncomputable def seqU (st : Store) : U → Option String
 | .d (.lst _)=>some "list"
 | .d (.tup _)=>some "tuple"
 | .ref n=>match st[n]? with
  | some (.lst _)=>some "list"
  | _=>none
 | _=>none
theorem seqU_ty {X : Cx} {pins : List (Addr × Obj)} {σ : L2.St} {H : Hp} {s : Shared} {m : List Addr} {st : Store} {a : U} {x : V} {v : Value} {T : String} (I : L2.Inv X pins σ H s) (r : Rep X.K m st H) (ha : RpU X.K m H a x) (rx : RelV x v) (h : seqU st a = some T) :
  ∃ l,v = .ref l ∧ s.TypeIs (.ref l) T ∧ (T = "list" ∨ T = "tuple"):=by
 have lists : ∀ (l : Addr) (vs : List V),H l = some (.lst vs) → s.TypeIs (.ref l) "list":=fun l vs e=>by
  obtain ⟨_,_,n,_,h1⟩:=(show ObjOk X.prog X.w H s.heap l (.lst vs) from I.hok l _ e)
  exact ⟨_,h1,rfl⟩
 cases a with
 | ref n =>
  simp only [seqU] at h
  split at h
  ·rename_i us hs
   cases h
   obtain ⟨l,hl,rfl⟩:=ha
   obtain ⟨ho,h1,vs,rfl,_⟩:=r.cell n _ l hs hl
   cases rx
   exact ⟨l,rfl,lists l vs h1,.inl rfl⟩
  ·cases h
 | d x' =>
  cases x' with
  | lst ds =>
   cases h
   obtain ⟨l,vs,rfl,t,_⟩:=ha
   cases rx
   exact ⟨l,rfl,lists l vs t.2,.inl rfl⟩
  | tup ds =>
   cases h
   obtain ⟨l,vs,rfl,t,_⟩:=ha
   cases rx
   refine ⟨l,rfl,?_,.inr rfl⟩
   rcases t.sq with (e | ⟨o,e⟩) | ⟨o,its,n,hk,h1,_⟩
   ·obtain ⟨_,_,_,ob,g1,g2,_⟩:=(show ObjOk X.prog X.w H s.heap l (.tup vs) from I.hok l _ e)
    exact ⟨ob,g1,g2⟩
   ·obtain ⟨_,hx⟩:=(show ObjOk X.prog X.w H s.heap l (.frz o (.tup vs)) from I.hok l _ e)
    obtain ⟨_,_,_,ob,g1,g2,_⟩:=hx
    exact ⟨ob,g1,g2⟩
   ·exact ⟨o,I.kIn _ _ hk,h1⟩
  | _=>cases h
/-- anything but an own object at the left,an own object at the right -/
noncomputable def eqOR2 (C : Addr) (mf : List U → M U) : P2S:=fun a b st=>match insU st b with
 | some (C',_)=>if C' = C ∧ (sclU a || (seqU st a).isSome) = true then match mf [b,a] st with
  | .ok (.d (.bl k)) st'=>.ok (.d (.bl k)) st'
  | _=>.bad
  else .bad
 | none=>.bad
theorem eqOR2_no (C : Addr) (mf : List U → M U) : ∀ a b st c fs st',eqOR2 C mf a b st ≠ .ex c fs st':=fun a b st c fs st'=>by
 unfold eqOR2
 split
 ·split
  ·split <;> intro z <;> cases z
  ·intro z; cases z
 ·intro z; cases z
section
variable {X : Cx} {C f : Addr} {k : Nat} {mf : List U → M U}
theorem op_eqOR2 (hT : ∀ n ∈ ["NoneType","bool","int","str","list","tuple"],PySem.W.subIn X.K (.ref C) (.type n) = some false) (hM : Meth X.K C "__eq__" f) (F : Fd X.prog X.w X.K X.mg X.base f k 2 [] gPos mf) (hr : RoomG k X.A) : OpR X (compareOp .Eq) (rGS X.K (eqOR2 C mf)):=by
 intro pins s σ H x y v u Q I rx ry h
 obtain ⟨m,st,a,b,r,ha,hb,p⟩:=h
 by_cases hs : sclU a = true
 ·refine op_eqOR (fun n hn=>hT n (by simp only [List.mem_cons,List.not_mem_nil,or_false] at hn ⊢; rcases hn with e | e | e | e <;> simp [e])) hM F hr pins s σ H x y v u Q I rx ry ⟨m,st,a,b,r,ha,hb,?_⟩
  unfold eqOR2 at p
  unfold eqOR
  rw [hs,Bool.true_or] at p
  rw [hs]
  exact p
 ·unfold eqOR2 at p
  split at p
  ·rename_i C' ws hi
   split at p
   ·rename_i hc
    obtain ⟨c1,c2⟩:=hc
    subst c1
    split at p
    ·rename_i kk st' hm
     obtain ⟨q,dx,vs,rfl,hq,_⟩:=insU_rp r hb hi
     cases ry
     obtain ⟨mA,Fm⟩:=fr_of I
     obtain ⟨od,Ia⟩:=inst_of I hq
     have low : ∀ T : String,PySem.W.subIn X.K (.ref C') (.type T) = some false → PySem.W.Looks (model X.prog X.w) s.heap (typeOf v) (.type T) → oneThing? .Eq v (.ref q) = none → (∀ E : Value → Shared → Prop,wpAny (model X.prog X.w) X.A (tryCompare v "__eq__" (.ref q)) (fun r s'=>r = none ∧ s' = s) E s) → wpAny (model X.prog X.w) X.A (compareOp .Eq v (.ref q)) (EP X pins σ Q) X.xe s:=fun T h1 h2 h3 h4=>by
      show wpAny _ _ (richCompare .Eq v (.ref q)) _ _ _
      refine rich_back (by have:=hr.rm.un; omega) Fm I.ok.mod.kin Ia h2 h1 h3 (h4 _) hM.at_ hM.fn ?_
      refine wpAny_mono (run_own (Q:=fun v H'=>v = .bl kk ∧ Q (.bl kk) H') F hr rfl I (vs:=[.ref q,x]) (us:=[.ref q,v]) (as:=[b,a]) (.cons rfl (.cons rx .nil)) r ⟨_,_,rfl,hb,_,_,rfl,ha,rfl⟩ rfl ?_) (fun w s' hv=>?_) fun _ _ e=>e
      ·show PU X.K m H _ _ (mf [b,a] st)
       rw [hm]
       intro v' m' H' h1 h2 h3
       cases (show v' = .bl kk from h1)
       exact ⟨rfl,p _ m' H' rfl h2 h3⟩
      ·obtain ⟨w',H',I',rw',ey,qq⟩:=hv
       subst ey
       cases (show w = Value.bool kk from rw')
       exact ⟨.bl kk,H',I',rfl,qq⟩
     cases hq2 : seqU st a with
     | none=>rw [hq2] at c2; simp [hs] at c2
     | some T =>
      obtain ⟨l,rfl,tl,hT2⟩:=seqU_ty I r ha rx hq2
      have lk : PySem.W.Looks (model X.prog X.w) s.heap (typeOf (.ref l)) (.type T):=by
       obtain ⟨o,h1,h2⟩:=tl
       exact fun A Q E s k q=>wpAny_typeOf_ref (k _ _ h1) (by rw [h2]; exact q)
      rcases hT2 with rfl | rfl
      ·exact low "list" (hT _ (by simp)) lk rfl fun E=>list_declines tl I.kIn Ia (hT _ (by simp))
      ·exact low "tuple" (hT _ (by simp)) lk rfl fun E=>tuple_declines tl I.kIn Ia (hT _ (by simp))
    ·exact p.elim
   ·exact p.elim
  ·exact p.elim
/-- == of any two -/
noncomputable def eqM (C : Addr) (ns : List String) (mf : List U → M U) : P2S:=fun a b st=>match insU st a with
 | some _=>eqOA C ns mf a b st
 | none=>match insU st b with
  | some _=>eqOR2 C mf a b st
  | none=>.of st (oEq a b st)
theorem R_of_no {α : Type} {st : Store} {o : Option α} {c : Value} {fs : Option (List (Str × D))} {st' : Store} : R.of st o ≠ .ex c fs st':=by
 cases o <;> intro z <;> cases z
theorem eqM_no (C : Addr) (ns : List String) (mf : List U → M U) : ∀ a b st c fs st',eqM C ns mf a b st ≠ .ex c fs st':=fun a b st c fs st'=>by
 unfold eqM
 split
 ·exact eqOA_no C ns mf a b st c fs st'
 ·split
  ·exact eqOR2_no C mf a b st c fs st'
  ·exact R_of_no
/-- != of any two,an own one at the left -/
noncomputable def neM (C : Addr) (ns : List String) (mf : List U → M U) : P2S:=fun a b st=>match insU st a with
 | some _=>neOA C ns mf a b st
 | none=>.of st (oNe a b st)
theorem neM_no (C : Addr) (ns : List String) (mf : List U → M U) : ∀ a b st c fs st',neM C ns mf a b st ≠ .ex c fs st':=fun a b st c fs st'=>by
 unfold neM
 split
 ·exact neOA_no C ns mf a b st c fs st'
 ·exact R_of_no
/-- what the written part says of a class with == alone -/
structure EqC (K : PySem.W.Frag) (C f : Addr) (ns : List String) : Prop where
 me : Meth K C "__eq__" f
 up : ∀ n ∈ ns,PySem.W.subIn K (.type n) (.ref C) = some false
 dn : ∀ n ∈ ["NoneType","bool","int","str","list","tuple"],PySem.W.subIn K (.ref C) (.type n) = some false
 ne : PySem.W.findIn K (.ref C) "__ne__" = some (some (.builtin "object.__ne__"))
 mo : PySem.W.mroIn K C (.type "object") = some true
variable {ns : List String}
theorem op_eqM (T : EqC X.K C f ns) (F : Fd X.prog X.w X.K X.mg X.base f k 2 [] gPos mf) (hr : RoomG k X.A) (hu : X.A.units + 64 < cLine) : OpR X (compareOp .Eq) (rGS X.K (eqM C ns mf)):=by
 intro pins s σ H x y v u Q I rx ry h
 obtain ⟨m,st,a,b,r,ha,hb,p⟩:=h
 unfold eqM at p
 split at p
 ·exact op_eqOA T.up T.me F hr pins s σ H x y v u Q I rx ry ⟨m,st,a,b,r,ha,hb,p⟩
 ·split at p
  ·exact op_eqOR2 T.dn T.me F hr pins s σ H x y v u Q I rx ry ⟨m,st,a,b,r,ha,hb,p⟩
  ·exact op_eq' hu pins s σ H x y v u Q I rx ry ⟨m,st,a,b,r,ha,hb,PV.of p⟩
theorem op_neM (T : EqC X.K C f ns) (F : Fd X.prog X.w X.K X.mg X.base f k 2 [] gPos mf) (hr : RoomG (k + 1) X.A) (hu : X.A.units + 64 < cLine) : OpR X (compareOp .NotEq) (rGS X.K (neM C ns mf)):=by
 intro pins s σ H x y v u Q I rx ry h
 obtain ⟨m,st,a,b,r,ha,hb,p⟩:=h
 unfold neM at p
 split at p
 ·exact op_neOA T.up T.me T.ne T.mo F hr pins s σ H x y v u Q I rx ry ⟨m,st,a,b,r,ha,hb,p⟩
 ·exact op_ne' hu pins s σ H x y v u Q I rx ry ⟨m,st,a,b,r,ha,hb,PV.of p⟩
end
end VL
namespace VL
open PySem PySem.Spec PyProof.Rows L2
theorem RpF.look {K : PySem.W.Frag} {m : List Addr} {H : Hp} {f : Str} : ∀ {fs : List (Str × D)} {vs : List (Str × V)} {x : D},RpF K m H fs vs → fs.lookup f = some x → ∃ v,vs.lookup f = some v ∧ RpD K m H x v
 | [],_,_,_,e=>by cases e
 | (n,d) :: fs,_,x,⟨v,r,e,h1,h2⟩,q=>by
  subst e
  unfold List.lookup at q ⊢
  split at q
  ·cases q
   exact ⟨v,rfl,h1⟩
  ·exact RpF.look h2 q
section
variable {X : Cx} {W : WX} {a C : Addr} {oe : Obj} {cls : Value} {d : Option Addr} {pn : List (Addr × Obj)} {x : Str} {p1 pos : Pos} {n : Str}
end
end VL
namespace VL
open PySem PySem.Spec PyProof.Rows L2 LamX
section
variable {X : Cx}
end
end VL
namespace VL
open PySem PySem.Spec PyProof.Rows L2 LamX
section
variable {P : Program} {w : World} {K : PySem.W.Frag} {mg : Str → Option Value}
end
end VL
namespace VL
open PySem PySem.Spec PyProof.Rows L2 LamX
noncomputable def eqTys : List String:=["NoneType","bool","int","str","list","tuple"]
end VL
namespace VL
open PySem PySem.Spec PyProof.Rows L2
/-- where a parameter's value comes from: a positional one,a keyword's,a default -/
inductive Src where
 | p (i : Nat) | k (j : Nat) | e (i : Nat)
noncomputable def Src.get {α : Type} (x : α) (ds us ws : List α) : Src → α
 | .p i=>us.getD i x
 | .k j=>ws.getD j x
 | .e i=>ds.getD i x
section
variable {K : PySem.W.Frag} {m : List Addr} {H : Hp}
end
structure FunK (K : PySem.W.Frag) (x qual : Str) (st : Stmt) (f : Addr) (kws : List (Str × V)) (fd : FuncData) : Prop where
 ex : ∃ (oc : Value) (od : Option Addr) (D : Addr) (doc pm : Value) (an : Option Addr) (cdv ct : Value) (osl : Array (Option Value)),
  fd = PySem.W.fnOf x qual (defArgs st) (defBody st) (defScope st) .none (.ref D) doc pm an cdv ct ∧ K.lookup f = some ⟨oc,od,.func fd,osl⟩ ∧ PySem.W.codeIn K cdv qual = true ∧ ∀ q ∈ kws,∃ u,PySem.W.nsIn K D q.1 = some (some u) ∧ RelV q.2 u
 kp : PySem.W.keepIn K (.ref f) = true
theorem FunK.fun {K : PySem.W.Frag} {x qual : Str} {st : Stmt} {f : Addr} {kws : List (Str × V)} {fd : FuncData} (F : FunK K x qual st f kws fd) : Fun K x qual st f fd:=by
 obtain ⟨oc,od,D,doc,pm,an,cdv,ct,osl,e,lk,hc,hq⟩:=F.ex
 exact ⟨⟨oc,od,.ref D,doc,pm,an,cdv,ct,osl,e,lk,hc⟩,F.kp⟩
/-- an empty tuple among the things of the top -/
noncomputable def Tup0 (K : PySem.W.Frag) (E : Addr) : Prop:=∃ (o : Obj) (n : Nat),K.lookup E = some o ∧ o.cls = .type "tuple" ∧ o.data = .seq #[] n
theorem Tup0.rp {K : PySem.W.Frag} {m : List Addr} {H : Hp} {E : Addr} (h : Tup0 K E) : RpU K m H (.d (.tup [])) (.ref E):=by
 obtain ⟨o,n,h1,h2,h3⟩:=h
 exact ⟨E,[],rfl,.inr (.inr ⟨o,#[],n,h1,h2,h3,Nat.zero_le _,.nil⟩),rfl⟩
/-- what t looks up in the dict at D,one behind another; then it goes on as r -/
noncomputable def KwC {α : Type} (D : Addr) : List (Str × Value) → Sem α → Sem α → Prop
 | [],t,r=>t = r
 | q :: l,t,r=>∃ (β γ : Type) (k1 : Option Value → Sem β) (k2 : β → Sem γ) (k3 : γ → Sem α) (a : β),t = ((nsGet D q.1 >>= k1) >>= k2) >>= k3 ∧ k1 (some q.2) = pure a ∧ KwC D l (k2 a >>= k3) r
theorem KwC.run {α : Type} {K : PySem.W.Frag} {M : Model} {A : Around} {D : Addr} {s : Shared} {Q : α → Shared → Prop} {E : Value → Shared → Prop} (X : K.In s.heap) : ∀ {l : List (Str × Value)} {t r : Sem α},(∀ q ∈ l,PySem.W.nsIn K D q.1 = some (some q.2)) → KwC D l t r → wpAny M A r Q E s → wpAny M A t Q E s
 | [],t,r,_,e,h=>by rw [show t = r from e]; exact h
 | q :: l,t,r,hl,e,h=>by
  obtain ⟨β,γ,k1,k2,k3,a,e1,e2,e3⟩:=e
  have h2:=KwC.run (l:=l) X (fun p hp=>hl p (List.mem_cons_of_mem _ hp)) e3 h
  rw [e1,bind_assoc]
  refine wpAny_bind (wpAny_bind ?_)
  refine (PySem.W.looks_nsIn X (hl q (List.mem_cons_self ..))).here ?_
  rw [e2]
  exact wpAny_pure (by simpa using h2)
section
variable {K : PySem.W.Frag} {x qual : Str} {st : Stmt} {f : Addr} {kws : List (Str × V)} {fd : FuncData} {ps : List Str}
end
section
variable {P : Program} {w : World} {K : PySem.W.Frag} {mg : Str → Option Value} {base : Heap}
end
end VL
namespace VL
open PySem PySem.Spec PyProof.Rows L2
section
variable {K : PySem.W.Frag} {m : List Addr} {H : Hp} {st : Store}
theorem RpK.length : ∀ {ds : List (Key × D)} {vs : List (Key × V)},RpK K m H ds vs → vs.length = ds.length
 | [],vs,h=>by rw [show vs = [] from h]; rfl
 | (k,d) :: ds,_,⟨v,r,e,h1,h2⟩=>by subst e; rw [List.length_cons,List.length_cons,RpK.length h2]
theorem RpK.get : ∀ {ds : List (Key × D)} {vs : List (Key × V)},RpK K m H ds vs → ∀ {i : Nat} {kd : Key × D},ds[i]? = some kd → ∃ v,vs[i]? = some (kd.1,v) ∧ RpD K m H kd.2 v
 | [],_,h,i,kd,e=>by cases e
 | (k,d) :: ds,_,⟨v,r,e,h1,h2⟩,0,kd,q=>by subst e; cases q; exact ⟨v,rfl,h1⟩
 | (k,d) :: ds,_,⟨v,r,e,h1,h2⟩,i + 1,kd,q=>by subst e; exact RpK.get h2 (i:=i) q
end
section
variable {X : Cx} {W : WX} {tg e : Expr} {fe : F U} {apos cpos : Pos}
end
end VL
namespace VL
open PySem PySem.Spec PyProof.Rows L2
noncomputable def mergeU (kvs more : List (Key × U)) : List (Key × U):=more.foldl (fun acc kv=>putU acc kv.1 kv.2) kvs
section
variable {K : PySem.W.Frag} {m : List Addr} {H : Hp} {st : Store}
theorem RpUK.merge : ∀ {more : List (Key × U)} {ws : List (Key × V)} {us : List (Key × U)} {vs : List (Key × V)},RpUK K m H more ws → RpUK K m H us vs → RpUK K m H (mergeU us more) (mergeK vs ws)
 | [],ws,us,vs,h,h2=>by rw [show ws = [] from h]; exact h2
 | (k,u) :: more,_,us,vs,⟨v,r,e,h1,h3⟩,h2=>by
  subst e
  show RpUK K m H (mergeU (putU us k u) more) (mergeK (putK vs k v) r)
  exact RpUK.merge h3 (h2.put k h1)
end
section
variable {X : Cx} {W : WX} {e o : Expr} {fe fo : F U} {p pos apos cpos tpos : Pos}
end
end VL
namespace VL
open PySem PySem.Spec PyProof.Rows L2
section
variable {prog : Program} {w : World} {A : Around} {E : Value → Shared → Prop} {s : Shared}
end
end VL
namespace VL
open PySem PySem.Spec PyProof.Rows L2
noncomputable def oRep : P2:=fun a b _=>match a,b with
 | .d (.lst ds),.d (.int n)=>if 0 ≤ n ∧ n ≤ 100 ∧ ds.length ≤ 1000 then some (.d (.lst (List.replicate n.toNat ds).flatten)) else none
 | _,_=>none
section
variable {K : PySem.W.Frag} {m : List Addr} {H : Hp}
theorem RpDs.app : ∀ {xs ys : List D} {vs ws : List V},RpDs K m H xs vs → RpDs K m H ys ws → RpDs K m H (xs ++ ys) (vs ++ ws)
 | [],_,vs,_,h,k=>by rw [show vs = [] from h]; exact k
 | d :: xs,_,_,_,⟨v,r,e,h1,h2⟩,k=>by subst e; exact ⟨v,_,rfl,h1,RpDs.app h2 k⟩
theorem RpDs.rep {xs : List D} {vs : List V} (h : RpDs K m H xs vs) : ∀ n : Nat,RpDs K m H (List.replicate n xs).flatten (List.replicate n vs).flatten
 | 0=>rfl
 | n + 1=>by rw [List.replicate_succ,List.replicate_succ,List.flatten_cons,List.flatten_cons]; exact h.app (RpDs.rep h n)
end
theorem op_rep' {X : Cx} : OpR X (binaryOp .Mult) (rG X.K oRep):=by
 intro pins s σ H x y v u Q I rx ry h
 obtain ⟨m,st,a,b,r,ha,hb,p⟩:=h
 unfold oRep at p
 split at p
 ·rename_i ds n
  split at p
  ·rename_i hz
   obtain ⟨l,vs,rfl,hl,hd⟩:=ha
   obtain rfl : y = .int n:=hb
   refine op_rep pins s σ H _ _ v u Q I rx ry ⟨l,n,vs,rfl,rfl,hl.2,by omega,by omega,?_,fun q hq=>p _ _ (new_lst r hq (hd.rep n.toNat)) (r.new hq _) (ext_new r hq _)⟩
   have e : vs.length = ds.length:=hd.length
   have h1 : n.toNat ≤ 100:=by omega
   have h2 : vs.length ≤ 1000:=by omega
   exact Nat.le_trans (Nat.mul_le_mul h2 h1) (by decide)
  ·exact p.elim
 ·exact p.elim
end VL
namespace VL
open PySem PySem.Spec PyProof.Rows L2
section
variable {P : Program} {w : World} {K : PySem.W.Frag} {mg : Str → Option Value} {base : Heap}
end
end VL
namespace VL
open PySem PySem.Spec PyProof.Rows L2
noncomputable abbrev XF:=Option (List (Str × D))
noncomputable def noR : Value → XF → Store → Prop:=fun _ _ _=>False
noncomputable def noE : Value → XF → VEnv → Store → Prop:=fun _ _ _ _=>False
noncomputable def noN : VEnv → Store → Prop:=fun _ _=>False
noncomputable def noT : U → Store → Prop:=fun _ _=>False
namespace Q0
noncomputable def wpR {α : Type} (r : R α) (Q : α → Store → Prop) (E : Value → XF → Store → Prop) : Prop:=match r with
 | .ok a st=>Q a st
 | .ex c fs st=>E c fs st
 | .bad=>False
noncomputable def wpS (r : RS) (N : VEnv → Store → Prop) (T : U → Store → Prop) (B C : VEnv → Store → Prop) (E : Value → XF → VEnv → Store → Prop) : Prop:=match r with
 | .ok env .nx st=>N env st
 | .ok _ (.rt u) st=>T u st
 | .ok env .bk st=>B env st
 | .ok env .ct st=>C env st
 | .ex c fs env st=>E c fs env st
 | .bad=>False
/-- a state that is made plain ahead of going on -/
noncomputable def wpQ {α : Type} (Q : α → Store → Prop) (a : α) (st : Store) : Prop:=Q a st
noncomputable def wpI (k : Bool) (P Q : Prop) : Prop:=if k = true then P else Q
section
variable {α β : Type} {Q : α → Store → Prop} {E : Value → XF → Store → Prop} {N B C : VEnv → Store → Prop} {T : U → Store → Prop} {X : Value → XF → VEnv → Store → Prop} {env : VEnv} {st : Store}
theorem wp_Q {a : α} : wpQ Q a st = Q a st:=rfl
theorem wp_I1 {P R : Prop} : wpI true P R = P:=if_pos rfl
theorem wp_I0 {P R : Prop} : wpI false P R = R:=if_neg Bool.false_ne_true
theorem wp_ok {a : α} : wpR (.ok a st) Q E = wpQ Q a st:=rfl
theorem wp_ex {c : Value} {fs : XF} : wpR (.ex c fs st) Q E = E c fs st:=rfl
theorem wp_bad : wpR (.bad : R α) Q E = False:=rfl
theorem wps_nx : wpS (.ok env .nx st) N T B C X = wpQ N env st:=rfl
theorem wps_rt {u : U} : wpS (.ok env (.rt u) st) N T B C X = wpQ T u st:=rfl
theorem wps_bk : wpS (.ok env .bk st) N T B C X = wpQ B env st:=rfl
theorem wps_ct : wpS (.ok env .ct st) N T B C X = wpQ C env st:=rfl
theorem wps_ex {c : Value} {fs : XF} : wpS (.ex c fs env st) N T B C X = X c fs env st:=rfl
theorem wps_bad : wpS .bad N T B C X = False:=rfl
end
section
variable {Q : U → Store → Prop} {QB : Bool → Store → Prop} {QL : List U → Store → Prop} {Q2 : List U × List U → Store → Prop} {QI : Itb → Store → Prop} {QO : Option Int → Store → Prop} {E : Value → XF → Store → Prop} {N B C : VEnv → Store → Prop} {T : U → Store → Prop} {X : Value → XF → VEnv → Store → Prop} {env : VEnv} {st : Store}
end
end Q0
@[irreducible] noncomputable def wpR {α : Type} (r : R α) (Q : α → Store → Prop) (E : Value → XF → Store → Prop) : Prop:=Q0.wpR r Q E
@[irreducible] noncomputable def wpS (r : RS) (N : VEnv → Store → Prop) (T : U → Store → Prop) (B C : VEnv → Store → Prop) (E : Value → XF → VEnv → Store → Prop) : Prop:=Q0.wpS r N T B C E
@[irreducible] noncomputable def wpQ {α : Type} (Q : α → Store → Prop) (a : α) (st : Store) : Prop:=Q0.wpQ Q a st
@[irreducible] noncomputable def wpI (k : Bool) (P Q : Prop) : Prop:=Q0.wpI k P Q
@[irreducible] noncomputable def act (P : Prop) : Prop:=P
section
variable {α β : Type} {Q : α → Store → Prop} {E : Value → XF → Store → Prop} {N B C : VEnv → Store → Prop} {T : U → Store → Prop} {X : Value → XF → VEnv → Store → Prop} {env : VEnv} {st : Store}
theorem wp_Q' {a : α} : wpQ Q a st = Q a st:=by with_unfolding_all exact Q0.wp_Q 
theorem wp_Q {a : α} : act (wpQ Q a st) = act (Q a st):=by
 have h : wpQ Q a st = Q a st:=by with_unfolding_all exact Q0.wp_Q 
 unfold act
 exact h
theorem wp_I1' {P R : Prop} : wpI true P R = P:=by with_unfolding_all exact Q0.wp_I1 
theorem wp_I1 {P R : Prop} : act (wpI true P R) = act (P):=by
 have h : wpI true P R = P:=by with_unfolding_all exact Q0.wp_I1 
 unfold act
 exact h
theorem wp_I0' {P R : Prop} : wpI false P R = R:=by with_unfolding_all exact Q0.wp_I0 
theorem wp_I0 {P R : Prop} : act (wpI false P R) = act (R):=by
 have h : wpI false P R = R:=by with_unfolding_all exact Q0.wp_I0 
 unfold act
 exact h
theorem wp_ok' {a : α} : wpR (.ok a st) Q E = wpQ Q a st:=by with_unfolding_all exact Q0.wp_ok 
theorem wp_ok {a : α} : act (wpR (.ok a st) Q E) = act (wpQ Q a st):=by
 have h : wpR (.ok a st) Q E = wpQ Q a st:=by with_unfolding_all exact Q0.wp_ok 
 unfold act
 exact h
theorem wp_ex' {c : Value} {fs : XF} : wpR (.ex c fs st) Q E = E c fs st:=by with_unfolding_all exact Q0.wp_ex 
theorem wp_ex {c : Value} {fs : XF} : act (wpR (.ex c fs st) Q E) = act (E c fs st):=by
 have h : wpR (.ex c fs st) Q E = E c fs st:=by with_unfolding_all exact Q0.wp_ex 
 unfold act
 exact h
theorem wp_bad' : wpR (.bad : R α) Q E = False:=by with_unfolding_all exact Q0.wp_bad 
theorem wp_bad : act (wpR (.bad : R α) Q E) = act (False):=by
 have h : wpR (.bad : R α) Q E = False:=by with_unfolding_all exact Q0.wp_bad 
 unfold act
 exact h
theorem wps_nx' : wpS (.ok env .nx st) N T B C X = wpQ N env st:=by with_unfolding_all exact Q0.wps_nx 
theorem wps_nx : act (wpS (.ok env .nx st) N T B C X) = act (wpQ N env st):=by
 have h : wpS (.ok env .nx st) N T B C X = wpQ N env st:=by with_unfolding_all exact Q0.wps_nx 
 unfold act
 exact h
theorem wps_rt' {u : U} : wpS (.ok env (.rt u) st) N T B C X = wpQ T u st:=by with_unfolding_all exact Q0.wps_rt 
theorem wps_rt {u : U} : act (wpS (.ok env (.rt u) st) N T B C X) = act (wpQ T u st):=by
 have h : wpS (.ok env (.rt u) st) N T B C X = wpQ T u st:=by with_unfolding_all exact Q0.wps_rt 
 unfold act
 exact h
theorem wps_bk' : wpS (.ok env .bk st) N T B C X = wpQ B env st:=by with_unfolding_all exact Q0.wps_bk 
theorem wps_bk : act (wpS (.ok env .bk st) N T B C X) = act (wpQ B env st):=by
 have h : wpS (.ok env .bk st) N T B C X = wpQ B env st:=by with_unfolding_all exact Q0.wps_bk 
 unfold act
 exact h
theorem wps_ct' : wpS (.ok env .ct st) N T B C X = wpQ C env st:=by with_unfolding_all exact Q0.wps_ct 
theorem wps_ct : act (wpS (.ok env .ct st) N T B C X) = act (wpQ C env st):=by
 have h : wpS (.ok env .ct st) N T B C X = wpQ C env st:=by with_unfolding_all exact Q0.wps_ct 
 unfold act
 exact h
theorem wps_ex' {c : Value} {fs : XF} : wpS (.ex c fs env st) N T B C X = X c fs env st:=by with_unfolding_all exact Q0.wps_ex 
theorem wps_ex {c : Value} {fs : XF} : act (wpS (.ex c fs env st) N T B C X) = act (X c fs env st):=by
 have h : wpS (.ex c fs env st) N T B C X = X c fs env st:=by with_unfolding_all exact Q0.wps_ex 
 unfold act
 exact h
theorem wps_bad' : wpS .bad N T B C X = False:=by with_unfolding_all exact Q0.wps_bad 
theorem wps_bad : act (wpS .bad N T B C X) = act (False):=by
 have h : wpS .bad N T B C X = False:=by with_unfolding_all exact Q0.wps_bad 
 unfold act
 exact h
end
section
variable {Q : U → Store → Prop} {QB : Bool → Store → Prop} {QL : List U → Store → Prop} {Q2 : List U × List U → Store → Prop} {QI : Itb → Store → Prop} {QO : Option Int → Store → Prop} {E : Value → XF → Store → Prop} {N B C : VEnv → Store → Prop} {T : U → Store → Prop} {X : Value → XF → VEnv → Store → Prop} {env : VEnv} {st : Store}
end
section
variable {s cs : Store} {o o' : O} {n k b c : Nat}
theorem nf_cut (h : WF s) : cutS s.length (s ++ cs) = some s:=h.cutA _
theorem frz_dd {x : D} {f : Nat} : frz s k f (.d x) = some x:=by cases f <;> rfl
end
end VL
namespace VL
open PySem PySem.Spec PyProof.Rows L2
theorem wpR_inv {α : Type} {r : R α} {Q : α → Store → Prop} {E : Value → XF → Store → Prop} (h : wpR r Q E) : (∃ a s,r = .ok a s ∧ Q a s) ∨ ∃ c fs s,r = .ex c fs s ∧ E c fs s:=by
 cases r with
 | ok a s=>rw [wp_ok',wp_Q'] at h; exact .inl ⟨a,s,rfl,h⟩
 | ex c fs s=>rw [wp_ex'] at h; exact .inr ⟨c,fs,s,rfl,h⟩
 | bad=>rw [wp_bad'] at h; exact h.elim
theorem wpR_ok {α : Type} {r : R α} {Q : α → Store → Prop} (h : wpR r Q noR) : ∃ a s,r = .ok a s ∧ Q a s:=by
 rcases wpR_inv h with h | ⟨_,_,_,_,h⟩
 ·exact h
 ·exact h.elim
theorem wpS_nx {r : RS} {N : VEnv → Store → Prop} (h : wpS r N noT noN noN noE) : ∃ e s,r = .ok e .nx s ∧ N e s:=by
 cases r with
 | ok e f s=>cases f with
  | nx=>rw [wps_nx',wp_Q'] at h; exact ⟨e,s,rfl,h⟩
  | rt=>rw [wps_rt',wp_Q'] at h; exact h.elim
  | bk=>rw [wps_bk',wp_Q'] at h; exact h.elim
  | ct=>rw [wps_ct',wp_Q'] at h; exact h.elim
 | ex=>rw [wps_ex'] at h; exact h.elim
 | bad=>rw [wps_bad'] at h; exact h.elim
section
variable {α : Type} {fi : F Itb} {tg : U → G} {tt : F Bool} {fe : F U} {vs : List Nat} {env env0 : VEnv} {st st1 : Store} {Q : U → Store → Prop} {E : Value → XF → Store → Prop}
/-- what one element does -/
noncomputable def LcS (tg : U → G) (tt : F Bool) (fe : F U) (env0 : VEnv) (u : U) (acc : List D) (s : Store) (J : List D → Store → Prop) : Prop :=
 wpS (tg u env0 (s ++ [.lst (acc.map .d)])) (fun env1 s1=>wpR (tt env1 s1) (fun b s2=>wpI b (wpR (fe env1 s2) (fun y s3=>∃ d s',y = .d d ∧ s3 = s' ++ [.lst (acc.map .d)] ∧ s'.length = s.length ∧ J (acc ++ [d]) s') noR) (∃ s',s2 = s' ++ [.lst (acc.map .d)] ∧ s'.length = s.length ∧ J acc s')) noR) noT noN noN noE
/-- a comprehension that leaves the cells -/
noncomputable def LcP (tg : U → G) (tt : F Bool) (fe : F U) (env0 : VEnv) (u : U) (s : Store) (p : Bool) (d : D) : Prop :=
 wpS (tg u env0 s) (fun env1 s1=>wpR (tt env1 s1) (fun b s2=>b = p ∧ s2 = s ∧ (p = true → wpR (fe env1 s) (fun y s3=>y = .d d ∧ s3 = s) noR)) noR) noT noN noN noE
theorem LcP.to {u : U} {acc : List D} {s : Store} {p : Bool} {d : D} {J : List D → Store → Prop} (h : LcP tg tt fe env0 u (s ++ [.lst (acc.map .d)]) p d) (j : J (if p = true then acc ++ [d] else acc) s) : LcS tg tt fe env0 u acc s J:=by
 unfold LcP at h
 obtain ⟨env1,s1,e1,h⟩:=wpS_nx h
 obtain ⟨b,s2,e2,rfl,rfl,h⟩:=wpR_ok h
 unfold LcS
 rw [e1,wps_nx',wp_Q',e2,wp_ok',wp_Q']
 cases b with
 | false=>rw [wp_I0']; exact ⟨s,rfl,rfl,j⟩
 | true =>
  rw [wp_I1']
  obtain ⟨y,s3,e3,rfl,rfl⟩:=wpR_ok (h rfl)
  rw [e3,wp_ok',wp_Q']
  exact ⟨d,s,rfl,rfl,rfl,j⟩
end
section
variable {st : Store}
end
end VL
namespace VL
open PySem PySem.Spec PyProof.Rows L2
section
variable {X : Cx} {W : WX} {pos : Pos} {ks : List (Option Expr)} {vs : List Expr} {fs : List (F U × F U)} {k v : Expr} {fk fv : F U}
end
section
variable {X : Cx}
end
section
variable {Q : U → Store → Prop} {QP : List (U × U) → Store → Prop} {E : Value → XF → Store → Prop} {env : VEnv} {st : Store}
end
end VL
namespace VL
open PySem PySem.Spec PyProof.Rows L2
noncomputable def keyT (e : Int × Value) : Str:=match e.2 with | .str k _=>k | _=>Str.empty
noncomputable def GoodT (w : World) (e : Int × Value) : Prop:=∃ k tk,e.2 = Value.str k tk ∧ e.1 = hashStr w k
/-- the set of texts at a: S its members,n their number; its table rises and can be walked -/
noncomputable def SetT (w : World) (h : Heap) (a : Addr) (S : Str → Bool) (n : Nat) : Prop :=
 ∃ o es ep t,h.get? a = some o ∧ o.ExactSet ∧ o.data = .set es ep t ∧ (∀ e ∈ es.toList,GoodT w e) ∧ (es.toList.map keyT).Nodup ∧ (∀ k,S k = true ↔ k ∈ es.toList.map keyT) ∧
  es.size < scanBound ∧ t.fits es.size = true ∧ es.size = n ∧ Ris t.place.toList ∧ (w.params.followText "set-order" = true ∨ t.led = true)
section
variable {P : Program} {w : World} {h h' : Heap} {a : Addr} {S : Str → Bool} {n : Nat}
theorem SetT.at (R : SetT w h a S n) (k : ∀ o,h.get? a = some o → h'.get? a = some o) : SetT w h' a S n:=by
 obtain ⟨o,es,ep,t,ho,r⟩:=R
 exact ⟨o,es,ep,t,k o ho,r⟩
theorem SetT.congr {S' : Str → Bool} (R : SetT w h a S n) (e : ∀ k,S' k = S k) : SetT w h a S' n:=by
 have q : S' = S:=funext e
 rw [q]; exact R
end
section
variable {P : Program} {w : World} {A : Around} {E : Value → Shared → Prop} {s : Shared} {a : Addr} {S : Str → Bool} {n : Nat}
end
section
variable {P : Program} {w : World} {A : Around} {E : Value → Shared → Prop} {s : Shared}
end
section
variable {X : Cx}
end
end VL
namespace VL
open PySem PySem.Spec PyProof.Rows L2
section
variable {X : Cx}
end
section
variable {X : Cx} {W : WX} {o e : Expr} {fo fk : F U} {apos cpos : Pos} {td ty : TE}
end
section
variable {K : PySem.W.Frag} {m : List Addr} {H H' : Hp} {st : Store}
theorem ext_more (h : ∀ b o,H b = some o → H' b = some o) : Ext m H m H':=.of (List.prefix_refl m) (fun a u n e _=>⟨h a u e,n⟩) fun a o u e=>h a _ e
theorem Rep.more (r : Rep K m st H) (h : ∀ b o,H b = some o → H' b = some o) : Rep K m st H' :=
 ⟨r.len,r.nd,fun n c a h1 h2=>by
  obtain ⟨ho,e,q⟩:=r.cell n c a h1 h2
  exact ⟨ho,h a ho e,q.ext (ext_more h)⟩⟩
end
theorem paired_map {α β : Type} {F G : α → β → Prop} (h : ∀ x y,F x y → G x y) : ∀ {xs : List α} {ys : List β},Paired F xs ys → Paired G xs ys
 | _,_,.nil=>.nil
 | _,_,.cons a b=>.cons (h _ _ a) (paired_map h b)
/-- tuples that lie outside the cells -/
noncomputable def Outs (m : List Addr) (H : Hp) (ts : List Addr) (kvs : List (Key × V)) : Prop:=Paired (fun t (q : Key × V)=>H t = some (.tup [kV q.1,q.2]) ∧ t ∉ m) ts kvs
theorem Outs.ext {m m' : List Addr} {H H' : Hp} {ts : List Addr} {kvs : List (Key × V)} (h : Outs m H ts kvs) (x : Ext m H m' H') : Outs m' H' ts kvs :=
 paired_map (fun t q z=>x.toStay.ex t (.tup [kV q.1,q.2]) z.2 z.1 (fun _ z=>nomatch z) (fun _ z=>nomatch z)) h
section
variable {X : Cx} {W : WX} {x e1 e2 e3 : Expr} {fx f1 f2 f3 : F U} {k1 k2 k3 : Str}
end
end VL
namespace VL
open PySem PySem.Spec PyProof.Rows L2
section
variable {K : PySem.W.Frag} {m : List Addr} {H : Hp} {st : Store}
end
section
variable {X : Cx} {W : WX} {tg e : Expr} {fe : F U}
end
section
variable {X : Cx} {W : WX} {elt tg iter : Expr} {ifs : List Expr} {scope : Scope} {own : List (Str × Nat)} {pos : Pos} {is : List Nat} {g : U → G} {gt : F Bool} {fe : F U} {fi : F Itb}
end
end VL
namespace VL
open PySem PySem.Spec PyProof.Rows L2
section
variable {Q : U → Store → Prop} {QI : Itb → Store → Prop} {E : Value → XF → Store → Prop} {env : VEnv} {st : Store}
end
end VL
namespace VL
open PySem PySem.Spec PyProof.Rows L2
section
variable {X : Cx}
end
end VL
namespace VL
open PySem PySem.Spec PyProof.Rows L2
mutual
noncomputable def plD : D → Bool
 | .non=>true
 | .int _=>true
 | .str s=>PyData.strOk s
 | .tup ds=>plDs ds
 | .lst ds=>plDs ds
 | _=>false
noncomputable def plDs : List D → Bool
 | []=>true
 | d :: ds=>plD d && plDs ds
end
mutual
noncomputable def pD : D → PyData
 | .int i=>.int i
 | .str s=>.str s
 | .tup ds=>.tuple (pDs ds)
 | .lst ds=>.list (pDs ds)
 | _=>.none
noncomputable def pDs : List D → List PyData
 | []=>[]
 | d :: ds=>pD d :: pDs ds
end
mutual
theorem toP_pl : ∀ {d : D},plD d = true → toP d = some (pD d)
 | .non,_=>rfl
 | .int _,_=>rfl
 | .str _,_=>rfl
 | .tup ds,h=>by
  have:=toPs_pl (ds:=ds) (by simpa [plD] using h)
  simp [toP,pD,this]
 | .lst ds,h=>by
  have:=toPs_pl (ds:=ds) (by simpa [plD] using h)
  simp [toP,pD,this]
 | .bl _,h | .ty _,h | .obj _,h | .dct _,h | .ins _ _,h | .scr _,h | .exc _ _ _ _,h | .kdc _ _,h=>by simp [plD] at h
theorem toPs_pl : ∀ {ds : List D},plDs ds = true → toPs ds = some (pDs ds)
 | [],_=>rfl
 | d :: ds,h=>by
  simp only [plDs,Bool.and_eq_true] at h
  simp [toPs,pDs,toP_pl h.1,toPs_pl h.2]
end
/-- a list that is data,or a cell of data -/
noncomputable def LsU (st : Store) (u : U) (ds : List D) : Prop:=u = .d (.lst ds) ∨ ∃ n,u = .ref n ∧ st[n]? = some (.lst (ds.map U.d))
theorem LsU.d (st : Store) (ds : List D) : LsU st (.d (.lst ds)) ds:=.inl rfl
theorem LsU.r {st : Store} {n : Nat} {ds : List D} (h : st[n]? = some (.lst (ds.map U.d))) : LsU st (.ref n) ds:=.inr ⟨n,rfl,h⟩
theorem LsU.asP {st : Store} {u : U} {ds : List D} (h : LsU st u ds) (hp : plDs ds = true) : asP st u = some (.list (pDs ds)):=by
 rcases h with rfl | ⟨n,rfl,h⟩
 ·rw [asP_d]
  have:=toP_pl (d:=.lst ds) (by simpa [plD] using hp)
  simpa [pD] using this
 ·rw [asP_ref h,toPs_pl hp]
  rfl
theorem LsU.getL {st : Store} {u : U} {ds : List D} (h : LsU st u ds) : getL st u = some (ds.map U.d):=by
 rcases h with rfl | ⟨n,rfl,h⟩
 ·rfl
 ·unfold VL.getL
  simp only [h]
section
variable {st : Store}
end
end VL
namespace VL
open PySem PySem.Spec PyProof.Rows L2
section
variable {X : Cx} {W : WX} {e : Expr} {fe : F U} {p p2 pos pos2 : Pos}
end
end VL
namespace VL
open PySem PySem.Spec PyProof.Rows L2
section
variable {P : Program} {w : World} {A : Around} {E : Value → Shared → Prop} {s : Shared}
end
end VL
namespace VL
open PySem PySem.Spec PyProof.Rows L2
section
variable {X : Cx}
end
end VL
namespace VL
open PySem PySem.Spec PyProof.Rows L2
namespace Hd
noncomputable def refsF (o : Obj) : List Addr:=match o.data with
 | .func fd=>He.refV fd.code ++ (He.refV fd.kwdefaults ++ He.refV fd.defaults)
 | .cls cd=>[cd.ns]
 | .dict es _=>es.toList.flatMap fun e=>He.refV e.val
 | .fields vs=>if o.cls == .type "property" || o.cls == .type "staticmethod" then vs.toList.flatMap He.refV else []
 | _=>[]
noncomputable def nextF (g : Addr → Option Obj) (as : List Addr) : List Addr:=as.flatMap fun a=>match g a with
 | some o=>refsF o
 | none=>[]
noncomputable def fragF (names : List Str) (g : Addr → Option Obj) : PySem.W.Frag :=
 (fun A1=>(fun A2=>(fun A3=>(fun A4=>(fun A5=>He.frG g (mainGlobals :: cStatics :: (A1 ++ (A2 ++ (A3 ++ (A4 ++ A5)))))) (nextF g A4)) (nextF g A3)) (nextF g A2)) (nextF g A1)) (names.map (He.ga (He.frG g [mainGlobals])))
noncomputable def fnV (K : PySem.W.Frag) (f : Addr) : He.FnV:=match K.lookup f with
 | some ⟨_,_,.func fd,_⟩=>some (fd.name,fd.qualname,fd.params,fd.body,fd.scope,fd.globals,fd.closure,fd.defaults,fd.builtins)
 | _=>none
noncomputable def fnT (x q : Str) (st : Stmt) : He.FnV:=some (x,q,defArgs st,.stmts (defBody st),defScope st,mainGlobals,[],.none,builtinsNs)
noncomputable def codeB (K : PySem.W.Frag) (f : Addr) (q : Str) : Bool:=match K.lookup f with
 | some ⟨_,_,.func fd,_⟩=>PySem.W.codeIn K fd.code q
 | _=>false
section
variable {K : PySem.W.Frag} {f : Addr} {x q : Str} {st : Stmt}
theorem fn_of (e : fnV K f = fnT x q st) (c : codeB K f q = true) :
  ∃ oc od osl kV doc pm an cdv ct,K.lookup f = some ⟨oc,od,.func (PySem.W.fnOf x q (defArgs st) (defBody st) (defScope st) .none kV doc pm an cdv ct),osl⟩ ∧ PySem.W.codeIn K cdv q = true:=by
 unfold codeB at c
 unfold fnV fnT at e
 cases r : K.lookup f with
 | none=>rw [r] at c; cases c
 | some o =>
  obtain ⟨oc,od,dt,osl⟩:=o
  rw [r] at c e
  cases dt with
  | func fd =>
   obtain ⟨n1,n2,n3,n4,n5,n6,n7,n8,n9,n10,n11,n12,n13,n14,n15⟩:=fd
   have e2 : (some (n1,n2,n3,n4,n5,n6,n7,n8,n15) : He.FnV) = some (x,q,defArgs st,.stmts (defBody st),defScope st,mainGlobals,[],.none,builtinsNs):=e
   simp only [Option.some.injEq,Prod.mk.injEq] at e2
   obtain ⟨h1,h2,h3,h4,h5,h6,h7,h8,h9⟩:=e2
   subst h1 h2 h3 h4 h5 h6 h7 h8 h9
   exact ⟨oc,od,osl,n9,n10,n11,n12,n13,n14,rfl,c⟩
  | _=>cases c
end
noncomputable def propF (K : PySem.W.Frag) (p : Addr) : Addr:=match PySem.W.recIn K p "property" with
 | some (.ref f :: _)=>f
 | _=>0
noncomputable def strB (K : PySem.W.Frag) (x z : Str) : Bool:=match PySem.W.nsIn K mainGlobals x with
 | some (some (.str y _))=>decide (y = z)
 | _=>false
noncomputable def intB (K : PySem.W.Frag) (x : Str) (i : Int) : Bool:=match PySem.W.nsIn K mainGlobals x with
 | some (some (.int j _))=>decide (j = i)
 | _=>false
noncomputable def propB (K : PySem.W.Frag) (p : Addr) : Bool:=match PySem.W.recIn K p "property" with
 | some (.ref _ :: _)=>true
 | _=>false
section
variable {K : PySem.W.Frag}
theorem ba {a b : Bool} (h : (a && b) = true) : a = true ∧ b = true:=Bool.and_eq_true_iff.mp h
theorem str_ok {x z : Str} (h : strB K x z = true) : ∃ t,PySem.W.nsIn K mainGlobals x = some (some (.str z t)):=by
 unfold strB at h
 split at h
 ·rename_i y t e
  exact ⟨t,by rw [e,of_decide_eq_true h]⟩
 ·cases h
theorem int_ok {x : Str} {i : Int} (h : intB K x i = true) : ∃ t,PySem.W.nsIn K mainGlobals x = some (some (.int i t)):=by
 unfold intB at h
 split at h
 ·rename_i y t e
  exact ⟨t,by rw [e,of_decide_eq_true h]⟩
 ·cases h
theorem prop_ok {p : Addr} (h : propB K p = true) : ∃ pr,PySem.W.recIn K p "property" = some (.ref (propF K p) :: pr):=by
 unfold propB at h
 split at h
 ·rename_i f pr e
  exact ⟨pr,by unfold propF; rw [e]⟩
 ·cases h
end
noncomputable def tabB (g : Addr → Option Obj) (P : Addr) : Bool:=match g P with
 | some ⟨.none,none,.fields vs,sl⟩=>vs.isEmpty && sl.isEmpty
 | _=>false
theorem tab_ok {g : Addr → Option Obj} {P : Addr} (h : tabB g P = true) : g P = some (PySem.W.tabObj #[]):=by
 unfold tabB at h
 split at h
 ·rename_i vs sl e
  obtain ⟨h1,h2⟩:=ba h
  rw [e,Array.isEmpty_iff.mp h1,Array.isEmpty_iff.mp h2]
 ·cases h
noncomputable def allB : List (List Bool) → Bool
 | []=>true
 | l :: r=>l.all id && allB r
theorem allB_at : ∀ {l : List (List Bool)},allB l = true → ∀ {i j : Nat} {r : List Bool} {b : Bool},l[i]? = some r → r[j]? = some b → b = true
 | [],_,i,j,r,b,h,_=>by cases h
 | l :: rs,h,0,j,r,b,h1,h2=>by
  cases h1
  exact List.all_eq_true.mp (ba h).1 b (List.mem_of_getElem? h2)
 | l :: rs,h,i + 1,j,r,b,h1,h2=>allB_at (ba h).2 (i:=i) h1 h2
structure Says (names : List Str) (bs : PySem.W.Frag → List (List Bool)) (fns : PySem.W.Frag → List He.FnV) (fv : List He.FnV) (tb : PySem.W.Frag → List Addr) (h : Heap) (K : PySem.W.Frag) : Prop where
 b : allB (bs K) = true
 f : fns K = fv
 t : ∀ P ∈ tb K,h.get? P = some (PySem.W.tabObj #[])
noncomputable abbrev Al : Type:=Bool × (Bool × List He.FnV)
noncomputable def obsV (names : List Str) (bs : PySem.W.Frag → List (List Bool)) (fns : PySem.W.Frag → List He.FnV) (tb : PySem.W.Frag → List Addr) (g : Addr → Option Obj) : Al :=
 (fun K : PySem.W.Frag=>(allB (bs K),((tb K).all (tabB g),fns K))) (fragF names g)
noncomputable def valV (fv : List He.FnV) : Al:=(true,(true,fv))
theorem says_of {names : List Str} {bs : PySem.W.Frag → List (List Bool)} {fns : PySem.W.Frag → List He.FnV} {fv : List He.FnV} {tb : PySem.W.Frag → List Addr} {h : Heap} (e : obsV names bs fns tb h.get? = valV fv) : Says names bs fns fv tb h (fragF names h.get?):=by
 have e1 : allB (bs (fragF names h.get?)) = true:=congrArg (fun z : Al=>z.1) e
 have e2 : (tb (fragF names h.get?)).all (tabB h.get?) = true:=congrArg (fun z : Al=>z.2.1) e
 have e3 : fns (fragF names h.get?) = fv:=congrArg (fun z : Al=>z.2.2) e
 exact ⟨e1,e3,fun P hP=>tab_ok (List.all_eq_true.mp e2 P hP)⟩
noncomputable def hookV (names : List Str) (bs : PySem.W.Frag → List (List Bool)) (fns : PySem.W.Frag → List He.FnV) (fv : List He.FnV) (tb : PySem.W.Frag → List Addr) : PySem.W.Hook where
 α:=Al
 obs:=fun s=>obsV names bs fns tb s.heap.get?
 val:=fun _=>valV fv
 says:=fun _ h=>∃ K : PySem.W.Frag,K.In h ∧ Says names bs fns fv tb h K
 of:=fun _ _ e=>⟨_,He.frG_in,says_of e⟩
 keeps:=fun _ _ _ ⟨K,hK,c⟩ k=>⟨K,PySem.W.Frag.In.keeps hK k,⟨c.b,c.f,fun P hP=>k _ _ (c.t P hP)⟩⟩
theorem obsV_eq {names : List Str} {bs : PySem.W.Frag → List (List Bool)} {fns : PySem.W.Frag → List He.FnV} {fv : List He.FnV} {tb : PySem.W.Frag → List Addr} {g : Addr → Option Obj} {s : Shared} (h : ∀ a,g a = s.heap.get? a) : obsV names bs fns tb g = (hookV names bs fns fv tb).obs s:=by
 have e : g = s.heap.get?:=funext h
 rw [e] <;> rfl
section
variable {names : List Str} {bs : PySem.W.Frag → List (List Bool)} {fns : PySem.W.Frag → List He.FnV} {fv : List He.FnV} {tb : PySem.W.Frag → List Addr} {h : Heap} {K : PySem.W.Frag}
theorem Says.at (c : Says names bs fns fv tb h K) (i j : Nat) {r : List Bool} {b : Bool} (h1 : (bs K)[i]? = some r:=by rfl) (h2 : r[j]? = some b:=by rfl) : b = true:=allB_at c.b h1 h2
theorem Says.fn (c : Says names bs fns fv tb h K) (i : Nat) {x y : He.FnV} (h1 : (fns K)[i]? = some x:=by rfl) (h2 : fv[i]? = some y:=by rfl) : x = y:=by
 rw [c.f,h2] at h1
 exact (Option.some.inj h1).symm
end
end Hd
section
/-- the law's walk,over a head by facts -/
theorem walk_ofGE {l : PySem.W.OpenLaw} {n k : Nat} {q : Program} {loose : List Str} {XP : (Str → Option Value) → Heap → Prop} {YP : World → Heap → Prop} {d : DefRec} {x : Str} (hn : l.most = some n) (hn2 : n ≤ sizeLine)
  (hdf : d.params.defaults = []) (hr : RoomG k callerA)
  (F : ∀ (w : World) (mg : Str → Option Value) (fa : Addr) (h : Heap),YP w h → h.Ns mainGlobals mg → mg d.name = some (.ref fa) →
   ∃ (K : PySem.W.Frag) (sp : Sp) (fd : FuncData),K.In h ∧ (∀ (H : Hp) (a : Addr) (ns : List Int),ns.length ≤ n → Only H → SqL K H a (ns.map V.int) → sp [.ref a] H (fun v _=>v = .bl true) fun _ _ _=>False) ∧
    (∀ (s : Shared) (u : Value),BindsTo s fd { pos:=[u] } [(x,u)]) ∧ ∀ base : Heap,PySem.W.Frag.In K base → base.Ns mainGlobals mg → FnG l.prog w K mg base k fa fd [x] sp) :
  PySem.W.WalkO q loose XP YP l.row.toRowW d [] fun f vs=>call f vs :=
 Att.attach_call hn hdf fun w s₀ s₁ mg mb fa o pm cd doc a vs ns G Y ho hd hcd hmg hobj hints hlen hg=>by
  obtain ⟨K,sp,fd,KX,hsp,hb,hF⟩:=F w mg fa s₁.heap Y G.T.g hmg
  exact law_callG KX G.T.g G.T.b G.T.builtins G.T.nolimit hg hobj hints (Nat.le_trans hlen hn2) hr hF hb fun H hO hS=>hsp H a ns hlen hO hS
end
end VL
namespace VL
open PySem PySem.Spec PyProof.Rows L2
section
variable {X : Cx}
end
end VL
namespace PySem.W
open PySem PyProof.Rows
open PySem.Sem (wp)
section
variable {prog : Program} {w : World} {A : Around} {E : Value → Shared → Prop} {s : Shared}
end
end PySem.W
namespace VL
open PySem PySem.Spec PyProof.Rows L2 PySem.W
section
variable {X : Cx}
end
section
variable {X : Cx} {e : Expr} {te : TE} {p apos cpos pos : Pos}
end
section
variable {X : Cx} {W : WX} {x ek e1 : Expr} {fx fk f1 : F U}
end
end VL
namespace VL
open PySem PySem.Spec PyProof.Rows L2
noncomputable abbrev MTup:=Addr × List Key
section
variable (P : Program) (w : World)
noncomputable def mH (k : List Key) : Int:=tupleKeyHash (mixKind P w) k
noncomputable def MT (h : Heap) (k : List Key) (a : Addr) : Prop:=IsTupleKey (mixKind P w) h k a
noncomputable def mRows (L : List MTup) : List (Int × Value):=L.map fun q=>(mH P w q.2,.ref q.1)
noncomputable def mHs (L : List MTup) : List Int:=L.map fun q=>mH P w q.2
/-- the set at a holds the tuples L,in the order of its table -/
structure MSet (h : Heap) (a : Addr) (L : List MTup) (es : Array (Int × Value)) (ep : Nat) (t : SetTable) : Prop where
 obj : ∃ o,h.get? a = some o ∧ o.ExactSet ∧ o.data = .set es ep t
 rw' : es.toList = mRows P w L
 tb : TabOk t (mHs P w L)
 dis : (L.map (·.2)).Nodup
 tu : ∀ q ∈ L,MT P w h q.2 q.1
 le' : w.params.followText "set-order" = true ∨ t.led = true
 rm : L.length * 5 < t.mask * 3
 fw : L.length < 64
end
section
variable {P : Program} {w : World} {A : Around} {E : Value → Shared → Prop} {s : Shared} {k : List Key} {b : Addr}
end
section
variable {P : Program} {w : World} {A : Around} {E : Value → Shared → Prop} {s : Shared} {a : Addr} {L : List MTup} {es : Array (Int × Value)} {ep : Nat} {t : SetTable}
theorem MSet.keep {h h' : Heap} (Z : MSet P w h a L es ep t) (ka : ∀ o,h.get? a = some o → h'.get? a = some o) (kt : ∀ q ∈ L,MT P w h' q.2 q.1) : MSet P w h' a L es ep t:=by
 obtain ⟨o,go,r⟩:=Z.obj
 exact ⟨⟨o,ka o go,r⟩,Z.rw',Z.tb,Z.dis,kt,Z.le',Z.rm,Z.fw⟩
end
end VL
namespace VL
open PySem PySem.Spec PyProof.Rows L2
/-- a kind of sets: the tracked thing at an address,the empty one,what may be added and what it gives -/
structure SKd (X : Cx) (ι : Type) where
 O : Addr → ι → HO
 e0 : ι
 can : V → Hp → ι → ι → Prop
 new : ∀ {H : Hp} {h : Heap},ObjOk X.prog X.w H (h.push { cls:=.type "set",dict:=none,data:=.set #[] 0 (.fresh 0 0 (!X.w.params.followText "set-order")) }) h.objs.size (O h.objs.size e0)
 add : ∀ (s0 : Shared) (H0 : Hp) (sc : Scope) (env : Env) (fp : List Addr) {pins : List (Addr × Obj)} {σ : L2.St} {H : Hp} {s : Shared} {E : Value → Shared → Prop} {D : Addr} {i i2 : ι} {y : V} {v : Value} {Q : Value → Shared → Prop},
  Inv (X.blk s0 H0 sc env fp) pins σ H s → H D = some (O D i) → can y H i i2 → RelV y v → (∀ s2,Inv (X.blk s0 H0 sc env fp) pins σ (upd H D (O D i2)) s2 → Q .none s2) →
   wpAny (model X.prog X.w) X.A (call (.builtin "set.add") [.ref D,v]) Q E s
section
variable {elt tA iA tB iB : Expr} {cA cB : List Expr} {sc : Scope} {ps : Pos} {it acc : Value}
variable {prog : Program} {w : World} {A : Around} {R : Result → Shared → Prop} {s : Shared} {env : Env}
end
section
variable {X : Cx} {ι : Type}
variable {elt tA iA tB iB : Expr} {cA cB : List Expr} {sc : Scope} {own : List (Str × Nat)} {us : List Nat} {ps pp : Pos} {wi wj : TI} {g gj : TG} {tt tj : TT} {te : TE} {S : SKd X ι}
end
end VL
namespace VL
open PySem PySem.Spec PyProof.Rows L2
section
variable {P : Program} {w : World} {A : Around} {E : Value → Shared → Prop} {s : Shared} {a : Addr} {L : List MTup} {es : Array (Int × Value)} {ep : Nat} {t : SetTable}
end
noncomputable def MSet0 (P : Program) (w : World) (h : Heap) (a : Addr) (L : List MTup) : Prop:=∃ (M : List MTup) (es : Array (Int × Value)) (ep : Nat) (t : SetTable),M.Perm L ∧ (∃ o,h.get? a = some o ∧ o.ExactSet ∧ o.data = .set es ep t) ∧ es.toList = mRows P w M ∧ TabOk t (mHs P w M) ∧ (M.map (·.2)).Nodup ∧
 (w.params.followText "set-order" = true ∨ t.led = true) ∧ M.length * 5 < t.mask * 3 ∧ M.length < 64
section
variable {P : Program} {w : World} {h : Heap} {a : Addr} {L : List MTup} {es : Array (Int × Value)} {ep : Nat} {t : SetTable}
theorem MSet.low {M : List MTup} (Z : MSet P w h a M es ep t) (pm : M.Perm L) : MSet0 P w h a L:=⟨M,es,ep,t,pm,Z.obj,Z.rw',Z.tb,Z.dis,Z.le',Z.rm,Z.fw⟩
end
section
variable {X : Cx} {pins : List (Addr × Obj)} {σ : L2.St} {H : Hp} {s : Shared}
end
section
variable {P : Program} {w : World} {A : Around} {E : Value → Shared → Prop} {s : Shared} {a : Addr} {M : List MTup} {es : Array (Int × Value)} {ep : Nat} {t : SetTable}
end
end VL
namespace VL
open PySem PySem.Spec PyProof.Rows L2
noncomputable def Soft (o : HO) : Prop:=(∃ f,o = .ext f ∧ (∀ c q,o ≠ LamX.CodeO c q) ∧ ∀ (a : Addr) (ob : Obj) (es : Array DictEntry) (ep : Nat),ob.data = .dict es ep → o ≠ PinO a ob) ∨ ∃ S n,o = .set S n
/-- all but one soft thing stays -/
structure But (D : Addr) (H H' : Hp) : Prop where
 oth : ∀ a,a ≠ D → H' a = H a
 was : ∃ o,H D = some o ∧ Soft o
section
variable {K : PySem.W.Frag} {m : List Addr} {H H' : Hp} {D : Addr}
theorem But.at' (b : But D H H') {a : Addr} {o : HO} (h : H a = some o) (n : ¬ Soft o) : H' a = some o:=by
 rw [b.oth a fun e=>?_,h]
 obtain ⟨u,e1,e2⟩:=b.was
 rw [e,e1] at h
 cases h
 exact n e2
theorem ns_l {vs : List V} : ¬ Soft (.lst vs):=by rintro (⟨f,e,_⟩ | ⟨S,n,e⟩) <;> cases e
theorem ns_t {vs : List V} : ¬ Soft (.tup vs):=by rintro (⟨f,e,_⟩ | ⟨S,n,e⟩) <;> cases e
theorem ns_k {vs : List (Key × V)} : ¬ Soft (.dK vs):=by rintro (⟨f,e,_⟩ | ⟨S,n,e⟩) <;> cases e
theorem ns_f {o : Obj} {u : HO} : ¬ Soft (.frz o u):=by rintro (⟨f,e,_⟩ | ⟨S,n,e⟩) <;> cases e
theorem ns_i {C x : Addr} {fs : List (Str × V)} : ¬ Soft (.ins C x fs):=by rintro (⟨f,e,_⟩ | ⟨S,n,e⟩) <;> cases e
theorem ns_x {fs : List (Str × V)} : ¬ Soft (.xd fs):=by rintro (⟨f,e,_⟩ | ⟨S,n,e⟩) <;> cases e
theorem ns_b {ps : Array Value} : ¬ Soft (.tbl ps):=by rintro (⟨f,e,_⟩ | ⟨S,n,e⟩) <;> cases e
theorem ns_c {c : Addr} {q : Str} : ¬ Soft (LamX.CodeO c q):=by
 rintro (⟨f,e,h⟩ | ⟨S,n,e⟩)
 ·exact h.1 c q rfl
 ·cases e
theorem ns_p {w : World} {a : Addr} {o : Obj} {es : List (NestedKey × Addr × V)} (h : KdOk w a o es) : ¬ Soft (PinO a o):=by
 obtain ⟨-,-,xs,-,-,en,ep,-,hd,-⟩:=h
 rintro (⟨f,e,h⟩ | ⟨S,n,e⟩)
 ·exact h.2 a o en ep hd rfl
 ·cases e
mutual
theorem RpD.but (b : But D H H') : ∀ (d : VL.D) (v : V),RpD K m H d v → RpD K m H' d v
 | .non,_,h=>h
 | .bl _,_,h=>h
 | .int _,_,h=>h
 | .str _,_,h=>h
 | .ty _,_,h=>h
 | .obj _,_,h=>h
 | .tup ds,_,⟨a,vs,e,t,r⟩=>⟨a,vs,e,t.elim (fun z=>.inl ⟨z.1,b.at' z.2 ns_t⟩) .inr,RpDs.but b ds vs r⟩
 | .lst ds,_,⟨a,vs,e,t,r⟩=>⟨a,vs,e,⟨t.1,b.at' t.2 ns_l⟩,RpDs.but b ds vs r⟩
 | .dct ks,_,⟨a,vs,e,t,r⟩=>⟨a,vs,e,⟨t.1,t.2.elim (fun z=>.inl (b.at' z ns_k)) fun ⟨o,z⟩=>.inr ⟨o,b.at' z ns_f⟩⟩,RpK.but b ks vs r⟩
 | .ins C fs,_,⟨a,dx,vs,e,t,r⟩=>⟨a,dx,vs,e,⟨t.1,b.at' t.2 ns_i⟩,RpF.but b fs vs r⟩
 | .scr ns,_,⟨a,e,t⟩=>⟨a,e,t.elim (fun ⟨n,o,z⟩=>.inl ⟨n,o,b.at' z ns_f⟩) .inr⟩
 | .kdc w ks,_,⟨a,o,es,e,t,z,r⟩=>⟨a,o,es,e,⟨t.1,b.at' t.2 (ns_p z)⟩,z,RpKd.but b ks es r⟩
 | .exc _ _ _ fs,_,⟨e,.inl h⟩=>⟨e,.inl h⟩
 | .exc _ _ _ fs,_,⟨e,.inr ⟨dd,vs,q,t,r⟩⟩=>⟨e,.inr ⟨dd,vs,q,⟨t.1,b.at' t.2 ns_x⟩,RpF.but b fs vs r⟩⟩
theorem RpDs.but (b : But D H H') : ∀ (ds : List VL.D) (vs : List V),RpDs K m H ds vs → RpDs K m H' ds vs
 | [],_,h=>h
 | d :: ds,_,⟨v,r,e,h1,h2⟩=>⟨v,r,e,RpD.but b d v h1,RpDs.but b ds r h2⟩
theorem RpK.but (b : But D H H') : ∀ (ds : List (Key × VL.D)) (vs : List (Key × V)),RpK K m H ds vs → RpK K m H' ds vs
 | [],_,h=>h
 | (_,d) :: ds,_,⟨v,r,e,h1,h2⟩=>⟨v,r,e,RpD.but b d v h1,RpK.but b ds r h2⟩
theorem RpKd.but (b : But D H H') : ∀ (ds : List (VL.D × VL.D)) (vs : List (NestedKey × Addr × V)),RpKd K m H ds vs → RpKd K m H' ds vs
 | [],_,h=>h
 | (k,d) :: ds,_,⟨n,c,v,r,e,q,h0,h1,h2⟩=>⟨n,c,v,r,e,q,RpD.but b k _ h0,RpD.but b d v h1,RpKd.but b ds r h2⟩
theorem RpF.but (b : But D H H') : ∀ (ds : List (Str × VL.D)) (vs : List (Str × V)),RpF K m H ds vs → RpF K m H' ds vs
 | [],_,h=>h
 | (_,d) :: ds,_,⟨v,r,e,h1,h2⟩=>⟨v,r,e,RpD.but b d v h1,RpF.but b ds r h2⟩
end
theorem RpU.but (b : But D H H') : ∀ (u : U) (v : V),RpU K m H u v → RpU K m H' u v
 | .d x,v,h=>RpD.but b x v h
 | .ref _,_,h=>h
theorem RpUs.but (b : But D H H') : ∀ (us : List U) (vs : List V),RpUs K m H us vs → RpUs K m H' us vs
 | [],_,h=>h
 | u :: us,_,⟨v,r,e,h1,h2⟩=>⟨v,r,e,RpU.but b u v h1,RpUs.but b us r h2⟩
theorem RpUK.but (b : But D H H') : ∀ (us : List (Key × U)) (vs : List (Key × V)),RpUK K m H us vs → RpUK K m H' us vs
 | [],_,h=>h
 | (_,u) :: us,_,⟨v,r,e,h1,h2⟩=>⟨v,r,e,RpU.but b u v h1,RpUK.but b us r h2⟩
theorem RpUKd.but (b : But D H H') : ∀ (us : List (VL.D × U)) (vs : List (NestedKey × Addr × V)),RpUKd K m H us vs → RpUKd K m H' us vs
 | [],_,h=>h
 | (k,u) :: us,_,⟨n,c,v,r,e,q,h0,h1,h2⟩=>⟨n,c,v,r,e,q,RpD.but b k _ h0,RpU.but b u v h1,RpUKd.but b us r h2⟩
theorem RpUF.but (b : But D H H') : ∀ (us : List (Str × U)) (vs : List (Str × V)),RpUF K m H us vs → RpUF K m H' us vs
 | [],_,h=>h
 | (_,u) :: us,_,⟨v,r,e,h1,h2⟩=>⟨v,r,e,RpU.but b u v h1,RpUF.but b us r h2⟩
theorem RpO.but (b : But D H H') {x : Addr} : ∀ (o : O) (ho : HO),RpO K m H x o ho → RpO K m H' x o ho ∧ ¬ Soft ho
 | .lst us,_,⟨vs,e,r⟩=>⟨⟨vs,e,RpUs.but b us vs r⟩,e ▸ ns_l⟩
 | .tup us,_,⟨vs,e,r⟩=>⟨⟨vs,e,RpUs.but b us vs r⟩,e ▸ ns_t⟩
 | .dct us,_,⟨vs,e,r⟩=>⟨⟨vs,e,RpUK.but b us vs r⟩,e ▸ ns_k⟩
 | .lck us,_,⟨ob,vs,e,r⟩=>⟨⟨ob,vs,e,RpUK.but b us vs r⟩,e ▸ ns_f⟩
 | .kdc w us,_,⟨ob,vs,e,z,r⟩=>⟨⟨ob,vs,e,z,RpUKd.but b us vs r⟩,e ▸ ns_p z⟩
 | .ins C us,_,⟨dx,vs,e,r⟩=>⟨⟨dx,vs,e,RpUF.but b us vs r⟩,e ▸ ns_i⟩
 | .tbl P q,_,⟨e,ps,e1,e2,h⟩=>⟨⟨e,ps,e1,e2,fun pos cv hc=>let ⟨c,g1,g2,g3⟩:=h pos cv hc; ⟨c,g1,g2,b.at' g3 ns_c⟩⟩,e1 ▸ ns_b⟩
theorem Rep.but {st : Store} (b : But D H H') (r : Rep K m st H) : Rep K m st H':=⟨r.len,r.nd,fun n o a h1 h2=>by
 obtain ⟨ho,e,q⟩:=r.cell n o a h1 h2
 obtain ⟨q1,q2⟩:=RpO.but b o ho q
 exact ⟨ho,b.at' e q2,q1⟩⟩
theorem RpEnv.but (b : But D H H') {env : VEnv} {σ : L2.St} (h : RpEnv K m H env σ) : RpEnv K m H' env σ :=
 ⟨h.len,fun i u hi=>let ⟨v,h1,h2⟩:=h.at' i u hi; ⟨v,h1,RpU.but b u v h2⟩⟩
end
/-- a kind of sets,as the mirrors see it -/
structure VSet (X : Cx) (ι : Type) extends SKd X ι where
 okd : List D → D → Bool
 soft : ∀ D i,Soft (O D i)
 R : List Addr → Hp → ι → List D → Prop
 r0 : ∀ m H,R m H e0 []
 rext : ∀ {m m' H H' i acc},Stay m H m' H' → R m H i acc → R m' H' i acc
 rbut : ∀ {D m H H' i acc},But D H H' → R m H i acc → R m H' i acc
 put : ∀ {m H i acc d y},R m H i acc → okd acc d = true → RpD X.K m H d y → ∃ i2,can y H i i2 ∧ R m H i2 (acc ++ [d])
section
variable {X : Cx} {ι : Type} {S : VSet X ι} {W : WX} {elt tg iter : Expr} {ifs : List Expr} {scope : Scope} {own : List (Str × Nat)} {pos : Pos} {is : List Nat} {g : U → G} {gt : F Bool} {fe : F U} {fi : F Itb}
/-- what holds between two turns -/
structure SgI (S : VSet X ι) (m1 : List Addr) (H1 : Hp) (D0 : Addr) (m' : List Addr) (st' : Store) (H' : Hp) (acc : List D) : Prop where
 rep : Rep X.K m' st' H'
 ext : Ext m1 H1 m' H'
 out : D0 ∉ m'
 at' : ∃ i,H' D0 = some (S.O D0 i) ∧ S.R m' H' i acc
theorem soft_nk {o : HO} (h : Soft o) : (∀ kvs,o ≠ .dK kvs) ∧ ∀ ps,o ≠ .tbl ps:=⟨fun k e=>ns_k (e ▸ h),fun k e=>ns_b (e ▸ h)⟩
theorem SgI.go {m1 m' m2 : List Addr} {H1 H' H2 : Hp} {D0 : Addr} {st' st2 : Store} {acc : List D} (I : SgI S m1 H1 D0 m' st' H' acc) (r : Rep X.K m2 st2 H2) (x : Ext m' H' m2 H2) : SgI S m1 H1 D0 m2 st2 H2 acc:=by
 obtain ⟨i,e,q⟩:=I.at'
 have s:=soft_nk (S.soft D0 i)
 obtain ⟨e2,n2⟩:=x.toStay.ex D0 _ I.out e s.1 s.2
 exact ⟨r,I.ext.trans x,n2,i,e2,S.rext x.toStay q⟩
variable {tj ij : Expr} {cj : List Expr} {js : List Nat} {gj : U → G} {gtj : F Bool} {fj : F U}
end
end VL
namespace VL
open PySem PySem.Spec PyProof.Rows L2
section
variable {X : Cx} {ι : Type} {S : VSet X ι} {W : WX} {elt tg iter tj ij : Expr} {ifs cj : List Expr} {scope : Scope} {own : List (Str × Nat)} {pos : Pos} {is js ws : List Nat} {g gj : U → G} {gt gtj : F Bool} {fe fj : F U} {fi : F Itb}
end
end VL
namespace VL
open PySem PySem.Spec PyProof.Rows L2
section
variable {P : Program} {w : World} {A : Around} {E : Value → Shared → Prop} {s : Shared}
end
end VL
namespace VL
open PySem PySem.Spec PyProof.Rows L2
end VL
namespace VL
open PySem PySem.Spec PyProof.Rows L2
end VL
namespace VL
open PySem PySem.Spec L2
section
variable {K : PySem.W.Frag} {m : List Addr} {H : Hp} {st : Store}
end
section
variable {X : Cx} {W : WX} {e e2 : Expr} {fs : F (List U)} {pos p tpos : Pos} {elts : List Expr} {kk : Nat}
end
section
variable {X : Cx} {W : WX} {elt tg iter tj ij : Expr} {ifs cj : List Expr} {scope : Scope} {own : List (Str × Nat)} {pos : Pos} {is js ws vs : List Nat} {g gj : U → G} {gt gtj : F Bool} {fe fj : F U} {fi : F Itb}
end
end VL
namespace VL
open PySem PySem.Spec PyProof.Rows L2
section
variable {K : PySem.W.Frag} {m : List Addr} {H : Hp} {st : Store}
end
section
variable {w : World} {h : Heap} {a : Addr}
end
section
variable {P : Program} {w : World} {A : Around} {E : Value → Shared → Prop} {s : Shared}
end
theorem vals_ints {ns : List Int} : ∀ {us : List Value},Vals (ns.map V.int) us → us.length = ns.length ∧ ∀ (i : Nat) (v : Value),us[i]? = some v → ∃ k t,ns[i]? = some k ∧ v = .int k t:=by
 induction ns with
 | nil=>intro us h; cases h; exact ⟨rfl,fun i v e=>by cases e⟩
 | cons n ns ih =>
  intro us h
  cases h with
  | cons r z =>
   obtain ⟨tk,rfl⟩:=r
   obtain ⟨h1,h2⟩:=ih z
   refine ⟨by rw [List.length_cons,List.length_cons,h1],fun i v e=>?_⟩
   cases i with
   | zero=>rw [List.getElem?_cons_zero] at e; cases e; exact ⟨n,tk,rfl,rfl⟩
   | succ i=>rw [List.getElem?_cons_succ] at e; exact h2 i v e
end VL
namespace VL
open PySem PySem.Spec PyProof.Rows L2
section
variable {X : Cx} {pins : List (Addr × Obj)} {σ : L2.St} {H : Hp} {s : Shared} {m : List Addr}
end
section
variable {K : PySem.W.Frag} {m : List Addr} {H : Hp} {st : Store} {w : World}
theorem RpUKd.ofD : ∀ {ds : List (D × D)} {es : List (NestedKey × Addr × V)},RpKd K m H ds es → RpUKd K m H (ds.map fun kv=>(kv.1,.d kv.2)) es
 | [],_,h=>h
 | (k,d) :: ds,_,⟨n,b,v,r,e,q,h0,h1,h2⟩=>⟨n,b,v,r,e,q,h0,h1,RpUKd.ofD h2⟩
end
section
variable {X : Cx} {pins : List (Addr × Obj)} {σ : L2.St} {H : Hp} {s : Shared} {m : List Addr} {W : WX}
end
end VL
namespace VL
open PySem PySem.Spec PyProof.Rows L2
section
variable {X : Cx} {W : WX} {fo : F U} {o : Expr} {apos cpos : Pos}
end
end VL
namespace VL
open PySem PySem.Spec PyProof.Rows L2
/-- a def with one default,a number -/
structure FunE (K : PySem.W.Frag) (x qual : Str) (st : Stmt) (f : Addr) (j : Int) (fd : FuncData) : Prop where
 ex : ∃ (oc : Value) (od : Option Addr) (T : Addr) (kV doc pm : Value) (an : Option Addr) (cdv ct : Value) (osl : Array (Option Value)),
  fd = PySem.W.fnOf x qual (defArgs st) (defBody st) (defScope st) (.ref T) kV doc pm an cdv ct ∧ K.lookup f = some ⟨oc,od,.func fd,osl⟩ ∧ PySem.W.codeIn K cdv qual = true ∧
  ∃ (o : Obj) (t : Tok) (n : Nat),K.lookup T = some o ∧ o.data = .seq #[.int j t] n
 kp : PySem.W.keepIn K (.ref f) = true
section
variable {P : Program} {w : World} {K : PySem.W.Frag} {mg : Str → Option Value} {base : Heap}
end
section
variable {K : PySem.W.Frag} {x qual : Str} {st : Stmt} {f : Addr} {j : Int} {fd : FuncData} {ps : List Str}
theorem FunE.tok (F : FunE K x qual st f j fd) : ∃ t0,∃ (T : Addr) (o : Obj) (n : Nat) (oc : Value) (od : Option Addr) (kV doc pm : Value) (an : Option Addr) (cdv ct : Value) (osl : Array (Option Value)),fd = PySem.W.fnOf x qual (defArgs st) (defBody st) (defScope st) (.ref T) kV doc pm an cdv ct ∧ K.lookup T = some o ∧ o.data = .seq #[.int j t0] n:=by
 obtain ⟨oc,od,T,kV,doc,pm,an,cdv,ct,osl,e,lk,hcd,o,t,n,lT,oT⟩:=F.ex
 exact ⟨t,T,o,n,oc,od,kV,doc,pm,an,cdv,ct,osl,e,lT,oT⟩
end
namespace Hd
end Hd
end VL
namespace VL
open PySem PySem.Spec PyProof.Rows L2
section
variable {X : Cx}
end
end VL
namespace VL
open PySem PySem.Spec PyProof.Rows L2
section
variable {X : Cx} {W : WX} {elt tg iter : Expr} {ifs : List Expr} {scope : Scope} {own : List (Str × Nat)} {pos : Pos} {is : List Nat} {g : U → G} {gt : F Bool} {fe : F U} {fi : F Itb}
end
end VL
namespace VL
open PySem PySem.Spec PyProof.Rows L2
theorem rawInt_inj {i j : Nat} (h : (rawInt i == rawInt j) = true) : i = j:=by
 simp [rawInt] at h
 omega
section
open PySem.HandSPX
/-- noted at a place that is not this frame: this frame notes it anew -/
theorem look_held {M : Model} {A : Around} {E : Value → Shared → Prop} {s : Shared} {Z : Obj → Prop} {B : Heap} {env : Env} {out : List Env} {L L' a : Addr} {Q : Unit → Shared → Prop} (st : Steady Z) (fs : A.frames = some (env :: out)) (ef : env.frame = some L)
  (hne : L' ≠ L) (hh : HeldZ B (env :: out) a Z L' s.heap) (k : ∀ h',HeldZ B (env :: out) a Z L h' → s.heap.UpToSlots h' → Q () { s with heap:=h' }) : wpAny M A (noteFrame (.ref a) env) Q E s:=by
 rcases hh with ⟨ground,fresh,frames,oa,va,T,oT,vT,a1,a2,a3,a4,t1,t2,t3,t4,t5⟩
 have sz : 3 < vT.size:=(Array.getElem?_eq_some_iff.mp t5).1
 have same : ∀ b,T ≠ b → (s.heap.update T (Obj.mapFields (·.setIfInBounds 3 Value.none))).get? b = s.heap.get? b:=fun b hb=>Heap.get?_update_other _ _ hb
 have notT : ∀ b o,s.heap.get? b = some o → (∀ v,o.data ≠ .fields v) → T ≠ b:=by
  intro b o e1 e2 e3
  subst e3
  rw [t3] at e1
  exact e2 vT (by rw [← Option.some.inj e1]; exact t4)
 have other : ¬ ((rawInt L' == rawInt L) = true):=fun z=>hne (rawInt_inj z)
 simp only [noteFrame,ef]
 apply wpAny_bind
 apply wpAny_field a1 a3 a4
 simp only [show (Value.ref T != Value.none) = true from by simp,if_true]
 apply wpAny_bind
 apply wpAny_field t3 t4 t5
 rw [if_neg other]
 apply wpAny_bind
 apply wpAny_setField t3 t4 sz
 refine wpAny_entryZ st fs ?_ ef (by rw [same a t2]; exact a1) ?_ fresh a3 (Array.getElem?_eq_some_iff.mp a4).1 a2 ?_
 ·exact frames.of_keeps fun b o e n=>⟨o,by rw [same b (notT b o e n)]; exact e,rfl⟩
 ·intro b o e
  have : T ≠ b:=by
   intro z
   rw [z,e] at t1
   cases t1
  rw [same b this]
  exact ground b o e
 ·rintro h' ⟨n1,n2,n3,n4⟩
  exact k h' ⟨n1,fresh,n2,n3⟩ fun b o e n=>n4 b o (by rw [same b (notT b o e n)]; exact e) n
/-- whatever is in the air,this frame notes it -/
theorem look_any {M : Model} {A : Around} {E : Value → Shared → Prop} {s : Shared} {Z : Obj → Prop} {B : Heap} {env : Env} {out : List Env} {L L' a : Addr} {Q : Unit → Shared → Prop} (st : Steady Z) (fs : A.frames = some (env :: out)) (ef : env.frame = some L)
  (x : L2.Sky B (env :: out) a Z L' s.heap) (k : ∀ h',HeldZ B (env :: out) a Z L h' → s.heap.UpToSlots h' → Q () { s with heap:=h' }) : wpAny M A (noteFrame (.ref a) env) Q E s:=by
 rcases x with ⟨b1,b2,b3,o,v,b4,b5,b6,b7⟩ | fl | hh
 ·exact look_newZ st fs b3 ef b4 b1 b2 b6 b7 b5 k
 ·exact looks_onZ st fs ef fl k
 ·by_cases e : L' = L
  ·subst e
   exact againZ ef hh.2.2.2 (k _ hh fun b o q _=>⟨o.slots,q⟩)
  ·exact look_held st fs ef e hh k
end
/-- a comprehension's own variables share the def's frame -/
theorem note_same {env ce : Env} {x : Value} (h : ce.frame = env.frame) : noteFrame x ce = noteFrame x env:=by
 unfold noteFrame PySem.frameOf
 rw [h]
/-- the exception goes on once the comprehension's variables are let go -/
noncomputable def goesOn (M : Model) (A : Around) (E : Value → Shared → Prop) (x : Value) (ce : Env) (s' : Shared) : Prop :=
 ∃ m,s'.heap.Ns ce.locals m ∧ ∀ h',Heap.SameBut ce.locals s'.heap h' → wpAny M A (passOn "comprehension.variables-let-go" x ce : Sem Value) (fun _ _=>False) E { s' with heap:=h' }
theorem funFrames_but {base h h' : Heap} {C : Addr} (sb : Heap.SameBut C h h') {l : List Env} (h0 : h.FunFrames base l) (hn : ∀ L ∈ frs l,L ≠ C) : h'.FunFrames base l:=by
 induction l with
 | nil=>exact h0
 | cons e l ih =>
  have tail:=ih h0.2.2 fun L hL=>hn L (by
   obtain ⟨q,hq,z⟩:=List.mem_filterMap.mp hL
   exact List.mem_filterMap.mpr ⟨q,List.mem_cons_of_mem _ hq,z⟩)
  obtain ⟨L,o,f1,f2,f3,f4⟩:=h0.2.1
  have hL : L ≠ C:=hn L (List.mem_filterMap.mpr ⟨e,List.mem_cons_self,f1⟩)
  exact ⟨h0.1,⟨L,o,f1,f2,by rw [sb.2 L hL]; exact f3,f4⟩,tail⟩
/-- what a turn of a comprehension lets out,its def takes -/
theorem blk_takes {X : Cx} {W : WX} {pins : List (Addr × Obj)} {σ : L2.St} {H3 : Hp} {s3 : Shared} {scope : Scope} {ce : Env} {fp : List Addr}
  (hs : X.stack = X.env :: X.outer) (hf : X.env.frame = some X.env.locals) (tk : Takes X W) (I3 : Inv X pins σ H3 s3) (hcf : ce.frame = X.env.frame) (hCs : s3.heap.objs.size ≤ ce.locals) (f3 : ∀ b ∈ fp,FpOk X pins H3 b ∧ b < s3.heap.objs.size) :
  Takes ((X.blk s3 H3 scope ce fp).tr [] (notedBy (model X.prog X.w) X.A ce fun e s'=>goesOn (model X.prog X.w) X.A X.xe e ce s')) (fun c d _ H'=>W c d σ H'):=by
 intro u s' x
 obtain ⟨a,B,sI,pins',σ8,H8,cls,d,rfl,I,nb,up,sky,na,os,ag,w⟩:=x
 show wpAny (model X.prog X.w) X.A (noteFrame (.ref a) ce) (fun _ s''=>goesOn (model X.prog X.w) X.A X.xe (.ref a) ce s'') _ s'
 rw [note_same hcf]
 have sky' : L2.Sky B (X.env :: X.outer) a (Zc cls d) ce.locals s'.heap:=by rw [← hs]; exact sky
 have nb0 : ∀ b o,sI.heap.get? b = some o → b ∉ frs X.stack → B.get? b = some o:=nb
 have nC : H8 ce.locals = none:=I.free
 have I7 : Inv X pins σ H8 sI:=I3.call' (ch:=fp) I.os I.base I.hok I.bare fun b hb=>⟨(f3 b hb).1.2.2.2.1,(f3 b hb).1.2.1,(f3 b hb).1.2.2.2.2.1,(f3 b hb).1.2.2.2.2.2⟩
 obtain ⟨c1,c2,c3,c4,c5,c6⟩:=I3.fpOk hCs nC
 obtain ⟨G,hG1,hG2⟩:=restrict sI.heap fun b=>decide (b ≠ ce.locals)
 obtain ⟨B',hB1,hB2⟩:=restrict B fun b=>decide (b ≠ ce.locals)
 have hG : ∀ b o,G.get? b = some o → b ≠ ce.locals ∧ sI.heap.get? b = some o:=fun b o e=>by
  by_cases hb : b = ce.locals
  ·rw [hG2 b (by simp [hb])] at e; cases e
  ·exact ⟨hb,by rw [hG1 b (by simpa using hb)] at e; exact e⟩
 have hB : ∀ b o,B'.get? b = some o → b ≠ ce.locals ∧ B.get? b = some o:=fun b o e=>by
  by_cases hb : b = ce.locals
  ·rw [hB2 b (by simp [hb])] at e; cases e
  ·exact ⟨hb,by rw [hB1 b (by simpa using hb)] at e; exact e⟩
 have hBn : ∀ b,B.get? b = none → B'.get? b = none:=fun b e=>by
  cases q : B'.get? b with
  | none=>rfl
  | some o=>have:=(hB b o q).2; rw [e] at this; cases this
 have I8 : Inv X pins σ H8 { sI with heap:=G }:=I7.turned (t':=sI.toks) (fun b o hb e=>by rw [hG1 b (by simpa using hb)]; exact e) c1 c2 c4 c5 c6
 obtain ⟨m,⟨oC,es,ep,ho,hd,hk⟩,_⟩:=I.loc
 have hfs : ∀ L ∈ frs (X.env :: X.outer),L ≠ ce.locals:=fun L hL z=>by
  subst z
  obtain ⟨e,he,q⟩:=List.mem_filterMap.mp hL
  rcases List.mem_cons.mp he with rfl | he
  ·rw [hf] at q; exact c2 (Option.some.inj q).symm
  ·exact c3 (List.mem_filterMap.mpr ⟨e,he,q⟩)
 have hfr : X.A.frames = some (X.env :: X.outer):=by rw [I3.ok.frames,hs]
 refine look_any Zc.steady hfr hf sky' fun h1 hh up1=>?_
 have upC:=up.trans up1
 obtain ⟨slC,eC⟩:=upC ce.locals oC ho (fun vs z=>by rw [hd] at z; cases z)
 refine ⟨m,⟨_,es,ep,eC,hd,hk⟩,fun h' sb=>?_⟩
 obtain ⟨stB,hen,hl,oe,vs,T,oT,ts,he,hz,hdv,hv1,hnT,hTe,hT,hdT,ht3⟩:=hh
 have haC : a ≠ ce.locals:=fun z=>by
  rw [z] at he
  have he : h1.get? ce.locals = some oe:=he
  rw [eC] at he; cases he
  have : oC.data = .fields vs:=hdv
  rw [hd] at this; cases this
 have hTC : T ≠ ce.locals:=fun z=>by
  rw [z] at hT
  have hT : h1.get? ce.locals = some oT:=hT
  rw [eC] at hT; cases hT
  have : oC.data = .fields ts:=hdT
  rw [hd] at this; cases this
 have he' : h'.get? a = some oe:=(sb.2 a haC).trans he
 have hh' : PySem.HandSPX.HeldZ B' (X.env :: X.outer) a (Zc cls d) X.env.locals h' :=
  ⟨fun b o e=>(sb.2 b (hB b o e).1).trans (stB b o (hB b o e).2),hBn a hen,funFrames_none (funFrames_but sb hl hfs) fun L hL=>hBn L (hl.mem hL).1,
   oe,vs,T,oT,ts,he',hz,hdv,hv1,hBn T hnT,hTe,(sb.2 T hTC).trans hT,hdT,ht3⟩
 have fin : wpAny (model X.prog X.w) X.A (setFlight (.ref a) ce.frame) (fun _ s4=>wpAny (model X.prog X.w) X.A (throw (.ref a) : Sem Value) (fun _ _=>False) X.xe s4) X.xe { s' with heap:=h' }:=by
  rw [hcf,hf]
  refine PySem.HandSPX.setFlight_onZ hh' fun h4 hh4 up4=>wpAny_throw (tk _ _ ?_)
  refine ⟨a,B',{ sI with heap:=G },pins,σ,H8,cls,d,rfl,I8,fun b o e hb=>?_,fun b o e hnf=>?_,.inr (.inr (by rw [hs]; exact hh4)),na,os,ag,w⟩
  ·obtain ⟨q1,q2⟩:=hG b o e
   rw [hB1 b (by simpa using q1)]
   exact nb0 b o q2 hb
  ·obtain ⟨q1,q2⟩:=hG b o e
   obtain ⟨sl,e1⟩:=upC b o q2 hnf
   obtain ⟨sl2,e2⟩:=up4 b { o with slots:=sl } ((sb.2 b q1).trans e1) hnf
   exact ⟨sl2,e2⟩
 unfold PySem.passOn
 refine wpAny_bind (wpAny_field he' hdv hv1 ?_)
 rw [if_neg (show ¬ ((Value.ref T == Value.none) = true) from by simp)]
 first
  | exact wpAny_bind (wpAny_pure (wpAny_bind fin))
  | exact wpAny_bind fin
section
variable {M : Model} {A : Around} {E : Value → Shared → Prop} {s : Shared} {env : Env}
/-- what stands behind a comprehension's code -/
noncomputable def AfterC (M : Model) (A : Around) (E : Value → Shared → Prop) (use : Option (Value → Sem Unit)) (Q : Value → Shared → Prop) (acc : Value) (ce : Env) : Result → Shared → Prop
 | .error x,s'=>goesOn M A E x ce s'
 | .ok _,s'=>match use with
  | none=>∃ m,s'.heap.Ns ce.locals m ∧ ∀ h',Heap.SameBut ce.locals s'.heap h' → Q acc { s' with heap:=h' }
  | some u=>wpAny M A (u acc) (fun _ t=>∃ m,t.heap.Ns ce.locals m ∧ ∀ h',Heap.SameBut ce.locals t.heap h' → Q .none { t with heap:=h' }) E s'
theorem wp_comp {e : Expr} {scope : Scope} {pos : Pos} {newAcc first : Sem Value} {c : Comprehension} {cs : List Comprehension} {cl : List (Str × Addr)} {use : Option (Value → Sem Unit)} {Q : Value → Shared → Prop}
  (hc : clausesOf e = c :: cs) (hf : ∀ x,foldedSetIterable c.iter env x = pure x) (hcl : closureFor scope env = pure cl) (hk : scope.kind = .function) (hn : ∀ x ∈ scope.names,x.2 = .local → scope.names.lookup x.1 = some .local)
  (h : wpAny M A first (fun x s1=>wpAny M A (pyIter x) (fun it s2=>wpAny M A newAcc (fun acc s3=>wpAny M A (newFunctionEnv scope env.globals cl [] env.qual none .none (some env))
   (fun ce s4=>codeAny M A (.compStart e 0 it acc { ce with scope:=relabel scope env }) (AfterC M A E use Q acc { ce with scope:=relabel scope env }) s4) E s3) E s2) E s1) E s) :
  wpAny M A (comprehension e scope env pos newAcc false first use) Q E s:=by
 have keep : ∀ (x : Value) (t : Shared),E x t → E x t:=fun _ _ q=>q
 unfold comprehension
 rw [hcl,hc]
 refine wpAny_bind ?_
 refine wpAny_mono h ?_ keep
 intro x s1 h1
 refine wpAny_bind ?_
 refine wpAny_standAt ?_
 refine wpAny_bind ?_
 refine wpAny_of_eq (hf x) ?_
 refine wpAny_bind ?_
 refine wpAny_holding ?_
 refine wpAny_mono h1 ?_ keep
 intro it s2 h2
 refine wpAny_standIf ?_
 refine wpAny_bind ?_
 refine wpAny_mono h2 ?_ keep
 intro acc s3 h3
 refine wpAny_bind ?_
 refine wpAny_pure ?_
 refine wpAny_bind ?_
 refine wpAny_mono h3 ?_ keep
 intro ce s4 h4
 have loc : ∀ p ∈ scope.names.filter (fun x=>(x.2 == .local || x.2 == .cell) && x.1 != (".0" : Str)),p.2 = .local → Env.kindOf { ce with scope:=relabel scope env } p.1 = some .local:=fun p hp hl=>lookup_relabel_local (hn p (List.mem_filter.mp hp).1 hl)
 dsimp only
 refine wpAny_holding ?_
 refine wpAny_bind ?_
 refine wpAny_attempt ?_
 refine wpAny_holding ?_
 refine wpAny_run ?_
 refine codeAny_mono h4 ?_
 intro r t hr
 cases r with
 | error x =>
  obtain ⟨m,v,go⟩:=(show goesOn M A E x { ce with scope:=relabel scope env } t from hr)
  refine wpAny_bind ?_
  refine wpAny_holding ?_
  refine wpAny_comp_letGo (cenv:={ ce with scope:=relabel scope env }) hk _ t m (fun p hp=>loc p (List.mem_reverse.mp hp)) v fun h' _ _ sb=>?_
  exact wpAny_mono (go h' sb) (fun _ _ z=>z.elim) keep
 | ok f =>
  cases use with
  | none =>
   obtain ⟨m,v,go⟩:=hr
   refine wpAny_bind ?_
   refine wpAny_holding ?_
   refine wpAny_comp_letGo (cenv:={ ce with scope:=relabel scope env }) hk _ t m (fun p hp=>loc p (List.mem_reverse.mp hp)) v fun h' _ _ sb=>?_
   exact wpAny_pure (go h' sb)
  | some u =>
   refine wpAny_bind ?_
   refine wpAny_rule ?_
   refine wpAny_bind ?_
   refine wpAny_holding ?_
   refine wpAny_mono hr ?_ keep
   rintro _ t2 ⟨m,v,go⟩
   refine wpAny_bind ?_
   refine wpAny_comp_letGo (cenv:={ ce with scope:=relabel scope env }) hk _ t2 m (fun p hp=>?_) v fun h' _ _ sb=>wpAny_pure (go h' sb)
   exact loc p (List.mem_reverse.mp ((List.mem_append.mp hp).elim List.mem_of_mem_drop List.mem_of_mem_take))
end
noncomputable def lxStep (k : Nat) (tg : U → G) (tt : F Bool) (fe : F U) (env0 : VEnv) (u : U) : Store → R Unit:=fun st=>match tg u env0 st with
 | .ok env1 .nx st1=>match tt env1 st1 with
  | .ok false st2=>.ok () st2
  | .ok true st2=>match fe env1 st2 with
   | .ok y st3=>match st3[k]? with
    | some (.lst acc)=>if acc.length < sizeLine then .ok () (st3.set k (.lst (acc ++ [y]))) else .bad
    | _=>.bad
   | .ex c fs st3=>.ex c fs st3
   | .bad=>.bad
  | _=>.bad
 | _=>.bad
noncomputable def lxL (k : Nat) (tg : U → G) (tt : F Bool) (fe : F U) (env0 : VEnv) : List U → Store → R Unit
 | []=>fun st=>.ok () st
 | u :: us=>fun st=>match lxStep k tg tt fe env0 u st with
  | .ok _ st1=>lxL k tg tt fe env0 us st1
  | .ex c fs st1=>.ex c fs st1
  | .bad=>.bad
noncomputable def lxEnd (k : Nat) : R Unit → R U
 | .ok a st=>lcEnd k (.ok a st)
 | .ex c fs st=>match cutS k st with
  | some s=>.ex c fs s
  | none=>.bad
 | .bad=>.bad
noncomputable def fLcX (fi : F Itb) (tg : U → G) (tt : F Bool) (fe : F U) (vs : List Nat) : F U:=bnd fi fun t=>fun env st=>match t with
 | .lst us=>lxEnd st.length (lxL st.length tg tt fe (wipeE env vs) us (st ++ [.lst []]))
 | .cell _ _=>.bad
theorem lxStep_ok {k : Nat} {tg : U → G} {tt : F Bool} {fe : F U} {env0 : VEnv} {u : U} {st s : Store} (h : lcStep k tg tt fe env0 u st = .ok () s) : lxStep k tg tt fe env0 u st = .ok () s:=by
 unfold lcStep at h
 unfold lxStep
 cases e1 : tg u env0 st with
 | bad=>rw [e1] at h; cases h
 | ex c fs ev st1=>rw [e1] at h; cases h
 | ok env1 fl st1 =>
  rw [e1] at h
  cases fl with
  | nx =>
   simp only at h ⊢
   cases e2 : tt env1 st1 with
   | bad=>rw [e2] at h; cases h
   | ex c fs st2=>rw [e2] at h; cases h
   | ok b st2 =>
    rw [e2] at h
    cases b with
    | false=>exact h
    | true =>
     simp only at h ⊢
     cases e3 : fe env1 st2 with
     | bad=>rw [e3] at h; cases h
     | ex c fs st3=>rw [e3] at h; cases h
     | ok y st3=>rw [e3] at h; exact h
  | _=>cases h
theorem lxL_ok {k : Nat} {tg : U → G} {tt : F Bool} {fe : F U} {env0 : VEnv} : ∀ {us : List U} {st s : Store},lcL k tg tt fe env0 us st = .ok () s → lxL k tg tt fe env0 us st = .ok () s
 | [],_,_,h=>h
 | u :: us,st,s,h=>by
  unfold lcL at h
  unfold lxL
  cases e : lcStep k tg tt fe env0 u st with
  | ok a st1 =>
   rw [e] at h
   rw [lxStep_ok (e.trans (by cases a; rfl))]
   exact lxL_ok h
  | ex c fs st1=>rw [e] at h; cases h
  | bad=>rw [e] at h; cases h
noncomputable abbrev WE (E : XK) : WX:=fun c d _ H=>E c d H
noncomputable abbrev ceOf (X : Cx) (scope : Scope) (t : Shared) : Env:=compEnvC scope (cellsFrom (t.heap.objs.size + 1) scope.names (cloFrom X.env.cells scope.names [])) t.heap.objs.size X.env
theorem lx_cut {K : PySem.W.Frag} {m1 m' : List Addr} {H1 H' : Hp} {st' : Store} {k : Nat} {D0 : Addr} {c : Value} {fs : XF} {d : Option Addr} {Q : VK} {E : XK} (I : LcI K m1 H1 k D0 m' st' H') (hk : k = m1.length) (x : RpX K m' H' fs d)
  (p : PU K m1 H1 Q E (lxEnd k (.ex c fs st'))) : E c d H':=by
 unfold lxEnd at p
 simp only at p
 cases hs : cutS k st' with
 | none=>rw [hs] at p; exact p.elim
 | some s =>
  rw [hs] at p
  refine p d (m'.take k) H' (I.rep.cut hs) (ext_cut I.ext (by omega)) ?_
  cases fs with
  | none=>cases d with
   | none=>trivial
   | some dd=>exact x.elim
  | some fl=>cases d with
   | none=>exact x.elim
   | some dd =>
    obtain ⟨ws,h1,h2,h3⟩:=x
    exact ⟨ws,h1,fun z=>h2 (List.mem_of_mem_take z),RpF.stay ⟨fun a o n e _ _=>⟨e,fun z=>n (List.mem_of_mem_take z)⟩,fun a kvs n e=>⟨e,fun z=>n (List.mem_of_mem_take z)⟩,fun _ _ _ e=>e⟩ _ _ h3⟩
section
variable {X : Cx} {E : XK} {elt tg iter : Expr} {ifs : List Expr} {scope : Scope} {own : List (Str × Nat)} {pos pos' : Pos} {is vs : List Nat} {g : U → G} {gt : F Bool} {fe : F U} {fi : F Itb}
end
end VL
namespace VL
open PySem PySem.Spec PyProof.Rows L2
section
variable {α : Type} {f fx fy fz fo : F U} {fs fs' : F (List U)} {b b1 b2 : F Bool} {env env1 : VEnv} {s s1 s2 s3 st : Store} {u v w x y z : U} {us vs ws : List U} {k k1 k2 : Bool} {n m p : Nat} {d : D} {ds : List D} {c : O}
theorem x1 {o : P1} (h1 : fx env s = .ok x s1) (h : o x s1 = some v) : f1 o fx env s = .ok v s1:=by
 unfold f1 bnd
 rw [h1]
 simp only [h,R.of]
theorem x2 {o : P2} (h1 : fx env s = .ok x s1) (h2 : fy env s1 = .ok y s2) (h : o x y s2 = some v) : f2 o fx fy env s = .ok v s2:=by
 unfold f2 bnd
 rw [h1]
 simp only
 rw [h2]
 simp only [h,R.of]
theorem xB (h : f env s = .ok (.d (.bl k)) s1) : asB f env s = .ok k s1:=by
 unfold asB bnd
 rw [h]
/-- grown -/
noncomputable def Gr (st s : Store) : Prop:=∃ cs,s = st ++ cs
theorem Gr.cut (h : Gr st s) (w : WF st) : cutS st.length s = some st:=by
 obtain ⟨cs,rfl⟩:=h
 exact w.cutA cs
end
section
variable {s s' : Store} {p : Nat} {xs : List U} {y : U} {ds : List D}
end
section
variable {N B C N' : VEnv → Store → Prop} {T : U → Store → Prop} {X : Value → XF → VEnv → Store → Prop} {f fx fy fo : F U} {fs : F (List U)} {b : F Bool} {g g1 g2 : G} {env env1 env2 : VEnv} {s s1 s2 st : Store} {u v x y : U} {us : List U} {k : Bool} {n m p i j : Nat}
end
section
variable {Q : U → Store → Prop} {E : Value → XF → Store → Prop} {st s s1 : Store} {u v : U}
end
section
variable {N B C : VEnv → Store → Prop} {T : U → Store → Prop} {X : Value → XF → VEnv → Store → Prop} {f fx fy fo : F U} {fs : F (List U)} {fc : F (List U × List U)} {tg : U → G} {env : VEnv} {s s1 s2 st : Store} {u v : U} {us vs ws : List U} {n m : Nat} {c : Value} {xf : XF} {gU : List U → List U → List U} {mf : List U → M U}
end
section
variable {α : Type} {N B C : VEnv → Store → Prop} {T : U → Store → Prop} {X : Value → XF → VEnv → Store → Prop} {fi : F Itb} {tg : U → G} {body : G} {env : VEnv} {s s1 : Store} {us : List U}
end
section
variable {α : Type} {fi : F Itb} {tg : U → G} {gs : List U → G} {tt : F Bool} {fe : F U} {vs : List Nat} {env env0 env1 env2 : VEnv} {st s s1 s2 : Store} {us : List U} {u : U} {d : D} {p : Bool} {n : Nat}
end
end VL
namespace VL
open PySem PySem.Spec PyProof.Rows L2
section
variable {X : Cx} {W : WX} {kx vx tg iter : Expr} {ifs : List Expr} {scope : Scope} {own : List (Str × Nat)} {pos : Pos} {is : List Nat} {g : U → G} {gt : F Bool} {fk fv : F U} {fi : F Itb}
end
section
variable {P : Program} {w : World} {A : Around} {E : Value → Shared → Prop} {s : Shared} {a : Addr} {S : Str → Bool} {n : Nat}
end
section
variable {X : Cx} {W : WX} {elt tg iter : Expr} {ifs : List Expr} {scope : Scope} {own : List (Str × Nat)} {pos : Pos} {is vs : List Nat} {g : U → G} {gt : F Bool} {fe : F U} {fi : F Itb}
end
end VL
namespace VL
open PySem PySem.Spec PyProof.Rows L2
theorem tkM {α : Type} {M : Model} {A : Around} {s : Shared} {t : Sem α} {Q Q' : α → Shared → Prop} {E E' : Value → Shared → Prop} {n : Nat} (hn : n ≤ s.toks) (h : wpAny M A t Q E s) (k : ∀ a s',n ≤ s'.toks → Q a s' → Q' a s') (ke : ∀ e s',E e s' → E' e s') : wpAny M A t Q' E' s:=wpAny_mono (wpAny_toks_of hn h) (fun a s' x=>k a s' x.1 x.2) (fun e s' x=>ke e s' x.2)
section
variable {X : Cx} {E : XK} {elt tg iter : Expr} {ifs : List Expr} {scope : Scope} {own : List (Str × Nat)} {pos pos' : Pos} {is vs : List Nat} {g : U → G} {gt : F Bool} {fe : F U} {fi : F Itb}
theorem lx_coreT {pins : List (Addr × Obj)} {s : Shared} {σ : L2.St} {H : Hp} {Q : VK} {use : Option (Value → Sem Unit)} {Qf : Value → Shared → Prop} (calm : X.calm = true) (nd : X.N.Nodup) (hst : X.stack = X.env :: X.outer) (hfr : X.env.frame = some X.env.locals) (tk : Takes X (WE E))
  (hi : DI X (WE E) tg iter fi) (ok : BlkOk X.N X.env.scope scope own) (hvv : own.map (·.2) = vs)
  (hg : ∀ (t : Shared) (Ht : Hp) (C : Addr) (cl : List (Str × Addr)) (fp : List Addr),DG (X.blk t Ht scope (compEnvC scope cl C X.env) fp) tg is g)
  (ht : ∀ (t : Shared) (Ht : Hp) (C : Addr) (cl : List (Str × Addr)) (fp : List Addr),DTs (X.blk t Ht scope (compEnvC scope cl C X.env) fp) W0 ifs gt)
  (he : ∀ (t : Shared) (Ht : Hp) (C : Addr) (cl : List (Str × Addr)) (fp : List Addr) (xe : Value → Shared → Prop),Takes ((X.blk t Ht scope (compEnvC scope cl C X.env) fp).tr [] xe) (WE E) → PET ((X.blk t Ht scope (compEnvC scope cl C X.env) fp).tr [] xe) elt (tF X.K (WE E) fe))
  (hvs : ∀ i ∈ is,i ∈ vs) (hfold : ∀ x,foldedSetIterable iter X.env x = pure x) (h0 : 1 ≤ s.toks) (I : Inv X pins σ H s) (h : tF X.K (WE E) (fLcX fi g gt fe vs) σ H Q)
  (fin : ∀ (D : Addr) (t : Shared) (m : Str → Option Value) (H' : Hp) (ce : Env),Inv X pins σ H' t → Q (.ref D) H' → t.heap.Ns ce.locals m → FpOk X pins H' ce.locals → AfterC (model X.prog X.w) X.A X.xe use Qf (.ref D) ce (.ok .next) t) :
  wpAny (model X.prog X.w) X.A (comprehension (.ListComp elt [⟨tg,iter,ifs,0⟩] scope pos) scope X.env pos' (newList []) false (eval iter X.env) use) Qf X.xe s:=by
 obtain ⟨m0,env,st0,r0,re0,p0⟩:=h
 have frees : ∀ y ∈ scope.names,y.2 = .free → ∃ c,X.env.cells.lookup y.1 = some c:=fun y hy e=>(ok.free y hy e).elim (fun k=>I.ok.has _ (.inl k)) fun k=>I.ok.has _ (.inr k)
 -- what is known where the source stands
 let Src : It → Hp → Prop:=fun J H1=>∃ m1 st1 t,Rep X.K m1 st1 H1 ∧ RpEnv X.K m1 H1 env σ ∧ IsIt X.K m1 H1 J t ∧ PU X.K m1 H1 Q (fun c d H'=>E c d H') (match t with
  | .lst us=>lxEnd st1.length (lxL st1.length g gt fe (wipeE env vs) us (st1 ++ [.lst []]))
  | .cell _ _=>.bad)
 have src : tI X.K (WE E) fi σ H Src:=by
  refine ⟨m0,env,st0,r0,re0,?_⟩
  unfold fLcX bnd at p0
  cases e : fi env st0 with
  | bad=>rw [e] at p0; exact p0
  | ex c fs st1=>rw [e] at p0; exact p0
  | ok t st1 =>
   rw [e] at p0
   intro t' mA HA hA rA xA mB st1' heq rB xB J hJ
   subst hA
   cases heq
   exact ⟨mB,st1,t',rB,re0.ext xB,hJ,PO'.from xB p0⟩
 refine wp_comp rfl hfold (closure_ok frees) ok.kind (fun y hy e=>by rw [ok.uniq y hy,e]) ?_
 refine tkM h0 (hi.pi.run pins s σ H Src I src) (fun xv sA kA hA=>tkM kA hA (fun itv sB kB hB=>?_) fun _ _ z=>z) fun _ _ z=>z
 obtain ⟨it,fp,tn,J,HB,rfl,IB,T,tB,fB,m1,st1,t,r1,re1,hJ,p1⟩:=hB
 have hDn : HB sB.heap.objs.size = none:=IB.hok.fresh (Nat.le_refl _)
 refine wpAny_newObj_type (newEnv_comp ?_) (show 0 ≤ sizeLine by decide)
 cases t with
 | cell n f=>exact p1.elim
 | lst us =>
 simp only at p1
 obtain ⟨k,hk⟩ : ∃ k,k = m1.length:=⟨_,rfl⟩
 have hks : st1.length = k:=by rw [hk]; exact r1.len.symm
 rw [hks] at p1
 -- with the new list
 have IL : Inv X pins σ (upd HB sB.heap.objs.size (.lst [])) { sB with heap:=sB.heap.push { cls:=.type "list",data:=.seq ([] : List Value).toArray } } :=
  IB.laid (t':=sB.toks) (fun b o e=>Heap.get?_push_of_some _ e) (Nat.le_refl _) ⟨Nat.zero_le _,[],0,.nil,Heap.get?_push_size _ rfl⟩
 have IX : LcI X.K m1 HB k sB.heap.objs.size (m1 ++ [sB.heap.objs.size]) (st1 ++ [.lst []]) (upd HB sB.heap.objs.size (.lst [])):=⟨r1.push hDn ⟨[],rfl,rfl⟩,ext_push r1 hDn _,by rw [hk]; simp⟩
 have reL : RpEnv X.K (m1 ++ [sB.heap.objs.size]) (upd HB sB.heap.objs.size (.lst [])) (wipeE env vs) (L2.wipe σ vs):=(re1.ext (ext_push r1 hDn _)).wipe vs
 have small : ∀ b ∈ fp,b < sB.heap.objs.size:=fun b hb=>let ⟨o,e,_⟩:=T.obj _ _ tB b hb; Heap.lt_size e
 generalize hsL : ({ sB with heap:=sB.heap.push { cls:=.type "list",data:=.seq ([] : List Value).toArray } } : Shared) = sL at IL ⊢
 have kL : 1 ≤ sL.toks:=by rw [← hsL]; exact kB
 have grow : ∀ b o,sB.heap.get? b = some o → sL.heap.get? b = some o:=fun b o e=>by rw [← hsL]; exact Heap.get?_push_of_some _ e
 have sizeL : sL.heap.objs.size = sB.heap.objs.size + 1:=by rw [← hsL]; exact Heap.size_push ..
 generalize hHL : upd HB sB.heap.objs.size (.lst []) = HL at IL IX reL ⊢
 have fL : ∀ b ∈ fp,FpOk X pins HL b ∧ b < sL.heap.objs.size:=fun b hb=>by
  have:=small b hb
  refine ⟨⟨?_,(fB b hb).2⟩,by rw [sizeL]; exact Nat.lt_succ_of_lt this⟩
  rw [← hHL,upd_ne (Nat.ne_of_lt this)]
  exact (fB b hb).1
 have IC : Inv (X.blk sL HL scope (ceOf X scope sL) fp) [] (L2.wipe σ (own.map (·.2))) HL _:=block_start IL ok nd fL
 generalize hsC : ({ sL with heap:=pushCells (sL.heap.push { cls:=.type "dict",data:=.dict #[] }) scope.names } : Shared) = sC at IC ⊢
 have kC : 1 ≤ sC.toks:=by rw [← hsC]; exact kL
 have tC : tn 0 sC.heap:=T.keep _ _ _ (T.keep _ _ _ tB fun b _ o e=>grow b o e) fun b _ o e=>by rw [← hsC]; exact pushCells_keeps _ _ _ _ (Heap.get?_push_of_some _ e)
 have hG : DG (X.blk sL HL scope (ceOf X scope sL) fp) tg is g:=hg sL HL sL.heap.objs.size (cellsFrom (sL.heap.objs.size + 1) scope.names (cloFrom X.env.cells scope.names [])) fp
 have hT : DTs (X.blk sL HL scope (ceOf X scope sL) fp) W0 ifs gt:=ht sL HL sL.heap.objs.size (cellsFrom (sL.heap.objs.size + 1) scope.names (cloFrom X.env.cells scope.names [])) fp
 have takes:=blk_takes (W:=WE E) (scope:=scope) (ce:=ceOf X scope sL) hst hfr tk IL rfl (Nat.le_refl _) fL
 have hE : PET ((X.blk sL HL scope (ceOf X scope sL) fp).tr [] _) elt (tF X.K (WE E) fe):=he sL HL sL.heap.objs.size (cellsFrom (sL.heap.objs.size + 1) scope.names (cloFrom X.env.cells scope.names [])) fp _ takes
 have fpn : ∀ b ∈ fp,HL b = none:=fun b hb=>(fL b hb).1.1
 rw [hvv] at IC
 show codeAny _ _ (.compStart (.ListComp elt [⟨tg,iter,ifs,0⟩] scope pos) 0 (.ref it) (.ref sB.heap.objs.size) (ceOf X scope sL)) (AfterC (model X.prog X.w) X.A X.xe use Qf (.ref sB.heap.objs.size) (ceOf X scope sL)) sC
 have cL : (ceOf X scope sL).locals = sL.heap.objs.size:=rfl
 generalize ceOf X scope sL = ce at *
 have still : ∀ {σ' : L2.St} {H' : Hp} {s' : Shared},Inv (X.blk sL HL scope ce fp) [] σ' H' s' → (∀ b ∈ fp,H' b = none) → ∀ b ∈ fp,FpOk (X.blk sL HL scope ce fp) [] H' b:=fun {σ' H' s'} J' hn b hb =>
  ⟨hn b hb,(J'.ok.exf b hb).1,J'.ok.exfs b hb,.inl hb,fun x c e=>(J'.ok.exf b hb).2 x c e,fun p hp=>absurd hp List.not_mem_nil⟩
 have loop : codeAny (model X.prog X.w) X.A (.compLoop (.ListComp elt [⟨tg,iter,ifs,0⟩] scope pos) 0 (.ref it) (.ref sB.heap.objs.size) ce) (AfterC (model X.prog X.w) X.A X.xe use Qf (.ref sB.heap.objs.size) ce) sC:=by
  refine compLoop_any (fun n s'=>∃ i m' st' H',1 ≤ s'.toks ∧ LcI X.K m1 HB k sB.heap.objs.size m' st' H' ∧ RpEnv X.K m' H' (wipeE env vs) (L2.wipe σ vs) ∧ Inv (X.blk sL HL scope ce fp) [] (L2.wipe σ vs) H' s' ∧ tn i s'.heap ∧ (∀ b ∈ fp,H' b = none) ∧ n = us.length - i ∧ i ≤ us.length ∧
   PU X.K m1 HB Q (fun c d H'=>E c d H') (lxEnd k (lxL k g gt fe (wipeE env vs) (us.drop i) st'))) ?_ us.length ⟨0,_,_,HL,kC,IX,reL,IC,tC,fpn,by omega,Nat.zero_le _,p1⟩
  rintro n s5 ⟨i,m5,st5,H5,k5,L5,re5,I5,t5,n5,rfl,hi5,p5⟩
  obtain ⟨go,stop,yld⟩:=hJ
  by_cases hlt : i < us.length
  ·rw [List.drop_eq_getElem_cons hlt] at p5
   refine tkM k5 (T.item (X.blk sL HL scope ce fp) rfl rfl rfl calm i [] s5 _ H5 _ I5 (still I5 n5) t5 (go i m5 st5 H5 hlt L5.rep L5.ext)) (fun r s6 k6 h6=>?_) fun _ _ z=>z
   obtain ⟨v6,rfl,h6⟩:=h6
   refine tkM k6 h6 (fun _ s7 k7 h7=>?_) fun _ _ z=>z
   obtain ⟨x7,H7,I7,rv7,y7,t7,n7⟩:=h7
   obtain ⟨r7,x7',ru7⟩:=yld i _ m5 st5 H5 x7 H7 (List.getElem?_eq_getElem hlt) L5.rep L5.ext y7
   have I7':=I7.pinned (still I7 n7) (T.obj _ _ t7)
   -- behind the turn
   have next : ∀ {s' : Shared} {H' : Hp} {σ' : L2.St} {m' : List Addr} {st' : Store},1 ≤ s'.toks → L2.wipe σ' vs = L2.wipe σ vs → LcI X.K m1 HB k sB.heap.objs.size m' st' H' → RpEnv X.K m' H' (wipeE env vs) (L2.wipe σ vs) → PU X.K m1 HB Q (fun c d H'=>E c d H') (lxEnd k (lxL k g gt fe (wipeE env vs) (us.drop (i + 1)) st')) →
     Inv (X.blk sL HL scope ce fp) ([] ++ pinsAt fp s7.heap) σ' H' s' → ∃ n',n' < us.length - i ∧ ∃ i m' st' H',1 ≤ s'.toks ∧ LcI X.K m1 HB k sB.heap.objs.size m' st' H' ∧ RpEnv X.K m' H' (wipeE env vs) (L2.wipe σ vs) ∧ Inv (X.blk sL HL scope ce fp) [] (L2.wipe σ vs) H' s' ∧ tn i s'.heap ∧ (∀ b ∈ fp,H' b = none) ∧ n' = us.length - i ∧ i ≤ us.length ∧
      PU X.K m1 HB Q (fun c d H'=>E c d H') (lxEnd k (lxL k g gt fe (wipeE env vs) (us.drop i) st')):=fun {s' H' σ' m' st'} ks hw L' re' p' J'=>by
    have held : ∀ b ∈ fp,∀ o,s7.heap.get? b = some o → s'.heap.get? b = some o ∧ H' b = none:=fun b hb o e=>by
     have z:=J'.pin (b,o) (List.mem_append_right _ (List.mem_append_right _ (mem_pinsAt hb e)))
     exact ⟨z.1,z.2.1⟩
    have len : (L2.wipe σ vs).length = σ'.length:=by rw [← hw,wipe_length]
    refine ⟨us.length - (i + 1),by omega,i + 1,m',st',H',ks,L',re',J'.unpinned.weak len (fun j v e=>?_),T.keep _ _ _ t7 fun b hb o e=>(held b hb o e).1,fun b hb=>?_,rfl,hlt,p'⟩
    ·rw [← hw] at e
     exact (wipe_some e).1
    ·obtain ⟨o,e,_⟩:=T.obj _ _ t7 b hb
     exact (held b hb o e).2
   have re7:=re5.ext x7'
   have L7 : LcI X.K m1 HB k sB.heap.objs.size m5 st5 H7:=⟨r7,L5.ext.trans x7',L5.at'⟩
   unfold lxL at p5
   cases eg : g us[i] (wipeE env vs) st5 with
   | bad=>simp only [lxStep,eg] at p5; exact p5.elim
   | ex c fs ev st6=>simp only [lxStep,eg] at p5; exact p5.elim
   | ok env1 fl st6 =>
   cases fl with
   | rt u=>simp only [lxStep,eg] at p5; exact p5.elim
   | bk=>simp only [lxStep,eg] at p5; exact p5.elim
   | ct=>simp only [lxStep,eg] at p5; exact p5.elim
   | nx =>
   refine tkM k7 (hG.pg.run _ s7 _ H7 x7 v6 (fun σ8 H8=>∃ m8,RpEnv X.K m8 H8 env1 σ8 ∧ Rep X.K m8 st6 H8 ∧ Ext m5 H7 m8 H8 ∧ L2.wipe σ8 vs = L2.wipe σ vs) I7' rv7 ⟨m5,_,st5,_,r7,re7,ru7,by rw [eg]; exact fun σ8 m8 H8 a b c o=>⟨m8,a,b,c,wipe_out hvs o⟩⟩) (fun _ s8 k8 h8=>?_) fun _ _ (z : False)=>z.elim
   obtain ⟨σ8,H8,I8,m8,re8,r8,x8,hw8⟩:=h8
   have L8 : LcI X.K m1 HB k sB.heap.objs.size m8 st6 H8:=⟨r8,L7.ext.trans x8,pre_get x8.pre L7.at'⟩
   cases et : gt env1 st6 with
   | bad=>simp only [lxStep,eg,et] at p5; exact p5.elim
   | ex c fs st7=>simp only [lxStep,eg,et] at p5; exact p5.elim
   | ok b st7 =>
   refine tkM k8 (hT.pts.run _ s8 σ8 H8 (fun b' H9=>b' = b ∧ ∃ m9,Rep X.K m9 st7 H9 ∧ Ext m8 H8 m9 H9) I8 ⟨m8,env1,st6,r8,re8,by rw [et]; exact fun b' m9 H9 e a c=>⟨e,m9,a,c⟩⟩) (fun b' s9 k9 h9=>?_) fun _ _ (z : False)=>z.elim
   obtain ⟨H9,I9,rfl,m9,r9,x9⟩:=h9
   have L9 : LcI X.K m1 HB k sB.heap.objs.size m9 st7 H9:=⟨r9,L8.ext.trans x9,pre_get x9.pre L8.at'⟩
   have re9 : RpEnv X.K m9 H9 (wipeE env vs) (L2.wipe σ vs):=(re7.ext x8).ext x9
   cases b' with
   | false =>
    simp only [lxStep,eg,et] at p5
    exact next k9 hw8 L9 re9 p5 I9
   | true =>
   have I9' : Inv ((X.blk sL HL scope ce fp).tr [] (notedBy (model X.prog X.w) X.A ce fun e s'=>goesOn (model X.prog X.w) X.A X.xe e ce s')) ([] ++ pinsAt fp s7.heap) σ8 H9 s9:=⟨I9.ok.toTry [] _,I9.os,I9.bare,I9.base,I9.loc,I9.cell,I9.free,I9.freeC,I9.pin,I9.hok,I9.len⟩
   refine tkM k9 (hE _ s9 σ8 H9 (fun y H10=>∃ m10 y' st8,fe env1 st7 = .ok y' st8 ∧ RpU X.K m10 H10 y' y ∧ Rep X.K m10 st8 H10 ∧ Ext m9 H9 m10 H10) k9 I9' ⟨m9,env1,st7,r9,re8.ext x9,?_⟩) (fun v10 s10 k10 h10=>?_) fun _ _ z=>z
   ·cases ef : fe env1 st7 with
    | ok y' st8=>exact fun y m10 H10 a b c=>⟨m10,y',st8,rfl,a,b,c⟩
    | ex c fs st8 =>
     simp only [lxStep,eg,et,ef] at p5
     exact fun d m10 H10 a b x=>lx_cut ⟨a,L9.ext.trans b,pre_get b.pre L9.at'⟩ hk x p5
    | bad=>simp only [lxStep,eg,et,ef] at p5; exact p5.elim
   ·obtain ⟨y,H10,I10,ry,m10,y',st8,ef,ru,r10,x10⟩:=h10
    have I10' : Inv (X.blk sL HL scope ce fp) ([] ++ pinsAt fp s7.heap) σ8 H10 s10:=⟨I9.ok,I10.os,I10.bare,I10.base,I10.loc,I10.cell,I10.free,I10.freeC,I10.pin,I10.hok,I10.len⟩
    have at10:=pre_get x10.pre L9.at'
    simp only [lxStep,eg,et,ef] at p5
    cases ha : st8[k]? with
    | none=>simp only [ha] at p5; exact p5.elim
    | some cell =>
    cases cell with
    | lst acc =>
     simp only [ha] at p5
     by_cases hz : acc.length < sizeLine
     ·rw [if_pos hz] at p5
      obtain ⟨ho,g1,ws,g2,g3⟩:=r10.cell k _ _ ha at10
      subst g2
      have mem : sB.heap.objs.size ∈ m10:=List.mem_of_getElem? at10
      have xw:=ext_write mem (.lst (ws ++ [y])) (nf_l g1)
      have rw' : Rep X.K m10 (st8.set k (.lst (acc ++ [y']))) (upd H10 sB.heap.objs.size (.lst (ws ++ [y]))) :=
       r10.write at10 ⟨_,rfl,(g3.append (show RpUs X.K m10 H10 [y'] [y] from ⟨y,_,rfl,ru,rfl⟩)).ext xw⟩ (nf_l g1)
      refine tkM k10 (app_ok (X:=X.blk sL HL scope ce fp) (Q:=fun _ s11=>Inv (X.blk sL HL scope ce fp) ([] ++ pinsAt fp s7.heap) σ8 (upd H10 sB.heap.objs.size (.lst (ws ++ [y]))) s11) I10' g1 (by rw [g3.length]; exact hz) ry fun s11 I11=>I11) (fun _ s11 k11 I11=>?_) fun _ _ z=>z
      exact next k11 hw8 ⟨rw',(L9.ext.trans x10).trans xw,at10⟩ ((re9.ext x10).ext xw) p5 I11
     ·rw [if_neg hz] at p5; exact p5.elim
    | tup _=>simp only [ha] at p5; exact p5.elim
    | dct _=>simp only [ha] at p5; exact p5.elim
    | ins _ _=>simp only [ha] at p5; exact p5.elim
    | lck _=>simp only [ha] at p5; exact p5.elim
    | kdc _ _=>simp only [ha] at p5; exact p5.elim
    | tbl _ _=>simp only [ha] at p5; exact p5.elim
  ·have hi : i = us.length:=by omega
   subst hi
   rw [List.drop_length] at p5
   refine wpAny_mono (T.done (X.blk sL HL scope ce fp) rfl rfl rfl calm _ [] s5 _ H5 _ I5 (still I5 n5) t5 (stop m5 st5 H5 L5.rep L5.ext)) (fun r s6 h6=>?_) fun _ _ z=>z
   obtain ⟨rfl,I6⟩:=h6
   have back : Inv X pins σ H5 s6:=IL.call' (ch:=fp) I6.os I6.base I6.hok I6.bare fun b hb=>⟨(fL b hb).1.2.2.2.1,(fL b hb).1.2.1,(fL b hb).1.2.2.2.2.1,(fL b hb).1.2.2.2.2.2⟩
   obtain ⟨mm,hn,_⟩:=I6.loc
   exact fin _ s6 mm H5 ce back (lc_fin L5 hk p5) hn (IL.fpOk (by rw [cL]; exact Nat.le_refl _) I6.free)
 exact codeAny_compStart_list loop (T.self X.A 0 _ _ _ tC loop)
/-- as a value -/
theorem d_lcXT (calm : X.calm = true) (nd : X.N.Nodup) (hst : X.stack = X.env :: X.outer) (hfr : X.env.frame = some X.env.locals) (tk : Takes X (WE E)) (hi : DI X (WE E) tg iter fi) (ok : BlkOk X.N X.env.scope scope own)
  (hg : ∀ (t : Shared) (Ht : Hp) (C : Addr) (cl : List (Str × Addr)) (fp : List Addr),DG (X.blk t Ht scope (compEnvC scope cl C X.env) fp) tg is g)
  (ht : ∀ (t : Shared) (Ht : Hp) (C : Addr) (cl : List (Str × Addr)) (fp : List Addr),DTs (X.blk t Ht scope (compEnvC scope cl C X.env) fp) W0 ifs gt)
  (he : ∀ (t : Shared) (Ht : Hp) (C : Addr) (cl : List (Str × Addr)) (fp : List Addr) (xe : Value → Shared → Prop),Takes ((X.blk t Ht scope (compEnvC scope cl C X.env) fp).tr [] xe) (WE E) → PET ((X.blk t Ht scope (compEnvC scope cl C X.env) fp).tr [] xe) elt (tF X.K (WE E) fe))
  (hvv : own.map (·.2) = vs:=by rfl) (hvs : ∀ i ∈ is,i ∈ vs:=by decide) (hfold : ∀ x,foldedSetIterable iter X.env x = pure x:=by intro _; rfl) :
  PET X (.ListComp elt [⟨tg,iter,ifs,0⟩] scope pos) (tF X.K (WE E) (fLcX fi g gt fe vs)):=by
 intro pins s σ H Q h0 I h
 rw [eval_ListComp]
 refine lx_coreT (use:=none) calm nd hst hfr tk hi ok hvv hg ht he hvs hfold h0 I h fun D t m H' ce J q ns f=>⟨m,ns,fun h' sb=>⟨.ref D,H',?_,rfl,q⟩⟩
 obtain ⟨a0,a1,-,a3,a4,a5⟩:=f
 exact J.turned (t':=t.toks) (fun b o hb e=>(sb.2 b hb).trans e) a0 a1 a3 a4 a5
theorem pet_replC {o : Expr} {to : TE} {y z : Str} {j0 j1 : Nat} {c0 c1 apos : Pos} (he : PE X o to) (hyz : (y == z) = false)
  (hst : starEach [.Constant (.str y) j0 c0,.Constant (.str z) j1 c1] X.env = [(false,eval (.Constant (.str y) j0 c0) X.env),(false,eval (.Constant (.str z) j1 c1) X.env)]:=by rfl)
  (hbase : attributeBase o "replace" X.env (eval o X.env) = eval o X.env:=by rfl) (hline : (apos.endLine == pos.line) = true:=by rfl) :
  PET X (.Call (.Attribute o "replace" apos) [.Constant (.str y) j0 c0,.Constant (.str z) j1 c1] [] pos) (fun σ H Q=>to σ H fun v H1=>∃ x,v = .str x ∧ x.length + (x.length + 1) * z.length ≤ 16777216 ∧ Q (.str (Txt.replace x y z)) H1):=by
 intro pins s σ H Q h0 I h
 refine PySem.Call_method2 hbase hst hline (tkM h0 (he.run pins s σ H _ I h) (fun v s1 k1 h1=>?_) fun _ _ z=>z)
 obtain ⟨_,H1,I1,r1,x,rfl,hb,q⟩:=h1
 obtain ⟨tx,rfl⟩:=r1
 refine ⟨"str",_,F.plainAttrs_str,F.slot_str_replace,F.type_str_replace,typeIs_str _ _ _,(fun _ e=>nomatch e),Calls.callWith_builtin rfl (Calls.evalArgs_plain (Calls.spliced_cons ?_))⟩
 refine Calls.Constant_str (Calls.spliced_cons (Calls.Constant_str (Calls.spliced_nil ?_)))
 exact PySem.SC.replace (show s1.toks ≠ 0 by omega) (by show s1.toks + 1 ≠ 0; omega) (by show s1.toks ≠ s1.toks + 1; omega) hyz hb fun t' k=>⟨.str (Txt.replace x y z),H1,I1.tok k,⟨t',rfl⟩,q⟩
noncomputable def fRepl (fo : F U) (y z : Str) : F U:=bnd fo fun u=>fun _ st=>match u with
 | .d (.str x)=>if x.length + (x.length + 1) * z.length ≤ 16777216 then .ok (.d (.str (Txt.replace x y z))) st else .bad
 | _=>.bad
theorem d_replT {W : WX} {o : Expr} {fo : F U} {y z : Str} {j0 j1 : Nat} {c0 c1 apos : Pos} (he : DE X W o fo) (hyz : (y == z) = false:=by decide +kernel)
  (hst : starEach [.Constant (.str y) j0 c0,.Constant (.str z) j1 c1] X.env = [(false,eval (.Constant (.str y) j0 c0) X.env),(false,eval (.Constant (.str z) j1 c1) X.env)]:=by rfl)
  (hbase : attributeBase o "replace" X.env (eval o X.env) = eval o X.env:=by rfl) (hline : (apos.endLine == pos.line) = true:=by rfl) :
  PET X (.Call (.Attribute o "replace" apos) [.Constant (.str y) j0 c0,.Constant (.str z) j1 c1] [] pos) (tF X.K W (fRepl fo y z)):=by
 intro pins s σ H Q h0 I h
 refine pet_replC he.pe hyz hst hbase hline pins s σ H Q h0 I ?_
 obtain ⟨m0,env,st0,r0,re0,p0⟩:=h
 refine ⟨m0,env,st0,r0,re0,?_⟩
 unfold fRepl bnd at p0
 cases e : fo env st0 with
 | bad=>rw [e] at p0; exact p0
 | ex c fs st1=>rw [e] at p0; exact p0
 | ok u st1 =>
  rw [e] at p0
  simp only at p0
  intro v m1 H1 hu r1 x1
  split at p0
  ·rename_i x
   split at p0
   ·rename_i hb
    cases hu
    exact ⟨x,rfl,hb,p0 _ m1 H1 rfl r1 x1⟩
   ·exact p0.elim
  ·exact p0.elim
theorem pt_cmpB {op : CmpOp} {r : R2} {a : Expr} {ta : TE} {n : Int} {j : Nat} {cp p2 : Pos} (ho : OpR X (compareOp op) r) (ha : PE X a ta) (hm : behindInMarks op (.Constant (.int n) j cp) = false) {pins : List (Addr × Obj)} {s : Shared} {σ : L2.St} {H : Hp} {Q : Bool → Hp → Prop} (I : Inv X pins σ H s) (h : ta σ H fun x H1=>r x (.int n) H1 fun z H3=>∃ k,z = .bl k ∧ Q k H3) :
  wpAny (model X.prog X.w) X.A (isTrue (.Compare a [op] [.Constant (.int n) j cp] p2) X.env (eval (.Compare a [op] [.Constant (.int n) j cp] p2) X.env)) (fun d s'=>1 ≤ s'.toks ∧ TP X pins σ Q d s') X.xe s:=by
 refine wpAny_isTrue_Compare1 (thn (ha.run pins s σ H _ I h) fun v s1 ⟨x,H1,I1,r1,q1⟩=>wpAny_Constant_int (tkM (n:=1) (show 1 ≤ s1.toks + 1 by omega) (ho pins _ σ H1 x (.int n) v _ _ (I1.tok (s1.toks + 1)) r1 ⟨_,rfl⟩ q1) (fun c s3 k3 h3=>?_) fun _ _ z=>z)) hm
 obtain ⟨z,H3,I3,r3,k,e,q3⟩:=h3
 subst e
 cases r3
 exact wpAny_truthy_bool ⟨k3,H3,I3,q3⟩
theorem pst_ret {e : Expr} {te : TE} {rp : Pos} (he : PET X e te) : PST X (.Return (some e) rp) (tRet te):=fun pins s σ H D h0 I h =>
 wpAny_Return_some (thn (he pins s σ H _ h0 I h) fun v s1 ⟨x,H1,I1,r1,q1⟩=>⟨x,σ,H1,I1,r1,q1⟩)
theorem ds_ifRetT {W : WX} {op : CmpOp} {o2 : P2} {a e : Expr} {b : List Stmt} {fa fv : F U} {gb : G} {n : Int} {j : Nat} {cp p2 rp : Pos} (ho : OpR X (compareOp op) (rG X.K o2)) (ha : DE X W a fa) (he : PET X e (tF X.K W fv)) (hb : DB X W b gb) (hm : behindInMarks op (.Constant (.int n) j cp) = false:=by first | exact nomark _ | rfl) :
  DS X W (.If (.Compare a [op] [.Constant (.int n) j cp] p2) [.Return (some e) rp] b pos) (sIf (asB (f2 o2 fa (vC (.int n)))) (sRet fv) gb):=by
 refine ⟨⟨fun pins s σ H D I h=>?_⟩⟩
 have h1 : tIfS (tFB X.K W (asB (f2 o2 fa (vC (.int n))))) (tG X.K W (sRet fv)) (tG X.K W gb) D σ H:=by
  obtain ⟨m,env,st,r,re,p⟩:=h
  exact sFB_step r re p fun k st1 m1 H1 r1 re1 e1 p1=>by
   cases k with
   | true=>exact iteT ⟨m1,env,st1,r1,re1,p1⟩
   | false=>exact iteF ⟨m1,env,st1,r1,re1,p1⟩
 have h2:=t_op2 (t_asB h1)
 refine wpAny_If (wpAny_mono (pt_cmpB ho ha.pe hm I (Q:=fun b H1=>if b = true then tG X.K W (sRet fv) D σ H1 else tG X.K W gb D σ H1) ?_) (fun d s1 h3=>?_) fun _ _ z=>z)
 ·obtain ⟨m,env,st,r,re,p⟩:=h2
  refine ⟨m,env,st,r,re,PO'.imp (fun v H1 q=>?_) p⟩
  obtain ⟨m5,env5,st5,r5,re5,p5⟩:=q
  exact p5 _ m5 H1 rfl r5 (Ext.refl _ _)
 ·obtain ⟨k1,H1,I1,q1⟩:=h3
  cases d with
  | false=>exact hb.pss.run pins s1 σ H1 D I1 q1
  | true =>
   have q2 : tRet (tF X.K W fv) D σ H1:=by
    have q3 : tG X.K W (sRet fv) D σ H1:=q1
    obtain ⟨m,env,st,r,re,p⟩:=q3
    exact sF_step r re p fun u st1 v m1 H1 h1 r1 re1 e1 p1=>p1 v m1 H1 h1 r1 (Ext.refl _ _)
   exact psst_cons (pst_ret he) (PSsT.of pss_nil) pins s1 σ H1 D k1 I1 q2
end
end VL
namespace VL.K07
theorem ls_1 {α : Type} {us : List α} (h : us.length = 1) : ∃ x0,us = [x0]:=match us,h with | [x0],_=>⟨x0,rfl⟩
theorem ls_2 {α : Type} {us : List α} (h : us.length = 2) : ∃ x0 x1,us = [x0,x1]:=match us,h with | [x0,x1],_=>⟨x0,x1,rfl⟩
theorem ls_3 {α : Type} {us : List α} (h : us.length = 3) : ∃ x0 x1 x2,us = [x0,x1,x2]:=match us,h with | [x0,x1,x2],_=>⟨x0,x1,x2,rfl⟩
theorem ls_6 {α : Type} {us : List α} (h : us.length = 6) : ∃ x0 x1 x2 x3 x4 x5,us = [x0,x1,x2,x3,x4,x5]:=match us,h with | [x0,x1,x2,x3,x4,x5],_=>⟨x0,x1,x2,x3,x4,x5,rfl⟩
open PySem PySem.Spec PyProof.Rows L2 VL
noncomputable def top (i : Nat) : Stmt:=PySem.Challenge.pw_settingsmerge_k07_equal_files.main.body.getD i (.Pass ⟨0,0,0,0⟩)
noncomputable abbrev s_L_law_bag : Stmt:=(top 26)
noncomputable abbrev s_L_law_take : Stmt:=(top 27)
noncomputable abbrev s_L_law_of : Stmt:=(top 28)
noncomputable abbrev s_L_law_lines : Stmt:=(top 29)
noncomputable abbrev s_L_law_changed : Stmt:=(top 30)
noncomputable abbrev s_Reader_init : Stmt:=(inClass (top 21) 0)
noncomputable abbrev s_lines_of : Stmt:=(top 22)
noncomputable abbrev s_is_made_of : Stmt:=(top 13)
noncomputable abbrev s_is_number : Stmt:=(top 17)
noncomputable abbrev s_is_name : Stmt:=(top 14)
noncomputable abbrev s_is_place : Stmt:=(top 15)
noncomputable abbrev s_is_value : Stmt:=(top 16)
noncomputable abbrev s_kept_in : Stmt:=(top 18)
noncomputable abbrev s_Reader_put : Stmt:=(inClass (top 21) 4)
noncomputable abbrev s_Reader_take_kept : Stmt:=(inClass (top 21) 2)
noncomputable abbrev s_section_in : Stmt:=(top 20)
noncomputable abbrev s_setting_in : Stmt:=(top 19)
noncomputable abbrev s_Reader_take_setting : Stmt:=(inClass (top 21) 3)
noncomputable abbrev s_Reader_take : Stmt:=(inClass (top 21) 1)
noncomputable abbrev s_parts_of : Stmt:=(top 24)
noncomputable abbrev s_SettingsFile_init : Stmt:=(inClass (top 23) 0)
noncomputable abbrev s_SettingsFile___eq__ : Stmt:=(inClass (top 23) 11)
noncomputable abbrev s_SettingsFile___len__ : Stmt:=(inClass (top 23) 9)
noncomputable abbrev s_SettingsFile_lines : Stmt:=(inClass (top 23) 1)
noncomputable abbrev s_SettingsFile_sections : Stmt:=(inClass (top 23) 2)
noncomputable abbrev s_SettingsFile_pairs : Stmt:=(inClass (top 23) 8)
noncomputable abbrev s_L_law_unlike : Stmt:=(top 31)
noncomputable abbrev s_SettingsFile___str__ : Stmt:=(inClass (top 23) 12)
noncomputable abbrev s_law : Stmt:=(top 32)
noncomputable def N_L_law_bag : List Str:=["_law_script","_law_at","_law_cell","_law_blend","_law_k","_law_each"]
noncomputable def N_L_law_take : List Str:=["_law_bag_here","_law_many","_law_digit"]
noncomputable def N_L_law_of : List Str:=["_law_bag_here","_law_some"]
noncomputable def N_L_law_lines : List Str:=["_law_bag_here","_law_lines_here","_law_head","_law_key"]
noncomputable def N_L_law_changed : List Str:=["_law_bag_here","_law_lines_here","_law_way","_law_spot","_law_line","_law_lasts"]
noncomputable def N_Reader_init : List Str:=["self"]
noncomputable def N_lines_of : List Str:=["text"]
noncomputable def N_is_made_of : List Str:=["thing","signs","most","sign"]
noncomputable def N_is_number : List Str:=["thing"]
noncomputable def N_is_name : List Str:=["thing"]
noncomputable def N_is_place : List Str:=["thing","section","dot","key"]
noncomputable def N_is_value : List Str:=["thing"]
noncomputable def N_kept_in : List Str:=["line","words"]
noncomputable def N_Reader_put : List Str:=["self","at","word","name","thing","kind"]
noncomputable def N_Reader_take_kept : List Str:=["self","at","kept"]
noncomputable def N_section_in : List Str:=["line","name"]
noncomputable def N_setting_in : List Str:=["line","key","sign","value"]
noncomputable def N_Reader_take_setting : List Str:=["self","at","setting","place"]
noncomputable def N_Reader_take : List Str:=["self","at","line"]
noncomputable def N_parts_of : List Str:=["parts","at","word","thing"]
noncomputable def N_SettingsFile_init : List Str:=["self","text","reader","at","line","word","thing"]
noncomputable def N_SettingsFile___eq__ : List Str:=["self","other"]
noncomputable def N_SettingsFile___len__ : List Str:=["self"]
noncomputable def N_SettingsFile_lines : List Str:=["self"]
noncomputable def N_SettingsFile_sections : List Str:=["self","at","word","thing"]
noncomputable def N_SettingsFile_pairs : List Str:=["self","at","word","thing"]
noncomputable def N_L_law_unlike : List Str:=["_law_file","_law_whole","_law_some","_law_found","_law_one"]
noncomputable def N_SettingsFile___str__ : List Str:=["self"]
noncomputable def N_law : List Str:=["_law_script","_law_at","_law_bag_here","_law_turn","_law_lines_here","_law_other","_law_whole","_law_twin","_law_one","_law_two","_law_same"]
theorem sc_L_law_bag : FnScope N_L_law_bag ["_law_script","_law_at"] (defScope s_L_law_bag):=⟨rfl,rfl,rfl,by decide +kernel,rfl,by decide +kernel,by decide +kernel⟩
theorem sc_L_law_take : FnScope N_L_law_take ["_law_bag_here","_law_many"] (defScope s_L_law_take):=⟨rfl,rfl,rfl,by decide +kernel,rfl,by decide +kernel,by decide +kernel⟩
theorem sc_L_law_of : FnScope N_L_law_of ["_law_bag_here","_law_some"] (defScope s_L_law_of):=⟨rfl,rfl,rfl,by decide +kernel,rfl,by decide +kernel,by decide +kernel⟩
theorem sc_L_law_lines : FnScope N_L_law_lines ["_law_bag_here"] (defScope s_L_law_lines):=⟨rfl,rfl,rfl,by decide +kernel,rfl,by decide +kernel,by decide +kernel⟩
theorem sc_L_law_changed : FnScope N_L_law_changed ["_law_bag_here","_law_lines_here"] (defScope s_L_law_changed):=⟨rfl,rfl,rfl,by decide +kernel,rfl,by decide +kernel,by decide +kernel⟩
theorem sc_Reader_init : FnScope N_Reader_init ["self"] (defScope s_Reader_init):=⟨rfl,rfl,rfl,by decide +kernel,rfl,by decide +kernel,by decide +kernel⟩
theorem sc_lines_of : FnScope N_lines_of ["text"] (defScope s_lines_of):=⟨rfl,rfl,rfl,by decide +kernel,rfl,by decide +kernel,by decide +kernel⟩
theorem sc_is_made_of : FnScope N_is_made_of ["thing","signs","most"] (defScope s_is_made_of):=⟨rfl,rfl,rfl,by decide +kernel,rfl,by decide +kernel,by decide +kernel⟩
theorem sc_is_number : FnScope N_is_number ["thing"] (defScope s_is_number):=⟨rfl,rfl,rfl,by decide +kernel,rfl,by decide +kernel,by decide +kernel⟩
theorem sc_is_name : FnScope N_is_name ["thing"] (defScope s_is_name):=⟨rfl,rfl,rfl,by decide +kernel,rfl,by decide +kernel,by decide +kernel⟩
theorem sc_is_place : FnScope N_is_place ["thing"] (defScope s_is_place):=⟨rfl,rfl,rfl,by decide +kernel,rfl,by decide +kernel,by decide +kernel⟩
theorem sc_is_value : FnScope N_is_value ["thing"] (defScope s_is_value):=⟨rfl,rfl,rfl,by decide +kernel,rfl,by decide +kernel,by decide +kernel⟩
theorem sc_kept_in : FnScope N_kept_in ["line"] (defScope s_kept_in):=⟨rfl,rfl,rfl,by decide +kernel,rfl,by decide +kernel,by decide +kernel⟩
theorem sc_Reader_put : FnScope N_Reader_put ["self","at","word","name","thing","kind"] (defScope s_Reader_put):=⟨rfl,rfl,rfl,by decide +kernel,rfl,by decide +kernel,by decide +kernel⟩
theorem sc_Reader_take_kept : FnScope N_Reader_take_kept ["self","at","kept"] (defScope s_Reader_take_kept):=⟨rfl,rfl,rfl,by decide +kernel,rfl,by decide +kernel,by decide +kernel⟩
theorem sc_section_in : FnScope N_section_in ["line"] (defScope s_section_in):=⟨rfl,rfl,rfl,by decide +kernel,rfl,by decide +kernel,by decide +kernel⟩
theorem sc_setting_in : FnScope N_setting_in ["line"] (defScope s_setting_in):=⟨rfl,rfl,rfl,by decide +kernel,rfl,by decide +kernel,by decide +kernel⟩
theorem sc_Reader_take_setting : FnScope N_Reader_take_setting ["self","at","setting"] (defScope s_Reader_take_setting):=⟨rfl,rfl,rfl,by decide +kernel,rfl,by decide +kernel,by decide +kernel⟩
theorem sc_Reader_take : FnScope N_Reader_take ["self","at","line"] (defScope s_Reader_take):=⟨rfl,rfl,rfl,by decide +kernel,rfl,by decide +kernel,by decide +kernel⟩
theorem sc_parts_of : FnScope N_parts_of ["parts"] (defScope s_parts_of):=⟨rfl,rfl,rfl,by decide +kernel,rfl,by decide +kernel,by decide +kernel⟩
theorem sc_SettingsFile_init : FnScope N_SettingsFile_init ["self","text"] (defScope s_SettingsFile_init):=⟨rfl,rfl,rfl,by decide +kernel,rfl,by decide +kernel,by decide +kernel⟩
theorem sc_SettingsFile___eq__ : FnScope N_SettingsFile___eq__ ["self","other"] (defScope s_SettingsFile___eq__):=⟨rfl,rfl,rfl,by decide +kernel,rfl,by decide +kernel,by decide +kernel⟩
theorem sc_SettingsFile___len__ : FnScope N_SettingsFile___len__ ["self"] (defScope s_SettingsFile___len__):=⟨rfl,rfl,rfl,by decide +kernel,rfl,by decide +kernel,by decide +kernel⟩
theorem sc_SettingsFile_lines : FnScope N_SettingsFile_lines ["self"] (defScope s_SettingsFile_lines):=⟨rfl,rfl,rfl,by decide +kernel,rfl,by decide +kernel,by decide +kernel⟩
theorem sc_SettingsFile_sections : FnScope N_SettingsFile_sections ["self"] (defScope s_SettingsFile_sections):=⟨rfl,rfl,rfl,by decide +kernel,rfl,by decide +kernel,by decide +kernel⟩
theorem sc_SettingsFile_pairs : GScope N_SettingsFile_pairs ["self"] (defScope s_SettingsFile_pairs):=⟨rfl,rfl,rfl,by decide +kernel,rfl,by decide +kernel,by decide +kernel⟩
theorem sc_L_law_unlike : FnScope N_L_law_unlike ["_law_file","_law_whole"] (defScope s_L_law_unlike):=⟨rfl,rfl,rfl,by decide +kernel,rfl,by decide +kernel,by decide +kernel⟩
theorem sc_SettingsFile___str__ : FnScope N_SettingsFile___str__ ["self"] (defScope s_SettingsFile___str__):=⟨rfl,rfl,rfl,by decide +kernel,rfl,by decide +kernel,by decide +kernel⟩
theorem sc_law : FnScope N_law ["_law_script"] (defScope s_law):=⟨rfl,rfl,rfl,by decide +kernel,rfl,by decide +kernel,by decide +kernel⟩
set_option genInjectivity false in
/-- where the classes stand -/
structure Ad where
 C_Reader : Addr
 C_SettingsFile : Addr
 f_L_law_bag : Addr
 f_L_law_take : Addr
 f_L_law_of : Addr
 f_L_law_lines : Addr
 f_L_law_changed : Addr
 f_Reader_init : Addr
 f_lines_of : Addr
 f_is_made_of : Addr
 f_is_number : Addr
 f_is_name : Addr
 f_is_place : Addr
 f_is_value : Addr
 f_kept_in : Addr
 f_Reader_put : Addr
 f_Reader_take_kept : Addr
 f_section_in : Addr
 f_setting_in : Addr
 f_Reader_take_setting : Addr
 f_Reader_take : Addr
 f_parts_of : Addr
 f_SettingsFile_init : Addr
 f_SettingsFile___eq__ : Addr
 f_SettingsFile___len__ : Addr
 f_SettingsFile_lines : Addr
 f_SettingsFile_sections : Addr
 f_SettingsFile_pairs : Addr
 f_L_law_unlike : Addr
 f_SettingsFile___str__ : Addr
 f_law : Addr
 p_SettingsFile_lines : Addr
noncomputable def Ad.own (a : Ad) : List Addr:=[a.C_SettingsFile]
/-! the mirrors -/
noncomputable section
noncomputable def b_L_law_bag_1 (K : PySem.W.Frag) (a : Ad) : G :=
  (sAsg (f2 oMod (fB (pu oInt) (fCons (f2 oAdd (f2 oAdd (f2 oAdd (f2 oMul (vVar 3) (vC (.int 40014))) (f2 oMod (fB (pu oInt) (fCons (vVar 5) fNil)) (vC (.int 2147483563)))) (f2 oMul (vC (.int 83)) (vVar 4))) (vC (.int 7))) fNil)) (vC (.int 2147483563))) (tgN 3))
noncomputable def g_L_law_bag (K : PySem.W.Frag) (a : Ad) : G :=
  (sSeq (sAsg (fIf (asB (f2 oLt (vVar 1) (fB (pu oLen) (fCons (vVar 0) fNil)))) (f2 oIx (vVar 0) (vVar 1)) (vC (.int 0))) (tgN 2))
  (sSeq (sAsg (f2 oAdd (f2 oMul (vC (.int 4093)) (vVar 1)) (vC (.int 47))) (tgN 3))
  (sSeq (sFor (fItS itE (fCons (fSl (vVar 0) oNone (oSome (vC (.int 40)))) fNil)) (tgT 2 (tgCons (tgN 4) (tgCons (tgN 5) tgNil))) (b_L_law_bag_1 K a))
  (sRet (fLstC (fCons (fIf (asB (f2 oGe (fB (pu oAbs) (fCons (vVar 2) fNil)) (f2 oPow (vC (.int 10)) (vC (.int 18))))) (fB (pu oAbs) (fCons (vVar 2) fNil)) (vC (.int 0))) (fCons (vVar 3) fNil)))))))
noncomputable def m_L_law_bag (K : PySem.W.Frag) (a : Ad) : List U → M U:=fnM 6 (g_L_law_bag K a) wKeep
noncomputable def g_L_law_take (K : PySem.W.Frag) (a : Ad) : G :=
  (sSeq (sIf (asB (f2 oGt (f2 oIx (vVar 0) (vC (.int 0))) (vC (.int 0))))
  (sSeq (sAsg (f2 oMod (fB (pu oInt) (fCons (f2 oIx (vVar 0) (vC (.int 0))) fNil)) (vVar 1)) (tgN 2))
  (sSeq (sAsg (f2 oFdiv (f2 oIx (vVar 0) (vC (.int 0))) (vVar 1)) (tgSub (vVar 0) (vC (.int 0))))
  (sRet (vVar 2))))
  sNil)
  (sSeq (sAsg (f2 oMod (fB (pu oInt) (fCons (f2 oAdd (f2 oMul (f2 oIx (vVar 0) (vC (.int 1))) (vC (.int 40692))) (vC (.int 2909))) fNil)) (vC (.int 2147483399))) (tgSub (vVar 0) (vC (.int 1))))
  (sRet (f2 oMod (f2 oFdiv (f2 oMod (fB (pu oInt) (fCons (f2 oMul (f2 oFdiv (f2 oIx (vVar 0) (vC (.int 1))) (vC (.int 7))) (vC (.int 69621))) fNil)) (vC (.int 2147483587))) (vC (.int 64))) (vVar 1)))))
noncomputable def m_L_law_take (K : PySem.W.Frag) (a : Ad) : List U → M U:=fnM 3 (g_L_law_take K a) wCut
noncomputable def g_L_law_of (K : PySem.W.Frag) (a : Ad) : G :=
  (sRet (f2 oIx (vVar 1) (fCall 2 0 gPos (m_L_law_take K a) (fCW (fCons (vVar 0) (fCons (fB (pu oLen) (fCons (vVar 1) fNil)) fNil)) fNil))))
noncomputable def m_L_law_of (K : PySem.W.Frag) (a : Ad) : List U → M U:=fnM 2 (g_L_law_of K a) wFrz
noncomputable def b_L_law_lines_1 (K : PySem.W.Frag) (a : Ad) : G :=
  (sAsg (f2s vAddC (f2 oAddL (vVar 1) (fSl (fN vLst (fCons (vC (.str "# c")) fNil)) oNone (oSome (fCall 2 0 gPos (m_L_law_take K a) (fCW (fCons (vVar 0) (fCons (vC (.int 2)) fNil)) fNil))))) (fN vLst (fCons (f2 oAdd (f2 oAdd (vVar 3) (vC (.str " = "))) (fCall 2 0 gPos (m_L_law_of K a) (fCW (fCons (vVar 0) (fCons (fN vLst (fCons (vC (.str "1")) (fCons (vC (.str "on")) fNil))) fNil)) fNil))) fNil))) (tgN 1))
noncomputable def b_L_law_lines_2 (K : PySem.W.Frag) (a : Ad) : G :=
  (sSeq (sExpr (fM "list" mAppend (vVar 1) (fCons (f2 oAdd (f2 oAdd (vC (.str "[")) (vVar 2)) (vC (.str "]"))) fNil)))
  (sFor (fIter (fSl (fN vLst (fCons (vC (.str "a")) (fCons (vC (.str "port")) (fCons (vC (.str "xx")) fNil)))) oNone (oSome (fCall 2 0 gPos (m_L_law_take K a) (fCW (fCons (vVar 0) (fCons (vC (.int 4)) fNil)) fNil))))) (tgN 3) (b_L_law_lines_1 K a)))
noncomputable def g_L_law_lines (K : PySem.W.Frag) (a : Ad) : G :=
  (sSeq (sAsg (fSlC (fN vLst (fCons (vC (.str "# top")) (fCons (vC (.str "")) fNil))) (oSome (fCall 2 0 gPos (m_L_law_take K a) (fCW (fCons (vVar 0) (fCons (vC (.int 3)) fNil)) fNil))) oNone) (tgN 1))
  (sSeq (sFor (fIter (fSl (fN vLst (fCons (vC (.str "net")) (fCons (vC (.str "b")) fNil))) oNone (oSome (fCall 2 0 gPos (m_L_law_take K a) (fCW (fCons (vVar 0) (fCons (vC (.int 3)) fNil)) fNil))))) (tgN 2) (b_L_law_lines_2 K a))
  (sRet (f2 oAddL (vVar 1) (fSl (fN vLst (fCons (vC (.str "#~ 2 a.b")) (fCons (vC (.str "#~ 3 a.b = 1")) (fCons (vC (.str "")) fNil)))) (oSome (fCall 2 0 gPos (m_L_law_take K a) (fCW (fCons (vVar 0) (fCons (vC (.int 4)) fNil)) fNil))) oNone)))))
noncomputable def m_L_law_lines (K : PySem.W.Frag) (a : Ad) : List U → M U:=fnM 4 (g_L_law_lines K a) wFrz
noncomputable def c_L_law_changed_1 (K : PySem.W.Frag) (a : Ad) : F U :=
  fLcX (fIter (vVar 1)) (tgN 4) tYesB (fRepl (vVar 4) "1" "on") [4]
noncomputable def c_L_law_changed_2 (K : PySem.W.Frag) (a : Ad) : F U :=
  fLc (fIter (vVar 1)) (tgN 4) (asB (f2 oNe (vVar 4) (vC (.str "")))) (vVar 4) [4]
noncomputable def c_L_law_changed_3 (K : PySem.W.Frag) (a : Ad) : F U :=
  fLc (fIter (vVar 1)) (tgN 4) (asT (fM "str" (pu4 mStarts) (vVar 4) (fCons (vC (.str "#~")) fNil))) (vVar 4) [4]
noncomputable def c_L_law_changed_4 (K : PySem.W.Frag) (a : Ad) : F U :=
  fLc (fIter (vVar 1)) (tgN 4) (bNot (asT (fM "str" (pu4 mStarts) (vVar 4) (fCons (vC (.str "#~")) fNil)))) (vVar 4) [4]
noncomputable def g_L_law_changed (K : PySem.W.Frag) (a : Ad) : G :=
  (sSeq (sPar 2 3 (fCons (fCall 2 0 gPos (m_L_law_take K a) (fCW (fCons (vVar 0) (fCons (vC (.int 8)) fNil)) fNil)) (fCons (fCall 2 0 gPos (m_L_law_take K a) (fCW (fCons (vVar 0) (fCons (f2 oAdd (fB (pu oLen) (fCons (vVar 1) fNil)) (vC (.int 1))) fNil)) fNil)) fNil)))
  (sSeq (sIf (asB (f2 oLt (vVar 2) (vC (.int 2))))
  (sRet (fB (pu oList) (fCons (vVar 1) fNil)))
  sNil)
  (sSeq (sIf (asB (f2 oLt (vVar 2) (vC (.int 5))))
  (sRet (f2 oAdd (f2 oAdd (fSl (vVar 1) oNone (oSome (vVar 3))) (fN vLst (fCons (f2 oIx (fN vLst (fCons (vC (.str "")) (fCons (vC (.str "#")) (fCons (vC (.str "#~ 77 x.y")) fNil)))) (f2 oSub (vVar 2) (vC (.int 2)))) fNil))) (fSl (vVar 1) (oSome (vVar 3)) oNone)))
  sNil)
  (sSeq (sIf (asB (f2 oEq (vVar 2) (vC (.int 5))))
  (sRet (c_L_law_changed_1 K a))
  sNil)
  (sSeq (sIf (asB (f2 oEq (vVar 2) (vC (.int 6))))
  (sRet (c_L_law_changed_2 K a))
  sNil)
  (sSeq (sAsg (c_L_law_changed_3 K a) (tgN 5))
  (sRet (f2 oAdd (vVar 5) (c_L_law_changed_4 K a)))))))))
noncomputable def m_L_law_changed (K : PySem.W.Frag) (a : Ad) : List U → M U:=fnM 6 (g_L_law_changed K a) wFrz
noncomputable def g_Reader_init (K : PySem.W.Frag) (a : Ad) : G :=
  (sSeq (sFldS [a.C_Reader] "section" (vVar 0) (vC .non))
  (sSeq (sFldS [a.C_Reader] "met" (vVar 0) (fLstC fNil))
  (sFldS [a.C_Reader] "parts" (vVar 0) (fLstC fNil))))
noncomputable def m_Reader_init (K : PySem.W.Frag) (a : Ad) : List U → M U:=fnM 1 (g_Reader_init K a) wId
noncomputable def g_lines_of (K : PySem.W.Frag) (a : Ad) : G :=
  (sRet (fIf (asB (f2 oNe (vVar 0) (vC (.str "")))) (fM "str" (pu4 mSplit) (vVar 0) (fCons (vC (.str "\n")) fNil)) (fN vLst fNil)))
noncomputable def m_lines_of (K : PySem.W.Frag) (a : Ad) : List U → M U:=fnM 1 (g_lines_of K a) wFrz
noncomputable def c_is_made_of_1 (K : PySem.W.Frag) (a : Ad) : F U :=
  fLc (fIter (vVar 0)) (tgN 3) tYesB (f2 oIn (vVar 3) (vVar 1)) [3]
noncomputable def g_is_made_of (K : PySem.W.Frag) (a : Ad) : G :=
  (sRet (fAnd (fB (pu (oIsi K a.own)) (fCons (vVar 0) (fCons (vC (.ty "str")) fNil))) (fAnd (fChain oLe oLe (vC (.int 1)) (fB (pu oLen) (fCons (vVar 0) fNil)) (vVar 2)) (fB (pu oAll) (fCons (c_is_made_of_1 K a) fNil)))))
noncomputable def m_is_made_of (K : PySem.W.Frag) (a : Ad) : List U → M U:=fnM 4 (g_is_made_of K a) wFrz
noncomputable def g_is_number (K : PySem.W.Frag) (a : Ad) : G :=
  (sRet (fAnd (fCall 3 0 gPos (m_is_made_of K a) (fCW (fCons (vVar 0) (fCons (vC (.str "0123456789")) (fCons (vC (.int 2)) fNil))) fNil)) (fOr (f2 oEq (vVar 0) (vC (.str "0"))) (f2 oNe (f2 oIx (vVar 0) (vC (.int 0))) (vC (.str "0"))))))
noncomputable def m_is_number (K : PySem.W.Frag) (a : Ad) : List U → M U:=fnM 1 (g_is_number K a) wFrz
noncomputable def g_is_name (K : PySem.W.Frag) (a : Ad) : G :=
  (sRet (fCall 3 0 gPos (m_is_made_of K a) (fCW (fCons (vVar 0) (fCons (vC (.str "abcdefghijklmnopqrstuvwxyz")) (fCons (vC (.int 8)) fNil))) fNil)))
noncomputable def m_is_name (K : PySem.W.Frag) (a : Ad) : List U → M U:=fnM 1 (g_is_name K a) wFrz
noncomputable def g_is_place (K : PySem.W.Frag) (a : Ad) : G :=
  (sSeq (sIf (bNot (asT (fB (pu (oIsi K a.own)) (fCons (vVar 0) (fCons (vC (.ty "str")) fNil)))))
  (sRet (vC (.bl false)))
  sNil)
  (sSeq (sAsg (fM "str" (pu4 mPartition) (vVar 0) (fCons (vC (.str ".")) fNil)) (tgT 3 (tgCons (tgN 1) (tgCons (tgN 2) (tgCons (tgN 3) tgNil)))))
  (sRet (fAnd (fCall 1 0 gPos (m_is_name K a) (fCW (fCons (vVar 1) fNil) fNil)) (fCall 1 0 gPos (m_is_name K a) (fCW (fCons (vVar 3) fNil) fNil))))))
noncomputable def m_is_place (K : PySem.W.Frag) (a : Ad) : List U → M U:=fnM 4 (g_is_place K a) wFrz
noncomputable def g_is_value (K : PySem.W.Frag) (a : Ad) : G :=
  (sRet (fAnd (fCall 3 0 gPos (m_is_made_of K a) (fCW (fCons (vVar 0) (fCons (f2 oAdd (f2 oAdd (vC (.str "abcdefghijklmnopqrstuvwxyz")) (vC (.str "0123456789"))) (vC (.str "-"))) (fCons (vC (.int 12)) fNil))) fNil)) (f2 oNe (f2 oIx (vVar 0) (vC (.int 0))) (vC (.str "-")))))
noncomputable def m_is_value (K : PySem.W.Frag) (a : Ad) : List U → M U:=fnM 1 (g_is_value K a) wFrz
noncomputable def g_kept_in (K : PySem.W.Frag) (a : Ad) : G :=
  (sSeq (sAsg (fM "str" (pu4 mSplit) (vVar 0) (fCons (vC (.str " ")) fNil)) (tgN 1))
  (sSeq (sIf (bOr (asB (f2 oNotIn (fB (pu oLen) (fCons (vVar 1) fNil)) (fTup (fCons (vC (.int 3)) (fCons (vC (.int 5)) fNil))))) (bOr (asB (f2 oNe (f2 oIx (vVar 1) (vC (.int 0))) (vC (.str "#~")))) (bOr (bNot (asT (fCall 1 0 gPos (m_is_number K a) (fCW (fCons (f2 oIx (vVar 1) (vC (.int 1))) fNil) fNil)))) (bNot (asT (fCall 1 0 gPos (m_is_place K a) (fCW (fCons (f2 oIx (vVar 1) (vC (.int 2))) fNil) fNil)))))))
  (sRet (vC .non))
  sNil)
  (sSeq (sIf (asB (f2 oEq (fB (pu oLen) (fCons (vVar 1) fNil)) (vC (.int 3))))
  (sRet (fTup (fCons (fB (pu oInt) (fCons (f2 oIx (vVar 1) (vC (.int 1))) fNil)) (fCons (f2 oIx (vVar 1) (vC (.int 2))) (fCons (vC .non) fNil)))))
  sNil)
  (sRet (fIf (bAnd (asB (f2 oEq (f2 oIx (vVar 1) (vC (.int 3))) (vC (.str "=")))) (asT (fCall 1 0 gPos (m_is_value K a) (fCW (fCons (f2 oIx (vVar 1) (vC (.int 4))) fNil) fNil)))) (fTup (fCons (fB (pu oInt) (fCons (f2 oIx (vVar 1) (vC (.int 1))) fNil)) (fCons (f2 oIx (vVar 1) (vC (.int 2))) (fCons (f2 oIx (vVar 1) (vC (.int 4))) fNil)))) (vC .non))))))
noncomputable def m_kept_in (K : PySem.W.Frag) (a : Ad) : List U → M U:=fnM 2 (g_kept_in K a) wFrz
noncomputable def g_Reader_put (K : PySem.W.Frag) (a : Ad) : G :=
  (sSeq (sIf (asB (f2 oIn (fTup (fCons (vVar 2) (fCons (vVar 3) fNil))) (fFld [a.C_Reader] "met" (vVar 0))))
  sNo
  sNil)
  (sSeq (sExpr (fM "list" mAppend (fFld [a.C_Reader] "met" (vVar 0)) (fCons (fTup (fCons (vVar 2) (fCons (vVar 3) fNil))) fNil)))
  (sExpr (fM "list" mAppend (fFld [a.C_Reader] "parts" (vVar 0)) (fCons (fTup (fCons (vVar 1) (fCons (vVar 2) (fCons (vVar 4) fNil)))) fNil)))))
noncomputable def m_Reader_put (K : PySem.W.Frag) (a : Ad) : List U → M U:=fnM 6 (g_Reader_put K a) wCut
noncomputable def g_Reader_take_kept (K : PySem.W.Frag) (a : Ad) : G :=
  (sSeq (sIf (asB (f2 oIsN (vVar 2) (vC .non)))
  sNo
  sNil)
  (sExpr (fMeth a.C_Reader "put" 5 0 gPos (m_Reader_put K a) (vVar 0) (fCW (fCons (vVar 1) (fCons (vC (.str "kept")) (fCons (fSl (vVar 2) oNone (oSome (vC (.int 2)))) (fCons (vVar 2) (fCons (vC (.str "again")) fNil))))) fNil))))
noncomputable def m_Reader_take_kept (K : PySem.W.Frag) (a : Ad) : List U → M U:=fnM 3 (g_Reader_take_kept K a) wCut
noncomputable def g_section_in (K : PySem.W.Frag) (a : Ad) : G :=
  (sSeq (sAsg (fSl (vVar 0) (oSome (vC (.int 1))) (oSome (f1 oNeg (vC (.int 1))))) (tgN 1))
  (sRet (fIf (bAnd (asB (f2 oEq (fSl (vVar 0) oNone (oSome (vC (.int 1)))) (vC (.str "[")))) (bAnd (asB (f2 oEq (fSl (vVar 0) (oSome (f1 oNeg (vC (.int 1)))) oNone) (vC (.str "]")))) (asT (fCall 1 0 gPos (m_is_name K a) (fCW (fCons (vVar 1) fNil) fNil))))) (vVar 1) (vC .non))))
noncomputable def m_section_in (K : PySem.W.Frag) (a : Ad) : List U → M U:=fnM 2 (g_section_in K a) wFrz
noncomputable def g_setting_in (K : PySem.W.Frag) (a : Ad) : G :=
  (sSeq (sAsg (fM "str" (pu4 mPartition) (vVar 0) (fCons (vC (.str " = ")) fNil)) (tgT 3 (tgCons (tgN 1) (tgCons (tgN 2) (tgCons (tgN 3) tgNil)))))
  (sRet (fIf (bAnd (asT (fCall 1 0 gPos (m_is_name K a) (fCW (fCons (vVar 1) fNil) fNil))) (asT (fCall 1 0 gPos (m_is_value K a) (fCW (fCons (vVar 3) fNil) fNil)))) (fTup (fCons (vVar 1) (fCons (vVar 3) fNil))) (vC .non))))
noncomputable def m_setting_in (K : PySem.W.Frag) (a : Ad) : List U → M U:=fnM 4 (g_setting_in K a) wFrz
noncomputable def g_Reader_take_setting (K : PySem.W.Frag) (a : Ad) : G :=
  (sSeq (sIf (asB (f2 oIsN (vVar 2) (vC .non)))
  sNo
  sNil)
  (sSeq (sIf (asB (f2 oIsN (fFld [a.C_Reader] "section" (vVar 0)) (vC .non)))
  sNo
  sNil)
  (sSeq (sAsg (fJs [(f1 oFmt (fFld [a.C_Reader] "section" (vVar 0))),(vC (.str ".")),(f1 oFmt (f2 oIx (vVar 2) (vC (.int 0))))] Str.empty) (tgN 3))
  (sExpr (fMeth a.C_Reader "put" 5 0 gPos (m_Reader_put K a) (vVar 0) (fCW (fCons (vVar 1) (fCons (vC (.str "place")) (fCons (vVar 3) (fCons (fTup (fCons (vVar 3) (fCons (f2 oIx (vVar 2) (vC (.int 1))) fNil))) (fCons (vC (.str "key")) fNil))))) fNil))))))
noncomputable def m_Reader_take_setting (K : PySem.W.Frag) (a : Ad) : List U → M U:=fnM 4 (g_Reader_take_setting K a) wCut
noncomputable def g_Reader_take (K : PySem.W.Frag) (a : Ad) : G :=
  (sIf (asT (fM "str" (pu4 mStarts) (vVar 2) (fCons (vC (.str "#~")) fNil)))
  (sExpr (fMeth a.C_Reader "take_kept" 2 0 gPos (m_Reader_take_kept K a) (vVar 0) (fCW (fCons (vVar 1) (fCons (fCall 1 0 gPos (m_kept_in K a) (fCW (fCons (vVar 2) fNil) fNil)) fNil)) fNil)))
  (sIf (bOr (asB (f2 oEq (vVar 2) (vC (.str "")))) (asT (fM "str" (pu4 mStarts) (vVar 2) (fCons (vC (.str "#")) fNil))))
  (sExpr (fM "list" mAppend (fFld [a.C_Reader] "parts" (vVar 0)) (fCons (fTup (fCons (vVar 1) (fCons (vC (.str "remark")) (fCons (vVar 2) fNil)))) fNil)))
  (sIf (asB (f2 oNotN (fCall 1 0 gPos (m_section_in K a) (fCW (fCons (vVar 2) fNil) fNil)) (vC .non)))
  (sSeq (sFldS [a.C_Reader] "section" (vVar 0) (fCall 1 0 gPos (m_section_in K a) (fCW (fCons (vVar 2) fNil) fNil)))
  (sExpr (fMeth a.C_Reader "put" 5 0 gPos (m_Reader_put K a) (vVar 0) (fCW (fCons (vVar 1) (fCons (vC (.str "section")) (fCons (fFld [a.C_Reader] "section" (vVar 0)) (fCons (fFld [a.C_Reader] "section" (vVar 0)) (fCons (vC (.str "section")) fNil))))) fNil))))
  (sExpr (fMeth a.C_Reader "take_setting" 2 0 gPos (m_Reader_take_setting K a) (vVar 0) (fCW (fCons (vVar 1) (fCons (fCall 1 0 gPos (m_setting_in K a) (fCW (fCons (vVar 2) fNil) fNil)) fNil)) fNil))))))
noncomputable def m_Reader_take (K : PySem.W.Frag) (a : Ad) : List U → M U:=fnM 3 (g_Reader_take K a) wCut
noncomputable def c_parts_of_1 (K : PySem.W.Frag) (a : Ad) : F U :=
  fLc (fIter (vVar 0)) (tgT 3 (tgCons (tgN 1) (tgCons (tgN 2) (tgCons (tgN 3) tgNil)))) (asB (f2 oNe (vVar 2) (vC (.str "remark")))) (fTup (fCons (vVar 1) (fCons (vVar 2) (fCons (fIf (asB (f2 oEq (vVar 2) (vC (.str "place")))) (f2 oIx (vVar 3) (vC (.int 0))) (vVar 3)) fNil)))) [1,2,3]
noncomputable def g_parts_of (K : PySem.W.Frag) (a : Ad) : G :=
  (sRet (c_parts_of_1 K a))
noncomputable def m_parts_of (K : PySem.W.Frag) (a : Ad) : List U → M U:=fnM 4 (g_parts_of K a) wFrz
noncomputable def b_SettingsFile_init_1 (K : PySem.W.Frag) (a : Ad) : G :=
  (sExpr (fMeth a.C_Reader "take" 2 0 gPos (m_Reader_take K a) (vVar 2) (fCW (fCons (vVar 3) (fCons (vVar 4) fNil)) fNil)))
noncomputable def c_SettingsFile_init_1 (K : PySem.W.Frag) (a : Ad) : F U :=
  fLc (fIter (fFld [a.C_Reader] "parts" (vVar 2))) (tgT 3 (tgCons (tgN 3) (tgCons (tgN 5) (tgCons (tgN 6) tgNil)))) (asB (f2 oEq (vVar 5) (vC (.str "place")))) (vVar 6) [3,5,6]
noncomputable def g_SettingsFile_init (K : PySem.W.Frag) (a : Ad) : G :=
  (sSeq (sIf (bNot (asT (fB (pu (oIsi K a.own)) (fCons (vVar 1) (fCons (vC (.ty "str")) fNil)))))
  sNo
  sNil)
  (sSeq (sAsg (fMake a.C_Reader 0 0 gPos (m_Reader_init K a) (fCW fNil fNil)) (tgN 2))
  (sSeq (sFor (fItS itE (fCons (fCall 1 0 gPos (m_lines_of K a) (fCW (fCons (vVar 1) fNil) fNil)) fNil)) (tgT 2 (tgCons (tgN 3) (tgCons (tgN 4) tgNil))) (b_SettingsFile_init_1 K a))
  (sSeq (sFldS [a.C_SettingsFile] "whole" (vVar 0) (vVar 1))
  (sSeq (sFldS [a.C_SettingsFile] "all_parts" (vVar 0) (fFld [a.C_Reader] "parts" (vVar 2)))
  (sSeq (sFldS [a.C_SettingsFile] "parts" (vVar 0) (fCall 1 0 gPos (m_parts_of K a) (fCW (fCons (fFld [a.C_Reader] "parts" (vVar 2)) fNil) fNil)))
  (sFldS [a.C_SettingsFile] "settings_read" (vVar 0) (fB (pu oDict) (fCons (c_SettingsFile_init_1 K a) fNil)))))))))
noncomputable def m_SettingsFile_init (K : PySem.W.Frag) (a : Ad) : List U → M U:=fnM 7 (g_SettingsFile_init K a) wId
noncomputable def g_SettingsFile___eq__ (K : PySem.W.Frag) (a : Ad) : G :=
  (sRet (fAnd (fB (pu (oIsi K a.own)) (fCons (vVar 1) (fCons (vC (.obj a.C_SettingsFile)) fNil))) (f2 oEq (fFld [a.C_SettingsFile] "whole" (vVar 0)) (fFld [a.C_SettingsFile] "whole" (vVar 1)))))
noncomputable def m_SettingsFile___eq__ (K : PySem.W.Frag) (a : Ad) : List U → M U:=fnM 2 (g_SettingsFile___eq__ K a) wFrz
noncomputable def g_SettingsFile___len__ (K : PySem.W.Frag) (a : Ad) : G :=
  (sRet (fB (pu oLen) (fCons (fFld [a.C_SettingsFile] "settings_read" (vVar 0)) fNil)))
noncomputable def m_SettingsFile___len__ (K : PySem.W.Frag) (a : Ad) : List U → M U:=fnM 1 (g_SettingsFile___len__ K a) wFrz
noncomputable def g_SettingsFile_lines (K : PySem.W.Frag) (a : Ad) : G :=
  (sRet (fCall 1 0 gPos (m_lines_of K a) (fCW (fCons (fFld [a.C_SettingsFile] "whole" (vVar 0)) fNil) fNil)))
noncomputable def m_SettingsFile_lines (K : PySem.W.Frag) (a : Ad) : List U → M U:=fnM 1 (g_SettingsFile_lines K a) wFrz
noncomputable def c_SettingsFile_sections_1 (K : PySem.W.Frag) (a : Ad) : F U :=
  fLc (fIter (fFld [a.C_SettingsFile] "all_parts" (vVar 0))) (tgT 3 (tgCons (tgN 1) (tgCons (tgN 2) (tgCons (tgN 3) tgNil)))) (asB (f2 oEq (vVar 2) (vC (.str "section")))) (vVar 3) [1,2,3]
noncomputable def g_SettingsFile_sections (K : PySem.W.Frag) (a : Ad) : G :=
  (sRet (c_SettingsFile_sections_1 K a))
noncomputable def m_SettingsFile_sections (K : PySem.W.Frag) (a : Ad) : List U → M U:=fnM 4 (g_SettingsFile_sections K a) wFrz
noncomputable def b_SettingsFile_pairs_1 (K : PySem.W.Frag) (a : Ad) : Y :=
  (ySeq (yIf (asB (f2 oEq (vVar 2) (vC (.str "place"))))
  (ySeq (yYield (vVar 3))
  yNil)
  yNil)
  yNil)
noncomputable def g_SettingsFile_pairs (K : PySem.W.Frag) (a : Ad) : Y :=
  (ySeq (yFor (fIter (fFld [a.C_SettingsFile] "all_parts" (vVar 0))) (tgT 3 (tgCons (tgN 1) (tgCons (tgN 2) (tgCons (tgN 3) tgNil)))) (b_SettingsFile_pairs_1 K a))
  yNil)
noncomputable def m_SettingsFile_pairs (K : PySem.W.Frag) (a : Ad) : List U → Store → Option (Store × List U):=runY 4 (g_SettingsFile_pairs K a)
noncomputable def c_L_law_unlike_1 (K : PySem.W.Frag) (a : Ad) : F U :=
  fLc (fIter (vVar 2)) (tgN 4) tYesB (fN vLst (fCons (f2s (eqM a.C_SettingsFile eqTys (m_SettingsFile___eq__ K a)) (vVar 0) (vVar 4)) (fCons (f2s (neM a.C_SettingsFile eqTys (m_SettingsFile___eq__ K a)) (vVar 0) (vVar 4)) (fCons (f2s (eqM a.C_SettingsFile eqTys (m_SettingsFile___eq__ K a)) (vVar 4) (vVar 0)) fNil)))) [4]
noncomputable def g_L_law_unlike (K : PySem.W.Frag) (a : Ad) : G :=
  (sSeq (sAsg (fN vLst (fCons (vVar 1) (fCons (vC .non) (fCons (vC (.bl true)) (fCons (fB (oLenO a.C_SettingsFile (m_SettingsFile___len__ K a)) (fCons (vVar 0) fNil)) (fCons (fProp a.C_SettingsFile (m_SettingsFile_lines K a) (vVar 0)) (fCons (fTup (fCons (vVar 1) fNil)) (fCons (fMeth a.C_SettingsFile "sections" 0 0 gPos (m_SettingsFile_sections K a) (vVar 0) (fCW fNil fNil)) (fCons (fListY a.C_SettingsFile "pairs" (m_SettingsFile_pairs K a) (vVar 0)) fNil))))))))) (tgN 2))
  (sSeq (sAsg (c_L_law_unlike_1 K a) (tgN 3))
  (sRet (f2 oEq (vVar 3) (f2 oRep (fN vLst (fCons (fN vLst (fCons (vC (.bl false)) (fCons (vC (.bl true)) (fCons (vC (.bl false)) fNil)))) fNil)) (fB (pu oLen) (fCons (vVar 2) fNil)))))))
noncomputable def m_L_law_unlike (K : PySem.W.Frag) (a : Ad) : List U → M U:=fnM 5 (g_L_law_unlike K a) wFrz
noncomputable def g_SettingsFile___str__ (K : PySem.W.Frag) (a : Ad) : G :=
  (sRet (fB (pu oStrS) (fCons (fFld [a.C_SettingsFile] "whole" (vVar 0)) fNil)))
noncomputable def m_SettingsFile___str__ (K : PySem.W.Frag) (a : Ad) : List U → M U:=fnM 1 (g_SettingsFile___str__ K a) wFrz
noncomputable def b_law_1 (K : PySem.W.Frag) (a : Ad) : G :=
  (sSeq (sAsg (fCall 1 0 gPos (m_L_law_lines K a) (fCW (fCons (vVar 2) fNil) fNil)) (tgN 4))
  (sSeq (sAsg (fCall 2 0 gPos (m_L_law_changed K a) (fCW (fCons (vVar 2) (fCons (vVar 4) fNil)) fNil)) (tgN 5))
  (sSeq (sPar 6 7 (fCons (fM "str" (pu4 mJoin) (vC (.str "\n")) (fCons (vVar 4) fNil)) (fCons (fM "str" (pu4 mJoin) (vC (.str "\n")) (fCons (vVar 5) fNil)) fNil)))
  (sSeq (sPar 8 9 (fCons (fWr wFrz (fMake a.C_SettingsFile 1 0 gPos (m_SettingsFile_init K a) (fCW (fCons (vVar 6) fNil) fNil))) (fCons (fWr wFrz (fMake a.C_SettingsFile 1 0 gPos (m_SettingsFile_init K a) (fCW (fCons (vVar 7) fNil) fNil))) fNil)))
  (sSeq (sAsg (f2 oEq (vVar 6) (vVar 7)) (tgN 10))
  (sSeq (sIf (asB (f2 oNe (fN vLst (fCons (f2s (eqM a.C_SettingsFile eqTys (m_SettingsFile___eq__ K a)) (vVar 8) (vVar 9)) (fCons (f2s (neM a.C_SettingsFile eqTys (m_SettingsFile___eq__ K a)) (vVar 8) (vVar 9)) (fCons (f2s (eqM a.C_SettingsFile eqTys (m_SettingsFile___eq__ K a)) (vVar 9) (vVar 8)) fNil)))) (fN vLst (fCons (vVar 10) (fCons (fNot (vVar 10)) (fCons (vVar 10) fNil))))))
  (sRet (vC (.bl false)))
  sNil)
  (sIf (bOr (bNot (asT (fCall 2 0 gPos (m_L_law_unlike K a) (fCW (fCons (vVar 8) (fCons (vVar 6) fNil)) fNil)))) (bOr (bNot (asB (f2s (eqM a.C_SettingsFile eqTys (m_SettingsFile___eq__ K a)) (fWr wFrz (fMake a.C_SettingsFile 1 0 gPos (m_SettingsFile_init K a) (fCW (fCons (fB (oStrO a.C_SettingsFile (m_SettingsFile___str__ K a)) (fCons (vVar 9) fNil)) fNil) fNil))) (vVar 9)))) (asB (f2 oNe (fB (oStrO a.C_SettingsFile (m_SettingsFile___str__ K a)) (fCons (vVar 8) fNil)) (vVar 6)))))
  (sRet (vC (.bl false)))
  sNil)))))))
noncomputable def b_law_2 (K : PySem.W.Frag) (a : Ad) : G :=
  (sSeq (sAsg (fCall 2 0 gPos (m_L_law_bag K a) (fCW (fCons (vVar 0) (fCons (vVar 1) fNil)) fNil)) (tgN 2))
  (sFor (fItN itR (fCons (vC (.int 12)) fNil)) (tgN 3) (b_law_1 K a)))
noncomputable def g_law (K : PySem.W.Frag) (a : Ad) : G :=
  (sSeq (sFor (fItN itR (fCons (fB (pu oMax) (fCons (vC (.int 1)) (fCons (fB (pu oMin) (fCons (vC (.int 4)) (fCons (fB (pu oLen) (fCons (vVar 0) fNil)) fNil))) fNil))) fNil)) (tgN 1) (b_law_2 K a))
  (sRet (fAnd (f2s (eqM a.C_SettingsFile eqTys (m_SettingsFile___eq__ K a)) (fWr wFrz (fMake a.C_SettingsFile 1 0 gPos (m_SettingsFile_init K a) (fCW (fCons (vC (.str "")) fNil) fNil))) (fWr wFrz (fMake a.C_SettingsFile 1 0 gPos (m_SettingsFile_init K a) (fCW (fCons (vC (.str "")) fNil) fNil)))) (f2s (neM a.C_SettingsFile eqTys (m_SettingsFile___eq__ K a)) (fWr wFrz (fMake a.C_SettingsFile 1 0 gPos (m_SettingsFile_init K a) (fCW (fCons (vC (.str "[a]")) fNil) fNil))) (fWr wFrz (fMake a.C_SettingsFile 1 0 gPos (m_SettingsFile_init K a) (fCW (fCons (vC (.str "[a]\n")) fNil) fNil)))))))
noncomputable def m_law (K : PySem.W.Frag) (a : Ad) : List U → M U:=fnM 11 (g_law K a) wFrz
end
structure Tx (K : PySem.W.Frag) (mg : Str → Option Value) (base : Heap) (a : Ad) : Prop where
 z_abs : mg "abs" = none
 z_all : mg "all" = none
 z_dict : mg "dict" = none
 z_enumerate : mg "enumerate" = none
 z_int : mg "int" = none
 z_isinstance : mg "isinstance" = none
 z_len : mg "len" = none
 z_list : mg "list" = none
 z_max : mg "max" = none
 z_min : mg "min" = none
 z_range : mg "range" = none
 z_str : mg "str" = none
 g_DIGITS : GStr mg "DIGITS" "0123456789"
 g_KEPT : GStr mg "KEPT" "kept"
 g_LETTERS : GStr mg "LETTERS" "abcdefghijklmnopqrstuvwxyz"
 g_MOST_LETTERS : GInt mg "MOST_LETTERS" 8
 g_MOST_SIGNS : GInt mg "MOST_SIGNS" 12
 g_PLACE : GStr mg "PLACE" "place"
 g_REMARK : GStr mg "REMARK" "remark"
 g_SECTION : GStr mg "SECTION" "section"
 m_Reader : mg "Reader" = some (.ref a.C_Reader)
 cl_Reader : Cls K a.C_Reader
 m_SettingsFile : mg "SettingsFile" = some (.ref a.C_SettingsFile)
 cl_SettingsFile : Cls K a.C_SettingsFile
 mk_Reader : Mk K a.C_Reader a.f_Reader_init
 mk_SettingsFile : Mk K a.C_SettingsFile a.f_SettingsFile_init
 me_Reader_put : Meth K a.C_Reader "put" a.f_Reader_put
 me_Reader_take : Meth K a.C_Reader "take" a.f_Reader_take
 me_Reader_take_kept : Meth K a.C_Reader "take_kept" a.f_Reader_take_kept
 me_Reader_take_setting : Meth K a.C_Reader "take_setting" a.f_Reader_take_setting
 me_SettingsFile___eq__ : Meth K a.C_SettingsFile "__eq__" a.f_SettingsFile___eq__
 me_SettingsFile___len__ : Meth K a.C_SettingsFile "__len__" a.f_SettingsFile___len__
 me_SettingsFile___str__ : Meth K a.C_SettingsFile "__str__" a.f_SettingsFile___str__
 me_SettingsFile_pairs : Meth K a.C_SettingsFile "pairs" a.f_SettingsFile_pairs
 me_SettingsFile_sections : Meth K a.C_SettingsFile "sections" a.f_SettingsFile_sections
 fl_all_parts_SettingsFile : Flds K [a.C_SettingsFile] "all_parts"
 fl_met_Reader : Flds K [a.C_Reader] "met"
 fl_parts_Reader : Flds K [a.C_Reader] "parts"
 fl_parts_SettingsFile : Flds K [a.C_SettingsFile] "parts"
 fl_section_Reader : Flds K [a.C_Reader] "section"
 fl_settings_read_SettingsFile : Flds K [a.C_SettingsFile] "settings_read"
 fl_whole_SettingsFile : Flds K [a.C_SettingsFile] "whole"
 m_L_law_bag : mg "_law_bag" = some (.ref a.f_L_law_bag)
 k_L_law_bag : PySem.W.keepIn K (.ref a.f_L_law_bag) = true
 F_L_law_bag : ∃ fd,Fun K "_law_bag" "_law_bag" s_L_law_bag a.f_L_law_bag fd
 m_L_law_take : mg "_law_take" = some (.ref a.f_L_law_take)
 k_L_law_take : PySem.W.keepIn K (.ref a.f_L_law_take) = true
 F_L_law_take : ∃ fd,Fun K "_law_take" "_law_take" s_L_law_take a.f_L_law_take fd
 m_L_law_of : mg "_law_of" = some (.ref a.f_L_law_of)
 k_L_law_of : PySem.W.keepIn K (.ref a.f_L_law_of) = true
 F_L_law_of : ∃ fd,Fun K "_law_of" "_law_of" s_L_law_of a.f_L_law_of fd
 m_L_law_lines : mg "_law_lines" = some (.ref a.f_L_law_lines)
 k_L_law_lines : PySem.W.keepIn K (.ref a.f_L_law_lines) = true
 F_L_law_lines : ∃ fd,Fun K "_law_lines" "_law_lines" s_L_law_lines a.f_L_law_lines fd
 m_L_law_changed : mg "_law_changed" = some (.ref a.f_L_law_changed)
 k_L_law_changed : PySem.W.keepIn K (.ref a.f_L_law_changed) = true
 F_L_law_changed : ∃ fd,Fun K "_law_changed" "_law_changed" s_L_law_changed a.f_L_law_changed fd
 F_Reader_init : ∃ fd,Fun K "__init__" "Reader.__init__" s_Reader_init a.f_Reader_init fd
 m_lines_of : mg "lines_of" = some (.ref a.f_lines_of)
 k_lines_of : PySem.W.keepIn K (.ref a.f_lines_of) = true
 F_lines_of : ∃ fd,Fun K "lines_of" "lines_of" s_lines_of a.f_lines_of fd
 m_is_made_of : mg "is_made_of" = some (.ref a.f_is_made_of)
 k_is_made_of : PySem.W.keepIn K (.ref a.f_is_made_of) = true
 F_is_made_of : ∃ fd,Fun K "is_made_of" "is_made_of" s_is_made_of a.f_is_made_of fd
 m_is_number : mg "is_number" = some (.ref a.f_is_number)
 k_is_number : PySem.W.keepIn K (.ref a.f_is_number) = true
 F_is_number : ∃ fd,Fun K "is_number" "is_number" s_is_number a.f_is_number fd
 m_is_name : mg "is_name" = some (.ref a.f_is_name)
 k_is_name : PySem.W.keepIn K (.ref a.f_is_name) = true
 F_is_name : ∃ fd,Fun K "is_name" "is_name" s_is_name a.f_is_name fd
 m_is_place : mg "is_place" = some (.ref a.f_is_place)
 k_is_place : PySem.W.keepIn K (.ref a.f_is_place) = true
 F_is_place : ∃ fd,Fun K "is_place" "is_place" s_is_place a.f_is_place fd
 m_is_value : mg "is_value" = some (.ref a.f_is_value)
 k_is_value : PySem.W.keepIn K (.ref a.f_is_value) = true
 F_is_value : ∃ fd,Fun K "is_value" "is_value" s_is_value a.f_is_value fd
 m_kept_in : mg "kept_in" = some (.ref a.f_kept_in)
 k_kept_in : PySem.W.keepIn K (.ref a.f_kept_in) = true
 F_kept_in : ∃ fd,Fun K "kept_in" "kept_in" s_kept_in a.f_kept_in fd
 F_Reader_put : ∃ fd,Fun K "put" "Reader.put" s_Reader_put a.f_Reader_put fd
 F_Reader_take_kept : ∃ fd,Fun K "take_kept" "Reader.take_kept" s_Reader_take_kept a.f_Reader_take_kept fd
 m_section_in : mg "section_in" = some (.ref a.f_section_in)
 k_section_in : PySem.W.keepIn K (.ref a.f_section_in) = true
 F_section_in : ∃ fd,Fun K "section_in" "section_in" s_section_in a.f_section_in fd
 m_setting_in : mg "setting_in" = some (.ref a.f_setting_in)
 k_setting_in : PySem.W.keepIn K (.ref a.f_setting_in) = true
 F_setting_in : ∃ fd,Fun K "setting_in" "setting_in" s_setting_in a.f_setting_in fd
 F_Reader_take_setting : ∃ fd,Fun K "take_setting" "Reader.take_setting" s_Reader_take_setting a.f_Reader_take_setting fd
 F_Reader_take : ∃ fd,Fun K "take" "Reader.take" s_Reader_take a.f_Reader_take fd
 m_parts_of : mg "parts_of" = some (.ref a.f_parts_of)
 k_parts_of : PySem.W.keepIn K (.ref a.f_parts_of) = true
 F_parts_of : ∃ fd,Fun K "parts_of" "parts_of" s_parts_of a.f_parts_of fd
 F_SettingsFile_init : ∃ fd,Fun K "__init__" "SettingsFile.__init__" s_SettingsFile_init a.f_SettingsFile_init fd
 F_SettingsFile___eq__ : ∃ fd,Fun K "__eq__" "SettingsFile.__eq__" s_SettingsFile___eq__ a.f_SettingsFile___eq__ fd
 F_SettingsFile___len__ : ∃ fd,Fun K "__len__" "SettingsFile.__len__" s_SettingsFile___len__ a.f_SettingsFile___len__ fd
 F_SettingsFile_lines : ∃ fd,Fun K "lines" "SettingsFile.lines" s_SettingsFile_lines a.f_SettingsFile_lines fd
 F_SettingsFile_sections : ∃ fd,Fun K "sections" "SettingsFile.sections" s_SettingsFile_sections a.f_SettingsFile_sections fd
 F_SettingsFile_pairs : ∃ fd,Fun K "pairs" "SettingsFile.pairs" s_SettingsFile_pairs a.f_SettingsFile_pairs fd
 m_L_law_unlike : mg "_law_unlike" = some (.ref a.f_L_law_unlike)
 k_L_law_unlike : PySem.W.keepIn K (.ref a.f_L_law_unlike) = true
 F_L_law_unlike : ∃ fd,Fun K "_law_unlike" "_law_unlike" s_L_law_unlike a.f_L_law_unlike fd
 F_SettingsFile___str__ : ∃ fd,Fun K "__str__" "SettingsFile.__str__" s_SettingsFile___str__ a.f_SettingsFile___str__ fd
 eq_SettingsFile : EqC K a.C_SettingsFile a.f_SettingsFile___eq__ eqTys
 pp_SettingsFile_lines : PropOf K a.C_SettingsFile "lines" a.p_SettingsFile_lines a.f_SettingsFile_lines
 own : Own K a.own
section
variable {P : Program} {w : World} {K : PySem.W.Frag} {mg : Str → Option Value} {base : Heap} {a : Ad}
set_option maxHeartbeats 4000000 in
theorem fn_L_law_bag {fd : FuncData} (F : Fun K "_law_bag" "_law_bag" s_L_law_bag a.f_L_law_bag fd) (T : Tx K mg base a) : FnG P w K mg base 1 a.f_L_law_bag fd ["_law_script","_law_at"] (spM K 2 (m_L_law_bag K a)) :=
 fn_ok F sc_L_law_bag wKeep_ok fun cdv A outer s H E hr=>(show DB _ _ _ (g_L_law_bag K a) from
   (db_cons (ds_set 2 sc_L_law_bag.nd (d_if (dt_cmp op_lt' (d_var 1) (d_bi cr_len T.z_len bt_len (da_cons (d_var 0) da_nil))) (d_ix hr.u1 (d_var 0) (d_var 1)) d_int))
   (db_cons (ds_set 3 sc_L_law_bag.nd (d_op op_add' (d_op op_mul' d_int (d_var 1)) d_int))
   (db_cons (ds_for (passes_of rfl) rfl (d_enum T.z_enumerate (da_cons (d_sl (d_var 0) do_none (do_some d_int)) da_nil)) (dg_tup rfl (dgs_cons (dg_name 4 sc_L_law_bag.nd) (dgs_cons (dg_name 5 sc_L_law_bag.nd) dgs_nil))) (db_one (ds_set 3 sc_L_law_bag.nd (d_op op_mod' (d_bt cr_int T.z_int bt_int (da_cons (d_op op_add' (d_op op_add' (d_op op_add' (d_op op_mul' (d_var 3) d_int) (d_op op_mod' (d_bt cr_int T.z_int bt_int (da_cons (d_var 5) da_nil)) d_int)) (d_op op_mul' d_int (d_var 4))) d_int) da_nil)) d_int))))
   (db_one (ds_ret (d_lstC (da_cons (d_if (dt_cmp op_ge' (d_bi cr_abs T.z_abs bt_abs (da_cons (d_var 2) da_nil)) (d_op op_pow' d_int d_int)) (d_bi cr_abs T.z_abs bt_abs (da_cons (d_var 2) da_nil)) d_int) (da_cons (d_var 3) da_nil)))))))))
theorem ok_L_law_bag (T : Tx K mg base a) : Fd P w K mg base a.f_L_law_bag 1 2 [] gPos (m_L_law_bag K a):=by
 obtain ⟨fd,F⟩:=T.F_L_law_bag
 exact Fd.of (fn_L_law_bag F T) (bd_pos (F.binds (ps:=["_law_script","_law_at"]) fun _ _ _ _ _ _ us hl=>(by obtain ⟨_,_,rfl⟩:=ls_2 hl; rfl)))
set_option maxHeartbeats 4000000 in
theorem fn_L_law_take {fd : FuncData} (F : Fun K "_law_take" "_law_take" s_L_law_take a.f_L_law_take fd) (T : Tx K mg base a) : FnG P w K mg base 1 a.f_L_law_take fd ["_law_bag_here","_law_many"] (spM K 2 (m_L_law_take K a)) :=
 fn_ok F sc_L_law_take wCut_ok fun cdv A outer s H E hr=>(show DB _ _ _ (g_L_law_take K a) from
   (db_cons (ds_if (dt_cmp op_gt' (d_ix hr.u1 (d_var 0) d_int) d_int) (db_cons (ds_set 2 sc_L_law_take.nd (d_op op_mod' (d_bt cr_int T.z_int bt_int (da_cons (d_ix hr.u1 (d_var 0) d_int) da_nil)) (d_var 1)))
   (db_cons (ds_asg (d_op op_fdiv' (d_ix hr.u1 (d_var 0) d_int) (d_var 1)) (dg_sub (W:=W0) hr.u1 (d_var 0) d_int) nx_sub)
   (db_one (ds_ret (d_var 2))))) db_nil)
   (db_cons (ds_asg (d_op op_mod' (d_bt cr_int T.z_int bt_int (da_cons (d_op op_add' (d_op op_mul' (d_ix hr.u1 (d_var 0) d_int) d_int) d_int) da_nil)) d_int) (dg_sub (W:=W0) hr.u1 (d_var 0) d_int) nx_sub)
   (db_one (ds_ret (d_op op_mod' (d_op op_fdiv' (d_op op_mod' (d_bt cr_int T.z_int bt_int (da_cons (d_op op_mul' (d_op op_fdiv' (d_ix hr.u1 (d_var 0) d_int) d_int) d_int) da_nil)) d_int) d_int) (d_var 1)))))))
theorem ok_L_law_take (T : Tx K mg base a) : Fd P w K mg base a.f_L_law_take 1 2 [] gPos (m_L_law_take K a):=by
 obtain ⟨fd,F⟩:=T.F_L_law_take
 exact Fd.of (fn_L_law_take F T) (bd_pos (F.binds (ps:=["_law_bag_here","_law_many"]) fun _ _ _ _ _ _ us hl=>(by obtain ⟨_,_,rfl⟩:=ls_2 hl; rfl)))
set_option maxHeartbeats 4000000 in
theorem fn_L_law_of {fd : FuncData} (F : Fun K "_law_of" "_law_of" s_L_law_of a.f_L_law_of fd) (T : Tx K mg base a) : FnG P w K mg base 2 a.f_L_law_of fd ["_law_bag_here","_law_some"] (spM K 2 (m_L_law_of K a)) :=
 fn_ok F sc_L_law_of wFrz_ok fun cdv A outer s H E hr=>(show DB _ _ _ (g_L_law_of K a) from
   (db_one (ds_ret (d_ix hr.u1 (d_var 1) (d_call (ok_L_law_take T) T.m_L_law_take T.k_L_law_take (hr.mono (by decide)) (takes_of rfl rfl rfl rfl) (cw_pos (da_cons (d_var 0) (da_cons (d_bi cr_len T.z_len bt_len (da_cons (d_var 1) da_nil)) da_nil))))))))
theorem ok_L_law_of (T : Tx K mg base a) : Fd P w K mg base a.f_L_law_of 2 2 [] gPos (m_L_law_of K a):=by
 obtain ⟨fd,F⟩:=T.F_L_law_of
 exact Fd.of (fn_L_law_of F T) (bd_pos (F.binds (ps:=["_law_bag_here","_law_some"]) fun _ _ _ _ _ _ us hl=>(by obtain ⟨_,_,rfl⟩:=ls_2 hl; rfl)))
set_option maxHeartbeats 4000000 in
theorem fn_L_law_lines {fd : FuncData} (F : Fun K "_law_lines" "_law_lines" s_L_law_lines a.f_L_law_lines fd) (T : Tx K mg base a) : FnG P w K mg base 3 a.f_L_law_lines fd ["_law_bag_here"] (spM K 1 (m_L_law_lines K a)) :=
 fn_ok F sc_L_law_lines wFrz_ok fun cdv A outer s H E hr=>(show DB _ _ _ (g_L_law_lines K a) from
   (db_cons (ds_set 1 sc_L_law_lines.nd (d_slC (d_lst (da_cons d_str (da_cons d_str da_nil))) (do_some (d_call (ok_L_law_take T) T.m_L_law_take T.k_L_law_take (hr.mono (by decide)) (takes_of rfl rfl rfl rfl) (cw_pos (da_cons (d_var 0) (da_cons d_int da_nil))))) do_none))
   (db_cons (ds_for (passes_of rfl) rfl (d_iter (d_sl (d_lst (da_cons d_str (da_cons d_str da_nil))) do_none (do_some (d_call (ok_L_law_take T) T.m_L_law_take T.k_L_law_take (hr.mono (by decide)) (takes_of rfl rfl rfl rfl) (cw_pos (da_cons (d_var 0) (da_cons d_int da_nil))))))) (dg_name 2 sc_L_law_lines.nd) (db_cons (ds_expr (d_m PySem.F.plainAttrs_list PySem.F.slot_list_append PySem.F.type_list_append mt_append' (d_var 1) (da_cons (d_op op_add' (d_op op_add' d_str (d_var 2)) d_str) da_nil)))
   (db_one (ds_for (passes_of rfl) rfl (d_iter (d_sl (d_lst (da_cons d_str (da_cons d_str (da_cons d_str da_nil)))) do_none (do_some (d_call (ok_L_law_take T) T.m_L_law_take T.k_L_law_take (hr.mono (by decide)) (takes_of rfl rfl rfl rfl) (cw_pos (da_cons (d_var 0) (da_cons d_int da_nil))))))) (dg_name 3 sc_L_law_lines.nd) (db_one (ds_set 1 sc_L_law_lines.nd (d_opS op_addC vAddC_no (d_op op_addL (d_var 1) (d_sl (d_lst (da_cons d_str da_nil)) do_none (do_some (d_call (ok_L_law_take T) T.m_L_law_take T.k_L_law_take (hr.mono (by decide)) (takes_of rfl rfl rfl rfl) (cw_pos (da_cons (d_var 0) (da_cons d_int da_nil))))))) (d_lst (da_cons (d_op op_add' (d_op op_add' (d_var 3) d_str) (d_call (ok_L_law_of T) T.m_L_law_of T.k_L_law_of (hr.mono (by decide)) (takes_of rfl rfl rfl rfl) (cw_pos (da_cons (d_var 0) (da_cons (d_lst (da_cons d_str (da_cons d_str da_nil))) da_nil))))) da_nil)))))))))
   (db_one (ds_ret (d_op op_addL (d_var 1) (d_sl (d_lst (da_cons d_str (da_cons d_str (da_cons d_str da_nil)))) (do_some (d_call (ok_L_law_take T) T.m_L_law_take T.k_L_law_take (hr.mono (by decide)) (takes_of rfl rfl rfl rfl) (cw_pos (da_cons (d_var 0) (da_cons d_int da_nil))))) do_none)))))))
theorem ok_L_law_lines (T : Tx K mg base a) : Fd P w K mg base a.f_L_law_lines 3 1 [] gPos (m_L_law_lines K a):=by
 obtain ⟨fd,F⟩:=T.F_L_law_lines
 exact Fd.of (fn_L_law_lines F T) (bd_pos (F.binds (ps:=["_law_bag_here"]) fun _ _ _ _ _ _ us hl=>(by obtain ⟨_,rfl⟩:=ls_1 hl; rfl)))
set_option maxHeartbeats 4000000 in
theorem fn_L_law_changed {fd : FuncData} (F : Fun K "_law_changed" "_law_changed" s_L_law_changed a.f_L_law_changed fd) (T : Tx K mg base a) : FnG P w K mg base 2 a.f_L_law_changed fd ["_law_bag_here","_law_lines_here"] (spM K 2 (m_L_law_changed K a)) :=
 fn_ok F sc_L_law_changed wFrz_ok fun cdv A outer s H E hr=>(show DB _ _ _ (g_L_law_changed K a) from
   (db_cons (ds_par 2 3 rfl sc_L_law_changed.nd (da_cons (d_call (ok_L_law_take T) T.m_L_law_take T.k_L_law_take (hr.mono (by decide)) (takes_of rfl rfl rfl rfl) (cw_pos (da_cons (d_var 0) (da_cons d_int da_nil)))) (da_cons (d_call (ok_L_law_take T) T.m_L_law_take T.k_L_law_take (hr.mono (by decide)) (takes_of rfl rfl rfl rfl) (cw_pos (da_cons (d_var 0) (da_cons (d_op op_add' (d_bi cr_len T.z_len bt_len (da_cons (d_var 1) da_nil)) d_int) da_nil)))) da_nil)) (by decide) rfl)
   (db_cons (ds_if (dt_cmp op_lt' (d_var 2) d_int) (db_one (ds_ret (d_bt cr_list T.z_list bt_list (da_cons (d_var 1) da_nil)))) db_nil)
   (db_cons (ds_if (dt_cmp op_lt' (d_var 2) d_int) (db_one (ds_ret (d_op op_add' (d_op op_add' (d_sl (d_var 1) do_none (do_some (d_var 3))) (d_lst (da_cons (d_ix hr.u1 (d_lst (da_cons d_str (da_cons d_str (da_cons d_str da_nil)))) (d_op op_sub' (d_var 2) d_int)) da_nil))) (d_sl (d_var 1) (do_some (d_var 3)) do_none)))) db_nil)
   (db_cons (ds_ifRetT (op_eq' hr.u64) (d_var 2) (d_lcXT rfl sc_L_law_changed.nd rfl rfl (takes_of rfl rfl rfl rfl) (d_iter (d_var 1)) (blkOk_by (N:=N_L_law_changed) (sc:=defScope s_L_law_changed) (own:=[("_law_line",4)]) (by decide +kernel)) (fun _ _ _ _ _=>(dg_name 4 sc_L_law_changed.nd)) (fun _ _ _ _ _=>dts_nil) (fun _ _ _ _ _=>(fun _=>fun tk=>(d_replT (d_var 4))))) db_nil)
   (db_cons (ds_if (dt_cmp (op_eq' hr.u64) (d_var 2) d_int) (db_one (ds_ret (d_lcV rfl sc_L_law_changed.nd (d_iter (d_var 1)) (blkOk_by (N:=N_L_law_changed) (sc:=defScope s_L_law_changed) (own:=[("_law_line",4)]) (by decide +kernel)) (fun _ _ _ _ _=>(dg_name 4 sc_L_law_changed.nd)) (fun _ _ _ _ _=>(dts_one (dt_cmp (op_ne' hr.u64) (d_var 4) d_str))) (fun _ _ _ _ _=>(d_var 4))))) db_nil)
   (db_cons (ds_setLcV 5 rfl sc_L_law_changed.nd (sw_true rfl rfl rfl (by decide +kernel)) (d_iter (d_var 1)) (blkOk_by (N:=N_L_law_changed) (sc:=defScope s_L_law_changed) (own:=[("_law_line",4)]) (by decide +kernel)) (fun _ _ _ _ _=>(dg_name 4 sc_L_law_changed.nd)) (fun _ _ _ _ _=>(dts_one (dt_truth (d_m PySem.F.plainAttrs_str PySem.F.slot_str_startswith PySem.F.type_str_startswith mt_starts' (d_var 4) (da_cons d_str da_nil))))) (fun _ _ _ _ _=>(d_var 4)))
   (db_one (ds_ret (d_op op_add' (d_var 5) (d_lcV rfl sc_L_law_changed.nd (d_iter (d_var 1)) (blkOk_by (N:=N_L_law_changed) (sc:=defScope s_L_law_changed) (own:=[("_law_line",4)]) (by decide +kernel)) (fun _ _ _ _ _=>(dg_name 4 sc_L_law_changed.nd)) (fun _ _ _ _ _=>(dts_one (dt_not (dt_truth (d_m PySem.F.plainAttrs_str PySem.F.slot_str_startswith PySem.F.type_str_startswith mt_starts' (d_var 4) (da_cons d_str da_nil)))))) (fun _ _ _ _ _=>(d_var 4)))))))))))))
theorem ok_L_law_changed (T : Tx K mg base a) : Fd P w K mg base a.f_L_law_changed 2 2 [] gPos (m_L_law_changed K a):=by
 obtain ⟨fd,F⟩:=T.F_L_law_changed
 exact Fd.of (fn_L_law_changed F T) (bd_pos (F.binds (ps:=["_law_bag_here","_law_lines_here"]) fun _ _ _ _ _ _ us hl=>(by obtain ⟨_,_,rfl⟩:=ls_2 hl; rfl)))
set_option maxHeartbeats 4000000 in
theorem fn_Reader_init {fd : FuncData} (F : Fun K "__init__" "Reader.__init__" s_Reader_init a.f_Reader_init fd) (T : Tx K mg base a) : FnG P w K mg base 1 a.f_Reader_init fd ["self"] (spM K 1 (m_Reader_init K a)) :=
 fn_ok F sc_Reader_init wId_ok fun cdv A outer s H E hr=>(show DB _ _ _ (g_Reader_init K a) from
   (db_cons (ds_fld (cs:=[a.C_Reader]) (d_var 0) d_non T.fl_section_Reader)
   (db_cons (ds_fld (cs:=[a.C_Reader]) (d_var 0) (d_lstC da_nil) T.fl_met_Reader)
   (db_one (ds_fld (cs:=[a.C_Reader]) (d_var 0) (d_lstC da_nil) T.fl_parts_Reader)))))
theorem ok_Reader_init (T : Tx K mg base a) : Fd P w K mg base a.f_Reader_init 1 1 [] gPos (m_Reader_init K a):=by
 obtain ⟨fd,F⟩:=T.F_Reader_init
 exact Fd.of (fn_Reader_init F T) (bd_pos (F.binds (ps:=["self"]) fun _ _ _ _ _ _ us hl=>(by obtain ⟨_,rfl⟩:=ls_1 hl; rfl)))
set_option maxHeartbeats 4000000 in
theorem fn_lines_of {fd : FuncData} (F : Fun K "lines_of" "lines_of" s_lines_of a.f_lines_of fd) (T : Tx K mg base a) : FnG P w K mg base 1 a.f_lines_of fd ["text"] (spM K 1 (m_lines_of K a)) :=
 fn_ok F sc_lines_of wFrz_ok fun cdv A outer s H E hr=>(show DB _ _ _ (g_lines_of K a) from
   (db_one (ds_ret (d_if (dt_cmp (op_ne' hr.u64) (d_var 0) d_str) (d_m PySem.F.plainAttrs_str PySem.F.slot_str_split PySem.F.type_str_split mt_split' (d_var 0) (da_cons d_str da_nil)) (d_lst da_nil)))))
theorem ok_lines_of (T : Tx K mg base a) : Fd P w K mg base a.f_lines_of 1 1 [] gPos (m_lines_of K a):=by
 obtain ⟨fd,F⟩:=T.F_lines_of
 exact Fd.of (fn_lines_of F T) (bd_pos (F.binds (ps:=["text"]) fun _ _ _ _ _ _ us hl=>(by obtain ⟨_,rfl⟩:=ls_1 hl; rfl)))
set_option maxHeartbeats 4000000 in
theorem fn_is_made_of {fd : FuncData} (F : Fun K "is_made_of" "is_made_of" s_is_made_of a.f_is_made_of fd) (T : Tx K mg base a) : FnG P w K mg base 1 a.f_is_made_of fd ["thing","signs","most"] (spM K 3 (m_is_made_of K a)) :=
 fn_ok F sc_is_made_of wFrz_ok fun cdv A outer s H E hr=>(show DB _ _ _ (g_is_made_of K a) from
   (db_one (ds_ret (d_and (d_bi (cr_isi T.own) T.z_isinstance bt_isinstance (da_cons (d_var 0) (da_cons (d_ty T.z_str bt_str) da_nil))) (d_and (d_chain op_le' op_le' bl_le d_int (d_bi cr_len T.z_len bt_len (da_cons (d_var 0) da_nil)) (d_var 2)) (d_one (d_bi (cr_all' rfl) T.z_all bt_all (da_cons (d_lcV rfl sc_is_made_of.nd (d_iter (d_var 0)) (blkOk_by (N:=N_is_made_of) (sc:=defScope s_is_made_of) (own:=[("sign",3)]) (by decide +kernel)) (fun _ _ _ _ _=>(dg_name 3 sc_is_made_of.nd)) (fun _ _ _ _ _=>dts_nil) (fun _ _ _ _ _=>(d_cmp (op_in' hr.u65) (d_var 3) (d_var 1)))) da_nil))))))))
theorem ok_is_made_of (T : Tx K mg base a) : Fd P w K mg base a.f_is_made_of 1 3 [] gPos (m_is_made_of K a):=by
 obtain ⟨fd,F⟩:=T.F_is_made_of
 exact Fd.of (fn_is_made_of F T) (bd_pos (F.binds (ps:=["thing","signs","most"]) fun _ _ _ _ _ _ us hl=>(by obtain ⟨_,_,_,rfl⟩:=ls_3 hl; rfl)))
set_option maxHeartbeats 4000000 in
theorem fn_is_number {fd : FuncData} (F : Fun K "is_number" "is_number" s_is_number a.f_is_number fd) (T : Tx K mg base a) : FnG P w K mg base 2 a.f_is_number fd ["thing"] (spM K 1 (m_is_number K a)) :=
 fn_ok F sc_is_number wFrz_ok fun cdv A outer s H E hr=>(show DB _ _ _ (g_is_number K a) from
   (db_one (ds_ret (d_and (d_call (ok_is_made_of T) T.m_is_made_of T.k_is_made_of (hr.mono (by decide)) (takes_of rfl rfl rfl rfl) (cw_pos (da_cons (d_var 0) (da_cons (d_gstr T.g_DIGITS) (da_cons d_int da_nil))))) (d_one (d_or (d_cmp (op_eq' hr.u64) (d_var 0) d_str) (d_one (d_cmp (op_ne' hr.u64) (d_ix hr.u1 (d_var 0) d_int) d_str))))))))
theorem ok_is_number (T : Tx K mg base a) : Fd P w K mg base a.f_is_number 2 1 [] gPos (m_is_number K a):=by
 obtain ⟨fd,F⟩:=T.F_is_number
 exact Fd.of (fn_is_number F T) (bd_pos (F.binds (ps:=["thing"]) fun _ _ _ _ _ _ us hl=>(by obtain ⟨_,rfl⟩:=ls_1 hl; rfl)))
set_option maxHeartbeats 4000000 in
theorem fn_is_name {fd : FuncData} (F : Fun K "is_name" "is_name" s_is_name a.f_is_name fd) (T : Tx K mg base a) : FnG P w K mg base 2 a.f_is_name fd ["thing"] (spM K 1 (m_is_name K a)) :=
 fn_ok F sc_is_name wFrz_ok fun cdv A outer s H E hr=>(show DB _ _ _ (g_is_name K a) from
   (db_one (ds_ret (d_call (ok_is_made_of T) T.m_is_made_of T.k_is_made_of (hr.mono (by decide)) (takes_of rfl rfl rfl rfl) (cw_pos (da_cons (d_var 0) (da_cons (d_gstr T.g_LETTERS) (da_cons (d_gint T.g_MOST_LETTERS) da_nil))))))))
theorem ok_is_name (T : Tx K mg base a) : Fd P w K mg base a.f_is_name 2 1 [] gPos (m_is_name K a):=by
 obtain ⟨fd,F⟩:=T.F_is_name
 exact Fd.of (fn_is_name F T) (bd_pos (F.binds (ps:=["thing"]) fun _ _ _ _ _ _ us hl=>(by obtain ⟨_,rfl⟩:=ls_1 hl; rfl)))
set_option maxHeartbeats 4000000 in
theorem fn_is_place {fd : FuncData} (F : Fun K "is_place" "is_place" s_is_place a.f_is_place fd) (T : Tx K mg base a) : FnG P w K mg base 3 a.f_is_place fd ["thing"] (spM K 1 (m_is_place K a)) :=
 fn_ok F sc_is_place wFrz_ok fun cdv A outer s H E hr=>(show DB _ _ _ (g_is_place K a) from
   (db_cons (ds_if (dt_not (dt_truth (d_bi (cr_isi T.own) T.z_isinstance bt_isinstance (da_cons (d_var 0) (da_cons (d_ty T.z_str bt_str) da_nil))))) (db_one (ds_ret d_bl)) db_nil)
   (db_cons (ds_asg (d_m PySem.F.plainAttrs_str PySem.F.slot_str_partition PySem.F.type_str_partition mt_partition' (d_var 0) (da_cons d_str da_nil)) (dg_tup rfl (dgs_cons (dg_name 1 sc_is_place.nd) (dgs_cons (dg_name 2 sc_is_place.nd) (dgs_cons (dg_name 3 sc_is_place.nd) dgs_nil)))) (nx_tup (nxs_cons (nx_name _) (nxs_cons (nx_name _) (nxs_cons (nx_name _) nxs_nil)))))
   (db_one (ds_ret (d_and (d_call (ok_is_name T) T.m_is_name T.k_is_name (hr.mono (by decide)) (takes_of rfl rfl rfl rfl) (cw_pos (da_cons (d_var 1) da_nil))) (d_one (d_call (ok_is_name T) T.m_is_name T.k_is_name (hr.mono (by decide)) (takes_of rfl rfl rfl rfl) (cw_pos (da_cons (d_var 3) da_nil))))))))))
theorem ok_is_place (T : Tx K mg base a) : Fd P w K mg base a.f_is_place 3 1 [] gPos (m_is_place K a):=by
 obtain ⟨fd,F⟩:=T.F_is_place
 exact Fd.of (fn_is_place F T) (bd_pos (F.binds (ps:=["thing"]) fun _ _ _ _ _ _ us hl=>(by obtain ⟨_,rfl⟩:=ls_1 hl; rfl)))
set_option maxHeartbeats 4000000 in
theorem fn_is_value {fd : FuncData} (F : Fun K "is_value" "is_value" s_is_value a.f_is_value fd) (T : Tx K mg base a) : FnG P w K mg base 2 a.f_is_value fd ["thing"] (spM K 1 (m_is_value K a)) :=
 fn_ok F sc_is_value wFrz_ok fun cdv A outer s H E hr=>(show DB _ _ _ (g_is_value K a) from
   (db_one (ds_ret (d_and (d_call (ok_is_made_of T) T.m_is_made_of T.k_is_made_of (hr.mono (by decide)) (takes_of rfl rfl rfl rfl) (cw_pos (da_cons (d_var 0) (da_cons (d_op op_add' (d_op op_add' (d_gstr T.g_LETTERS) (d_gstr T.g_DIGITS)) d_str) (da_cons (d_gint T.g_MOST_SIGNS) da_nil))))) (d_one (d_cmp (op_ne' hr.u64) (d_ix hr.u1 (d_var 0) d_int) d_str))))))
theorem ok_is_value (T : Tx K mg base a) : Fd P w K mg base a.f_is_value 2 1 [] gPos (m_is_value K a):=by
 obtain ⟨fd,F⟩:=T.F_is_value
 exact Fd.of (fn_is_value F T) (bd_pos (F.binds (ps:=["thing"]) fun _ _ _ _ _ _ us hl=>(by obtain ⟨_,rfl⟩:=ls_1 hl; rfl)))
set_option maxHeartbeats 4000000 in
theorem fn_kept_in {fd : FuncData} (F : Fun K "kept_in" "kept_in" s_kept_in a.f_kept_in fd) (T : Tx K mg base a) : FnG P w K mg base 4 a.f_kept_in fd ["line"] (spM K 1 (m_kept_in K a)) :=
 fn_ok F sc_kept_in wFrz_ok fun cdv A outer s H E hr=>(show DB _ _ _ (g_kept_in K a) from
   (db_cons (ds_set 1 sc_kept_in.nd (d_m PySem.F.plainAttrs_str PySem.F.slot_str_split PySem.F.type_str_split mt_split' (d_var 0) (da_cons d_str da_nil)))
   (db_cons (ds_if (dw_pt (dw_or (dt_cmp (op_notIn' hr.u65) (d_bi cr_len T.z_len bt_len (da_cons (d_var 1) da_nil)) (d_tupC (da_cons d_int (da_cons d_int da_nil)))) (dw_or (dt_cmp (op_ne' hr.u64) (d_ix hr.u1 (d_var 1) d_int) d_str) (dw_or (dt_not (dt_truth (d_call (ok_is_number T) T.m_is_number T.k_is_number (hr.mono (by decide)) (takes_of rfl rfl rfl rfl) (cw_pos (da_cons (d_ix hr.u1 (d_var 1) d_int) da_nil))))) (dw_or1 (dt_not (dt_truth (d_call (ok_is_place T) T.m_is_place T.k_is_place (hr.mono (by decide)) (takes_of rfl rfl rfl rfl) (cw_pos (da_cons (d_ix hr.u1 (d_var 1) d_int) da_nil)))))))))) (db_one (ds_ret d_non)) db_nil)
   (db_cons (ds_if (dt_cmp (op_eq' hr.u64) (d_bi cr_len T.z_len bt_len (da_cons (d_var 1) da_nil)) d_int) (db_one (ds_ret (d_tupC (da_cons (d_bt cr_int T.z_int bt_int (da_cons (d_ix hr.u1 (d_var 1) d_int) da_nil)) (da_cons (d_ix hr.u1 (d_var 1) d_int) (da_cons d_non da_nil)))))) db_nil)
   (db_one (ds_ret (d_if (dw_pt (dw_and (dt_cmp (op_eq' hr.u64) (d_ix hr.u1 (d_var 1) d_int) d_str) (dw_and1 (dt_truth (d_call (ok_is_value T) T.m_is_value T.k_is_value (hr.mono (by decide)) (takes_of rfl rfl rfl rfl) (cw_pos (da_cons (d_ix hr.u1 (d_var 1) d_int) da_nil))))))) (d_tupC (da_cons (d_bt cr_int T.z_int bt_int (da_cons (d_ix hr.u1 (d_var 1) d_int) da_nil)) (da_cons (d_ix hr.u1 (d_var 1) d_int) (da_cons (d_ix hr.u1 (d_var 1) d_int) da_nil)))) d_non)))))))
theorem ok_kept_in (T : Tx K mg base a) : Fd P w K mg base a.f_kept_in 4 1 [] gPos (m_kept_in K a):=by
 obtain ⟨fd,F⟩:=T.F_kept_in
 exact Fd.of (fn_kept_in F T) (bd_pos (F.binds (ps:=["line"]) fun _ _ _ _ _ _ us hl=>(by obtain ⟨_,rfl⟩:=ls_1 hl; rfl)))
set_option maxHeartbeats 4000000 in
theorem fn_Reader_put {fd : FuncData} (F : Fun K "put" "Reader.put" s_Reader_put a.f_Reader_put fd) (T : Tx K mg base a) : FnG P w K mg base 1 a.f_Reader_put fd ["self","at","word","name","thing","kind"] (spM K 6 (m_Reader_put K a)) :=
 fn_ok F sc_Reader_put wCut_ok fun cdv A outer s H E hr=>(show DB _ _ _ (g_Reader_put K a) from
   (db_cons (ds_if (dt_cmp (op_in' hr.u65) (d_tupC (da_cons (d_var 2) (da_cons (d_var 3) da_nil))) (d_fld (cs:=[a.C_Reader]) (d_var 0) T.fl_met_Reader)) db_no db_nil)
   (db_cons (ds_expr (d_m PySem.F.plainAttrs_list PySem.F.slot_list_append PySem.F.type_list_append mt_append' (d_fld (cs:=[a.C_Reader]) (d_var 0) T.fl_met_Reader) (da_cons (d_tupC (da_cons (d_var 2) (da_cons (d_var 3) da_nil))) da_nil)))
   (db_one (ds_expr (d_m PySem.F.plainAttrs_list PySem.F.slot_list_append PySem.F.type_list_append mt_append' (d_fld (cs:=[a.C_Reader]) (d_var 0) T.fl_parts_Reader) (da_cons (d_tupC (da_cons (d_var 1) (da_cons (d_var 2) (da_cons (d_var 4) da_nil)))) da_nil)))))))
theorem ok_Reader_put (T : Tx K mg base a) : Fd P w K mg base a.f_Reader_put 1 6 [] gPos (m_Reader_put K a):=by
 obtain ⟨fd,F⟩:=T.F_Reader_put
 exact Fd.of (fn_Reader_put F T) (bd_pos (F.binds (ps:=["self","at","word","name","thing","kind"]) fun _ _ _ _ _ _ us hl=>(by obtain ⟨_,_,_,_,_,_,rfl⟩:=ls_6 hl; rfl)))
set_option maxHeartbeats 4000000 in
theorem fn_Reader_take_kept {fd : FuncData} (F : Fun K "take_kept" "Reader.take_kept" s_Reader_take_kept a.f_Reader_take_kept fd) (T : Tx K mg base a) : FnG P w K mg base 2 a.f_Reader_take_kept fd ["self","at","kept"] (spM K 3 (m_Reader_take_kept K a)) :=
 fn_ok F sc_Reader_take_kept wCut_ok fun cdv A outer s H E hr=>(show DB _ _ _ (g_Reader_take_kept K a) from
   (db_cons (ds_if (dt_cmp op_isN' (d_var 2) d_non) db_no db_nil)
   (db_one (ds_expr (d_meth (d_var 0) T.cl_Reader T.me_Reader_put (ok_Reader_put T) (hr.mono (by decide)) (takes_of rfl rfl rfl rfl) (cw_pos (da_cons (d_var 1) (da_cons (d_gstr T.g_KEPT) (da_cons (d_sl (d_var 2) do_none (do_some d_int)) (da_cons (d_var 2) (da_cons d_str da_nil)))))))))))
theorem ok_Reader_take_kept (T : Tx K mg base a) : Fd P w K mg base a.f_Reader_take_kept 2 3 [] gPos (m_Reader_take_kept K a):=by
 obtain ⟨fd,F⟩:=T.F_Reader_take_kept
 exact Fd.of (fn_Reader_take_kept F T) (bd_pos (F.binds (ps:=["self","at","kept"]) fun _ _ _ _ _ _ us hl=>(by obtain ⟨_,_,_,rfl⟩:=ls_3 hl; rfl)))
set_option maxHeartbeats 4000000 in
theorem fn_section_in {fd : FuncData} (F : Fun K "section_in" "section_in" s_section_in a.f_section_in fd) (T : Tx K mg base a) : FnG P w K mg base 3 a.f_section_in fd ["line"] (spM K 1 (m_section_in K a)) :=
 fn_ok F sc_section_in wFrz_ok fun cdv A outer s H E hr=>(show DB _ _ _ (g_section_in K a) from
   (db_cons (ds_set 1 sc_section_in.nd (d_sl (d_var 0) (do_some d_int) (do_some (d_un un_neg' d_int))))
   (db_one (ds_ret (d_if (dw_pt (dw_and (dt_cmp (op_eq' hr.u64) (d_sl (d_var 0) do_none (do_some d_int)) d_str) (dw_and (dt_cmp (op_eq' hr.u64) (d_sl (d_var 0) (do_some (d_un un_neg' d_int)) do_none) d_str) (dw_and1 (dt_truth (d_call (ok_is_name T) T.m_is_name T.k_is_name (hr.mono (by decide)) (takes_of rfl rfl rfl rfl) (cw_pos (da_cons (d_var 1) da_nil)))))))) (d_var 1) d_non)))))
theorem ok_section_in (T : Tx K mg base a) : Fd P w K mg base a.f_section_in 3 1 [] gPos (m_section_in K a):=by
 obtain ⟨fd,F⟩:=T.F_section_in
 exact Fd.of (fn_section_in F T) (bd_pos (F.binds (ps:=["line"]) fun _ _ _ _ _ _ us hl=>(by obtain ⟨_,rfl⟩:=ls_1 hl; rfl)))
set_option maxHeartbeats 4000000 in
theorem fn_setting_in {fd : FuncData} (F : Fun K "setting_in" "setting_in" s_setting_in a.f_setting_in fd) (T : Tx K mg base a) : FnG P w K mg base 3 a.f_setting_in fd ["line"] (spM K 1 (m_setting_in K a)) :=
 fn_ok F sc_setting_in wFrz_ok fun cdv A outer s H E hr=>(show DB _ _ _ (g_setting_in K a) from
   (db_cons (ds_asg (d_m PySem.F.plainAttrs_str PySem.F.slot_str_partition PySem.F.type_str_partition mt_partition' (d_var 0) (da_cons d_str da_nil)) (dg_tup rfl (dgs_cons (dg_name 1 sc_setting_in.nd) (dgs_cons (dg_name 2 sc_setting_in.nd) (dgs_cons (dg_name 3 sc_setting_in.nd) dgs_nil)))) (nx_tup (nxs_cons (nx_name _) (nxs_cons (nx_name _) (nxs_cons (nx_name _) nxs_nil)))))
   (db_one (ds_ret (d_if (dw_pt (dw_and (dt_truth (d_call (ok_is_name T) T.m_is_name T.k_is_name (hr.mono (by decide)) (takes_of rfl rfl rfl rfl) (cw_pos (da_cons (d_var 1) da_nil)))) (dw_and1 (dt_truth (d_call (ok_is_value T) T.m_is_value T.k_is_value (hr.mono (by decide)) (takes_of rfl rfl rfl rfl) (cw_pos (da_cons (d_var 3) da_nil))))))) (d_tupC (da_cons (d_var 1) (da_cons (d_var 3) da_nil))) d_non)))))
theorem ok_setting_in (T : Tx K mg base a) : Fd P w K mg base a.f_setting_in 3 1 [] gPos (m_setting_in K a):=by
 obtain ⟨fd,F⟩:=T.F_setting_in
 exact Fd.of (fn_setting_in F T) (bd_pos (F.binds (ps:=["line"]) fun _ _ _ _ _ _ us hl=>(by obtain ⟨_,rfl⟩:=ls_1 hl; rfl)))
set_option maxHeartbeats 4000000 in
theorem fn_Reader_take_setting {fd : FuncData} (F : Fun K "take_setting" "Reader.take_setting" s_Reader_take_setting a.f_Reader_take_setting fd) (T : Tx K mg base a) : FnG P w K mg base 2 a.f_Reader_take_setting fd ["self","at","setting"] (spM K 3 (m_Reader_take_setting K a)) :=
 fn_ok F sc_Reader_take_setting wCut_ok fun cdv A outer s H E hr=>(show DB _ _ _ (g_Reader_take_setting K a) from
   (db_cons (ds_if (dt_cmp op_isN' (d_var 2) d_non) db_no db_nil)
   (db_cons (ds_if (dt_cmp op_isN' (d_fld (cs:=[a.C_Reader]) (d_var 0) T.fl_section_Reader) d_non) db_no db_nil)
   (db_cons (ds_set 3 sc_Reader_take_setting.nd (d_joined (dj_cons (d_fmt (d_fld (cs:=[a.C_Reader]) (d_var 0) T.fl_section_Reader)) (dj_cons d_str (dj_cons (d_fmt (d_ix hr.u1 (d_var 2) d_int)) dj_nil)))))
   (db_one (ds_expr (d_meth (d_var 0) T.cl_Reader T.me_Reader_put (ok_Reader_put T) (hr.mono (by decide)) (takes_of rfl rfl rfl rfl) (cw_pos (da_cons (d_var 1) (da_cons (d_gstr T.g_PLACE) (da_cons (d_var 3) (da_cons (d_tupC (da_cons (d_var 3) (da_cons (d_ix hr.u1 (d_var 2) d_int) da_nil))) (da_cons d_str da_nil)))))))))))))
theorem ok_Reader_take_setting (T : Tx K mg base a) : Fd P w K mg base a.f_Reader_take_setting 2 3 [] gPos (m_Reader_take_setting K a):=by
 obtain ⟨fd,F⟩:=T.F_Reader_take_setting
 exact Fd.of (fn_Reader_take_setting F T) (bd_pos (F.binds (ps:=["self","at","setting"]) fun _ _ _ _ _ _ us hl=>(by obtain ⟨_,_,_,rfl⟩:=ls_3 hl; rfl)))
set_option maxHeartbeats 4000000 in
theorem fn_Reader_take {fd : FuncData} (F : Fun K "take" "Reader.take" s_Reader_take a.f_Reader_take fd) (T : Tx K mg base a) : FnG P w K mg base 5 a.f_Reader_take fd ["self","at","line"] (spM K 3 (m_Reader_take K a)) :=
 fn_ok F sc_Reader_take wCut_ok fun cdv A outer s H E hr=>(show DB _ _ _ (g_Reader_take K a) from
   (db_one (ds_if (dt_truth (d_m PySem.F.plainAttrs_str PySem.F.slot_str_startswith PySem.F.type_str_startswith mt_starts' (d_var 2) (da_cons d_str da_nil))) (db_one (ds_expr (d_meth (d_var 0) T.cl_Reader T.me_Reader_take_kept (ok_Reader_take_kept T) (hr.mono (by decide)) (takes_of rfl rfl rfl rfl) (cw_pos (da_cons (d_var 1) (da_cons (d_call (ok_kept_in T) T.m_kept_in T.k_kept_in (hr.mono (by decide)) (takes_of rfl rfl rfl rfl) (cw_pos (da_cons (d_var 2) da_nil))) da_nil)))))) (db_one (ds_if (dw_pt (dw_or (dt_cmp (op_eq' hr.u64) (d_var 2) d_str) (dw_or1 (dt_truth (d_m PySem.F.plainAttrs_str PySem.F.slot_str_startswith PySem.F.type_str_startswith mt_starts' (d_var 2) (da_cons d_str da_nil)))))) (db_one (ds_expr (d_m PySem.F.plainAttrs_list PySem.F.slot_list_append PySem.F.type_list_append mt_append' (d_fld (cs:=[a.C_Reader]) (d_var 0) T.fl_parts_Reader) (da_cons (d_tupC (da_cons (d_var 1) (da_cons (d_gstr T.g_REMARK) (da_cons (d_var 2) da_nil)))) da_nil)))) (db_one (ds_if (dt_cmp op_notN' (d_call (ok_section_in T) T.m_section_in T.k_section_in (hr.mono (by decide)) (takes_of rfl rfl rfl rfl) (cw_pos (da_cons (d_var 2) da_nil))) d_non) (db_cons (ds_fld (cs:=[a.C_Reader]) (d_var 0) (d_call (ok_section_in T) T.m_section_in T.k_section_in (hr.mono (by decide)) (takes_of rfl rfl rfl rfl) (cw_pos (da_cons (d_var 2) da_nil))) T.fl_section_Reader)
   (db_one (ds_expr (d_meth (d_var 0) T.cl_Reader T.me_Reader_put (ok_Reader_put T) (hr.mono (by decide)) (takes_of rfl rfl rfl rfl) (cw_pos (da_cons (d_var 1) (da_cons (d_gstr T.g_SECTION) (da_cons (d_fld (cs:=[a.C_Reader]) (d_var 0) T.fl_section_Reader) (da_cons (d_fld (cs:=[a.C_Reader]) (d_var 0) T.fl_section_Reader) (da_cons (d_gstr T.g_SECTION) da_nil)))))))))) (db_one (ds_expr (d_meth (d_var 0) T.cl_Reader T.me_Reader_take_setting (ok_Reader_take_setting T) (hr.mono (by decide)) (takes_of rfl rfl rfl rfl) (cw_pos (da_cons (d_var 1) (da_cons (d_call (ok_setting_in T) T.m_setting_in T.k_setting_in (hr.mono (by decide)) (takes_of rfl rfl rfl rfl) (cw_pos (da_cons (d_var 2) da_nil))) da_nil)))))))))))))
theorem ok_Reader_take (T : Tx K mg base a) : Fd P w K mg base a.f_Reader_take 5 3 [] gPos (m_Reader_take K a):=by
 obtain ⟨fd,F⟩:=T.F_Reader_take
 exact Fd.of (fn_Reader_take F T) (bd_pos (F.binds (ps:=["self","at","line"]) fun _ _ _ _ _ _ us hl=>(by obtain ⟨_,_,_,rfl⟩:=ls_3 hl; rfl)))
set_option maxHeartbeats 4000000 in
theorem fn_parts_of {fd : FuncData} (F : Fun K "parts_of" "parts_of" s_parts_of a.f_parts_of fd) (T : Tx K mg base a) : FnG P w K mg base 1 a.f_parts_of fd ["parts"] (spM K 1 (m_parts_of K a)) :=
 fn_ok F sc_parts_of wFrz_ok fun cdv A outer s H E hr=>(show DB _ _ _ (g_parts_of K a) from
   (db_one (ds_ret (d_lcV rfl sc_parts_of.nd (d_iter (d_var 0)) (blkOk_by (N:=N_parts_of) (sc:=defScope s_parts_of) (own:=[("at",1),("word",2),("thing",3)]) (by decide +kernel)) (fun _ _ _ _ _=>(dg_tup rfl (dgs_cons (dg_name 1 sc_parts_of.nd) (dgs_cons (dg_name 2 sc_parts_of.nd) (dgs_cons (dg_name 3 sc_parts_of.nd) dgs_nil))))) (fun _ _ _ _ _=>(dts_one (dt_cmp (op_ne' hr.u64) (d_var 2) (d_gstr T.g_REMARK)))) (fun _ _ _ _ _=>(d_tupC (da_cons (d_var 1) (da_cons (d_var 2) (da_cons (d_if (dt_cmp (op_eq' hr.u64) (d_var 2) (d_gstr T.g_PLACE)) (d_ix hr.u1 (d_var 3) d_int) (d_var 3)) da_nil)))))))))
theorem ok_parts_of (T : Tx K mg base a) : Fd P w K mg base a.f_parts_of 1 1 [] gPos (m_parts_of K a):=by
 obtain ⟨fd,F⟩:=T.F_parts_of
 exact Fd.of (fn_parts_of F T) (bd_pos (F.binds (ps:=["parts"]) fun _ _ _ _ _ _ us hl=>(by obtain ⟨_,rfl⟩:=ls_1 hl; rfl)))
set_option maxHeartbeats 4000000 in
theorem fn_SettingsFile_init {fd : FuncData} (F : Fun K "__init__" "SettingsFile.__init__" s_SettingsFile_init a.f_SettingsFile_init fd) (T : Tx K mg base a) : FnG P w K mg base 6 a.f_SettingsFile_init fd ["self","text"] (spM K 2 (m_SettingsFile_init K a)) :=
 fn_ok F sc_SettingsFile_init wId_ok fun cdv A outer s H E hr=>(show DB _ _ _ (g_SettingsFile_init K a) from
   (db_cons (ds_if (dt_not (dt_truth (d_bi (cr_isi T.own) T.z_isinstance bt_isinstance (da_cons (d_var 1) (da_cons (d_ty T.z_str bt_str) da_nil))))) db_no db_nil)
   (db_cons (ds_set 2 sc_SettingsFile_init.nd (d_make T.mk_Reader (ok_Reader_init T) T.m_Reader (hr.mono (by decide)) (takes_of rfl rfl rfl rfl) cw_none))
   (db_cons (ds_for (passes_of rfl) rfl (d_enum T.z_enumerate (da_cons (d_call (ok_lines_of T) T.m_lines_of T.k_lines_of (hr.mono (by decide)) (takes_of rfl rfl rfl rfl) (cw_pos (da_cons (d_var 1) da_nil))) da_nil)) (dg_tup rfl (dgs_cons (dg_name 3 sc_SettingsFile_init.nd) (dgs_cons (dg_name 4 sc_SettingsFile_init.nd) dgs_nil))) (db_one (ds_expr (d_meth (d_var 2) T.cl_Reader T.me_Reader_take (ok_Reader_take T) (hr.mono (by decide)) (takes_of rfl rfl rfl rfl) (cw_pos (da_cons (d_var 3) (da_cons (d_var 4) da_nil)))))))
   (db_cons (ds_fld (cs:=[a.C_SettingsFile]) (d_var 0) (d_var 1) T.fl_whole_SettingsFile)
   (db_cons (ds_fld (cs:=[a.C_SettingsFile]) (d_var 0) (d_fld (cs:=[a.C_Reader]) (d_var 2) T.fl_parts_Reader) T.fl_all_parts_SettingsFile)
   (db_cons (ds_fld (cs:=[a.C_SettingsFile]) (d_var 0) (d_call (ok_parts_of T) T.m_parts_of T.k_parts_of (hr.mono (by decide)) (takes_of rfl rfl rfl rfl) (cw_pos (da_cons (d_fld (cs:=[a.C_Reader]) (d_var 2) T.fl_parts_Reader) da_nil))) T.fl_parts_SettingsFile)
   (db_one (ds_fld (cs:=[a.C_SettingsFile]) (d_var 0) (d_bt (cr_dict rfl) T.z_dict bt_dict (da_cons (d_lcV rfl sc_SettingsFile_init.nd (d_iter (d_fld (cs:=[a.C_Reader]) (d_var 2) T.fl_parts_Reader)) (blkOk_by (N:=N_SettingsFile_init) (sc:=defScope s_SettingsFile_init) (own:=[("at",3),("word",5),("thing",6)]) (by decide +kernel)) (fun _ _ _ _ _=>(dg_tup rfl (dgs_cons (dg_name 3 sc_SettingsFile_init.nd) (dgs_cons (dg_name 5 sc_SettingsFile_init.nd) (dgs_cons (dg_name 6 sc_SettingsFile_init.nd) dgs_nil))))) (fun _ _ _ _ _=>(dts_one (dt_cmp (op_eq' hr.u64) (d_var 5) (d_gstr T.g_PLACE)))) (fun _ _ _ _ _=>(d_var 6))) da_nil)) T.fl_settings_read_SettingsFile)))))))))
theorem ok_SettingsFile_init (T : Tx K mg base a) : Fd P w K mg base a.f_SettingsFile_init 6 2 [] gPos (m_SettingsFile_init K a):=by
 obtain ⟨fd,F⟩:=T.F_SettingsFile_init
 exact Fd.of (fn_SettingsFile_init F T) (bd_pos (F.binds (ps:=["self","text"]) fun _ _ _ _ _ _ us hl=>(by obtain ⟨_,_,rfl⟩:=ls_2 hl; rfl)))
set_option maxHeartbeats 4000000 in
theorem fn_SettingsFile___eq__ {fd : FuncData} (F : Fun K "__eq__" "SettingsFile.__eq__" s_SettingsFile___eq__ a.f_SettingsFile___eq__ fd) (T : Tx K mg base a) : FnG P w K mg base 1 a.f_SettingsFile___eq__ fd ["self","other"] (spM K 2 (m_SettingsFile___eq__ K a)) :=
 fn_ok F sc_SettingsFile___eq__ wFrz_ok fun cdv A outer s H E hr=>(show DB _ _ _ (g_SettingsFile___eq__ K a) from
   (db_one (ds_ret (d_and (d_bi (cr_isi T.own) T.z_isinstance bt_isinstance (da_cons (d_var 1) (da_cons (d_gobj T.m_SettingsFile) da_nil))) (d_one (d_cmp (op_eq' hr.u64) (d_fld (cs:=[a.C_SettingsFile]) (d_var 0) T.fl_whole_SettingsFile) (d_fld (cs:=[a.C_SettingsFile]) (d_var 1) T.fl_whole_SettingsFile)))))))
theorem ok_SettingsFile___eq__ (T : Tx K mg base a) : Fd P w K mg base a.f_SettingsFile___eq__ 1 2 [] gPos (m_SettingsFile___eq__ K a):=by
 obtain ⟨fd,F⟩:=T.F_SettingsFile___eq__
 exact Fd.of (fn_SettingsFile___eq__ F T) (bd_pos (F.binds (ps:=["self","other"]) fun _ _ _ _ _ _ us hl=>(by obtain ⟨_,_,rfl⟩:=ls_2 hl; rfl)))
set_option maxHeartbeats 4000000 in
theorem fn_SettingsFile___len__ {fd : FuncData} (F : Fun K "__len__" "SettingsFile.__len__" s_SettingsFile___len__ a.f_SettingsFile___len__ fd) (T : Tx K mg base a) : FnG P w K mg base 1 a.f_SettingsFile___len__ fd ["self"] (spM K 1 (m_SettingsFile___len__ K a)) :=
 fn_ok F sc_SettingsFile___len__ wFrz_ok fun cdv A outer s H E hr=>(show DB _ _ _ (g_SettingsFile___len__ K a) from
   (db_one (ds_ret (d_bi cr_len T.z_len bt_len (da_cons (d_fld (cs:=[a.C_SettingsFile]) (d_var 0) T.fl_settings_read_SettingsFile) da_nil)))))
theorem ok_SettingsFile___len__ (T : Tx K mg base a) : Fd P w K mg base a.f_SettingsFile___len__ 1 1 [] gPos (m_SettingsFile___len__ K a):=by
 obtain ⟨fd,F⟩:=T.F_SettingsFile___len__
 exact Fd.of (fn_SettingsFile___len__ F T) (bd_pos (F.binds (ps:=["self"]) fun _ _ _ _ _ _ us hl=>(by obtain ⟨_,rfl⟩:=ls_1 hl; rfl)))
set_option maxHeartbeats 4000000 in
theorem fn_SettingsFile_lines {fd : FuncData} (F : Fun K "lines" "SettingsFile.lines" s_SettingsFile_lines a.f_SettingsFile_lines fd) (T : Tx K mg base a) : FnG P w K mg base 2 a.f_SettingsFile_lines fd ["self"] (spM K 1 (m_SettingsFile_lines K a)) :=
 fn_ok F sc_SettingsFile_lines wFrz_ok fun cdv A outer s H E hr=>(show DB _ _ _ (g_SettingsFile_lines K a) from
   (db_one (ds_ret (d_call (ok_lines_of T) T.m_lines_of T.k_lines_of (hr.mono (by decide)) (takes_of rfl rfl rfl rfl) (cw_pos (da_cons (d_fld (cs:=[a.C_SettingsFile]) (d_var 0) T.fl_whole_SettingsFile) da_nil))))))
theorem ok_SettingsFile_lines (T : Tx K mg base a) : Fd P w K mg base a.f_SettingsFile_lines 2 1 [] gPos (m_SettingsFile_lines K a):=by
 obtain ⟨fd,F⟩:=T.F_SettingsFile_lines
 exact Fd.of (fn_SettingsFile_lines F T) (bd_pos (F.binds (ps:=["self"]) fun _ _ _ _ _ _ us hl=>(by obtain ⟨_,rfl⟩:=ls_1 hl; rfl)))
set_option maxHeartbeats 4000000 in
theorem fn_SettingsFile_sections {fd : FuncData} (F : Fun K "sections" "SettingsFile.sections" s_SettingsFile_sections a.f_SettingsFile_sections fd) (T : Tx K mg base a) : FnG P w K mg base 1 a.f_SettingsFile_sections fd ["self"] (spM K 1 (m_SettingsFile_sections K a)) :=
 fn_ok F sc_SettingsFile_sections wFrz_ok fun cdv A outer s H E hr=>(show DB _ _ _ (g_SettingsFile_sections K a) from
   (db_one (ds_ret (d_lcV rfl sc_SettingsFile_sections.nd (d_iter (d_fld (cs:=[a.C_SettingsFile]) (d_var 0) T.fl_all_parts_SettingsFile)) (blkOk_by (N:=N_SettingsFile_sections) (sc:=defScope s_SettingsFile_sections) (own:=[("at",1),("word",2),("thing",3)]) (by decide +kernel)) (fun _ _ _ _ _=>(dg_tup rfl (dgs_cons (dg_name 1 sc_SettingsFile_sections.nd) (dgs_cons (dg_name 2 sc_SettingsFile_sections.nd) (dgs_cons (dg_name 3 sc_SettingsFile_sections.nd) dgs_nil))))) (fun _ _ _ _ _=>(dts_one (dt_cmp (op_eq' hr.u64) (d_var 2) (d_gstr T.g_SECTION)))) (fun _ _ _ _ _=>(d_var 3))))))
theorem ok_SettingsFile_sections (T : Tx K mg base a) : Fd P w K mg base a.f_SettingsFile_sections 1 1 [] gPos (m_SettingsFile_sections K a):=by
 obtain ⟨fd,F⟩:=T.F_SettingsFile_sections
 exact Fd.of (fn_SettingsFile_sections F T) (bd_pos (F.binds (ps:=["self"]) fun _ _ _ _ _ _ us hl=>(by obtain ⟨_,rfl⟩:=ls_1 hl; rfl)))
set_option maxHeartbeats 4000000 in
theorem gn_SettingsFile_pairs (T : Tx K mg base a) : GnOk P w K mg base a.f_SettingsFile_pairs 1 (m_SettingsFile_pairs K a):=by
 obtain ⟨fd,F⟩:=T.F_SettingsFile_pairs
 refine ⟨fd,["self"],gen_ok (k:=0) F sc_SettingsFile_pairs fun cdv A outer s H E pn hr=>(show DYs _ _ (g_SettingsFile_pairs K a) from
   (dy_cons (dy_for (W:=W0) owns_gcx rfl (d_iter (d_fld (cs:=[a.C_SettingsFile]) (d_var 0) T.fl_all_parts_SettingsFile)) (dg_tup rfl (dgs_cons (dg_name 1 sc_SettingsFile_pairs.nd) (dgs_cons (dg_name 2 sc_SettingsFile_pairs.nd) (dgs_cons (dg_name 3 sc_SettingsFile_pairs.nd) dgs_nil)))) (dy_cons (dy_if (W:=W0) (dt_cmp (op_eq' hr.u64) (d_var 2) (d_gstr T.g_PLACE)) (dy_cons (dy_yield (W:=W0) (d_var 3))
   dy_nil) dy_nil)
   dy_nil))
   dy_nil)),F.binds (ps:=["self"]) fun _ _ _ _ _ _ us hl=>(by obtain ⟨_,rfl⟩:=ls_1 hl; rfl)⟩
set_option maxHeartbeats 4000000 in
theorem fn_L_law_unlike {fd : FuncData} (F : Fun K "_law_unlike" "_law_unlike" s_L_law_unlike a.f_L_law_unlike fd) (T : Tx K mg base a) : FnG P w K mg base 5 a.f_L_law_unlike fd ["_law_file","_law_whole"] (spM K 2 (m_L_law_unlike K a)) :=
 fn_ok F sc_L_law_unlike wFrz_ok fun cdv A outer s H E hr=>(show DB _ _ _ (g_L_law_unlike K a) from
   (db_cons (ds_set 2 sc_L_law_unlike.nd (d_lst (da_cons (d_var 1) (da_cons d_non (da_cons d_bl (da_cons (d_bi (cr_lenO T.me_SettingsFile___len__ (ok_SettingsFile___len__ T) (hr.mono (by decide))) T.z_len bt_len (da_cons (d_var 0) da_nil)) (da_cons (d_prop (d_var 0) T.cl_SettingsFile T.pp_SettingsFile_lines (ok_SettingsFile_lines T) (hr.mono (by decide))) (da_cons (d_tupC (da_cons (d_var 1) da_nil)) (da_cons (d_meth (d_var 0) T.cl_SettingsFile T.me_SettingsFile_sections (ok_SettingsFile_sections T) (hr.mono (by decide)) (takes_of rfl rfl rfl rfl) cw_none) (da_cons (d_listY (d_var 0) T.cl_SettingsFile T.me_SettingsFile_pairs (gn_SettingsFile_pairs T) ((hr.mono (by decide)).rm) T.z_list bt_list) da_nil))))))))))
   (db_cons (ds_setLcV 3 rfl sc_L_law_unlike.nd (sw_true rfl rfl rfl (by decide +kernel)) (d_iter (d_var 2)) (blkOk_by (N:=N_L_law_unlike) (sc:=defScope s_L_law_unlike) (own:=[("_law_one",4)]) (by decide +kernel)) (fun _ _ _ _ _=>(dg_name 4 sc_L_law_unlike.nd)) (fun _ _ _ _ _=>dts_nil) (fun _ _ _ _ _=>(d_lst (da_cons (d_cmpS (op_eqM T.eq_SettingsFile (ok_SettingsFile___eq__ T) (hr.mono (by decide)) hr.u64) (eqM_no _ _ _) (d_var 0) (d_var 4)) (da_cons (d_cmpS (op_neM T.eq_SettingsFile (ok_SettingsFile___eq__ T) (hr.mono (by decide)) hr.u64) (neM_no _ _ _) (d_var 0) (d_var 4)) (da_cons (d_cmpS (op_eqM T.eq_SettingsFile (ok_SettingsFile___eq__ T) (hr.mono (by decide)) hr.u64) (eqM_no _ _ _) (d_var 4) (d_var 0)) da_nil))))))
   (db_one (ds_ret (d_cmp (op_eq' hr.u64) (d_var 3) (d_op op_rep' (d_lst (da_cons (d_lst (da_cons d_bl (da_cons d_bl (da_cons d_bl da_nil)))) da_nil)) (d_bi cr_len T.z_len bt_len (da_cons (d_var 2) da_nil)))))))))
theorem ok_L_law_unlike (T : Tx K mg base a) : Fd P w K mg base a.f_L_law_unlike 5 2 [] gPos (m_L_law_unlike K a):=by
 obtain ⟨fd,F⟩:=T.F_L_law_unlike
 exact Fd.of (fn_L_law_unlike F T) (bd_pos (F.binds (ps:=["_law_file","_law_whole"]) fun _ _ _ _ _ _ us hl=>(by obtain ⟨_,_,rfl⟩:=ls_2 hl; rfl)))
set_option maxHeartbeats 4000000 in
theorem fn_SettingsFile___str__ {fd : FuncData} (F : Fun K "__str__" "SettingsFile.__str__" s_SettingsFile___str__ a.f_SettingsFile___str__ fd) (T : Tx K mg base a) : FnG P w K mg base 1 a.f_SettingsFile___str__ fd ["self"] (spM K 1 (m_SettingsFile___str__ K a)) :=
 fn_ok F sc_SettingsFile___str__ wFrz_ok fun cdv A outer s H E hr=>(show DB _ _ _ (g_SettingsFile___str__ K a) from
   (db_one (ds_ret (d_bt cr_strS T.z_str bt_str (da_cons (d_fld (cs:=[a.C_SettingsFile]) (d_var 0) T.fl_whole_SettingsFile) da_nil)))))
theorem ok_SettingsFile___str__ (T : Tx K mg base a) : Fd P w K mg base a.f_SettingsFile___str__ 1 1 [] gPos (m_SettingsFile___str__ K a):=by
 obtain ⟨fd,F⟩:=T.F_SettingsFile___str__
 exact Fd.of (fn_SettingsFile___str__ F T) (bd_pos (F.binds (ps:=["self"]) fun _ _ _ _ _ _ us hl=>(by obtain ⟨_,rfl⟩:=ls_1 hl; rfl)))
set_option maxHeartbeats 4000000 in
theorem fn_law {fd : FuncData} (F : Fun K "law" "law" s_law a.f_law fd) (T : Tx K mg base a) : FnG P w K mg base 8 a.f_law fd ["_law_script"] (spM K 1 (m_law K a)) :=
 fn_ok F sc_law wFrz_ok fun cdv A outer s H E hr=>(show DB _ _ _ (g_law K a) from
   (db_cons (ds_for (passes_of rfl) rfl (d_range1 T.z_range (da_cons (d_bi (cr_max rfl) T.z_max bt_max (da_cons d_int (da_cons (d_bi (cr_min rfl) T.z_min bt_min (da_cons d_int (da_cons (d_bi cr_len T.z_len bt_len (da_cons (d_var 0) da_nil)) da_nil))) da_nil))) da_nil)) (dg_name 1 sc_law.nd) (db_cons (ds_set 2 sc_law.nd (d_call (ok_L_law_bag T) T.m_L_law_bag T.k_L_law_bag (hr.mono (by decide)) (takes_of rfl rfl rfl rfl) (cw_pos (da_cons (d_var 0) (da_cons (d_var 1) da_nil)))))
   (db_one (ds_for (passes_of rfl) rfl (d_range1 T.z_range (da_cons d_int da_nil)) (dg_name 3 sc_law.nd) (db_cons (ds_set 4 sc_law.nd (d_call (ok_L_law_lines T) T.m_L_law_lines T.k_L_law_lines (hr.mono (by decide)) (takes_of rfl rfl rfl rfl) (cw_pos (da_cons (d_var 2) da_nil))))
   (db_cons (ds_set 5 sc_law.nd (d_call (ok_L_law_changed T) T.m_L_law_changed T.k_L_law_changed (hr.mono (by decide)) (takes_of rfl rfl rfl rfl) (cw_pos (da_cons (d_var 2) (da_cons (d_var 4) da_nil)))))
   (db_cons (ds_par 6 7 rfl sc_law.nd (da_cons (d_m PySem.F.plainAttrs_str PySem.F.slot_str_join PySem.F.type_str_join mt_join' d_str (da_cons (d_var 4) da_nil)) (da_cons (d_m PySem.F.plainAttrs_str PySem.F.slot_str_join PySem.F.type_str_join mt_join' d_str (da_cons (d_var 5) da_nil)) da_nil)) (by decide) rfl)
   (db_cons (ds_par 8 9 rfl sc_law.nd (da_cons (d_wr wFrz_ok (d_make T.mk_SettingsFile (ok_SettingsFile_init T) T.m_SettingsFile (hr.mono (by decide)) (takes_of rfl rfl rfl rfl) (cw_pos (da_cons (d_var 6) da_nil)))) (da_cons (d_wr wFrz_ok (d_make T.mk_SettingsFile (ok_SettingsFile_init T) T.m_SettingsFile (hr.mono (by decide)) (takes_of rfl rfl rfl rfl) (cw_pos (da_cons (d_var 7) da_nil)))) da_nil)) (by decide) rfl)
   (db_cons (ds_set 10 sc_law.nd (d_cmp (op_eq' hr.u64) (d_var 6) (d_var 7)))
   (db_cons (ds_if (dt_cmp (op_ne' hr.u64) (d_lst (da_cons (d_cmpS (op_eqM T.eq_SettingsFile (ok_SettingsFile___eq__ T) (hr.mono (by decide)) hr.u64) (eqM_no _ _ _) (d_var 8) (d_var 9)) (da_cons (d_cmpS (op_neM T.eq_SettingsFile (ok_SettingsFile___eq__ T) (hr.mono (by decide)) hr.u64) (neM_no _ _ _) (d_var 8) (d_var 9)) (da_cons (d_cmpS (op_eqM T.eq_SettingsFile (ok_SettingsFile___eq__ T) (hr.mono (by decide)) hr.u64) (eqM_no _ _ _) (d_var 9) (d_var 8)) da_nil)))) (d_lst (da_cons (d_var 10) (da_cons (d_not (d_var 10)) (da_cons (d_var 10) da_nil))))) (db_one (ds_ret d_bl)) db_nil)
   (db_one (ds_if (dw_pt (dw_or (dt_not (dt_truth (d_call (ok_L_law_unlike T) T.m_L_law_unlike T.k_L_law_unlike (hr.mono (by decide)) (takes_of rfl rfl rfl rfl) (cw_pos (da_cons (d_var 8) (da_cons (d_var 6) da_nil)))))) (dw_or (dt_not (dt_cmpS (op_eqM T.eq_SettingsFile (ok_SettingsFile___eq__ T) (hr.mono (by decide)) hr.u64) (eqM_no _ _ _) (d_wr wFrz_ok (d_make T.mk_SettingsFile (ok_SettingsFile_init T) T.m_SettingsFile (hr.mono (by decide)) (takes_of rfl rfl rfl rfl) (cw_pos (da_cons (d_bt (cr_strO T.me_SettingsFile___str__ (ok_SettingsFile___str__ T) (hr.mono (by decide))) T.z_str bt_str (da_cons (d_var 9) da_nil)) da_nil)))) (d_var 9))) (dw_or1 (dt_cmp (op_ne' hr.u64) (d_bt (cr_strO T.me_SettingsFile___str__ (ok_SettingsFile___str__ T) (hr.mono (by decide))) T.z_str bt_str (da_cons (d_var 8) da_nil)) (d_var 6)))))) (db_one (ds_ret d_bl)) db_nil))))))))))))
   (db_one (ds_ret (d_and (d_cmpS (op_eqM T.eq_SettingsFile (ok_SettingsFile___eq__ T) (hr.mono (by decide)) hr.u64) (eqM_no _ _ _) (d_wr wFrz_ok (d_make T.mk_SettingsFile (ok_SettingsFile_init T) T.m_SettingsFile (hr.mono (by decide)) (takes_of rfl rfl rfl rfl) (cw_pos (da_cons d_str da_nil)))) (d_wr wFrz_ok (d_make T.mk_SettingsFile (ok_SettingsFile_init T) T.m_SettingsFile (hr.mono (by decide)) (takes_of rfl rfl rfl rfl) (cw_pos (da_cons d_str da_nil))))) (d_one (d_cmpS (op_neM T.eq_SettingsFile (ok_SettingsFile___eq__ T) (hr.mono (by decide)) hr.u64) (neM_no _ _ _) (d_wr wFrz_ok (d_make T.mk_SettingsFile (ok_SettingsFile_init T) T.m_SettingsFile (hr.mono (by decide)) (takes_of rfl rfl rfl rfl) (cw_pos (da_cons d_str da_nil)))) (d_wr wFrz_ok (d_make T.mk_SettingsFile (ok_SettingsFile_init T) T.m_SettingsFile (hr.mono (by decide)) (takes_of rfl rfl rfl rfl) (cw_pos (da_cons d_str da_nil)))))))))))
end
/-- the plain facts of the classes -/
structure Kx (K : PySem.W.Frag) (a : Ad) : Prop where
 dummy : True
 xi_NoneType : PySem.W.kitOne K (.type "NoneType") (.ref a.C_SettingsFile) = some false
 xi_bool : PySem.W.kitOne K (.type "bool") (.ref a.C_SettingsFile) = some false
 xi_int : PySem.W.kitOne K (.type "int") (.ref a.C_SettingsFile) = some false
 xi_str : PySem.W.kitOne K (.type "str") (.ref a.C_SettingsFile) = some false
 xi_list : PySem.W.kitOne K (.type "list") (.ref a.C_SettingsFile) = some false
 xi_tuple : PySem.W.kitOne K (.type "tuple") (.ref a.C_SettingsFile) = some false
noncomputable def LawOk : Prop:=∀ (K : PySem.W.Frag) (a : Ad),Kx K a → ∀ ns : List Int,ns.length ≤ 63 → ∃ st,m_law K a [.d (.scr ns)] [] = .ok (.d (.bl true)) st
noncomputable def spAll (K : PySem.W.Frag) : Sp:=fun vs H Q E=>∀ a : Ad,Kx K a → spM K 1 (m_law K a) vs H Q E
set_option maxHeartbeats 4000000 in
theorem all_mk {w : World} {K : PySem.W.Frag} {h : Heap} {mg : Str → Option Value} {fa : Addr} {l : PySem.W.OpenLaw} (X : PySem.W.Frag.In K h) (G : h.Ns mainGlobals mg) (hfa : mg "law" = some (.ref fa)) {C_Reader C_SettingsFile f_L_law_bag f_L_law_take f_L_law_of f_L_law_lines f_L_law_changed f_Reader_init f_lines_of f_is_made_of f_is_number f_is_name f_is_place f_is_value f_kept_in f_Reader_put f_Reader_take_kept f_section_in f_setting_in f_Reader_take_setting f_Reader_take f_parts_of f_SettingsFile_init f_SettingsFile___eq__ f_SettingsFile___len__ f_SettingsFile_lines f_SettingsFile_sections f_SettingsFile_pairs f_L_law_unlike f_SettingsFile___str__ f_law p_SettingsFile_lines : Addr} {od1 an1 od2 an2 od3 an3 od4 an4 od5 an5 od6 an6 od7 an7 od8 an8 od9 an9 od10 an10 od11 an11 od12 an12 od13 an13 od14 an14 od15 an15 od16 an16 od17 an17 od18 an18 od19 an19 od20 an20 od21 an21 od22 an22 od23 an23 od24 an24 od25 an25 od26 an26 od27 an27 od28 an28 od29 an29 : Option Addr} {sl1 sl2 sl3 sl4 sl5 sl6 sl7 sl8 sl9 sl10 sl11 sl12 sl13 sl14 sl15 sl16 sl17 sl18 sl19 sl20 sl21 sl22 sl23 sl24 sl25 sl26 sl27 sl28 sl29 : Array (Option Value)} {oc1 kV1 dc1 pm1 cd1 ct1 oc2 kV2 dc2 pm2 cd2 ct2 oc3 kV3 dc3 pm3 cd3 ct3 oc4 kV4 dc4 pm4 cd4 ct4 oc5 kV5 dc5 pm5 cd5 ct5 oc6 kV6 dc6 pm6 cd6 ct6 oc7 kV7 dc7 pm7 cd7 ct7 oc8 kV8 dc8 pm8 cd8 ct8 oc9 kV9 dc9 pm9 cd9 ct9 oc10 kV10 dc10 pm10 cd10 ct10 oc11 kV11 dc11 pm11 cd11 ct11 oc12 kV12 dc12 pm12 cd12 ct12 oc13 kV13 dc13 pm13 cd13 ct13 oc14 kV14 dc14 pm14 cd14 ct14 oc15 kV15 dc15 pm15 cd15 ct15 oc16 kV16 dc16 pm16 cd16 ct16 oc17 kV17 dc17 pm17 cd17 ct17 oc18 kV18 dc18 pm18 cd18 ct18 oc19 kV19 dc19 pm19 cd19 ct19 oc20 kV20 dc20 pm20 cd20 ct20 oc21 kV21 dc21 pm21 cd21 ct21 oc22 kV22 dc22 pm22 cd22 ct22 oc23 kV23 dc23 pm23 cd23 ct23 oc24 kV24 dc24 pm24 cd24 ct24 oc25 kV25 dc25 pm25 cd25 ct25 oc26 kV26 dc26 pm26 cd26 ct26 oc27 kV27 dc27 pm27 cd27 ct27 oc28 kV28 dc28 pm28 cd28 ct28 oc29 kV29 dc29 pm29 cd29 ct29 : Value} {pr24 : List Value} {t_DIGITS t_KEPT t_LETTERS t_MOST_LETTERS t_MOST_SIGNS t_PLACE t_REMARK t_SECTION : Tok}
  (a1 : PySem.W.nsIn K mainGlobals "_law_bag" = some (some (.ref f_L_law_bag)))
  (l1 : K.lookup f_L_law_bag = some ⟨oc1,od1,.func (PySem.W.fnOf "_law_bag" "_law_bag" (defArgs s_L_law_bag) (defBody s_L_law_bag) (defScope s_L_law_bag) .none kV1 dc1 pm1 an1 cd1 ct1),sl1⟩)
  (c1 : PySem.W.codeIn K cd1 "_law_bag" = true)
  (k1 : PySem.W.keepIn K (.ref f_L_law_bag) = true)
  (a2 : PySem.W.nsIn K mainGlobals "_law_take" = some (some (.ref f_L_law_take)))
  (l2 : K.lookup f_L_law_take = some ⟨oc2,od2,.func (PySem.W.fnOf "_law_take" "_law_take" (defArgs s_L_law_take) (defBody s_L_law_take) (defScope s_L_law_take) .none kV2 dc2 pm2 an2 cd2 ct2),sl2⟩)
  (c2 : PySem.W.codeIn K cd2 "_law_take" = true)
  (k2 : PySem.W.keepIn K (.ref f_L_law_take) = true)
  (a3 : PySem.W.nsIn K mainGlobals "_law_of" = some (some (.ref f_L_law_of)))
  (l3 : K.lookup f_L_law_of = some ⟨oc3,od3,.func (PySem.W.fnOf "_law_of" "_law_of" (defArgs s_L_law_of) (defBody s_L_law_of) (defScope s_L_law_of) .none kV3 dc3 pm3 an3 cd3 ct3),sl3⟩)
  (c3 : PySem.W.codeIn K cd3 "_law_of" = true)
  (k3 : PySem.W.keepIn K (.ref f_L_law_of) = true)
  (a4 : PySem.W.nsIn K mainGlobals "_law_lines" = some (some (.ref f_L_law_lines)))
  (l4 : K.lookup f_L_law_lines = some ⟨oc4,od4,.func (PySem.W.fnOf "_law_lines" "_law_lines" (defArgs s_L_law_lines) (defBody s_L_law_lines) (defScope s_L_law_lines) .none kV4 dc4 pm4 an4 cd4 ct4),sl4⟩)
  (c4 : PySem.W.codeIn K cd4 "_law_lines" = true)
  (k4 : PySem.W.keepIn K (.ref f_L_law_lines) = true)
  (a5 : PySem.W.nsIn K mainGlobals "_law_changed" = some (some (.ref f_L_law_changed)))
  (l5 : K.lookup f_L_law_changed = some ⟨oc5,od5,.func (PySem.W.fnOf "_law_changed" "_law_changed" (defArgs s_L_law_changed) (defBody s_L_law_changed) (defScope s_L_law_changed) .none kV5 dc5 pm5 an5 cd5 ct5),sl5⟩)
  (c5 : PySem.W.codeIn K cd5 "_law_changed" = true)
  (k5 : PySem.W.keepIn K (.ref f_L_law_changed) = true)
  (a6 : PySem.W.findIn K (.ref C_Reader) "__init__" = some (some (.ref f_Reader_init)))
  (i6 : PySem.W.isFn K (.ref f_Reader_init) = true)
  (l6 : K.lookup f_Reader_init = some ⟨oc6,od6,.func (PySem.W.fnOf "__init__" "Reader.__init__" (defArgs s_Reader_init) (defBody s_Reader_init) (defScope s_Reader_init) .none kV6 dc6 pm6 an6 cd6 ct6),sl6⟩)
  (c6 : PySem.W.codeIn K cd6 "Reader.__init__" = true)
  (k6 : PySem.W.keepIn K (.ref f_Reader_init) = true)
  (a7 : PySem.W.nsIn K mainGlobals "lines_of" = some (some (.ref f_lines_of)))
  (l7 : K.lookup f_lines_of = some ⟨oc7,od7,.func (PySem.W.fnOf "lines_of" "lines_of" (defArgs s_lines_of) (defBody s_lines_of) (defScope s_lines_of) .none kV7 dc7 pm7 an7 cd7 ct7),sl7⟩)
  (c7 : PySem.W.codeIn K cd7 "lines_of" = true)
  (k7 : PySem.W.keepIn K (.ref f_lines_of) = true)
  (a8 : PySem.W.nsIn K mainGlobals "is_made_of" = some (some (.ref f_is_made_of)))
  (l8 : K.lookup f_is_made_of = some ⟨oc8,od8,.func (PySem.W.fnOf "is_made_of" "is_made_of" (defArgs s_is_made_of) (defBody s_is_made_of) (defScope s_is_made_of) .none kV8 dc8 pm8 an8 cd8 ct8),sl8⟩)
  (c8 : PySem.W.codeIn K cd8 "is_made_of" = true)
  (k8 : PySem.W.keepIn K (.ref f_is_made_of) = true)
  (a9 : PySem.W.nsIn K mainGlobals "is_number" = some (some (.ref f_is_number)))
  (l9 : K.lookup f_is_number = some ⟨oc9,od9,.func (PySem.W.fnOf "is_number" "is_number" (defArgs s_is_number) (defBody s_is_number) (defScope s_is_number) .none kV9 dc9 pm9 an9 cd9 ct9),sl9⟩)
  (c9 : PySem.W.codeIn K cd9 "is_number" = true)
  (k9 : PySem.W.keepIn K (.ref f_is_number) = true)
  (a10 : PySem.W.nsIn K mainGlobals "is_name" = some (some (.ref f_is_name)))
  (l10 : K.lookup f_is_name = some ⟨oc10,od10,.func (PySem.W.fnOf "is_name" "is_name" (defArgs s_is_name) (defBody s_is_name) (defScope s_is_name) .none kV10 dc10 pm10 an10 cd10 ct10),sl10⟩)
  (c10 : PySem.W.codeIn K cd10 "is_name" = true)
  (k10 : PySem.W.keepIn K (.ref f_is_name) = true)
  (a11 : PySem.W.nsIn K mainGlobals "is_place" = some (some (.ref f_is_place)))
  (l11 : K.lookup f_is_place = some ⟨oc11,od11,.func (PySem.W.fnOf "is_place" "is_place" (defArgs s_is_place) (defBody s_is_place) (defScope s_is_place) .none kV11 dc11 pm11 an11 cd11 ct11),sl11⟩)
  (c11 : PySem.W.codeIn K cd11 "is_place" = true)
  (k11 : PySem.W.keepIn K (.ref f_is_place) = true)
  (a12 : PySem.W.nsIn K mainGlobals "is_value" = some (some (.ref f_is_value)))
  (l12 : K.lookup f_is_value = some ⟨oc12,od12,.func (PySem.W.fnOf "is_value" "is_value" (defArgs s_is_value) (defBody s_is_value) (defScope s_is_value) .none kV12 dc12 pm12 an12 cd12 ct12),sl12⟩)
  (c12 : PySem.W.codeIn K cd12 "is_value" = true)
  (k12 : PySem.W.keepIn K (.ref f_is_value) = true)
  (a13 : PySem.W.nsIn K mainGlobals "kept_in" = some (some (.ref f_kept_in)))
  (l13 : K.lookup f_kept_in = some ⟨oc13,od13,.func (PySem.W.fnOf "kept_in" "kept_in" (defArgs s_kept_in) (defBody s_kept_in) (defScope s_kept_in) .none kV13 dc13 pm13 an13 cd13 ct13),sl13⟩)
  (c13 : PySem.W.codeIn K cd13 "kept_in" = true)
  (k13 : PySem.W.keepIn K (.ref f_kept_in) = true)
  (a14 : PySem.W.findIn K (.ref C_Reader) "put" = some (some (.ref f_Reader_put)))
  (i14 : PySem.W.isFn K (.ref f_Reader_put) = true)
  (l14 : K.lookup f_Reader_put = some ⟨oc14,od14,.func (PySem.W.fnOf "put" "Reader.put" (defArgs s_Reader_put) (defBody s_Reader_put) (defScope s_Reader_put) .none kV14 dc14 pm14 an14 cd14 ct14),sl14⟩)
  (c14 : PySem.W.codeIn K cd14 "Reader.put" = true)
  (k14 : PySem.W.keepIn K (.ref f_Reader_put) = true)
  (a15 : PySem.W.findIn K (.ref C_Reader) "take_kept" = some (some (.ref f_Reader_take_kept)))
  (i15 : PySem.W.isFn K (.ref f_Reader_take_kept) = true)
  (l15 : K.lookup f_Reader_take_kept = some ⟨oc15,od15,.func (PySem.W.fnOf "take_kept" "Reader.take_kept" (defArgs s_Reader_take_kept) (defBody s_Reader_take_kept) (defScope s_Reader_take_kept) .none kV15 dc15 pm15 an15 cd15 ct15),sl15⟩)
  (c15 : PySem.W.codeIn K cd15 "Reader.take_kept" = true)
  (k15 : PySem.W.keepIn K (.ref f_Reader_take_kept) = true)
  (a16 : PySem.W.nsIn K mainGlobals "section_in" = some (some (.ref f_section_in)))
  (l16 : K.lookup f_section_in = some ⟨oc16,od16,.func (PySem.W.fnOf "section_in" "section_in" (defArgs s_section_in) (defBody s_section_in) (defScope s_section_in) .none kV16 dc16 pm16 an16 cd16 ct16),sl16⟩)
  (c16 : PySem.W.codeIn K cd16 "section_in" = true)
  (k16 : PySem.W.keepIn K (.ref f_section_in) = true)
  (a17 : PySem.W.nsIn K mainGlobals "setting_in" = some (some (.ref f_setting_in)))
  (l17 : K.lookup f_setting_in = some ⟨oc17,od17,.func (PySem.W.fnOf "setting_in" "setting_in" (defArgs s_setting_in) (defBody s_setting_in) (defScope s_setting_in) .none kV17 dc17 pm17 an17 cd17 ct17),sl17⟩)
  (c17 : PySem.W.codeIn K cd17 "setting_in" = true)
  (k17 : PySem.W.keepIn K (.ref f_setting_in) = true)
  (a18 : PySem.W.findIn K (.ref C_Reader) "take_setting" = some (some (.ref f_Reader_take_setting)))
  (i18 : PySem.W.isFn K (.ref f_Reader_take_setting) = true)
  (l18 : K.lookup f_Reader_take_setting = some ⟨oc18,od18,.func (PySem.W.fnOf "take_setting" "Reader.take_setting" (defArgs s_Reader_take_setting) (defBody s_Reader_take_setting) (defScope s_Reader_take_setting) .none kV18 dc18 pm18 an18 cd18 ct18),sl18⟩)
  (c18 : PySem.W.codeIn K cd18 "Reader.take_setting" = true)
  (k18 : PySem.W.keepIn K (.ref f_Reader_take_setting) = true)
  (a19 : PySem.W.findIn K (.ref C_Reader) "take" = some (some (.ref f_Reader_take)))
  (i19 : PySem.W.isFn K (.ref f_Reader_take) = true)
  (l19 : K.lookup f_Reader_take = some ⟨oc19,od19,.func (PySem.W.fnOf "take" "Reader.take" (defArgs s_Reader_take) (defBody s_Reader_take) (defScope s_Reader_take) .none kV19 dc19 pm19 an19 cd19 ct19),sl19⟩)
  (c19 : PySem.W.codeIn K cd19 "Reader.take" = true)
  (k19 : PySem.W.keepIn K (.ref f_Reader_take) = true)
  (a20 : PySem.W.nsIn K mainGlobals "parts_of" = some (some (.ref f_parts_of)))
  (l20 : K.lookup f_parts_of = some ⟨oc20,od20,.func (PySem.W.fnOf "parts_of" "parts_of" (defArgs s_parts_of) (defBody s_parts_of) (defScope s_parts_of) .none kV20 dc20 pm20 an20 cd20 ct20),sl20⟩)
  (c20 : PySem.W.codeIn K cd20 "parts_of" = true)
  (k20 : PySem.W.keepIn K (.ref f_parts_of) = true)
  (a21 : PySem.W.findIn K (.ref C_SettingsFile) "__init__" = some (some (.ref f_SettingsFile_init)))
  (i21 : PySem.W.isFn K (.ref f_SettingsFile_init) = true)
  (l21 : K.lookup f_SettingsFile_init = some ⟨oc21,od21,.func (PySem.W.fnOf "__init__" "SettingsFile.__init__" (defArgs s_SettingsFile_init) (defBody s_SettingsFile_init) (defScope s_SettingsFile_init) .none kV21 dc21 pm21 an21 cd21 ct21),sl21⟩)
  (c21 : PySem.W.codeIn K cd21 "SettingsFile.__init__" = true)
  (k21 : PySem.W.keepIn K (.ref f_SettingsFile_init) = true)
  (a22 : PySem.W.findIn K (.ref C_SettingsFile) "__eq__" = some (some (.ref f_SettingsFile___eq__)))
  (i22 : PySem.W.isFn K (.ref f_SettingsFile___eq__) = true)
  (l22 : K.lookup f_SettingsFile___eq__ = some ⟨oc22,od22,.func (PySem.W.fnOf "__eq__" "SettingsFile.__eq__" (defArgs s_SettingsFile___eq__) (defBody s_SettingsFile___eq__) (defScope s_SettingsFile___eq__) .none kV22 dc22 pm22 an22 cd22 ct22),sl22⟩)
  (c22 : PySem.W.codeIn K cd22 "SettingsFile.__eq__" = true)
  (k22 : PySem.W.keepIn K (.ref f_SettingsFile___eq__) = true)
  (a23 : PySem.W.findIn K (.ref C_SettingsFile) "__len__" = some (some (.ref f_SettingsFile___len__)))
  (i23 : PySem.W.isFn K (.ref f_SettingsFile___len__) = true)
  (l23 : K.lookup f_SettingsFile___len__ = some ⟨oc23,od23,.func (PySem.W.fnOf "__len__" "SettingsFile.__len__" (defArgs s_SettingsFile___len__) (defBody s_SettingsFile___len__) (defScope s_SettingsFile___len__) .none kV23 dc23 pm23 an23 cd23 ct23),sl23⟩)
  (c23 : PySem.W.codeIn K cd23 "SettingsFile.__len__" = true)
  (k23 : PySem.W.keepIn K (.ref f_SettingsFile___len__) = true)
  (aP_24 : PySem.W.findIn K (.ref C_SettingsFile) "lines" = some (some (.ref p_SettingsFile_lines)))
  (aQ_24 : PySem.W.recIn K p_SettingsFile_lines "property" = some (.ref f_SettingsFile_lines :: pr24))
  (aR_24 : PySem.W.specialIn K (.ref p_SettingsFile_lines) "__get__" = some (some (.builtin "property.__get__")))
  (aS_24 : PySem.W.takesIn K (.ref p_SettingsFile_lines) = some true)
  (l24 : K.lookup f_SettingsFile_lines = some ⟨oc24,od24,.func (PySem.W.fnOf "lines" "SettingsFile.lines" (defArgs s_SettingsFile_lines) (defBody s_SettingsFile_lines) (defScope s_SettingsFile_lines) .none kV24 dc24 pm24 an24 cd24 ct24),sl24⟩)
  (c24 : PySem.W.codeIn K cd24 "SettingsFile.lines" = true)
  (k24 : PySem.W.keepIn K (.ref f_SettingsFile_lines) = true)
  (a25 : PySem.W.findIn K (.ref C_SettingsFile) "sections" = some (some (.ref f_SettingsFile_sections)))
  (i25 : PySem.W.isFn K (.ref f_SettingsFile_sections) = true)
  (l25 : K.lookup f_SettingsFile_sections = some ⟨oc25,od25,.func (PySem.W.fnOf "sections" "SettingsFile.sections" (defArgs s_SettingsFile_sections) (defBody s_SettingsFile_sections) (defScope s_SettingsFile_sections) .none kV25 dc25 pm25 an25 cd25 ct25),sl25⟩)
  (c25 : PySem.W.codeIn K cd25 "SettingsFile.sections" = true)
  (k25 : PySem.W.keepIn K (.ref f_SettingsFile_sections) = true)
  (a26 : PySem.W.findIn K (.ref C_SettingsFile) "pairs" = some (some (.ref f_SettingsFile_pairs)))
  (i26 : PySem.W.isFn K (.ref f_SettingsFile_pairs) = true)
  (l26 : K.lookup f_SettingsFile_pairs = some ⟨oc26,od26,.func (PySem.W.fnOf "pairs" "SettingsFile.pairs" (defArgs s_SettingsFile_pairs) (defBody s_SettingsFile_pairs) (defScope s_SettingsFile_pairs) .none kV26 dc26 pm26 an26 cd26 ct26),sl26⟩)
  (c26 : PySem.W.codeIn K cd26 "SettingsFile.pairs" = true)
  (k26 : PySem.W.keepIn K (.ref f_SettingsFile_pairs) = true)
  (a27 : PySem.W.nsIn K mainGlobals "_law_unlike" = some (some (.ref f_L_law_unlike)))
  (l27 : K.lookup f_L_law_unlike = some ⟨oc27,od27,.func (PySem.W.fnOf "_law_unlike" "_law_unlike" (defArgs s_L_law_unlike) (defBody s_L_law_unlike) (defScope s_L_law_unlike) .none kV27 dc27 pm27 an27 cd27 ct27),sl27⟩)
  (c27 : PySem.W.codeIn K cd27 "_law_unlike" = true)
  (k27 : PySem.W.keepIn K (.ref f_L_law_unlike) = true)
  (a28 : PySem.W.findIn K (.ref C_SettingsFile) "__str__" = some (some (.ref f_SettingsFile___str__)))
  (i28 : PySem.W.isFn K (.ref f_SettingsFile___str__) = true)
  (l28 : K.lookup f_SettingsFile___str__ = some ⟨oc28,od28,.func (PySem.W.fnOf "__str__" "SettingsFile.__str__" (defArgs s_SettingsFile___str__) (defBody s_SettingsFile___str__) (defScope s_SettingsFile___str__) .none kV28 dc28 pm28 an28 cd28 ct28),sl28⟩)
  (c28 : PySem.W.codeIn K cd28 "SettingsFile.__str__" = true)
  (k28 : PySem.W.keepIn K (.ref f_SettingsFile___str__) = true)
  (a29 : PySem.W.nsIn K mainGlobals "law" = some (some (.ref f_law)))
  (l29 : K.lookup f_law = some ⟨oc29,od29,.func (PySem.W.fnOf "law" "law" (defArgs s_law) (defBody s_law) (defScope s_law) .none kV29 dc29 pm29 an29 cd29 ct29),sl29⟩)
  (c29 : PySem.W.codeIn K cd29 "law" = true)
  (k29 : PySem.W.keepIn K (.ref f_law) = true)
  (z_abs : PySem.W.nsIn K mainGlobals "abs" = some none)
  (z_all : PySem.W.nsIn K mainGlobals "all" = some none)
  (z_dict : PySem.W.nsIn K mainGlobals "dict" = some none)
  (z_enumerate : PySem.W.nsIn K mainGlobals "enumerate" = some none)
  (z_int : PySem.W.nsIn K mainGlobals "int" = some none)
  (z_isinstance : PySem.W.nsIn K mainGlobals "isinstance" = some none)
  (z_len : PySem.W.nsIn K mainGlobals "len" = some none)
  (z_list : PySem.W.nsIn K mainGlobals "list" = some none)
  (z_max : PySem.W.nsIn K mainGlobals "max" = some none)
  (z_min : PySem.W.nsIn K mainGlobals "min" = some none)
  (z_range : PySem.W.nsIn K mainGlobals "range" = some none)
  (z_str : PySem.W.nsIn K mainGlobals "str" = some none)
  (g_DIGITS : PySem.W.nsIn K mainGlobals "DIGITS" = some (some (.str "0123456789" t_DIGITS)))
  (g_KEPT : PySem.W.nsIn K mainGlobals "KEPT" = some (some (.str "kept" t_KEPT)))
  (g_LETTERS : PySem.W.nsIn K mainGlobals "LETTERS" = some (some (.str "abcdefghijklmnopqrstuvwxyz" t_LETTERS)))
  (g_MOST_LETTERS : PySem.W.nsIn K mainGlobals "MOST_LETTERS" = some (some (.int 8 t_MOST_LETTERS)))
  (g_MOST_SIGNS : PySem.W.nsIn K mainGlobals "MOST_SIGNS" = some (some (.int 12 t_MOST_SIGNS)))
  (g_PLACE : PySem.W.nsIn K mainGlobals "PLACE" = some (some (.str "place" t_PLACE)))
  (g_REMARK : PySem.W.nsIn K mainGlobals "REMARK" = some (some (.str "remark" t_REMARK)))
  (g_SECTION : PySem.W.nsIn K mainGlobals "SECTION" = some (some (.str "section" t_SECTION)))
  (aC_Reader : PySem.W.nsIn K mainGlobals "Reader" = some (some (.ref C_Reader)))
  (pg_Reader : PySem.W.plainGet K C_Reader Str.empty = true)
  (hd_Reader : PySem.W.hasDictIn K C_Reader = true)
  (po_Reader : PySem.W.plainOver K C_Reader = true)
  (sa_Reader : PySem.W.findIn K (.ref C_Reader) "__setattr__" = some (some (.builtin "object.__setattr__")))
  (aC_SettingsFile : PySem.W.nsIn K mainGlobals "SettingsFile" = some (some (.ref C_SettingsFile)))
  (pg_SettingsFile : PySem.W.plainGet K C_SettingsFile Str.empty = true)
  (hd_SettingsFile : PySem.W.hasDictIn K C_SettingsFile = true)
  (po_SettingsFile : PySem.W.plainOver K C_SettingsFile = true)
  (sa_SettingsFile : PySem.W.findIn K (.ref C_SettingsFile) "__setattr__" = some (some (.builtin "object.__setattr__")))
  (mk_Reader : PySem.W.makesIn K C_Reader = true)
  (kc_Reader : PySem.W.keepIn K (.ref C_Reader) = true)
  (mk_SettingsFile : PySem.W.makesIn K C_SettingsFile = true)
  (kc_SettingsFile : PySem.W.keepIn K (.ref C_SettingsFile) = true)
  (nf_all_parts_SettingsFile : PySem.W.findIn K (.ref C_SettingsFile) "all_parts" = some none)
  (nf_met_Reader : PySem.W.findIn K (.ref C_Reader) "met" = some none)
  (nf_parts_Reader : PySem.W.findIn K (.ref C_Reader) "parts" = some none)
  (nf_parts_SettingsFile : PySem.W.findIn K (.ref C_SettingsFile) "parts" = some none)
  (nf_section_Reader : PySem.W.findIn K (.ref C_Reader) "section" = some none)
  (nf_settings_read_SettingsFile : PySem.W.findIn K (.ref C_SettingsFile) "settings_read" = some none)
  (nf_whole_SettingsFile : PySem.W.findIn K (.ref C_SettingsFile) "whole" = some none)
  (eu_SettingsFile_NoneType : PySem.W.subIn K (.type "NoneType") (.ref C_SettingsFile) = some false)
  (ed_SettingsFile_NoneType : PySem.W.subIn K (.ref C_SettingsFile) (.type "NoneType") = some false)
  (eu_SettingsFile_bool : PySem.W.subIn K (.type "bool") (.ref C_SettingsFile) = some false)
  (ed_SettingsFile_bool : PySem.W.subIn K (.ref C_SettingsFile) (.type "bool") = some false)
  (eu_SettingsFile_int : PySem.W.subIn K (.type "int") (.ref C_SettingsFile) = some false)
  (ed_SettingsFile_int : PySem.W.subIn K (.ref C_SettingsFile) (.type "int") = some false)
  (eu_SettingsFile_str : PySem.W.subIn K (.type "str") (.ref C_SettingsFile) = some false)
  (ed_SettingsFile_str : PySem.W.subIn K (.ref C_SettingsFile) (.type "str") = some false)
  (eu_SettingsFile_list : PySem.W.subIn K (.type "list") (.ref C_SettingsFile) = some false)
  (ed_SettingsFile_list : PySem.W.subIn K (.ref C_SettingsFile) (.type "list") = some false)
  (eu_SettingsFile_tuple : PySem.W.subIn K (.type "tuple") (.ref C_SettingsFile) = some false)
  (ed_SettingsFile_tuple : PySem.W.subIn K (.ref C_SettingsFile) (.type "tuple") = some false)
  (en_SettingsFile : PySem.W.findIn K (.ref C_SettingsFile) "__ne__" = some (some (.builtin "object.__ne__")))
  (em_SettingsFile : PySem.W.mroIn K C_SettingsFile (.type "object") = some true)
  (oo2 : PySem.W.specialIn K (.builtin "object.__class__") "__get__" = some (some (.builtin "getset_descriptor.__get__")))
  (oo3 : PySem.W.takesIn K (.builtin "object.__class__") = some true)
  (o1_SettingsFile : PySem.W.findIn K (.ref C_SettingsFile) "__class__" = some (some (.builtin "object.__class__")))
  (o4_SettingsFile : PySem.W.mroIn K C_SettingsFile (.type "object") = some true)
  (xi_NoneType : PySem.W.kitOne K (.type "NoneType") (.ref C_SettingsFile) = some false)
  (xi_bool : PySem.W.kitOne K (.type "bool") (.ref C_SettingsFile) = some false)
  (xi_int : PySem.W.kitOne K (.type "int") (.ref C_SettingsFile) = some false)
  (xi_str : PySem.W.kitOne K (.type "str") (.ref C_SettingsFile) = some false)
  (xi_list : PySem.W.kitOne K (.type "list") (.ref C_SettingsFile) = some false)
  (xi_tuple : PySem.W.kitOne K (.type "tuple") (.ref C_SettingsFile) = some false) :
  ∃ fd : FuncData,(∀ (s : Shared) (v : Value),BindsTo s fd { pos:=[v] } [("_law_script",v)]) ∧ ∀ base : Heap,PySem.W.Frag.In K base → base.Ns mainGlobals mg → FnG l.prog w K mg base 8 fa fd ["_law_script"] (spAll K):=by
 have e:=hfa.symm.trans (PySem.W.mg_of X G a29)
 cases e
 have KK : Kx K ⟨C_Reader,C_SettingsFile,f_L_law_bag,f_L_law_take,f_L_law_of,f_L_law_lines,f_L_law_changed,f_Reader_init,f_lines_of,f_is_made_of,f_is_number,f_is_name,f_is_place,f_is_value,f_kept_in,f_Reader_put,f_Reader_take_kept,f_section_in,f_setting_in,f_Reader_take_setting,f_Reader_take,f_parts_of,f_SettingsFile_init,f_SettingsFile___eq__,f_SettingsFile___len__,f_SettingsFile_lines,f_SettingsFile_sections,f_SettingsFile_pairs,f_L_law_unlike,f_SettingsFile___str__,fa,p_SettingsFile_lines⟩:=⟨trivial,xi_NoneType,xi_bool,xi_int,xi_str,xi_list,xi_tuple⟩
 refine ⟨PySem.W.fnOf "law" "law" (defArgs s_law) (defBody s_law) (defScope s_law) .none kV29 dc29 pm29 an29 cd29 ct29,fun s v=>.of_eq rfl,fun base _ _=>?_⟩
 have T : Tx K mg base ⟨C_Reader,C_SettingsFile,f_L_law_bag,f_L_law_take,f_L_law_of,f_L_law_lines,f_L_law_changed,f_Reader_init,f_lines_of,f_is_made_of,f_is_number,f_is_name,f_is_place,f_is_value,f_kept_in,f_Reader_put,f_Reader_take_kept,f_section_in,f_setting_in,f_Reader_take_setting,f_Reader_take,f_parts_of,f_SettingsFile_init,f_SettingsFile___eq__,f_SettingsFile___len__,f_SettingsFile_lines,f_SettingsFile_sections,f_SettingsFile_pairs,f_L_law_unlike,f_SettingsFile___str__,fa,p_SettingsFile_lines⟩:=by
  refine ⟨?_,?_,?_,?_,?_,?_,?_,?_,?_,?_,?_,?_,?_,?_,?_,?_,?_,?_,?_,?_,?_,?_,?_,?_,?_,?_,?_,?_,?_,?_,?_,?_,?_,?_,?_,?_,?_,?_,?_,?_,?_,?_,?_,?_,?_,?_,?_,?_,?_,?_,?_,?_,?_,?_,?_,?_,?_,?_,?_,?_,?_,?_,?_,?_,?_,?_,?_,?_,?_,?_,?_,?_,?_,?_,?_,?_,?_,?_,?_,?_,?_,?_,?_,?_,?_,?_,?_,?_,?_,?_,?_,?_,?_,?_,?_,?_,?_,?_,?_,?_,?_,?_,?_,?_,?_⟩
  ·exact PySem.W.mg_none_of X G z_abs
  ·exact PySem.W.mg_none_of X G z_all
  ·exact PySem.W.mg_none_of X G z_dict
  ·exact PySem.W.mg_none_of X G z_enumerate
  ·exact PySem.W.mg_none_of X G z_int
  ·exact PySem.W.mg_none_of X G z_isinstance
  ·exact PySem.W.mg_none_of X G z_len
  ·exact PySem.W.mg_none_of X G z_list
  ·exact PySem.W.mg_none_of X G z_max
  ·exact PySem.W.mg_none_of X G z_min
  ·exact PySem.W.mg_none_of X G z_range
  ·exact PySem.W.mg_none_of X G z_str
  ·exact ⟨_,PySem.W.mg_of X G g_DIGITS,_,rfl⟩
  ·exact ⟨_,PySem.W.mg_of X G g_KEPT,_,rfl⟩
  ·exact ⟨_,PySem.W.mg_of X G g_LETTERS,_,rfl⟩
  ·exact ⟨_,PySem.W.mg_of X G g_MOST_LETTERS,_,rfl⟩
  ·exact ⟨_,PySem.W.mg_of X G g_MOST_SIGNS,_,rfl⟩
  ·exact ⟨_,PySem.W.mg_of X G g_PLACE,_,rfl⟩
  ·exact ⟨_,PySem.W.mg_of X G g_REMARK,_,rfl⟩
  ·exact ⟨_,PySem.W.mg_of X G g_SECTION,_,rfl⟩
  ·exact PySem.W.mg_of X G aC_Reader
  ·exact ⟨pg_Reader,hd_Reader,po_Reader,sa_Reader⟩
  ·exact PySem.W.mg_of X G aC_SettingsFile
  ·exact ⟨pg_SettingsFile,hd_SettingsFile,po_SettingsFile,sa_SettingsFile⟩
  ·exact ⟨mk_Reader,a6,i6,kc_Reader⟩
  ·exact ⟨mk_SettingsFile,a21,i21,kc_SettingsFile⟩
  ·exact ⟨a14,i14,k14⟩
  ·exact ⟨a19,i19,k19⟩
  ·exact ⟨a15,i15,k15⟩
  ·exact ⟨a18,i18,k18⟩
  ·exact ⟨a22,i22,k22⟩
  ·exact ⟨a23,i23,k23⟩
  ·exact ⟨a28,i28,k28⟩
  ·exact ⟨a26,i26,k26⟩
  ·exact ⟨a25,i25,k25⟩
  ·exact fun C hC=>by
    simp only [List.mem_cons,List.not_mem_nil,or_false] at hC
    rcases hC with rfl
    ·exact ⟨⟨pg_SettingsFile,hd_SettingsFile,po_SettingsFile,sa_SettingsFile⟩,nf_all_parts_SettingsFile⟩
  ·exact fun C hC=>by
    simp only [List.mem_cons,List.not_mem_nil,or_false] at hC
    rcases hC with rfl
    ·exact ⟨⟨pg_Reader,hd_Reader,po_Reader,sa_Reader⟩,nf_met_Reader⟩
  ·exact fun C hC=>by
    simp only [List.mem_cons,List.not_mem_nil,or_false] at hC
    rcases hC with rfl
    ·exact ⟨⟨pg_Reader,hd_Reader,po_Reader,sa_Reader⟩,nf_parts_Reader⟩
  ·exact fun C hC=>by
    simp only [List.mem_cons,List.not_mem_nil,or_false] at hC
    rcases hC with rfl
    ·exact ⟨⟨pg_SettingsFile,hd_SettingsFile,po_SettingsFile,sa_SettingsFile⟩,nf_parts_SettingsFile⟩
  ·exact fun C hC=>by
    simp only [List.mem_cons,List.not_mem_nil,or_false] at hC
    rcases hC with rfl
    ·exact ⟨⟨pg_Reader,hd_Reader,po_Reader,sa_Reader⟩,nf_section_Reader⟩
  ·exact fun C hC=>by
    simp only [List.mem_cons,List.not_mem_nil,or_false] at hC
    rcases hC with rfl
    ·exact ⟨⟨pg_SettingsFile,hd_SettingsFile,po_SettingsFile,sa_SettingsFile⟩,nf_settings_read_SettingsFile⟩
  ·exact fun C hC=>by
    simp only [List.mem_cons,List.not_mem_nil,or_false] at hC
    rcases hC with rfl
    ·exact ⟨⟨pg_SettingsFile,hd_SettingsFile,po_SettingsFile,sa_SettingsFile⟩,nf_whole_SettingsFile⟩
  ·exact PySem.W.mg_of X G a1
  ·exact k1
  ·exact ⟨_,fun_mk (st:=s_L_law_bag) l1 c1 k1⟩
  ·exact PySem.W.mg_of X G a2
  ·exact k2
  ·exact ⟨_,fun_mk (st:=s_L_law_take) l2 c2 k2⟩
  ·exact PySem.W.mg_of X G a3
  ·exact k3
  ·exact ⟨_,fun_mk (st:=s_L_law_of) l3 c3 k3⟩
  ·exact PySem.W.mg_of X G a4
  ·exact k4
  ·exact ⟨_,fun_mk (st:=s_L_law_lines) l4 c4 k4⟩
  ·exact PySem.W.mg_of X G a5
  ·exact k5
  ·exact ⟨_,fun_mk (st:=s_L_law_changed) l5 c5 k5⟩
  ·exact ⟨_,fun_mk (st:=s_Reader_init) l6 c6 k6⟩
  ·exact PySem.W.mg_of X G a7
  ·exact k7
  ·exact ⟨_,fun_mk (st:=s_lines_of) l7 c7 k7⟩
  ·exact PySem.W.mg_of X G a8
  ·exact k8
  ·exact ⟨_,fun_mk (st:=s_is_made_of) l8 c8 k8⟩
  ·exact PySem.W.mg_of X G a9
  ·exact k9
  ·exact ⟨_,fun_mk (st:=s_is_number) l9 c9 k9⟩
  ·exact PySem.W.mg_of X G a10
  ·exact k10
  ·exact ⟨_,fun_mk (st:=s_is_name) l10 c10 k10⟩
  ·exact PySem.W.mg_of X G a11
  ·exact k11
  ·exact ⟨_,fun_mk (st:=s_is_place) l11 c11 k11⟩
  ·exact PySem.W.mg_of X G a12
  ·exact k12
  ·exact ⟨_,fun_mk (st:=s_is_value) l12 c12 k12⟩
  ·exact PySem.W.mg_of X G a13
  ·exact k13
  ·exact ⟨_,fun_mk (st:=s_kept_in) l13 c13 k13⟩
  ·exact ⟨_,fun_mk (st:=s_Reader_put) l14 c14 k14⟩
  ·exact ⟨_,fun_mk (st:=s_Reader_take_kept) l15 c15 k15⟩
  ·exact PySem.W.mg_of X G a16
  ·exact k16
  ·exact ⟨_,fun_mk (st:=s_section_in) l16 c16 k16⟩
  ·exact PySem.W.mg_of X G a17
  ·exact k17
  ·exact ⟨_,fun_mk (st:=s_setting_in) l17 c17 k17⟩
  ·exact ⟨_,fun_mk (st:=s_Reader_take_setting) l18 c18 k18⟩
  ·exact ⟨_,fun_mk (st:=s_Reader_take) l19 c19 k19⟩
  ·exact PySem.W.mg_of X G a20
  ·exact k20
  ·exact ⟨_,fun_mk (st:=s_parts_of) l20 c20 k20⟩
  ·exact ⟨_,fun_mk (st:=s_SettingsFile_init) l21 c21 k21⟩
  ·exact ⟨_,fun_mk (st:=s_SettingsFile___eq__) l22 c22 k22⟩
  ·exact ⟨_,fun_mk (st:=s_SettingsFile___len__) l23 c23 k23⟩
  ·exact ⟨_,fun_mk (st:=s_SettingsFile_lines) l24 c24 k24⟩
  ·exact ⟨_,fun_mk (st:=s_SettingsFile_sections) l25 c25 k25⟩
  ·exact ⟨_,fun_mk (st:=s_SettingsFile_pairs) l26 c26 k26⟩
  ·exact PySem.W.mg_of X G a27
  ·exact k27
  ·exact ⟨_,fun_mk (st:=s_L_law_unlike) l27 c27 k27⟩
  ·exact ⟨_,fun_mk (st:=s_SettingsFile___str__) l28 c28 k28⟩
  ·refine ⟨⟨a22,i22,k22⟩,?_,?_,en_SettingsFile,em_SettingsFile⟩
   ·exact fun n hn=>by
     simp only [eqTys,List.mem_cons,List.not_mem_nil,or_false] at hn
     rcases hn with rfl | rfl | rfl | rfl | rfl | rfl
     ·exact eu_SettingsFile_NoneType
     ·exact eu_SettingsFile_bool
     ·exact eu_SettingsFile_int
     ·exact eu_SettingsFile_str
     ·exact eu_SettingsFile_list
     ·exact eu_SettingsFile_tuple
   ·exact fun n hn=>by
     simp only [eqTys,List.mem_cons,List.not_mem_nil,or_false] at hn
     rcases hn with rfl | rfl | rfl | rfl | rfl | rfl
     ·exact ed_SettingsFile_NoneType
     ·exact ed_SettingsFile_bool
     ·exact ed_SettingsFile_int
     ·exact ed_SettingsFile_str
     ·exact ed_SettingsFile_list
     ·exact ed_SettingsFile_tuple
  ·exact ⟨aP_24,aR_24,aS_24,⟨_,aQ_24⟩⟩
  ·exact fun C hC=>by
    simp only [Ad.own,List.mem_cons,List.not_mem_nil,or_false] at hC
    rcases hC with rfl
    ·exact ⟨⟨pg_SettingsFile,hd_SettingsFile,po_SettingsFile,sa_SettingsFile⟩,o1_SettingsFile,oo2,oo3,o4_SettingsFile⟩
 exact (fn_law (fun_mk (st:=s_law) l29 c29 k29) T).imp fun vs H Q E h=>h _ KK
end VL.K07
namespace VL.K07
open PySem PySem.Spec PyProof.Rows L2 VL
variable {K : PySem.W.Frag} {a : Ad} {st : Store}
local macro_rules | `(tactic| simp_all? only [$ts,*])=>`(tactic| simp only [fnM,sSeq,sRet,sRetN,sExpr,sIf,sNil,sNo,sAsg,tgN,bndS,bnd,vVar,vC,f2,f1,fB,pu,fN,vTup,vLst,fTup,fCons,fNil,fPure,fIf,fAnd,fOr,fNot,asB,asT,bAnd,bOr,bNot,fChain,fCall,fCW,gPos,gApp,R.of,R.of2,fM,pu4,tgT,tgCons,tgNil,unp,pureL,sPar,sPar3,fLstC,fFld,oFld,fMeth,insU,sFldS,setFld,fSl,oNone,oSome,tgSub,setU,fIter,fItN,fItS,sFor,getL,getT,VL.getD,keyD,tyB,lstC,oAdd,oSub,oMul,oFdiv,oMod,oPow,oNeg,oLt,oLe,oGt,oGe,oEq,oNe,oIsN,oNotN,oIn,oNotIn,oIx,oLen,oInt,oAbs,oMin,oMax,oStr,oList,oListC,oTuple,oAll,oAny,itemsU,lenN,truB,fJs,oFmt,List.map_cons,List.map_nil,List.length_cons,List.length_nil,List.replicate_succ,List.replicate_zero,List.cons_append,List.nil_append,List.append_nil,List.getElem?_cons_zero,List.getElem?_cons_succ,List.set_cons_zero,List.set_cons_succ,Nat.reduceAdd,Nat.reduceSub,Option.map_some,Option.map_none,if_true,if_false,ite_true,ite_false,Bool.false_eq_true,reduceCtorEq,true_and,and_true,and_self,Bool.not_true,Bool.not_false,Nat.zero_add,Option.bind_some,Option.bind_eq_bind,Option.pure_def,decide_true,decide_false,eq_self,Nat.reduceEqDiff,Nat.reduceLT,Nat.reduceLeDiff,Int.reduceLT,Int.reduceLE,Int.reduceEq,Bool.and_true,Bool.true_and,Bool.false_and,Bool.or_false,Bool.or_true,Bool.true_or,Bool.false_or,sz0,szl0,sz1,szl1,sz2,szl2,sz3,szl3,sz4,szl4,sz5,szl5,sz6,szl6,sz7,szl7,sz8,szl8,sz9,szl9,sz10,szl10,sz11,szl11,sz12,szl12,sz13,szl13,sz14,szl14,sz15,szl15,$ts,*])
noncomputable def inS (c : Nat) (g : Str) : Bool:=!(Builtin.Str.occurrences g ⟨#[c]⟩ 0 g.length 1).isEmpty
noncomputable def madeOf (s g : Str) (m : Int) : Bool:=decide ((1 : Int) ≤ (s.length : Nat)) && (decide (((s.length : Nat) : Int) ≤ m) && s.cps.toList.all fun c=>inS c g)
theorem ev_made (h : WF st) (s g : Str) (m : Int) (hs : s.length ≤ sizeLine) : m_is_made_of K a [.d (.str s),.d (.str g),.d (.int m)] st = .ok (.d (.bl (madeOf s g m))) st:=by
 have e : ∀ st : Store,WF st → c_is_made_of_1 K a [some (.d (.str s)),some (.d (.str g)),some (.d (.int m)),none] st = .ok (.d (.lst (s.cps.toList.map fun c=>D.bl (inS c g)))) st:=fun st h=>by
  unfold c_is_made_of_1
  rw [fLc_pure (us:=s.cps.toList.map fun c=>.d (.str ⟨#[c]⟩)) (P:=fun _=>true) (q:=fun u=>match u with
   | .d (.str c)=>D.bl (!(Builtin.Str.occurrences g c 0 g.length 1).isEmpty)
   | _=>.non) h]
  ·rw [List.filter_eq_self.mpr (fun _ _=>rfl),List.map_map]; rfl
  ·simp_all? only [itV_str]
  ·rw [List.length_map,Array.length_toList]; exact hs
  ·intro u hu st' h'
   obtain ⟨c,hc,rfl⟩:=List.mem_map.mp hu
   refine ⟨_,rfl,rfl,fun _=>?_⟩
   simp_all? only [wipeE,inB]
 unfold m_is_made_of g_is_made_of madeOf
 by_cases h1 : (1 : Int) ≤ (s.length : Nat)
 ·by_cases h2 : ((s.length : Nat) : Int) ≤ m
  ·simp_all? only [oIsi,tyN,isi_str,hs,e st h,decide_eq_true h1,decide_eq_true h2,List.map_map,Function.comp_def,blsU_map,wFrz_d h,Bool.true_and,List.all_map,id_eq]
  ·simp_all? only [oIsi,tyN,isi_str,hs,decide_eq_true h1,decide_eq_false h2,wFrz_d h,Bool.false_and,Bool.and_false]
 ·simp_all? only [oIsi,tyN,isi_str,hs,decide_eq_false h1,wFrz_d h,Bool.false_and]
noncomputable def LETTERS : Str:="abcdefghijklmnopqrstuvwxyz"
noncomputable def DIGITS : Str:="0123456789"
noncomputable def isName (s : Str) : Bool:=madeOf s "abcdefghijklmnopqrstuvwxyz" 8
theorem ev_name (h : WF st) (s : Str) (hs : s.length ≤ sizeLine) : m_is_name K a [.d (.str s)] st = .ok (.d (.bl (isName s))) st:=by
 unfold m_is_name g_is_name
 simp_all? only [ev_made h _ _ _ hs,wFrz_d h,isName]
noncomputable def isPlace (s : Str) : Bool:=isName (Txt.partition s ".").1 && isName (Txt.partition s ".").2.2
theorem part_len1 (s t : Str) : (Txt.partition s t).1.length ≤ s.length:=by
 unfold Txt.partition
 split
 ·exact strSub_length_le _ _ _
 ·exact Nat.le_refl _
theorem part_len3 (s t : Str) : (Txt.partition s t).2.2.length ≤ s.length:=by
 unfold Txt.partition
 split
 ·exact strSub_length_le _ _ _
 ·exact Nat.zero_le _
theorem ev_place (h : WF st) (s : Str) (hs : s.length ≤ sizeLine) : m_is_place K a [.d (.str s)] st = .ok (.d (.bl (isPlace s))) st:=by
 have l1 : (Txt.partition s ".").1.length ≤ sizeLine:=Nat.le_trans (part_len1 _ _) hs
 have l2 : (Txt.partition s ".").2.2.length ≤ sizeLine:=Nat.le_trans (part_len3 _ _) hs
 have hd : (("." : Str).length == 0) = false:=by decide +kernel
 unfold m_is_place g_is_place isPlace
 cases e : isName (Txt.partition s ".").1 with
 | true=>simp_all? only [oIsi,tyN,isi_str,mPartition,hd,hs,ev_name h _ l1,ev_name h _ l2,wFrz_d h,e]
 | false=>simp_all? only [oIsi,tyN,isi_str,mPartition,hd,hs,ev_name h _ l1,ev_name h _ l2,wFrz_d h,e]
/-- the first sign -/
noncomputable def first (s : Str) : Str:=match s.cps.toList with
 | []=>Str.empty
 | c :: _=>⟨#[c]⟩
theorem at0 {s : Str} (h : 1 ≤ s.length) : (atI s.cps.toList 0).map (fun c=>U.d (.str ⟨#[c]⟩)) = some (.d (.str (first s))):=by
 unfold first
 have hl : s.cps.toList.length = s.length:=Array.length_toList
 cases e : s.cps.toList with
 | nil=>rw [e] at hl; simp at hl; omega
 | cons c r =>
  unfold atI ixN
  simp
theorem made_pos {s g : Str} {m : Int} (h : madeOf s g m = true) : 1 ≤ s.length:=by
 unfold madeOf at h
 rw [Bool.and_eq_true] at h
 have:=of_decide_eq_true h.1
 omega
theorem vals_len : ("abcdefghijklmnopqrstuvwxyz" : Str).length + ("0123456789" : Str).length ≤ sizeLine:=by decide +kernel
theorem vals_len2 : (("abcdefghijklmnopqrstuvwxyz" : Str) ++ ("0123456789" : Str)).length + ("-" : Str).length ≤ sizeLine:=by decide +kernel
noncomputable def VALS : Str:=("abcdefghijklmnopqrstuvwxyz" : Str) ++ ("0123456789" : Str) ++ ("-" : Str)
noncomputable def isValue (s : Str) : Bool:=madeOf s VALS 12 && !decide (first s = "-")
theorem ev_value (h : WF st) (s : Str) (hs : s.length ≤ sizeLine) : m_is_value K a [.d (.str s)] st = .ok (.d (.bl (isValue s))) st:=by
 unfold m_is_value g_is_value isValue
 cases e : madeOf s VALS 12 with
 | false=>
  have em:=ev_made (K:=K) (a:=a) h s VALS 12 hs
  unfold VALS at em e
  simp_all? only [vals_len,vals_len2,em,wFrz_d h,e]
 | true =>
  have a0:=at0 (made_pos e)
  have em:=ev_made (K:=K) (a:=a) h s VALS 12 hs
  unfold VALS at em e
  simp_all? only [vals_len,vals_len2,em,wFrz_d h,e,eqB,hs,a0]
/-- the first sign -/
noncomputable def isNumber (s : Str) : Bool:=madeOf s "0123456789" 2 && (decide (s = "0") || !decide (first s = "0"))
theorem ev_number (h : WF st) (s : Str) (hs : s.length ≤ sizeLine) : m_is_number K a [.d (.str s)] st = .ok (.d (.bl (isNumber s))) st:=by
 unfold m_is_number g_is_number isNumber
 cases e : madeOf s "0123456789" 2 with
 | false=>simp_all? only [ev_made h _ _ _ hs,wFrz_d h,e]
 | true =>
  have a0:=at0 (made_pos e)
  by_cases e2 : s = "0"
  ·simp_all? only [ev_made h _ _ _ hs,wFrz_d h,e,eqB,decide_eq_true e2]
  ·simp_all? only [ev_made h _ _ _ hs,wFrz_d h,e,eqB,decide_eq_false e2,hs,a0]
noncomputable def settingIn (s : Str) : D:=if (isName (Txt.partition s " = ").1 && isValue (Txt.partition s " = ").2.2) = true then .tup [.str (Txt.partition s " = ").1,.str (Txt.partition s " = ").2.2] else .non
theorem ev_setting (h : WF st) (s : Str) (hs : s.length ≤ sizeLine) : m_setting_in K a [.d (.str s)] st = .ok (.d (settingIn s)) st:=by
 have l1 : (Txt.partition s " = ").1.length ≤ sizeLine:=Nat.le_trans (part_len1 _ _) hs
 have l2 : (Txt.partition s " = ").2.2.length ≤ sizeLine:=Nat.le_trans (part_len3 _ _) hs
 have hd : ((" = " : Str).length == 0) = false:=by decide +kernel
 unfold m_setting_in g_setting_in settingIn
 cases e : isName (Txt.partition s " = ").1 with
 | false=>simp_all? only [mPartition,hd,hs,ev_name h _ l1,wFrz_d h,e]
 | true =>
  cases e2 : isValue (Txt.partition s " = ").2.2 with
  | true=>simp_all? only [mPartition,hd,hs,ev_name h _ l1,ev_value h _ l2,wFrz_d h,e,e2]
  | false=>simp_all? only [mPartition,hd,hs,ev_name h _ l1,ev_value h _ l2,wFrz_d h,e,e2]
noncomputable def sectionIn (s : Str) : D:=if decide (L2.cutS s none (some 1) = "[") && decide (L2.cutS s (some (-1)) none = "]") && isName (L2.cutS s (some 1) (some (-1))) then .str (L2.cutS s (some 1) (some (-1))) else .non
theorem ev_section (h : WF st) (s : Str) (hs : s.length ≤ sizeLine) : m_section_in K a [.d (.str s)] st = .ok (.d (sectionIn s)) st:=by
 have l1 : (L2.cutS s (some 1) (some (-1))).length ≤ sizeLine:=Nat.le_trans (cut_len _ _ _) hs
 unfold m_section_in g_section_in sectionIn
 by_cases e1 : L2.cutS s none (some 1) = "["
 ·by_cases e2 : L2.cutS s (some (-1)) none = "]"
  ·cases e3 : isName (L2.cutS s (some 1) (some (-1))) with
   | true=>simp_all? only [oSl,hs,ev_name h _ l1,wFrz_d h,eqB,decide_eq_true e1,decide_eq_true e2,e3]
   | false=>simp_all? only [oSl,hs,ev_name h _ l1,wFrz_d h,eqB,decide_eq_true e1,decide_eq_true e2,e3]
  ·simp_all? only [oSl,hs,ev_name h _ l1,wFrz_d h,eqB,decide_eq_true e1,decide_eq_false e2]
 ·simp_all? only [oSl,hs,ev_name h _ l1,wFrz_d h,eqB,decide_eq_false e1]
/-- a kept line's parts: release,place,value -/
structure KeptOk (line : Str) (n : Int) (p : Str) (v : D) : Prop where
 ln : line.length + 2 ≤ sizeLine
 ex : (∃ w1,Txt.split line " " = [("#~" : Str),w1,p] ∧ isNumber w1 = true ∧ intText? w1 = some n ∧ w1.length ≤ 640 ∧ v = .non) ∨
  ∃ w1 w,Txt.split line " " = [("#~" : Str),w1,p,("=" : Str),w] ∧ isNumber w1 = true ∧ intText? w1 = some n ∧ w1.length ≤ 640 ∧ isValue w = true ∧ w.length ≤ sizeLine ∧ v = .str w
 pl : isPlace p = true
 ps : p.length ≤ sizeLine
theorem ev_kept (h : WF st) {line : Str} {n : Int} {p : Str} {v : D} (k : KeptOk line n p v) : m_kept_in K a [.d (.str line)] st = .ok (.d (.tup [.int n,.str p,v])) st:=by
 have hd : ((" " : Str).length == 0) = false:=by decide +kernel
 have pl:=k.pl
 have e0 : decide (("#~" : Str) = ("#~" : Str)) = true:=decide_eq_true rfl
 have e1 : decide (("=" : Str) = ("=" : Str)) = true:=decide_eq_true rfl
 unfold m_kept_in g_kept_in
 rcases k.ex with ⟨w1,e,n1,i1,l1,rfl⟩ | ⟨w1,w,e,n1,i1,l1,v1,lw,rfl⟩
 ·simp_all? only [mSplit,hd,k.ln,e,at_0,at_1,at_2,inB,flatD,allM,List.any_cons,List.any_nil,eqv_int,eqB,e0,ev_number h _ (w640 l1),ev_place h _ k.ps,n1,pl,i1,l1,wFrz_d h,Int.reduceBEq,Int.cast_ofNat_Int,beq_self_eq_true]
 ·simp_all? only [mSplit,hd,k.ln,e,at_0,at_1,at_2,at_3,at_4,inB,flatD,allM,List.any_cons,List.any_nil,eqv_int,eqB,e0,e1,ev_number h _ (w640 l1),ev_place h _ k.ps,ev_value h _ lw,v1,n1,pl,i1,l1,wFrz_d h,Int.reduceBEq,Int.cast_ofNat_Int,beq_self_eq_true]
theorem lk_sec (x y z : U) : List.lookup ("section" : Str) [(("section" : Str),x),(("met" : Str),y),(("parts" : Str),z)] = some x:=rfl
theorem lk_met (x y z : U) : List.lookup ("met" : Str) [(("section" : Str),x),(("met" : Str),y),(("parts" : Str),z)] = some y:=rfl
theorem lk_parts (x y z : U) : List.lookup ("parts" : Str) [(("section" : Str),x),(("met" : Str),y),(("parts" : Str),z)] = some z:=rfl
theorem lk_put (x y z : U) : List.lookup ("put" : Str) [(("section" : Str),x),(("met" : Str),y),(("parts" : Str),z)] = none:=rfl
theorem lk_tk (x y z : U) : List.lookup ("take_kept" : Str) [(("section" : Str),x),(("met" : Str),y),(("parts" : Str),z)] = none:=rfl
theorem lk_ts (x y z : U) : List.lookup ("take_setting" : Str) [(("section" : Str),x),(("met" : Str),y),(("parts" : Str),z)] = none:=rfl
theorem lk_take (x y z : U) : List.lookup ("take" : Str) [(("section" : Str),x),(("met" : Str),y),(("parts" : Str),z)] = none:=rfl
structure RdAt (a : Ad) (st : Store) (r i j : Nat) (sec : D) (met parts : List D) : Prop where
 r0 : st[r]? = some (.ins a.C_Reader [("section",.d sec),("met",.ref i),("parts",.ref j)])
 i0 : st[i]? = some (.lst (met.map U.d))
 j0 : st[j]? = some (.lst (parts.map U.d))
 ri : r ≠ i
 rj : r ≠ j
 ij : i ≠ j
/-- not among those met -/
structure NewIn (met : List D) (x : D) : Prop where
 ex : ∃ qs p,toPs met = some qs ∧ toP x = some p ∧ SeqAt.shaped p = true ∧ SeqAt.shaped (.list qs) = true ∧ (qs.any fun q=>PyData.eqv q p) = false
theorem NewIn.inB {st : Store} {i : Nat} {met : List D} {w : Str} {nm : D} (h : NewIn met (.tup [.str w,nm])) (hi : st[i]? = some (.lst (met.map U.d))) : inB st (.d (.tup [.str w,nm])) (.ref i) = some false:=by
 obtain ⟨qs,p,h1,h2,h3,h4,h5⟩:=h.ex
 unfold VL.inB
 simp only [asP_d,asP_ref hi,h1,h2,Option.map_some,h3,h4,and_self,if_true,h5]
theorem ev_put (h : WF st) {r i j : Nat} {sec : D} {met parts : List D} (rd : RdAt a st r i j sec met parts) {t : Int} {w kd : Str} {nm th : D} (N : NewIn met (.tup [.str w,nm])) (l1 : met.length < sizeLine) (l2 : parts.length < sizeLine) :
  m_Reader_put K a [.ref r,.d (.int t),.d (.str w),.d nm,.d th,.d (.str kd)] st = .ok (.d .non) ((st.set i (.lst ((met ++ [D.tup [.str w,nm]]).map U.d))).set j (.lst ((parts ++ [D.tup [.int t,.str w,th]]).map U.d))):=by
 have hn:=N.inB rd.i0
 have l1' : (met.map U.d).length < sizeLine:=by rw [List.length_map]; exact l1
 have l2' : (parts.map U.d).length < sizeLine:=by rw [List.length_map]; exact l2
 have e1 : (st.set i (.lst ((met ++ [D.tup [.str w,nm]]).map U.d)))[r]? = some (.ins a.C_Reader [("section",.d sec),("met",.ref i),("parts",.ref j)]):=by rw [List.getElem?_set_ne rd.ri.symm]; exact rd.r0
 have e2 : (st.set i (.lst ((met ++ [D.tup [.str w,nm]]).map U.d)))[j]? = some (.lst (parts.map U.d)):=by rw [List.getElem?_set_ne rd.ij]; exact rd.j0
 have hw : WF ((st.set i (.lst ((met ++ [D.tup [.str w,nm]]).map U.d))).set j (.lst ((parts ++ [D.tup [.int t,.str w,th]]).map U.d))):=(h.setL _ _).setL _ _
 unfold m_Reader_put g_Reader_put
 simp_all? only [rd.r0,rd.i0,hn,List.mem_cons,List.not_mem_nil,or_false,lk_met,lk_parts,mAppend,l1',l2',map_snoc,e1,e2]
 exact wCut_len hw (by rw [List.length_set,List.length_set]) _
theorem RdAt.put {r i j : Nat} {sec : D} {met parts : List D} (rd : RdAt a st r i j sec met parts) (m' p' : List D) : RdAt a ((st.set i (.lst (m'.map U.d))).set j (.lst (p'.map U.d))) r i j sec m' p':=by
 have li:=(List.getElem?_eq_some_iff.mp rd.i0).1
 have lj:=(List.getElem?_eq_some_iff.mp rd.j0).1
 refine ⟨?_,?_,?_,rd.ri,rd.rj,rd.ij⟩
 ·rw [List.getElem?_set_ne rd.rj.symm,List.getElem?_set_ne rd.ri.symm]; exact rd.r0
 ·rw [List.getElem?_set_ne rd.ij.symm,List.getElem?_set_self li]
 ·rw [List.getElem?_set_self (by rw [List.length_set]; exact lj)]
theorem ev_take_kept (h : WF st) {r i j : Nat} {sec : D} {met parts : List D} (rd : RdAt a st r i j sec met parts) {t : Int} {n p v : D} (N : NewIn met (.tup [.str "kept",.tup [n,p]])) (l1 : met.length < sizeLine) (l2 : parts.length < sizeLine) :
  m_Reader_take_kept K a [.ref r,.d (.int t),.d (.tup [n,p,v])] st = .ok (.d .non) ((st.set i (.lst ((met ++ [D.tup [.str "kept",.tup [n,p]]]).map U.d))).set j (.lst ((parts ++ [D.tup [.int t,.str "kept",.tup [n,p,v]]]).map U.d))):=by
 have hp:=ev_put (K:=K) h rd (t:=t) (kd:="again") (th:=.tup [n,p,v]) N l1 l2
 have hw : WF ((st.set i (.lst ((met ++ [D.tup [.str "kept",.tup [n,p]]]).map U.d))).set j (.lst ((parts ++ [D.tup [.int t,.str "kept",.tup [n,p,v]]]).map U.d))):=(h.setL _ _).setL _ _
 have hc : cutG [n,p,v] none (some 2) = [n,p]:=rfl
 unfold m_Reader_take_kept g_Reader_take_kept
 simp_all? only [rd.r0,lk_put,oSl,hc,hp,List.length_set,wCut_len hw rfl]
 exact wCut_len hw (by rw [List.length_set,List.length_set]) _
theorem ev_take_setting (h : WF st) {r i j : Nat} {s : Str} {met parts : List D} (rd : RdAt a st r i j (.str s) met parts) {t : Int} {k v : Str} (N : NewIn met (.tup [.str "place",.str (s ++ "." ++ k)])) (l1 : met.length < sizeLine) (l2 : parts.length < sizeLine)
  (l3 : s.length ≤ sizeLine) (l4 : (s ++ ".").length ≤ sizeLine) (l5 : (s ++ "." ++ k).length ≤ sizeLine) (l6 : k.length ≤ sizeLine) :
  m_Reader_take_setting K a [.ref r,.d (.int t),.d (.tup [.str k,.str v])] st = .ok (.d .non) ((st.set i (.lst ((met ++ [D.tup [.str "place",.str (s ++ "." ++ k)]]).map U.d))).set j (.lst ((parts ++ [D.tup [.int t,.str "place",.tup [.str (s ++ "." ++ k),.str v]]]).map U.d))):=by
 have hp:=ev_put (K:=K) h rd (t:=t) (kd:="key") (th:=.tup [.str (s ++ "." ++ k),.str v]) N l1 l2
 have hw : WF ((st.set i (.lst ((met ++ [D.tup [.str "place",.str (s ++ "." ++ k)]]).map U.d))).set j (.lst ((parts ++ [D.tup [.int t,.str "place",.tup [.str (s ++ "." ++ k),.str v]]]).map U.d))):=(h.setL _ _).setL _ _
 have he : Str.empty ++ s = s:=by
  show Str.append _ _ = _
  unfold Str.append Str.empty
  simp
 unfold m_Reader_take_setting g_Reader_take_setting
 simp_all? only [rd.r0,lk_put,lk_sec,List.mem_cons,List.not_mem_nil,or_false,he,l3,l4,l5,l6,at_0,at_1,List.map_cons,List.map_nil,hp]
 exact wCut_len hw (by rw [List.length_set,List.length_set]) _
structure Fr (st st' : Store) (r i j : Nat) : Prop where
 wf : WF st'
 len : st'.length = st.length
 fr : ∀ n,n ≠ r → n ≠ i → n ≠ j → st'[n]? = st[n]?
theorem Fr.trans {s0 s1 s2 : Store} {r i j : Nat} (x : Fr s0 s1 r i j) (y : Fr s1 s2 r i j) : Fr s0 s2 r i j :=
 ⟨y.wf,y.len.trans x.len,fun n h1 h2 h3=>(y.fr n h1 h2 h3).trans (x.fr n h1 h2 h3)⟩
theorem fr_ij (h : WF st) (r i j : Nat) (m p : List D) : Fr st ((st.set i (.lst (m.map U.d))).set j (.lst (p.map U.d))) r i j :=
 ⟨(h.setL _ _).setL _ _,by rw [List.length_set,List.length_set],fun n _ h2 h3=>by rw [List.getElem?_set_ne (Ne.symm h3),List.getElem?_set_ne (Ne.symm h2)]⟩
/-- a line of a text -/
inductive Ln where
 | rem (s : Str) | kept (s : Str) (n : Int) (p : Str) (v : D) | head (n : Str) | set (k v : Str)
noncomputable def Ln.text : Ln → Str
 | .rem s=>s
 | .kept s _ _ _=>s
 | .head n=>("[" : Str) ++ n ++ ("]" : Str)
 | .set k v=>k ++ (" = " : Str) ++ v
structure Plain (s : Str) : Prop where
 a1 : Txt.startswith s "#~" = false
 a2 : s ≠ ("" : Str)
 a3 : Txt.startswith s "#" = false
noncomputable def Ln.Ok (l : Ln) : Prop:=l.text.length ≤ sizeLine ∧ match l with
 | .rem s=>Txt.startswith s "#~" = false ∧ (s = ("" : Str) ∨ Txt.startswith s "#" = true)
 | .kept s n p v=>Txt.startswith s "#~" = true ∧ KeptOk s n p v
 | .head n=>Plain (Ln.text (.head n)) ∧ sectionIn (Ln.text (.head n)) = .str n
 | .set k v=>Plain (Ln.text (.set k v)) ∧ sectionIn (Ln.text (.set k v)) = .non ∧ settingIn (Ln.text (.set k v)) = .tup [.str k,.str v] ∧ k.length ≤ sizeLine
/-- what the reader has of it -/
noncomputable def Ln.sec (s : D) : Ln → D
 | .head n=>.str n
 | _=>s
noncomputable def pl (s : D) (k : Str) : Str:=match s with
 | .str x=>x ++ ("." : Str) ++ k
 | _=>k
noncomputable def Ln.met (s : D) : Ln → List D
 | .rem _=>[]
 | .kept _ n p _=>[.tup [.str "kept",.tup [.int n,.str p]]]
 | .head n=>[.tup [.str "section",.str n]]
 | .set k _=>[.tup [.str "place",.str (pl s k)]]
noncomputable def Ln.part (s : D) (t : Int) : Ln → D
 | .rem x=>.tup [.int t,.str "remark",.str x]
 | .kept _ n p v=>.tup [.int t,.str "kept",.tup [.int n,.str p,v]]
 | .head n=>.tup [.int t,.str "section",.str n]
 | .set k v=>.tup [.int t,.str "place",.tup [.str (pl s k),.str v]]
/-- a section stands above -/
noncomputable def Ln.In (s : D) : Ln → Prop
 | .set k _=>∃ x,s = .str x ∧ x.length ≤ sizeLine ∧ (x ++ ("." : Str)).length ≤ sizeLine ∧ (x ++ ("." : Str) ++ k).length ≤ sizeLine
 | _=>True
theorem pf_sec (u x y z : U) : putFU ("section" : Str) u [(("section" : Str),x),(("met" : Str),y),(("parts" : Str),z)] = [(("section" : Str),u),(("met" : Str),y),(("parts" : Str),z)]:=rfl
theorem app_rd {r i j : Nat} {sec : D} {met parts : List D} (rd : RdAt a st r i j sec met parts) (h : WF st) (p' : List D) : RdAt a (st.set j (.lst (p'.map U.d))) r i j sec met p' ∧ Fr st (st.set j (.lst (p'.map U.d))) r i j:=by
 have lj:=(List.getElem?_eq_some_iff.mp rd.j0).1
 refine ⟨⟨?_,?_,?_,rd.ri,rd.rj,rd.ij⟩,h.setL _ _,List.length_set,fun n _ _ h3=>List.getElem?_set_ne (Ne.symm h3)⟩
 ·rw [List.getElem?_set_ne rd.rj.symm]; exact rd.r0
 ·rw [List.getElem?_set_ne rd.ij.symm]; exact rd.i0
 ·rw [List.getElem?_set_self lj]
theorem sec_rd {r i j : Nat} {sec : D} {met parts : List D} (rd : RdAt a st r i j sec met parts) (h : WF st) (s : D) : RdAt a (st.set r (.ins a.C_Reader [("section",.d s),("met",.ref i),("parts",.ref j)])) r i j s met parts ∧ Fr st (st.set r (.ins a.C_Reader [("section",.d s),("met",.ref i),("parts",.ref j)])) r i j:=by
 have lr:=(List.getElem?_eq_some_iff.mp rd.r0).1
 have li:=(List.getElem?_eq_some_iff.mp rd.i0).1
 have lj:=(List.getElem?_eq_some_iff.mp rd.j0).1
 refine ⟨⟨?_,?_,?_,rd.ri,rd.rj,rd.ij⟩,h.set ?_,List.length_set,fun n h1 _ _=>List.getElem?_set_ne (Ne.symm h1)⟩
 ·rw [List.getElem?_set_self lr]
 ·rw [List.getElem?_set_ne rd.ri]; exact rd.i0
 ·rw [List.getElem?_set_ne rd.rj]; exact rd.j0
 ·show (true && (decide (i < st.length) && (decide (j < st.length) && true))) = true
  simp [li,lj]
theorem ev_take (h : WF st) {r i j : Nat} {sec : D} {met parts : List D} (rd : RdAt a st r i j sec met parts) (l : Ln) (ok : l.Ok) (hin : l.In sec) (t : Int) (N : ∀ x ∈ l.met sec,NewIn met x) (l1 : met.length < sizeLine) (l2 : parts.length < sizeLine) :
  ∃ st',m_Reader_take K a [.ref r,.d (.int t),.d (.str l.text)] st = .ok (.d .non) st' ∧ Fr st st' r i j ∧ RdAt a st' r i j (l.sec sec) (met ++ l.met sec) (parts ++ [l.part sec t]):=by
 have l2' : (parts.map U.d).length < sizeLine:=by rw [List.length_map]; exact l2
 obtain ⟨hl,ok⟩:=ok
 unfold m_Reader_take g_Reader_take
 cases l with
 | rem s =>
  obtain ⟨a1,a2⟩:=ok
  obtain ⟨g1,g2⟩:=app_rd rd h (parts ++ [D.tup [.int t,.str "remark",.str s]])
  refine ⟨_,?_,g2,?_⟩
  ·by_cases he : s = ("" : Str)
   ·simp_all? only [Ln.text,mStarts,a1,eqB,decide_eq_true he,rd.r0,rd.j0,List.mem_cons,List.not_mem_nil,or_false,lk_parts,mAppend,l2',map_snoc]
    exact wCut_len g2.wf g2.len _
   ·have a3:=a2.resolve_left he
    simp_all? only [Ln.text,mStarts,a1,a3,eqB,decide_eq_false he,rd.r0,rd.j0,List.mem_cons,List.not_mem_nil,or_false,lk_parts,mAppend,l2',map_snoc]
    exact wCut_len g2.wf g2.len _
  ·show RdAt a _ r i j sec (met ++ []) _
   rw [List.append_nil]; exact g1
 | kept s n p v =>
  obtain ⟨a1,k⟩:=ok
  have hk:=ev_take_kept (K:=K) h rd (t:=t) (v:=v) (N _ (List.mem_singleton.mpr rfl)) l1 l2
  have fr:=fr_ij h r i j (met ++ [.tup [.str "kept",.tup [.int n,.str p]]]) (parts ++ [.tup [.int t,.str "kept",.tup [.int n,.str p,v]]])
  refine ⟨_,?_,fr,rd.put _ _⟩
  simp_all? only [Ln.text,mStarts,a1,rd.r0,lk_tk,ev_kept h k,hk]
  exact wCut_len fr.wf fr.len _
 | head n =>
  obtain ⟨⟨a1,a2,a3⟩,e⟩:=ok
  obtain ⟨g1,g2⟩:=sec_rd rd h (.str n)
  have hp:=ev_put (K:=K) g2.wf g1 (t:=t) (kd:="section") (th:=.str n) (N _ (List.mem_singleton.mpr rfl)) l1 l2
  have fr:=fr_ij g2.wf r i j (met ++ [.tup [.str "section",.str n]]) (parts ++ [.tup [.int t,.str "section",.str n]])
  refine ⟨_,?_,g2.trans fr,g1.put _ _⟩
  have hs:=ev_section (K:=K) (a:=a) h _ hl
  rw [e] at hs
  simp_all? only [mStarts,a1,a3,eqB,decide_eq_false a2,hs,rd.r0,List.mem_cons,List.not_mem_nil,or_false,g1.r0,lk_put,lk_sec,pf_sec,hp]
  exact wCut_len fr.wf (fr.len.trans g2.len) _
 | set k v =>
  obtain ⟨⟨a1,a2,a3⟩,e,e2,lk⟩:=ok
  obtain ⟨x,rfl,x1,x2,x3⟩:=hin
  have hk:=ev_take_setting (K:=K) h rd (t:=t) (k:=k) (v:=v) (N _ (List.mem_singleton.mpr rfl)) l1 l2 x1 x2 x3 lk
  have fr:=fr_ij h r i j (met ++ [.tup [.str "place",.str (x ++ ("." : Str) ++ k)]]) (parts ++ [.tup [.int t,.str "place",.tup [.str (x ++ ("." : Str) ++ k),.str v]]])
  refine ⟨_,?_,fr,rd.put _ _⟩
  have hs:=ev_section (K:=K) (a:=a) h _ hl
  have hs2:=ev_setting (K:=K) (a:=a) h _ hl
  rw [e] at hs
  rw [e2] at hs2
  simp_all? only [mStarts,a1,a3,eqB,decide_eq_false a2,hs,hs2,rd.r0,lk_ts,hk]
  exact wCut_len fr.wf fr.len _
theorem pf0 (u : U) : putFU ("section" : Str) u [] = [(("section" : Str),u)]:=rfl
theorem pf1 (u x : U) : putFU ("met" : Str) u [(("section" : Str),x)] = [(("section" : Str),x),(("met" : Str),u)]:=rfl
theorem pf2 (u x y : U) : putFU ("parts" : Str) u [(("section" : Str),x),(("met" : Str),y)] = [(("section" : Str),x),(("met" : Str),y),(("parts" : Str),u)]:=rfl
theorem ev_rinit (h : WF st) {r : Nat} (hr : st[r]? = some (.ins a.C_Reader [])) :
  ∃ st',m_Reader_init K a [.ref r] st = .ok (.d .non) st' ∧ WF st' ∧ st'.length = st.length + 2 ∧ RdAt a st' r st.length (st.length + 1) .non [] [] ∧ ∀ n,n ≠ r → n < st.length → st'[n]? = st[n]?:=by
 have lr:=(List.getElem?_eq_some_iff.mp hr).1
 let A : O:=.ins a.C_Reader [(("section" : Str),.d .non)]
 let B : O:=.ins a.C_Reader [(("section" : Str),.d .non),(("met" : Str),.ref st.length)]
 let C : O:=.ins a.C_Reader [(("section" : Str),.d .non),(("met" : Str),.ref st.length),(("parts" : Str),.ref (st.length + 1))]
 have e1 : (st.set r A)[r]? = some A:=set_at hr
 have e2 : (st.set r A ++ [O.lst []])[r]? = some A:=app_at e1
 have e3 : ((st.set r A ++ [O.lst []]).set r B)[r]? = some B:=set_at e2
 have e4 : ((st.set r A ++ [O.lst []]).set r B ++ [O.lst []])[r]? = some B:=app_at e3
 have e5 : (((st.set r A ++ [O.lst []]).set r B ++ [O.lst []]).set r C)[r]? = some C:=set_at e4
 refine ⟨((st.set r A ++ [O.lst []]).set r B ++ [O.lst []]).set r C,?_,?_,?_,⟨e5,?_,?_,?_,?_,?_⟩,?_⟩
 ·simp only [A,B,C] at *
  unfold m_Reader_init g_Reader_init
  simp_all? only [hr,List.mem_cons,List.not_mem_nil,or_false,pf0,e2,pf1,e4,pf2,wId,List.length_set,List.length_append]
 ·refine WF.set (WF.push (WF.set (WF.push (WF.set h ?_) rfl) ?_) rfl) ?_
  ·rfl
  ·show (true && (decide (st.length < _) && true)) = true
   simp
  ·show (true && (decide (st.length < _) && (decide (st.length + 1 < _) && true))) = true
   simp
   omega
 ·simp
 ·rw [List.getElem?_set_ne (by omega),app_at (o:=.lst [])]
  ·rfl
  ·rw [List.getElem?_set_ne (by omega)]
   have:=new_at (st:=st.set r A) (o:=.lst [])
   rw [List.length_set] at this
   exact this
 ·rw [List.getElem?_set_ne (by omega)]
  have:=new_at (st:=(st.set r A ++ [O.lst []]).set r B) (o:=.lst [])
  simpa using this
 ·omega
 ·omega
 ·omega
 ·intro n h1 h2
  rw [List.getElem?_set_ne (Ne.symm h1),List.getElem?_append_left (by simp; omega),List.getElem?_set_ne (Ne.symm h1),List.getElem?_append_left (by simp; omega),List.getElem?_set_ne (Ne.symm h1)]
noncomputable def Vd : D → List D → List Ln → Prop
 | _,_,[]=>True
 | s,m,l :: ls=>l.Ok ∧ l.In s ∧ (∀ x ∈ l.met s,NewIn m x) ∧ Vd (l.sec s) (m ++ l.met s) ls
noncomputable def partsL : D → Nat → List Ln → List D
 | _,_,[]=>[]
 | s,k,l :: ls=>l.part s (k : Nat) :: partsL (l.sec s) (k + 1) ls
noncomputable def secL : D → List Ln → D
 | s,[]=>s
 | s,l :: ls=>secL (l.sec s) ls
theorem met_len (s : D) (l : Ln) : (l.met s).length ≤ 1:=by cases l <;> simp [Ln.met]
theorem ev_lines {r i j : Nat} {u0 u1 : Option U} {x5 x6 : Option U} : ∀ (ls : List Ln) (k : Nat) (x3 x4 : Option U) (st : Store) (sec : D) (met parts : List D),WF st → RdAt a st r i j sec met parts → Vd sec met ls → met.length + ls.length < sizeLine → parts.length + ls.length < sizeLine →
  ∃ x3' x4' st' met',loopL (tgT 2 (tgCons (tgN 3) (tgCons (tgN 4) tgNil))) (b_SettingsFile_init_1 K a) (pairsFrom k (ls.map fun l=>D.str l.text)) [u0,u1,some (.ref r),x3,x4,x5,x6] st = .ok [u0,u1,some (.ref r),x3',x4',x5,x6] .nx st' ∧ Fr st st' r i j ∧ RdAt a st' r i j (secL sec ls) met' (parts ++ partsL sec k ls)
 | [],k,x3,x4,st,sec,met,parts,h,rd,_,_,_=>⟨x3,x4,st,met,rfl,⟨h,rfl,fun _ _ _ _=>rfl⟩,by rw [show partsL sec k [] = [] from rfl,List.append_nil]; exact rd⟩
 | l :: ls,k,x3,x4,st,sec,met,parts,h,rd,⟨v1,v2,v3,v4⟩,l1,l2=>by
  rw [List.length_cons] at l1 l2
  obtain ⟨st1,e1,f1,rd1⟩:=ev_take (K:=K) h rd l v1 v2 (k : Nat) v3 (by omega) (by omega)
  have ml:=met_len sec l
  obtain ⟨y3,y4,st2,met2,e2,f2,rd2⟩:=ev_lines (u0:=u0) (u1:=u1) (x5:=x5) (x6:=x6) ls (k + 1) (some (.d (.int (k : Nat)))) (some (.d (.str l.text))) st1 (l.sec sec) (met ++ l.met sec) (parts ++ [l.part sec (k : Nat)]) f1.wf rd1 v4 (by rw [List.length_append]; omega) (by rw [List.length_append,List.length_singleton]; omega)
  refine ⟨y3,y4,st2,met2,?_,f1.trans f2,?_⟩
  ·rw [List.map_cons,pairsFrom,loopL]
   have eb : b_SettingsFile_init_1 K a [u0,u1,some (.ref r),some (.d (.int (k : Nat))),some (.d (.str l.text)),x5,x6] st = .ok [u0,u1,some (.ref r),some (.d (.int (k : Nat))),some (.d (.str l.text)),x5,x6] .nx st1:=by
    unfold b_SettingsFile_init_1
    simp_all? only [rd.r0,lk_take,e1]
   simp_all? only [eb,e2]
  ·rw [show partsL sec k (l :: ls) = l.part sec (k : Nat) :: partsL (l.sec sec) (k + 1) ls from rfl]
   rw [List.append_assoc] at rd2
   exact rd2
noncomputable def linesOf (s : Str) : List Str:=if s = ("" : Str) then [] else Txt.split s ("\n" : Str)
theorem ev_lines_of (h : WF st) (s : Str) (hs : s.length + 2 ≤ sizeLine) : m_lines_of K a [.d (.str s)] st = .ok (.d (.lst ((linesOf s).map .str))) st:=by
 have hd : (("\n" : Str).length == 0) = false:=by decide +kernel
 unfold m_lines_of g_lines_of linesOf
 by_cases e : s = ("" : Str)
 ·rw [if_pos e]
  simp_all? only [eqB,decide_eq_true e,wFrz_d h]
 ·rw [if_neg e]
  simp_all? only [eqB,decide_eq_false e,mSplit,hd,hs,wFrz_d h]
/-- what a part is like -/
inductive PartOk : D → Prop
 | rem (t : Int) (x : Str) : PartOk (.tup [.int t,.str "remark",.str x])
 | kept (t n : Int) (p : Str) (v : D) : PartOk (.tup [.int t,.str "kept",.tup [.int n,.str p,v]])
 | head (t : Int) (n : Str) : PartOk (.tup [.int t,.str "section",.str n])
 | set (t : Int) (p v : Str) : PartOk (.tup [.int t,.str "place",.tup [.str p,.str v]])
theorem partsL_ok : ∀ (ls : List Ln) (s : D) (k : Nat),∀ p ∈ partsL s k ls,PartOk p
 | [],_,_,p,h=>by cases h
 | l :: ls,s,k,p,h=>by
  rcases List.mem_cons.mp h with rfl | h
  ·cases l with
   | rem x=>exact .rem _ _
   | kept x n p v=>exact .kept _ _ _ _
   | head n=>exact .head _ _
   | set k v=>exact .set _ _ _
  ·exact partsL_ok ls _ _ p h
noncomputable def isRem : U → Bool
 | .d (.tup [_,.str w,_])=>decide (w = ("remark" : Str))
 | _=>false
noncomputable def isSet : U → Bool
 | .d (.tup [_,.str w,_])=>decide (w = ("place" : Str))
 | _=>false
noncomputable def shortP : U → D
 | .d (.tup [t,.str w,th])=>.tup [t,.str w,if w = ("place" : Str) then (match th with | .tup (x :: _)=>x | _=>.non) else th]
 | _=>.non
noncomputable def thingP : U → D
 | .d (.tup [_,_,th])=>th
 | _=>.non
theorem ne_rem1 : ¬ (("kept" : Str) = ("remark" : Str)):=by decide +kernel
theorem ne_rem2 : ¬ (("section" : Str) = ("remark" : Str)):=by decide +kernel
theorem ne_rem3 : ¬ (("place" : Str) = ("remark" : Str)):=by decide +kernel
theorem ne_pl1 : ¬ (("remark" : Str) = ("place" : Str)):=by decide +kernel
theorem ne_pl2 : ¬ (("kept" : Str) = ("place" : Str)):=by decide +kernel
theorem ne_pl3 : ¬ (("section" : Str) = ("place" : Str)):=by decide +kernel
theorem ev_parts_of (h : WF st) {j : Nat} {ps : List D} (hj : st[j]? = some (.lst (ps.map U.d))) (ok : ∀ p ∈ ps,PartOk p) (hl : ps.length ≤ sizeLine) :
  ∃ ds,m_parts_of K a [.ref j] st = .ok (.d (.lst ds)) st:=by
 have ec : c_parts_of_1 K a [some (.ref j),none,none,none] st = .ok (.d (.lst (((ps.map U.d).filter fun u=>!isRem u).map shortP))) st:=by
  unfold c_parts_of_1
  refine fLc_pureC (n:=j) (us:=ps.map U.d) (fun u=>!isRem u) shortP h ?_ hj (by rw [List.length_map]; exact hl) fun u hu st' h'=>?_
  ·simp_all? only [itV,hj]
  ·obtain ⟨p,hp,rfl⟩:=List.mem_map.mp hu
   have:=ok p hp
   cases this with
   | rem t x=>exact ⟨_,rfl,by simp only [fnM,sSeq,sRet,sRetN,sExpr,sIf,sNil,sNo,sAsg,tgN,bndS,bnd,vVar,vC,f2,f1,fB,pu,fN,vTup,vLst,fTup,fCons,fNil,fPure,fIf,fAnd,fOr,fNot,asB,asT,bAnd,bOr,bNot,fChain,fCall,fCW,gPos,gApp,R.of,R.of2,fM,pu4,tgT,tgCons,tgNil,unp,pureL,sPar,sPar3,fLstC,fFld,oFld,fMeth,insU,sFldS,setFld,fSl,oNone,oSome,tgSub,setU,fIter,fItN,fItS,sFor,getL,getT,VL.getD,keyD,tyB,lstC,oAdd,oSub,oMul,oFdiv,oMod,oPow,oNeg,oLt,oLe,oGt,oGe,oEq,oNe,oIsN,oNotN,oIn,oNotIn,oIx,oLen,oInt,oAbs,oMin,oMax,oStr,oList,oListC,oTuple,oAll,oAny,itemsU,lenN,truB,fJs,oFmt,List.map_cons,List.map_nil,List.length_cons,List.length_nil,List.replicate_succ,List.replicate_zero,List.cons_append,List.nil_append,List.append_nil,List.getElem?_cons_zero,List.getElem?_cons_succ,List.set_cons_zero,List.set_cons_succ,Nat.reduceAdd,Nat.reduceSub,Option.map_some,Option.map_none,if_true,if_false,ite_true,ite_false,Bool.false_eq_true,reduceCtorEq,true_and,and_true,and_self,Bool.not_true,Bool.not_false,Nat.zero_add,Option.bind_some,Option.bind_eq_bind,Option.pure_def,decide_true,decide_false,eq_self,Nat.reduceEqDiff,Nat.reduceLT,Nat.reduceLeDiff,Int.reduceLT,Int.reduceLE,Int.reduceEq,Bool.and_true,Bool.true_and,Bool.false_and,Bool.or_false,Bool.or_true,Bool.true_or,Bool.false_or,sz0,szl0,sz1,szl1,sz2,szl2,sz3,szl3,sz4,szl4,sz5,szl5,sz6,szl6,sz7,szl7,sz8,szl8,sz9,szl9,sz10,szl10,sz11,szl11,sz12,szl12,sz13,szl13,sz14,szl14,sz15,szl15,wipeE,eqB,isRem],fun e=>by simp only [isRem,decide_true,Bool.not_true] at e; cases e⟩
   | kept t n p v=>exact ⟨_,rfl,by simp only [fnM,sSeq,sRet,sRetN,sExpr,sIf,sNil,sNo,sAsg,tgN,bndS,bnd,vVar,vC,f2,f1,fB,pu,fN,vTup,vLst,fTup,fCons,fNil,fPure,fIf,fAnd,fOr,fNot,asB,asT,bAnd,bOr,bNot,fChain,fCall,fCW,gPos,gApp,R.of,R.of2,fM,pu4,tgT,tgCons,tgNil,unp,pureL,sPar,sPar3,fLstC,fFld,oFld,fMeth,insU,sFldS,setFld,fSl,oNone,oSome,tgSub,setU,fIter,fItN,fItS,sFor,getL,getT,VL.getD,keyD,tyB,lstC,oAdd,oSub,oMul,oFdiv,oMod,oPow,oNeg,oLt,oLe,oGt,oGe,oEq,oNe,oIsN,oNotN,oIn,oNotIn,oIx,oLen,oInt,oAbs,oMin,oMax,oStr,oList,oListC,oTuple,oAll,oAny,itemsU,lenN,truB,fJs,oFmt,List.map_cons,List.map_nil,List.length_cons,List.length_nil,List.replicate_succ,List.replicate_zero,List.cons_append,List.nil_append,List.append_nil,List.getElem?_cons_zero,List.getElem?_cons_succ,List.set_cons_zero,List.set_cons_succ,Nat.reduceAdd,Nat.reduceSub,Option.map_some,Option.map_none,if_true,if_false,ite_true,ite_false,Bool.false_eq_true,reduceCtorEq,true_and,and_true,and_self,Bool.not_true,Bool.not_false,Nat.zero_add,Option.bind_some,Option.bind_eq_bind,Option.pure_def,decide_true,decide_false,eq_self,Nat.reduceEqDiff,Nat.reduceLT,Nat.reduceLeDiff,Int.reduceLT,Int.reduceLE,Int.reduceEq,Bool.and_true,Bool.true_and,Bool.false_and,Bool.or_false,Bool.or_true,Bool.true_or,Bool.false_or,sz0,szl0,sz1,szl1,sz2,szl2,sz3,szl3,sz4,szl4,sz5,szl5,sz6,szl6,sz7,szl7,sz8,szl8,sz9,szl9,sz10,szl10,sz11,szl11,sz12,szl12,sz13,szl13,sz14,szl14,sz15,szl15,wipeE,eqB,isRem,decide_eq_false ne_rem1],fun e=>by simp only [fnM,sSeq,sRet,sRetN,sExpr,sIf,sNil,sNo,sAsg,tgN,bndS,bnd,vVar,vC,f2,f1,fB,pu,fN,vTup,vLst,fTup,fCons,fNil,fPure,fIf,fAnd,fOr,fNot,asB,asT,bAnd,bOr,bNot,fChain,fCall,fCW,gPos,gApp,R.of,R.of2,fM,pu4,tgT,tgCons,tgNil,unp,pureL,sPar,sPar3,fLstC,fFld,oFld,fMeth,insU,sFldS,setFld,fSl,oNone,oSome,tgSub,setU,fIter,fItN,fItS,sFor,getL,getT,VL.getD,keyD,tyB,lstC,oAdd,oSub,oMul,oFdiv,oMod,oPow,oNeg,oLt,oLe,oGt,oGe,oEq,oNe,oIsN,oNotN,oIn,oNotIn,oIx,oLen,oInt,oAbs,oMin,oMax,oStr,oList,oListC,oTuple,oAll,oAny,itemsU,lenN,truB,fJs,oFmt,List.map_cons,List.map_nil,List.length_cons,List.length_nil,List.replicate_succ,List.replicate_zero,List.cons_append,List.nil_append,List.append_nil,List.getElem?_cons_zero,List.getElem?_cons_succ,List.set_cons_zero,List.set_cons_succ,Nat.reduceAdd,Nat.reduceSub,Option.map_some,Option.map_none,if_true,if_false,ite_true,ite_false,Bool.false_eq_true,reduceCtorEq,true_and,and_true,and_self,Bool.not_true,Bool.not_false,Nat.zero_add,Option.bind_some,Option.bind_eq_bind,Option.pure_def,decide_true,decide_false,eq_self,Nat.reduceEqDiff,Nat.reduceLT,Nat.reduceLeDiff,Int.reduceLT,Int.reduceLE,Int.reduceEq,Bool.and_true,Bool.true_and,Bool.false_and,Bool.or_false,Bool.or_true,Bool.true_or,Bool.false_or,sz0,szl0,sz1,szl1,sz2,szl2,sz3,szl3,sz4,szl4,sz5,szl5,sz6,szl6,sz7,szl7,sz8,szl8,sz9,szl9,sz10,szl10,sz11,szl11,sz12,szl12,sz13,szl13,sz14,szl14,sz15,szl15,wipeE,eqB,shortP,decide_eq_false ne_pl2,if_neg ne_pl2]⟩
   | head t n=>exact ⟨_,rfl,by simp only [fnM,sSeq,sRet,sRetN,sExpr,sIf,sNil,sNo,sAsg,tgN,bndS,bnd,vVar,vC,f2,f1,fB,pu,fN,vTup,vLst,fTup,fCons,fNil,fPure,fIf,fAnd,fOr,fNot,asB,asT,bAnd,bOr,bNot,fChain,fCall,fCW,gPos,gApp,R.of,R.of2,fM,pu4,tgT,tgCons,tgNil,unp,pureL,sPar,sPar3,fLstC,fFld,oFld,fMeth,insU,sFldS,setFld,fSl,oNone,oSome,tgSub,setU,fIter,fItN,fItS,sFor,getL,getT,VL.getD,keyD,tyB,lstC,oAdd,oSub,oMul,oFdiv,oMod,oPow,oNeg,oLt,oLe,oGt,oGe,oEq,oNe,oIsN,oNotN,oIn,oNotIn,oIx,oLen,oInt,oAbs,oMin,oMax,oStr,oList,oListC,oTuple,oAll,oAny,itemsU,lenN,truB,fJs,oFmt,List.map_cons,List.map_nil,List.length_cons,List.length_nil,List.replicate_succ,List.replicate_zero,List.cons_append,List.nil_append,List.append_nil,List.getElem?_cons_zero,List.getElem?_cons_succ,List.set_cons_zero,List.set_cons_succ,Nat.reduceAdd,Nat.reduceSub,Option.map_some,Option.map_none,if_true,if_false,ite_true,ite_false,Bool.false_eq_true,reduceCtorEq,true_and,and_true,and_self,Bool.not_true,Bool.not_false,Nat.zero_add,Option.bind_some,Option.bind_eq_bind,Option.pure_def,decide_true,decide_false,eq_self,Nat.reduceEqDiff,Nat.reduceLT,Nat.reduceLeDiff,Int.reduceLT,Int.reduceLE,Int.reduceEq,Bool.and_true,Bool.true_and,Bool.false_and,Bool.or_false,Bool.or_true,Bool.true_or,Bool.false_or,sz0,szl0,sz1,szl1,sz2,szl2,sz3,szl3,sz4,szl4,sz5,szl5,sz6,szl6,sz7,szl7,sz8,szl8,sz9,szl9,sz10,szl10,sz11,szl11,sz12,szl12,sz13,szl13,sz14,szl14,sz15,szl15,wipeE,eqB,isRem,decide_eq_false ne_rem2],fun e=>by simp only [fnM,sSeq,sRet,sRetN,sExpr,sIf,sNil,sNo,sAsg,tgN,bndS,bnd,vVar,vC,f2,f1,fB,pu,fN,vTup,vLst,fTup,fCons,fNil,fPure,fIf,fAnd,fOr,fNot,asB,asT,bAnd,bOr,bNot,fChain,fCall,fCW,gPos,gApp,R.of,R.of2,fM,pu4,tgT,tgCons,tgNil,unp,pureL,sPar,sPar3,fLstC,fFld,oFld,fMeth,insU,sFldS,setFld,fSl,oNone,oSome,tgSub,setU,fIter,fItN,fItS,sFor,getL,getT,VL.getD,keyD,tyB,lstC,oAdd,oSub,oMul,oFdiv,oMod,oPow,oNeg,oLt,oLe,oGt,oGe,oEq,oNe,oIsN,oNotN,oIn,oNotIn,oIx,oLen,oInt,oAbs,oMin,oMax,oStr,oList,oListC,oTuple,oAll,oAny,itemsU,lenN,truB,fJs,oFmt,List.map_cons,List.map_nil,List.length_cons,List.length_nil,List.replicate_succ,List.replicate_zero,List.cons_append,List.nil_append,List.append_nil,List.getElem?_cons_zero,List.getElem?_cons_succ,List.set_cons_zero,List.set_cons_succ,Nat.reduceAdd,Nat.reduceSub,Option.map_some,Option.map_none,if_true,if_false,ite_true,ite_false,Bool.false_eq_true,reduceCtorEq,true_and,and_true,and_self,Bool.not_true,Bool.not_false,Nat.zero_add,Option.bind_some,Option.bind_eq_bind,Option.pure_def,decide_true,decide_false,eq_self,Nat.reduceEqDiff,Nat.reduceLT,Nat.reduceLeDiff,Int.reduceLT,Int.reduceLE,Int.reduceEq,Bool.and_true,Bool.true_and,Bool.false_and,Bool.or_false,Bool.or_true,Bool.true_or,Bool.false_or,sz0,szl0,sz1,szl1,sz2,szl2,sz3,szl3,sz4,szl4,sz5,szl5,sz6,szl6,sz7,szl7,sz8,szl8,sz9,szl9,sz10,szl10,sz11,szl11,sz12,szl12,sz13,szl13,sz14,szl14,sz15,szl15,wipeE,eqB,shortP,decide_eq_false ne_pl3,if_neg ne_pl3]⟩
   | set t p v=>exact ⟨_,rfl,by simp only [fnM,sSeq,sRet,sRetN,sExpr,sIf,sNil,sNo,sAsg,tgN,bndS,bnd,vVar,vC,f2,f1,fB,pu,fN,vTup,vLst,fTup,fCons,fNil,fPure,fIf,fAnd,fOr,fNot,asB,asT,bAnd,bOr,bNot,fChain,fCall,fCW,gPos,gApp,R.of,R.of2,fM,pu4,tgT,tgCons,tgNil,unp,pureL,sPar,sPar3,fLstC,fFld,oFld,fMeth,insU,sFldS,setFld,fSl,oNone,oSome,tgSub,setU,fIter,fItN,fItS,sFor,getL,getT,VL.getD,keyD,tyB,lstC,oAdd,oSub,oMul,oFdiv,oMod,oPow,oNeg,oLt,oLe,oGt,oGe,oEq,oNe,oIsN,oNotN,oIn,oNotIn,oIx,oLen,oInt,oAbs,oMin,oMax,oStr,oList,oListC,oTuple,oAll,oAny,itemsU,lenN,truB,fJs,oFmt,List.map_cons,List.map_nil,List.length_cons,List.length_nil,List.replicate_succ,List.replicate_zero,List.cons_append,List.nil_append,List.append_nil,List.getElem?_cons_zero,List.getElem?_cons_succ,List.set_cons_zero,List.set_cons_succ,Nat.reduceAdd,Nat.reduceSub,Option.map_some,Option.map_none,if_true,if_false,ite_true,ite_false,Bool.false_eq_true,reduceCtorEq,true_and,and_true,and_self,Bool.not_true,Bool.not_false,Nat.zero_add,Option.bind_some,Option.bind_eq_bind,Option.pure_def,decide_true,decide_false,eq_self,Nat.reduceEqDiff,Nat.reduceLT,Nat.reduceLeDiff,Int.reduceLT,Int.reduceLE,Int.reduceEq,Bool.and_true,Bool.true_and,Bool.false_and,Bool.or_false,Bool.or_true,Bool.true_or,Bool.false_or,sz0,szl0,sz1,szl1,sz2,szl2,sz3,szl3,sz4,szl4,sz5,szl5,sz6,szl6,sz7,szl7,sz8,szl8,sz9,szl9,sz10,szl10,sz11,szl11,sz12,szl12,sz13,szl13,sz14,szl14,sz15,szl15,wipeE,eqB,isRem,decide_eq_false ne_rem3],fun e=>by simp only [fnM,sSeq,sRet,sRetN,sExpr,sIf,sNil,sNo,sAsg,tgN,bndS,bnd,vVar,vC,f2,f1,fB,pu,fN,vTup,vLst,fTup,fCons,fNil,fPure,fIf,fAnd,fOr,fNot,asB,asT,bAnd,bOr,bNot,fChain,fCall,fCW,gPos,gApp,R.of,R.of2,fM,pu4,tgT,tgCons,tgNil,unp,pureL,sPar,sPar3,fLstC,fFld,oFld,fMeth,insU,sFldS,setFld,fSl,oNone,oSome,tgSub,setU,fIter,fItN,fItS,sFor,getL,getT,VL.getD,keyD,tyB,lstC,oAdd,oSub,oMul,oFdiv,oMod,oPow,oNeg,oLt,oLe,oGt,oGe,oEq,oNe,oIsN,oNotN,oIn,oNotIn,oIx,oLen,oInt,oAbs,oMin,oMax,oStr,oList,oListC,oTuple,oAll,oAny,itemsU,lenN,truB,fJs,oFmt,List.map_cons,List.map_nil,List.length_cons,List.length_nil,List.replicate_succ,List.replicate_zero,List.cons_append,List.nil_append,List.append_nil,List.getElem?_cons_zero,List.getElem?_cons_succ,List.set_cons_zero,List.set_cons_succ,Nat.reduceAdd,Nat.reduceSub,Option.map_some,Option.map_none,if_true,if_false,ite_true,ite_false,Bool.false_eq_true,reduceCtorEq,true_and,and_true,and_self,Bool.not_true,Bool.not_false,Nat.zero_add,Option.bind_some,Option.bind_eq_bind,Option.pure_def,decide_true,decide_false,eq_self,Nat.reduceEqDiff,Nat.reduceLT,Nat.reduceLeDiff,Int.reduceLT,Int.reduceLE,Int.reduceEq,Bool.and_true,Bool.true_and,Bool.false_and,Bool.or_false,Bool.or_true,Bool.true_or,Bool.false_or,sz0,szl0,sz1,szl1,sz2,szl2,sz3,szl3,sz4,szl4,sz5,szl5,sz6,szl6,sz7,szl7,sz8,szl8,sz9,szl9,sz10,szl10,sz11,szl11,sz12,szl12,sz13,szl13,sz14,szl14,sz15,szl15,wipeE,eqB,shortP,at_0]⟩
 refine ⟨((ps.map U.d).filter fun u=>!isRem u).map shortP,?_⟩
 unfold m_parts_of g_parts_of
 simp_all? only [ec,wFrz_d h]
theorem qf0 (u : U) : putFU ("whole" : Str) u [] = [(("whole" : Str),u)]:=rfl
theorem qf1 (u x : U) : putFU ("all_parts" : Str) u [(("whole" : Str),x)] = [(("whole" : Str),x),(("all_parts" : Str),u)]:=rfl
theorem qf2 (u x y : U) : putFU ("parts" : Str) u [(("whole" : Str),x),(("all_parts" : Str),y)] = [(("whole" : Str),x),(("all_parts" : Str),y),(("parts" : Str),u)]:=rfl
theorem qf3 (u x y z : U) : putFU ("settings_read" : Str) u [(("whole" : Str),x),(("all_parts" : Str),y),(("parts" : Str),z)] = [(("whole" : Str),x),(("all_parts" : Str),y),(("parts" : Str),z),(("settings_read" : Str),u)]:=rfl
/-- the settings,in order -/
noncomputable def setsL : D → List Ln → List (Str × Str)
 | _,[]=>[]
 | s,.set k v :: ls=>(pl s k,v) :: setsL s ls
 | s,.rem _ :: ls=>setsL s ls
 | s,.kept _ _ _ _ :: ls=>setsL s ls
 | _,.head n :: ls=>setsL (.str n) ls
noncomputable def kvD (ps : List (Str × Str)) : List (Key × D):=ps.map fun p=>(.inr p.1,.str p.2)
theorem pairs_ok2 : ∀ (ls : List Ln) (s : D) (k : Nat),allM pairD (((((partsL s k ls).map U.d).filter isSet).map thingP).map U.d) = some (kvD (setsL s ls))
 | [],_,_=>rfl
 | .rem x :: ls,s,k=>by
  show allM pairD (((((U.d (.tup [.int k,.str "remark",.str x]) :: (partsL s (k + 1) ls).map U.d)).filter isSet).map thingP).map U.d) = _
  rw [List.filter_cons_of_neg (by simp only [isSet,decide_eq_false ne_pl1]; exact Bool.false_ne_true)]
  exact pairs_ok2 ls s (k + 1)
 | .kept x n p v :: ls,s,k=>by
  show allM pairD (((((U.d (.tup [.int k,.str "kept",.tup [.int n,.str p,v]]) :: (partsL s (k + 1) ls).map U.d)).filter isSet).map thingP).map U.d) = _
  rw [List.filter_cons_of_neg (by simp only [isSet,decide_eq_false ne_pl2]; exact Bool.false_ne_true)]
  exact pairs_ok2 ls s (k + 1)
 | .head n :: ls,s,k=>by
  show allM pairD (((((U.d (.tup [.int k,.str "section",.str n]) :: (partsL (.str n) (k + 1) ls).map U.d)).filter isSet).map thingP).map U.d) = _
  rw [List.filter_cons_of_neg (by simp only [isSet,decide_eq_false ne_pl3]; exact Bool.false_ne_true)]
  exact pairs_ok2 ls (.str n) (k + 1)
 | .set x v :: ls,s,k=>by
  have ih:=pairs_ok2 ls s (k + 1)
  show allM pairD (((((U.d (.tup [.int k,.str "place",.tup [.str (pl s x),.str v]]) :: (partsL s (k + 1) ls).map U.d)).filter isSet).map thingP).map U.d) = _
  rw [List.filter_cons_of_pos (by simp only [isSet,decide_true]),List.map_cons,List.map_cons]
  unfold allM
  rw [ih]
  rfl
theorem ev_comp (h : WF st) {r i j : Nat} {sec : D} {met ps : List D} {u0 u1 x3 x4 x5 x6 : Option U} (rd : RdAt a st r i j sec met ps) (ok : ∀ p ∈ ps,PartOk p) (hl : ps.length ≤ sizeLine) :
  c_SettingsFile_init_1 K a [u0,u1,some (.ref r),x3,x4,x5,x6] st = .ok (.d (.lst (((ps.map U.d).filter isSet).map thingP))) st:=by
 unfold c_SettingsFile_init_1
 refine fLc_pureC (n:=j) (us:=ps.map U.d) isSet thingP h ?_ rd.j0 (by rw [List.length_map]; exact hl) fun u hu st' h'=>?_
 ·simp_all? only [itV,rd.r0,rd.j0,List.mem_cons,List.not_mem_nil,or_false,lk_parts]
 ·obtain ⟨p,hp,rfl⟩:=List.mem_map.mp hu
  have:=ok p hp
  cases this with
  | rem t x=>exact ⟨_,rfl,by simp only [fnM,sSeq,sRet,sRetN,sExpr,sIf,sNil,sNo,sAsg,tgN,bndS,bnd,vVar,vC,f2,f1,fB,pu,fN,vTup,vLst,fTup,fCons,fNil,fPure,fIf,fAnd,fOr,fNot,asB,asT,bAnd,bOr,bNot,fChain,fCall,fCW,gPos,gApp,R.of,R.of2,fM,pu4,tgT,tgCons,tgNil,unp,pureL,sPar,sPar3,fLstC,fFld,oFld,fMeth,insU,sFldS,setFld,fSl,oNone,oSome,tgSub,setU,fIter,fItN,fItS,sFor,getL,getT,VL.getD,keyD,tyB,lstC,oAdd,oSub,oMul,oFdiv,oMod,oPow,oNeg,oLt,oLe,oGt,oGe,oEq,oNe,oIsN,oNotN,oIn,oNotIn,oIx,oLen,oInt,oAbs,oMin,oMax,oStr,oList,oListC,oTuple,oAll,oAny,itemsU,lenN,truB,fJs,oFmt,List.map_cons,List.map_nil,List.length_cons,List.length_nil,List.replicate_succ,List.replicate_zero,List.cons_append,List.nil_append,List.append_nil,List.getElem?_cons_zero,List.getElem?_cons_succ,List.set_cons_zero,List.set_cons_succ,Nat.reduceAdd,Nat.reduceSub,Option.map_some,Option.map_none,if_true,if_false,ite_true,ite_false,Bool.false_eq_true,reduceCtorEq,true_and,and_true,and_self,Bool.not_true,Bool.not_false,Nat.zero_add,Option.bind_some,Option.bind_eq_bind,Option.pure_def,decide_true,decide_false,eq_self,Nat.reduceEqDiff,Nat.reduceLT,Nat.reduceLeDiff,Int.reduceLT,Int.reduceLE,Int.reduceEq,Bool.and_true,Bool.true_and,Bool.false_and,Bool.or_false,Bool.or_true,Bool.true_or,Bool.false_or,sz0,szl0,sz1,szl1,sz2,szl2,sz3,szl3,sz4,szl4,sz5,szl5,sz6,szl6,sz7,szl7,sz8,szl8,sz9,szl9,sz10,szl10,sz11,szl11,sz12,szl12,sz13,szl13,sz14,szl14,sz15,szl15,wipeE,eqB,isSet,decide_eq_false ne_pl1],fun e=>by simp only [fnM,sSeq,sRet,sRetN,sExpr,sIf,sNil,sNo,sAsg,tgN,bndS,bnd,vVar,vC,f2,f1,fB,pu,fN,vTup,vLst,fTup,fCons,fNil,fPure,fIf,fAnd,fOr,fNot,asB,asT,bAnd,bOr,bNot,fChain,fCall,fCW,gPos,gApp,R.of,R.of2,fM,pu4,tgT,tgCons,tgNil,unp,pureL,sPar,sPar3,fLstC,fFld,oFld,fMeth,insU,sFldS,setFld,fSl,oNone,oSome,tgSub,setU,fIter,fItN,fItS,sFor,getL,getT,VL.getD,keyD,tyB,lstC,oAdd,oSub,oMul,oFdiv,oMod,oPow,oNeg,oLt,oLe,oGt,oGe,oEq,oNe,oIsN,oNotN,oIn,oNotIn,oIx,oLen,oInt,oAbs,oMin,oMax,oStr,oList,oListC,oTuple,oAll,oAny,itemsU,lenN,truB,fJs,oFmt,List.map_cons,List.map_nil,List.length_cons,List.length_nil,List.replicate_succ,List.replicate_zero,List.cons_append,List.nil_append,List.append_nil,List.getElem?_cons_zero,List.getElem?_cons_succ,List.set_cons_zero,List.set_cons_succ,Nat.reduceAdd,Nat.reduceSub,Option.map_some,Option.map_none,if_true,if_false,ite_true,ite_false,Bool.false_eq_true,reduceCtorEq,true_and,and_true,and_self,Bool.not_true,Bool.not_false,Nat.zero_add,Option.bind_some,Option.bind_eq_bind,Option.pure_def,decide_true,decide_false,eq_self,Nat.reduceEqDiff,Nat.reduceLT,Nat.reduceLeDiff,Int.reduceLT,Int.reduceLE,Int.reduceEq,Bool.and_true,Bool.true_and,Bool.false_and,Bool.or_false,Bool.or_true,Bool.true_or,Bool.false_or,sz0,szl0,sz1,szl1,sz2,szl2,sz3,szl3,sz4,szl4,sz5,szl5,sz6,szl6,sz7,szl7,sz8,szl8,sz9,szl9,sz10,szl10,sz11,szl11,sz12,szl12,sz13,szl13,sz14,szl14,sz15,szl15,wipeE,thingP]⟩
  | kept t n p v=>exact ⟨_,rfl,by simp only [fnM,sSeq,sRet,sRetN,sExpr,sIf,sNil,sNo,sAsg,tgN,bndS,bnd,vVar,vC,f2,f1,fB,pu,fN,vTup,vLst,fTup,fCons,fNil,fPure,fIf,fAnd,fOr,fNot,asB,asT,bAnd,bOr,bNot,fChain,fCall,fCW,gPos,gApp,R.of,R.of2,fM,pu4,tgT,tgCons,tgNil,unp,pureL,sPar,sPar3,fLstC,fFld,oFld,fMeth,insU,sFldS,setFld,fSl,oNone,oSome,tgSub,setU,fIter,fItN,fItS,sFor,getL,getT,VL.getD,keyD,tyB,lstC,oAdd,oSub,oMul,oFdiv,oMod,oPow,oNeg,oLt,oLe,oGt,oGe,oEq,oNe,oIsN,oNotN,oIn,oNotIn,oIx,oLen,oInt,oAbs,oMin,oMax,oStr,oList,oListC,oTuple,oAll,oAny,itemsU,lenN,truB,fJs,oFmt,List.map_cons,List.map_nil,List.length_cons,List.length_nil,List.replicate_succ,List.replicate_zero,List.cons_append,List.nil_append,List.append_nil,List.getElem?_cons_zero,List.getElem?_cons_succ,List.set_cons_zero,List.set_cons_succ,Nat.reduceAdd,Nat.reduceSub,Option.map_some,Option.map_none,if_true,if_false,ite_true,ite_false,Bool.false_eq_true,reduceCtorEq,true_and,and_true,and_self,Bool.not_true,Bool.not_false,Nat.zero_add,Option.bind_some,Option.bind_eq_bind,Option.pure_def,decide_true,decide_false,eq_self,Nat.reduceEqDiff,Nat.reduceLT,Nat.reduceLeDiff,Int.reduceLT,Int.reduceLE,Int.reduceEq,Bool.and_true,Bool.true_and,Bool.false_and,Bool.or_false,Bool.or_true,Bool.true_or,Bool.false_or,sz0,szl0,sz1,szl1,sz2,szl2,sz3,szl3,sz4,szl4,sz5,szl5,sz6,szl6,sz7,szl7,sz8,szl8,sz9,szl9,sz10,szl10,sz11,szl11,sz12,szl12,sz13,szl13,sz14,szl14,sz15,szl15,wipeE,eqB,isSet,decide_eq_false ne_pl2],fun e=>by simp only [fnM,sSeq,sRet,sRetN,sExpr,sIf,sNil,sNo,sAsg,tgN,bndS,bnd,vVar,vC,f2,f1,fB,pu,fN,vTup,vLst,fTup,fCons,fNil,fPure,fIf,fAnd,fOr,fNot,asB,asT,bAnd,bOr,bNot,fChain,fCall,fCW,gPos,gApp,R.of,R.of2,fM,pu4,tgT,tgCons,tgNil,unp,pureL,sPar,sPar3,fLstC,fFld,oFld,fMeth,insU,sFldS,setFld,fSl,oNone,oSome,tgSub,setU,fIter,fItN,fItS,sFor,getL,getT,VL.getD,keyD,tyB,lstC,oAdd,oSub,oMul,oFdiv,oMod,oPow,oNeg,oLt,oLe,oGt,oGe,oEq,oNe,oIsN,oNotN,oIn,oNotIn,oIx,oLen,oInt,oAbs,oMin,oMax,oStr,oList,oListC,oTuple,oAll,oAny,itemsU,lenN,truB,fJs,oFmt,List.map_cons,List.map_nil,List.length_cons,List.length_nil,List.replicate_succ,List.replicate_zero,List.cons_append,List.nil_append,List.append_nil,List.getElem?_cons_zero,List.getElem?_cons_succ,List.set_cons_zero,List.set_cons_succ,Nat.reduceAdd,Nat.reduceSub,Option.map_some,Option.map_none,if_true,if_false,ite_true,ite_false,Bool.false_eq_true,reduceCtorEq,true_and,and_true,and_self,Bool.not_true,Bool.not_false,Nat.zero_add,Option.bind_some,Option.bind_eq_bind,Option.pure_def,decide_true,decide_false,eq_self,Nat.reduceEqDiff,Nat.reduceLT,Nat.reduceLeDiff,Int.reduceLT,Int.reduceLE,Int.reduceEq,Bool.and_true,Bool.true_and,Bool.false_and,Bool.or_false,Bool.or_true,Bool.true_or,Bool.false_or,sz0,szl0,sz1,szl1,sz2,szl2,sz3,szl3,sz4,szl4,sz5,szl5,sz6,szl6,sz7,szl7,sz8,szl8,sz9,szl9,sz10,szl10,sz11,szl11,sz12,szl12,sz13,szl13,sz14,szl14,sz15,szl15,wipeE,thingP]⟩
  | head t n=>exact ⟨_,rfl,by simp only [fnM,sSeq,sRet,sRetN,sExpr,sIf,sNil,sNo,sAsg,tgN,bndS,bnd,vVar,vC,f2,f1,fB,pu,fN,vTup,vLst,fTup,fCons,fNil,fPure,fIf,fAnd,fOr,fNot,asB,asT,bAnd,bOr,bNot,fChain,fCall,fCW,gPos,gApp,R.of,R.of2,fM,pu4,tgT,tgCons,tgNil,unp,pureL,sPar,sPar3,fLstC,fFld,oFld,fMeth,insU,sFldS,setFld,fSl,oNone,oSome,tgSub,setU,fIter,fItN,fItS,sFor,getL,getT,VL.getD,keyD,tyB,lstC,oAdd,oSub,oMul,oFdiv,oMod,oPow,oNeg,oLt,oLe,oGt,oGe,oEq,oNe,oIsN,oNotN,oIn,oNotIn,oIx,oLen,oInt,oAbs,oMin,oMax,oStr,oList,oListC,oTuple,oAll,oAny,itemsU,lenN,truB,fJs,oFmt,List.map_cons,List.map_nil,List.length_cons,List.length_nil,List.replicate_succ,List.replicate_zero,List.cons_append,List.nil_append,List.append_nil,List.getElem?_cons_zero,List.getElem?_cons_succ,List.set_cons_zero,List.set_cons_succ,Nat.reduceAdd,Nat.reduceSub,Option.map_some,Option.map_none,if_true,if_false,ite_true,ite_false,Bool.false_eq_true,reduceCtorEq,true_and,and_true,and_self,Bool.not_true,Bool.not_false,Nat.zero_add,Option.bind_some,Option.bind_eq_bind,Option.pure_def,decide_true,decide_false,eq_self,Nat.reduceEqDiff,Nat.reduceLT,Nat.reduceLeDiff,Int.reduceLT,Int.reduceLE,Int.reduceEq,Bool.and_true,Bool.true_and,Bool.false_and,Bool.or_false,Bool.or_true,Bool.true_or,Bool.false_or,sz0,szl0,sz1,szl1,sz2,szl2,sz3,szl3,sz4,szl4,sz5,szl5,sz6,szl6,sz7,szl7,sz8,szl8,sz9,szl9,sz10,szl10,sz11,szl11,sz12,szl12,sz13,szl13,sz14,szl14,sz15,szl15,wipeE,eqB,isSet,decide_eq_false ne_pl3],fun e=>by simp only [fnM,sSeq,sRet,sRetN,sExpr,sIf,sNil,sNo,sAsg,tgN,bndS,bnd,vVar,vC,f2,f1,fB,pu,fN,vTup,vLst,fTup,fCons,fNil,fPure,fIf,fAnd,fOr,fNot,asB,asT,bAnd,bOr,bNot,fChain,fCall,fCW,gPos,gApp,R.of,R.of2,fM,pu4,tgT,tgCons,tgNil,unp,pureL,sPar,sPar3,fLstC,fFld,oFld,fMeth,insU,sFldS,setFld,fSl,oNone,oSome,tgSub,setU,fIter,fItN,fItS,sFor,getL,getT,VL.getD,keyD,tyB,lstC,oAdd,oSub,oMul,oFdiv,oMod,oPow,oNeg,oLt,oLe,oGt,oGe,oEq,oNe,oIsN,oNotN,oIn,oNotIn,oIx,oLen,oInt,oAbs,oMin,oMax,oStr,oList,oListC,oTuple,oAll,oAny,itemsU,lenN,truB,fJs,oFmt,List.map_cons,List.map_nil,List.length_cons,List.length_nil,List.replicate_succ,List.replicate_zero,List.cons_append,List.nil_append,List.append_nil,List.getElem?_cons_zero,List.getElem?_cons_succ,List.set_cons_zero,List.set_cons_succ,Nat.reduceAdd,Nat.reduceSub,Option.map_some,Option.map_none,if_true,if_false,ite_true,ite_false,Bool.false_eq_true,reduceCtorEq,true_and,and_true,and_self,Bool.not_true,Bool.not_false,Nat.zero_add,Option.bind_some,Option.bind_eq_bind,Option.pure_def,decide_true,decide_false,eq_self,Nat.reduceEqDiff,Nat.reduceLT,Nat.reduceLeDiff,Int.reduceLT,Int.reduceLE,Int.reduceEq,Bool.and_true,Bool.true_and,Bool.false_and,Bool.or_false,Bool.or_true,Bool.true_or,Bool.false_or,sz0,szl0,sz1,szl1,sz2,szl2,sz3,szl3,sz4,szl4,sz5,szl5,sz6,szl6,sz7,szl7,sz8,szl8,sz9,szl9,sz10,szl10,sz11,szl11,sz12,szl12,sz13,szl13,sz14,szl14,sz15,szl15,wipeE,thingP]⟩
  | set t p v=>exact ⟨_,rfl,by simp only [fnM,sSeq,sRet,sRetN,sExpr,sIf,sNil,sNo,sAsg,tgN,bndS,bnd,vVar,vC,f2,f1,fB,pu,fN,vTup,vLst,fTup,fCons,fNil,fPure,fIf,fAnd,fOr,fNot,asB,asT,bAnd,bOr,bNot,fChain,fCall,fCW,gPos,gApp,R.of,R.of2,fM,pu4,tgT,tgCons,tgNil,unp,pureL,sPar,sPar3,fLstC,fFld,oFld,fMeth,insU,sFldS,setFld,fSl,oNone,oSome,tgSub,setU,fIter,fItN,fItS,sFor,getL,getT,VL.getD,keyD,tyB,lstC,oAdd,oSub,oMul,oFdiv,oMod,oPow,oNeg,oLt,oLe,oGt,oGe,oEq,oNe,oIsN,oNotN,oIn,oNotIn,oIx,oLen,oInt,oAbs,oMin,oMax,oStr,oList,oListC,oTuple,oAll,oAny,itemsU,lenN,truB,fJs,oFmt,List.map_cons,List.map_nil,List.length_cons,List.length_nil,List.replicate_succ,List.replicate_zero,List.cons_append,List.nil_append,List.append_nil,List.getElem?_cons_zero,List.getElem?_cons_succ,List.set_cons_zero,List.set_cons_succ,Nat.reduceAdd,Nat.reduceSub,Option.map_some,Option.map_none,if_true,if_false,ite_true,ite_false,Bool.false_eq_true,reduceCtorEq,true_and,and_true,and_self,Bool.not_true,Bool.not_false,Nat.zero_add,Option.bind_some,Option.bind_eq_bind,Option.pure_def,decide_true,decide_false,eq_self,Nat.reduceEqDiff,Nat.reduceLT,Nat.reduceLeDiff,Int.reduceLT,Int.reduceLE,Int.reduceEq,Bool.and_true,Bool.true_and,Bool.false_and,Bool.or_false,Bool.or_true,Bool.true_or,Bool.false_or,sz0,szl0,sz1,szl1,sz2,szl2,sz3,szl3,sz4,szl4,sz5,szl5,sz6,szl6,sz7,szl7,sz8,szl8,sz9,szl9,sz10,szl10,sz11,szl11,sz12,szl12,sz13,szl13,sz14,szl14,sz15,szl15,wipeE,eqB,isSet],fun e=>by simp only [fnM,sSeq,sRet,sRetN,sExpr,sIf,sNil,sNo,sAsg,tgN,bndS,bnd,vVar,vC,f2,f1,fB,pu,fN,vTup,vLst,fTup,fCons,fNil,fPure,fIf,fAnd,fOr,fNot,asB,asT,bAnd,bOr,bNot,fChain,fCall,fCW,gPos,gApp,R.of,R.of2,fM,pu4,tgT,tgCons,tgNil,unp,pureL,sPar,sPar3,fLstC,fFld,oFld,fMeth,insU,sFldS,setFld,fSl,oNone,oSome,tgSub,setU,fIter,fItN,fItS,sFor,getL,getT,VL.getD,keyD,tyB,lstC,oAdd,oSub,oMul,oFdiv,oMod,oPow,oNeg,oLt,oLe,oGt,oGe,oEq,oNe,oIsN,oNotN,oIn,oNotIn,oIx,oLen,oInt,oAbs,oMin,oMax,oStr,oList,oListC,oTuple,oAll,oAny,itemsU,lenN,truB,fJs,oFmt,List.map_cons,List.map_nil,List.length_cons,List.length_nil,List.replicate_succ,List.replicate_zero,List.cons_append,List.nil_append,List.append_nil,List.getElem?_cons_zero,List.getElem?_cons_succ,List.set_cons_zero,List.set_cons_succ,Nat.reduceAdd,Nat.reduceSub,Option.map_some,Option.map_none,if_true,if_false,ite_true,ite_false,Bool.false_eq_true,reduceCtorEq,true_and,and_true,and_self,Bool.not_true,Bool.not_false,Nat.zero_add,Option.bind_some,Option.bind_eq_bind,Option.pure_def,decide_true,decide_false,eq_self,Nat.reduceEqDiff,Nat.reduceLT,Nat.reduceLeDiff,Int.reduceLT,Int.reduceLE,Int.reduceEq,Bool.and_true,Bool.true_and,Bool.false_and,Bool.or_false,Bool.or_true,Bool.true_or,Bool.false_or,sz0,szl0,sz1,szl1,sz2,szl2,sz3,szl3,sz4,szl4,sz5,szl5,sz6,szl6,sz7,szl7,sz8,szl8,sz9,szl9,sz10,szl10,sz11,szl11,sz12,szl12,sz13,szl13,sz14,szl14,sz15,szl15,wipeE,thingP]⟩
theorem RdAt.setO {r i j n : Nat} {sec : D} {met parts : List D} (rd : RdAt a st r i j sec met parts) (o : O) (h1 : n ≠ r) (h2 : n ≠ i) (h3 : n ≠ j) : RdAt a (st.set n o) r i j sec met parts :=
 ⟨by rw [List.getElem?_set_ne h1]; exact rd.r0,by rw [List.getElem?_set_ne h2]; exact rd.i0,by rw [List.getElem?_set_ne h3]; exact rd.j0,rd.ri,rd.rj,rd.ij⟩
/-- what a file's text is -/
structure TextOk (s : Str) (ls : List Ln) : Prop where
 ln : linesOf s = ls.map Ln.text
 vd : Vd .non [] ls
 l1 : s.length + 2 ≤ sizeLine
 l2 : ls.length < sizeLine
theorem ev_sinit (h : WF st) {sf : Nat} (hs : st[sf]? = some (.ins a.C_SettingsFile [])) {s : Str} {ls : List Ln} (T : TextOk s ls) :
  ∃ st' j ds,m_SettingsFile_init K a [.ref sf,.d (.str s)] st = .ok (.d .non) st' ∧ st'[sf]? = some (.ins a.C_SettingsFile [("whole",.d (.str s)),("all_parts",.ref j),("parts",.d (.lst ds)),("settings_read",.d (.dct (mergeD [] (kvD (setsL .non ls)))))]) ∧
   st'[j]? = some (.lst ((partsL .non 0 ls).map U.d)) ∧ st.length ≤ j ∧ ∀ n,n ≠ sf → n < st.length → st'[n]? = st[n]?:=by
 have ok:=partsL_ok ls .non 0
 have lsf:=(List.getElem?_eq_some_iff.mp hs).1
 have h0 : WF (st ++ [.ins a.C_Reader []]):=h.push rfl
 obtain ⟨st1,e1,w1,n1,rd1,fr1⟩:=ev_rinit (K:=K) h0 (r:=st.length) new_at
 rw [List.length_append,List.length_singleton] at n1 rd1 fr1
 have el:=ev_lines_of (K:=K) (a:=a) w1 s T.l1
 rw [T.ln,List.map_map] at el
 obtain ⟨y3,y4,st2,met2,e2,fr2,rd2⟩:=ev_lines (K:=K) (u0:=some (.ref sf)) (u1:=some (.d (.str s))) (x5:=none) (x6:=none) ls 0 none none st1 .non [] [] w1 rd1 T.vd (by simpa using T.l2) (by simpa using T.l2)
 rw [List.nil_append] at rd2
 have lp : (partsL .non 0 ls).length ≤ sizeLine:=by
  have : ∀ (ls : List Ln) (s : D) (k : Nat),(partsL s k ls).length = ls.length:=fun ls=>by
   induction ls with
   | nil=>intro s k; rfl
   | cons l ls ih=>intro s k; show (partsL _ _ ls).length + 1 = ls.length + 1; rw [ih]
  rw [this]; exact Nat.le_of_lt T.l2
 have hsf : st2[sf]? = some (.ins a.C_SettingsFile []):=by
  rw [fr2.fr sf (by omega) (by omega) (by omega),fr1 sf (by omega) (by omega),List.getElem?_append_left lsf]; exact hs
 have n2:=fr2.len.trans n1
 let A1 : O:=.ins a.C_SettingsFile [(("whole" : Str),.d (.str s))]
 let A2 : O:=.ins a.C_SettingsFile [(("whole" : Str),.d (.str s)),(("all_parts" : Str),.ref (st.length + 1 + 1))]
 have a1 : (st2.set sf A1)[sf]? = some A1:=set_at hsf
 have a2 : ((st2.set sf A1).set sf A2)[sf]? = some A2:=set_at a1
 have rd3:=rd2.setO (n:=sf) A1 (by omega) (by omega) (by omega)
 have rd4:=rd3.setO (n:=sf) A2 (by omega) (by omega) (by omega)
 have w4 : WF ((st2.set sf A1).set sf A2):=(fr2.wf.set rfl).set (by
  show (true && (decide (st.length + 1 + 1 < _) && true)) = true
  rw [List.length_set,n2]
  simp)
 obtain ⟨ds,ep⟩:=ev_parts_of (K:=K) (a:=a) w4 rd4.j0 ok lp
 let A3 : O:=.ins a.C_SettingsFile [(("whole" : Str),.d (.str s)),(("all_parts" : Str),.ref (st.length + 1 + 1)),(("parts" : Str),.d (.lst ds))]
 have a3 : (((st2.set sf A1).set sf A2).set sf A3)[sf]? = some A3:=set_at a2
 have rd5:=rd4.setO (n:=sf) A3 (by omega) (by omega) (by omega)
 have w5 : WF (((st2.set sf A1).set sf A2).set sf A3):=w4.set (by
  show (true && (decide (st.length + 1 + 1 < _) && (true && true))) = true
  rw [List.length_set,List.length_set,n2]
  simp)
 have ec:=ev_comp (K:=K) (u0:=some (.ref sf)) (u1:=some (.d (.str s))) (x3:=y3) (x4:=y4) (x5:=none) (x6:=none) w5 rd5 ok lp
 have ek:=pairs_ok2 ls .non 0
 let A4 : O:=.ins a.C_SettingsFile [(("whole" : Str),.d (.str s)),(("all_parts" : Str),.ref (st.length + 1 + 1)),(("parts" : Str),.d (.lst ds)),(("settings_read" : Str),.d (.dct (mergeD [] (kvD (setsL .non ls)))))]
 have a4 : ((((st2.set sf A1).set sf A2).set sf A3).set sf A4)[sf]? = some A4:=set_at a3
 have rd6:=rd5.setO (n:=sf) A4 (by omega) (by omega) (by omega)
 refine ⟨(((st2.set sf A1).set sf A2).set sf A3).set sf A4,st.length + 1 + 1,ds,?_,a4,rd6.j0,by omega,fun n hn hl=>?_⟩
 ·simp only [A1,A2,A3,A4] at *
  unfold m_SettingsFile_init g_SettingsFile_init
  simp_all? only [oIsi,tyN,isi_str,fMake,e1,el,itE,Function.comp_def,e2,hsf,List.mem_cons,List.not_mem_nil,or_false,qf0,qf1,qf2,qf3,a1,a2,a3,rd3.r0,rd4.r0,lk_parts,ep,ec,oDict,ek,wId]
 ·rw [List.getElem?_set_ne (Ne.symm hn),List.getElem?_set_ne (Ne.symm hn),List.getElem?_set_ne (Ne.symm hn),List.getElem?_set_ne (Ne.symm hn),fr2.fr n (by omega) (by omega) (by omega),fr1 n (by omega) (by omega),List.getElem?_append_left hl]
/-- a file as data -/
noncomputable def fileD (a : Ad) (s : Str) (ps ds : List D) (dd : List (Key × D)) : D:=.ins a.C_SettingsFile [("whole",.str s),("all_parts",.lst ps),("parts",.lst ds),("settings_read",.dct dd)]
theorem ev_make (h : WF st) {s : Str} {ls : List Ln} (T : TextOk s ls) {fc : F (List U × List U)} {env : VEnv} (hf : fc env st = .ok ([.d (.str s)],[]) st) :
  ∃ ds,fWr wFrz (fMake a.C_SettingsFile 1 0 gPos (m_SettingsFile_init K a) fc) env st = .ok (.d (fileD a s (partsL .non 0 ls) ds (mergeD [] (kvD (setsL .non ls))))) st:=by
 have h0 : WF (st ++ [.ins a.C_SettingsFile []]):=h.push rfl
 obtain ⟨st',j,ds,e,es,ej,lj,fr⟩:=ev_sinit (K:=K) (a:=a) h0 (sf:=st.length) new_at T
 rw [List.length_append,List.length_singleton] at lj fr
 refine ⟨ds,?_⟩
 have e2 : fMake a.C_SettingsFile 1 0 gPos (m_SettingsFile_init K a) fc env st = .ok (.ref st.length) st':=by
  unfold fMake
  simp_all? only [hf,e]
 have ec : cutS st.length st' = some st:=cut_same h fun n hn=>by rw [fr n (by omega) (by omega),List.getElem?_append_left hn]
 have hj : ¬ j < st.length:=by omega
 have ef : frz st' st.length 4 (.ref st.length) = some (fileD a s (partsL .non 0 ls) ds (mergeD [] (kvD (setsL .non ls)))):=by
  unfold frz
  rw [if_neg (Nat.lt_irrefl _)]
  simp only [es,allM]
  simp only [frz,if_neg hj,ej,allM_frz,Option.map_some,fileD]
 unfold fWr
 rw [e2]
 simp only [wFrz,ef,ec]
theorem ev_ltake {b : Nat} (h : WF st) (hb : Bag st b) {m : Int} (h0 : 0 < m) (h1 : m < 1073741824) :
  ∃ (d : Nat) (st' : Store),m_L_law_take K a [.ref b,.d (.int m)] st = .ok (.d (.int (d : Nat))) st' ∧ (d : Int) < m ∧ Fb st st' b:=by
 obtain ⟨n,x,hb⟩:=hb
 have hs:=fun (n' x' : Int)=>set_at (o':=.lst [.d (.int n'),.d (.int x')]) hb
 by_cases hn : 0 < n
 ·have e0 : 0 ≤ n % m:=Int.emod_nonneg _ (by omega)
  have e1 : n % m < m:=Int.emod_lt_of_pos _ h0
  have fb:=fb_set h hb (n / m) x
  refine ⟨(n % m).toNat,_,?_,by omega,fb⟩
  rw [Int.toNat_of_nonneg e0]
  unfold m_L_law_take g_L_law_take
  simp_all? only [hb,at_0,at_1,decide_eq_true hn,h0,h1,ixn0]
  exact wCut_len fb.wf fb.len _
 ·have hw : (0 : Int) < 64:=by decide
  have h7 : (0 : Int) < 7 ∧ (7 : Int) < 1073741824:=⟨by decide,by decide⟩
  have h64 : (0 : Int) < 64 ∧ (64 : Int) < 1073741824:=⟨by decide,by decide⟩
  have hq1 : (0 : Int) < 2147483399:=by decide
  have hq2 : (0 : Int) < 2147483587:=by decide
  have c1 : ∀ y : Int,((-(2 ^ 64) < y ∧ y < 2 ^ 64) ∨ (-(2 ^ 64) < (40692 : Int) ∧ (40692 : Int) < 2 ^ 64)):=fun y=>.inr ⟨by decide,by decide⟩
  have c2 : ∀ y : Int,((-(2 ^ 64) < y ∧ y < 2 ^ 64) ∨ (-(2 ^ 64) < (69621 : Int) ∧ (69621 : Int) < 2 ^ 64)):=fun y=>.inr ⟨by decide,by decide⟩
  let X : Int:=(x * 40692 + 2909) % 2147483399
  let Y : Int:=X / 7 * 69621 % 2147483587 / 64
  have e0 : 0 ≤ Y % m:=Int.emod_nonneg _ (by omega)
  have e1 : Y % m < m:=Int.emod_lt_of_pos _ h0
  have fb:=fb_set h hb n X
  refine ⟨(Y % m).toNat,_,?_,by omega,fb⟩
  rw [Int.toNat_of_nonneg e0]
  simp only [X,Y] at *
  unfold m_L_law_take g_L_law_take
  simp_all? only [hb,at_0,at_1,decide_eq_false hn,h0,h7,h64,hw,hq1,hq2,c1,c2,ixn1,hs]
  exact wCut_len fb.wf fb.len _
theorem ev_lof {b : Nat} (h : WF st) (hb : Bag st b) {ds : List D} (h0 : 0 < ds.length) (h1 : ds.length < 1073741824) :
  ∃ (x : D) (st' : Store),m_L_law_of K a [.ref b,.d (.lst ds)] st = .ok (.d x) st' ∧ x ∈ ds ∧ Fb st st' b:=by
 obtain ⟨d,st',e,hd,fb⟩:=ev_ltake (K:=K) (a:=a) h hb (m:=(ds.length : Nat)) (by omega) (by omega)
 have hd' : d < ds.length:=by omega
 have ha : atI (ds.map U.d) (d : Int) = some (.d ds[d]):=by
  rw [at_lt (by rw [List.length_map]; exact hd')]
  rw [List.getElem_map]
 refine ⟨ds[d],st',?_,List.getElem_mem hd',fb⟩
 have wc:=wFrz_d fb.wf ds[d]
 rw [fb.len] at wc
 unfold m_L_law_of g_L_law_of
 simp_all? only [List.length_map,e,ha,wc]
theorem ev_bagloop {u0 u1 u2 : Option U} : ∀ (ns : List Int) (k : Nat) (x : Int) (x4 x5 : Option U),∃ (x' : Int) (y4 y5 : Option U),loopL (tgT 2 (tgCons (tgN 4) (tgCons (tgN 5) tgNil))) (b_L_law_bag_1 K a) (pairsFrom k (ns.map .int)) [u0,u1,u2,some (.d (.int x)),x4,x5] st = .ok [u0,u1,u2,some (.d (.int x')),y4,y5] .nx st
 | [],k,x,x4,x5=>⟨x,x4,x5,rfl⟩
 | n :: ns,k,x,x4,x5=>by
  have c1 : ∀ y : Int,((-(2 ^ 64) < y ∧ y < 2 ^ 64) ∨ (-(2 ^ 64) < (40014 : Int) ∧ (40014 : Int) < 2 ^ 64)):=fun y=>.inr ⟨by decide,by decide⟩
  have c2 : ∀ y : Int,((-(2 ^ 64) < (83 : Int) ∧ (83 : Int) < 2 ^ 64) ∨ (-(2 ^ 64) < y ∧ y < 2 ^ 64)):=fun y=>.inl ⟨by decide,by decide⟩
  have hq : (0 : Int) < 2147483563:=by decide
  have hq5 : (0 : Int) < 2147483563:=by decide
  obtain ⟨x',y4,y5,e⟩:=ev_bagloop (u0:=u0) (u1:=u1) (u2:=u2) ns (k + 1) ((x * 40014 + n % 2147483563 + 83 * (k : Nat) + 7) % 2147483563) (some (.d (.int (k : Nat)))) (some (.d (.int n)))
  refine ⟨x',y4,y5,?_⟩
  rw [List.map_cons,pairsFrom,loopL]
  have eb : b_L_law_bag_1 K a [u0,u1,u2,some (.d (.int x)),some (.d (.int (k : Nat))),some (.d (.int n))] st = .ok [u0,u1,u2,some (.d (.int ((x * 40014 + n % 2147483563 + 83 * (k : Nat) + 7) % 2147483563))),some (.d (.int (k : Nat))),some (.d (.int n))] .nx st:=by
   unfold b_L_law_bag_1
   simp_all? only [c1,c2,hq,hq5]
  simp_all? only [eb,e]
theorem ev_lbag (h : WF st) (ns : List Int) (hn : ns.length ≤ 63) (t : Nat) (ht : t < 64) : ∃ n x : Int,m_L_law_bag K a [.d (.scr ns),.d (.int (t : Nat))] st = .ok (.ref st.length) (st ++ [.lst [.d (.int n),.d (.int x)]]):=by
 have c1 : ((-(2 ^ 64) < (4093 : Int) ∧ (4093 : Int) < 2 ^ 64) ∨ (-(2 ^ 64) < ((t : Nat) : Int) ∧ ((t : Nat) : Int) < 2 ^ 64)):=.inl ⟨by decide,by decide⟩
 have c3 : (0 : Int) ≤ 18 ∧ (18 : Int) ≤ 1000000 ∧ (10 : Int).natAbs < 2 ^ 64:=⟨by decide,by decide,by decide⟩
 obtain ⟨ms,hms⟩ : ∃ ms : List Int,cutG (ns.map fun i=>U.d (.int i)) none (some 40) = ms.map fun i=>U.d (.int i):=by
  rw [cutG_map (fun i=>U.d (.int i)) ns]; exact ⟨_,rfl⟩
 have fin : ∀ (n x : Int),wKeep st.length (.ref st.length) (st ++ [.lst [.d (.int n),.d (.int x)]]) = .ok (.ref st.length) (st ++ [.lst [.d (.int n),.d (.int x)]]):=fun n x =>
  wKeep_of (ds:=[.int n,.int x]) h (by rw [new_at]; rfl) (Nat.le_refl _) fun m hm=>List.getElem?_append_left hm
 obtain ⟨c,hc0⟩ : ∃ c : Int,∀ x' y4 y5,loopL (tgT 2 (tgCons (tgN 4) (tgCons (tgN 5) tgNil))) (b_L_law_bag_1 K a) (pairsFrom 0 (ms.map .int)) [some (.d (.scr ns)),some (.d (.int (t : Nat))),some (.d (.int c)),some (.d (.int (4093 * (t : Nat) + 47))),none,none] st = .ok [some (.d (.scr ns)),some (.d (.int (t : Nat))),some (.d (.int c)),some (.d (.int x')),y4,y5] .nx st →
   ∃ n x : Int,m_L_law_bag K a [.d (.scr ns),.d (.int (t : Nat))] st = .ok (.ref st.length) (st ++ [.lst [.d (.int n),.d (.int x)]]):=by
  by_cases hl : (t : Int) < (ns.length : Nat)
  ·have ha : ∃ c,atI (ns.map fun i=>U.d (.int i)) (t : Int) = some (.d (.int c)):=by
    rw [at_lt (by rw [List.length_map]; omega)]
    exact ⟨ns[t]'(by omega),by rw [List.getElem_map]⟩
   obtain ⟨c,ha⟩:=ha
   refine ⟨c,fun x' y4 y5 e=>?_⟩
   by_cases hc : (10 : Int) ^ (Int.toNat 18) ≤ (if c < 0 then -c else c)
   ·refine ⟨if c < 0 then -c else c,x',?_⟩
    unfold m_L_law_bag g_L_law_bag
    simp_all? only [List.length_map,decide_eq_true hl,ha,c1,oSl,hms,pure_ints,itE,e,c3,decide_eq_true hc]
    exact fin _ _
   ·refine ⟨0,x',?_⟩
    unfold m_L_law_bag g_L_law_bag
    simp_all? only [List.length_map,decide_eq_true hl,ha,c1,oSl,hms,pure_ints,itE,e,c3,decide_eq_false hc]
    exact fin _ _
  ·refine ⟨0,fun x' y4 y5 e=>⟨0,x',?_⟩⟩
   have hc : ¬ ((10 : Int) ^ (Int.toNat 18) ≤ (if (0 : Int) < 0 then -0 else 0)):=by decide
   unfold m_L_law_bag g_L_law_bag
   simp_all? only [List.length_map,decide_eq_false hl,c1,oSl,hms,pure_ints,itE,e,c3,decide_eq_false hc]
   exact fin _ _
 obtain ⟨x',y4,y5,e⟩:=ev_bagloop (K:=K) (a:=a) (st:=st) (u0:=some (.d (.scr ns))) (u1:=some (.d (.int (t : Nat)))) (u2:=some (.d (.int c))) ms 0 (4093 * (t : Nat) + 47) none none
 exact hc0 x' y4 y5 e
inductive En where
 | sec (h : Str) | plc (x : Str) | kp (m : Int) (p : Str)
 deriving DecidableEq
noncomputable def En.D : En → D
 | .sec h=>.tup [.str "section",.str h]
 | .plc x=>.tup [.str "place",.str x]
 | .kp m p=>.tup [.str "kept",.tup [.int m,.str p]]
noncomputable def En.P : En → PyData
 | .sec h=>.tuple [.str "section",.str h]
 | .plc x=>.tuple [.str "place",.str x]
 | .kp m p=>.tuple [.str "kept",.tuple [.int m,.str p]]
noncomputable def En.ok : En → Prop
 | .sec h=>PyData.strOk h = true
 | .plc x=>PyData.strOk x = true
 | .kp _ p=>PyData.strOk p = true
theorem En.toP (e : En) : toP e.D = some e.P:=by cases e <;> rfl
theorem En.toPs : ∀ es : List En,toPs (es.map En.D) = some (es.map En.P)
 | []=>rfl
 | e :: es=>by
  show (match VL.toP e.D,VL.toPs (es.map En.D) with
   | some p,some ps=>some (p :: ps)
   | _,_=>none) = _
  rw [En.toP,En.toPs es]
  rfl
theorem so1 : PyData.strOk "section" = true:=by decide +kernel
theorem so2 : PyData.strOk "place" = true:=by decide +kernel
theorem so3 : PyData.strOk "kept" = true:=by decide +kernel
theorem En.lay {e : En} (h : e.ok) : e.P.canLay0 = true:=by
 cases e with
 | sec x=>have h' : PyData.strOk x = true:=h; simp [En.P,PyData.canLay0,PyData.canLayAll0,so1,h']
 | plc x=>have h' : PyData.strOk x = true:=h; simp [En.P,PyData.canLay0,PyData.canLayAll0,so2,h']
 | kp m x=>have h' : PyData.strOk x = true:=h; simp [En.P,PyData.canLay0,PyData.canLayAll0,so3,h']
theorem En.depth (e : En) : e.P.depth ≤ 2:=by cases e <;> simp [En.P,PyData.depth,PyData.depthAll]
theorem En.shaped {e : En} (h : e.ok) : SeqAt.shaped e.P = true:=by
 unfold SeqAt.shaped
 have:=e.depth
 rw [En.lay h,Bool.true_and,decide_eq_true_eq]
 omega
theorem En.layAll : ∀ {es : List En},(∀ e ∈ es,e.ok) → PyData.canLayAll0 (es.map En.P) = true
 | [],_=>rfl
 | e :: es,h=>by
  rw [List.map_cons]
  simp [PyData.canLayAll0,En.lay (h e (List.mem_cons_self ..)),En.layAll fun x hx=>h x (List.mem_cons_of_mem _ hx)]
theorem En.depthAll : ∀ (es : List En),PyData.depthAll (es.map En.P) ≤ 2
 | []=>by simp [PyData.depthAll]
 | e :: es=>by
  have:=e.depth
  have:=En.depthAll es
  rw [List.map_cons]
  simp [PyData.depthAll]
  omega
theorem En.shapedL {es : List En} (h : ∀ e ∈ es,e.ok) : SeqAt.shaped (.list (es.map En.P)) = true:=by
 unfold SeqAt.shaped
 have:=En.depthAll es
 simp [PyData.canLay0,PyData.depth,En.layAll h]
 omega
theorem sec_place : (("section" : Str) == ("place" : Str)) = false:=by decide +kernel
theorem sec_kept : (("section" : Str) == ("kept" : Str)) = false:=by decide +kernel
theorem place_sec : (("place" : Str) == ("section" : Str)) = false:=by decide +kernel
theorem place_kept : (("place" : Str) == ("kept" : Str)) = false:=by decide +kernel
theorem kept_sec : (("kept" : Str) == ("section" : Str)) = false:=by decide +kernel
theorem kept_place : (("kept" : Str) == ("place" : Str)) = false:=by decide +kernel
theorem eqv_tup (a b : List PyData) : PyData.eqv (.tuple a) (.tuple b) = PyData.eqvAll a b:=by simp [PyData.eqv]
theorem eqv_cons (a b : List PyData) (x y : PyData) : PyData.eqvAll (x :: a) (y :: b) = (PyData.eqv x y && PyData.eqvAll a b):=by simp [PyData.eqvAll]
theorem eqv_ne {e f : En} (h : e ≠ f) : PyData.eqv e.P f.P = false:=by
 cases e with
 | sec x=>cases f with
  | sec y=>simp only [En.P,eqv_tup,eqv_cons,eqv_str]; simp; intro z; exact absurd (congrArg En.sec z) h
  | plc y=>simp only [En.P,eqv_tup,eqv_cons,eqv_str,sec_place,Bool.false_and]
  | kp m y=>simp only [En.P,eqv_tup,eqv_cons,eqv_str,sec_kept,Bool.false_and]
 | plc x=>cases f with
  | sec y=>simp only [En.P,eqv_tup,eqv_cons,eqv_str,place_sec,Bool.false_and]
  | plc y=>simp only [En.P,eqv_tup,eqv_cons,eqv_str]; simp; intro z; exact absurd (congrArg En.plc z) h
  | kp m y=>simp only [En.P,eqv_tup,eqv_cons,eqv_str,place_kept,Bool.false_and]
 | kp m x=>cases f with
  | sec y=>simp only [En.P,eqv_tup,eqv_cons,eqv_str,kept_sec,Bool.false_and]
  | plc y=>simp only [En.P,eqv_tup,eqv_cons,eqv_str,kept_place,Bool.false_and]
  | kp n y =>
   simp only [En.P,eqv_tup,eqv_cons,eqv_str,eqv_int]
   simp
   intro z1 z2
   subst z1; subst z2
   exact absurd rfl h
theorem En.new {es : List En} {e : En} (h : ∀ e ∈ es,e.ok) (he : e.ok) (hn : e ∉ es) : NewIn (es.map En.D) e.D :=
 ⟨es.map En.P,e.P,En.toPs es,En.toP e,En.shaped he,En.shapedL h,by
  rw [List.any_map]
  refine List.any_eq_false.mpr fun f hf=>?_
  show ¬ (PyData.eqv f.P e.P = true)
  rw [eqv_ne (fun z=>hn (by rw [← z]; exact hf))]
  exact Bool.false_ne_true⟩
section
variable {f fx fy : F U} {g g1 g2 : G} {env env1 : VEnv} {s s1 s2 : Store} {u y : U} {n p : Nat} {r : RS}
theorem asgA (e : f env s = .ok u s1) : sAsg f (tgN n) env s = .ok (env.set n (some u)) .nx s1:=by
 unfold sAsg bndS
 rw [e]
 rfl
theorem seqA (e : f env s = .ok u s1) (h : g (env.set n (some u)) s1 = r) : sSeq (sAsg f (tgN n)) g env s = r:=by
 unfold sSeq
 rw [asgA e]
 exact h
theorem seqG (e : g1 env s = .ok env1 .nx s1) (h : g2 env1 s1 = r) : sSeq g1 g2 env s = r:=by
 unfold sSeq
 rw [e]
 exact h
theorem retA (e : f env s = .ok u s1) : sRet f env s = .ok env (.rt u) s1:=by
 unfold sRet bndS
 rw [e]
theorem appE {xs : List U} (h1 : fx env s = .ok (.ref p) s) (h2 : fy env s = .ok y s1) (hg0 : s[p]? = some (.lst xs)) (hg : s1[p]? = some (.lst xs)) (hz : xs.length < sizeLine) : sExpr (fM "list" mAppend fx (fCons fy fNil)) env s = .ok env .nx (s1.set p (.lst (xs ++ [y]))):=by
 have ht : tyB "list" s (.ref p) = true:=by
  unfold tyB
  simp only [hg0]
  rfl
 have hf : fCons fy fNil env s = .ok [y] s1:=by
  unfold fCons fNil fPure bnd
  rw [h2]
 have hm : mAppend (.ref p) [y] s1 = some (.d .non,s1.set p (.lst (xs ++ [y]))):=by
  unfold mAppend lstC
  simp only [hg,if_pos hz]
 unfold sExpr bndS fM bnd
 rw [h1]
 simp only [ht,if_true,hf,hm]
 rfl
theorem loopN {us : List U} {env2 : VEnv} (h2 : g (env.set n (some u)) s = .ok env2 .nx s2) (h3 : loopL (tgN n) g us env2 s2 = r) : loopL (tgN n) g (u :: us) env s = r:=by
 have h1 : tgN n u env s = .ok (env.set n (some u)) .nx s:=rfl
 unfold loopL
 rw [h1]
 simp only
 rw [h2]
 exact h3
theorem f2A {o : P2} {x v : U} (h1 : fx env s = .ok x s1) (h2 : fy env s1 = .ok y s2) (h : o x y s2 = some v) : f2 o fx fy env s = .ok v s2:=by
 unfold f2 bnd
 rw [h1]
 simp only
 rw [h2]
 simp only [h,R.of]
theorem consA {fs : F (List U)} {us : List U} (h1 : fx env s = .ok u s1) (h2 : fs env s1 = .ok us s2) : fCons fx fs env s = .ok (u :: us) s2:=by
 unfold fCons bnd
 rw [h1]
 simp only
 rw [h2]
 rfl
theorem cons1 (h1 : fx env s = .ok u s1) : fCons fx fNil env s = .ok [u] s1:=consA h1 rfl
theorem callA {fs : F (List U)} {us : List U} {m : Nat} {mf : List U → M U} (h1 : fs env s = .ok us s1) (hl : us.length = m) (h : mf us s1 = .ok u s2) : fCall m 0 gPos mf (fCW fs fNil) env s = .ok u s2:=by
 have e : fCW fs fNil env s = .ok (us,[]) s1:=by
  unfold fCW bnd
  rw [h1]
  rfl
 unfold fCall bnd
 rw [e]
 simp only [hl,List.length_nil,and_self,if_true,gPos]
 exact h
theorem tupA {fs : F (List U)} {ds : List D} (h : fs env s = .ok (ds.map U.d) s1) (hz : ds.length ≤ sizeLine) : fTup fs env s = .ok (.d (.tup ds)) s1:=by
 unfold fTup bnd
 rw [h]
 simp only [pureL_map,if_pos hz]
theorem fnA {w : Wr} {us : List U} (h : g (us.map some ++ List.replicate (n - us.length) none) s = .ok env1 (.rt u) s1) : fnM n g w us s = w s.length u s1:=by
 unfold fnM
 rw [h]
theorem itRn {m : Nat} (h : m < 1000) : itR [.d (.int ((m : Nat) : Int))] = some (.lst ((List.range m).map fun i=>U.d (.int (((0 + i : Nat)) : Int)))):=by
 rw [itR_eq h]
 congr 3
theorem f1A {o : P1} {x v : U} (h1 : fx env s = .ok x s1) (h : o x s1 = some v) : f1 o fx env s = .ok v s1:=by
 unfold f1 bnd
 rw [h1]
 simp only [h,R.of]
theorem asBA {k : Bool} (h : f env s = .ok (.d (.bl k)) s1) : asB f env s = .ok k s1:=by
 unfold asB bnd
 rw [h]
theorem ifT {c : F Bool} (h : c env s = .ok true s1) (h2 : g1 env s1 = r) : sIf c g1 g2 env s = r:=by
 unfold sIf bndS
 rw [h]
 exact h2
theorem ifF {c : F Bool} (h : c env s = .ok false s1) (h2 : g2 env s1 = r) : sIf c g1 g2 env s = r:=by
 unfold sIf bndS
 rw [h]
 exact h2
theorem parA {fs : F (List U)} {i j : Nat} {u w : U} (h : fs env s = .ok [u,w] s1) : sPar i j fs env s = .ok ((env.set i (some u)).set j (some w)) .nx s1:=by
 unfold sPar bndS
 rw [h]
theorem cwA {f g : F (List U)} {us ws : List U} (h1 : f env s = .ok us s1) (h2 : g env s1 = .ok ws s2) : fCW f g env s = .ok (us,ws) s2:=by
 unfold fCW bnd
 rw [h1]
 simp only
 rw [h2]
 rfl
theorem strM {x : Str} {fs : F (List U)} {us : List U} {mt : U → List U → Store → Option U} {v : U} (h1 : fx env s = .ok (.d (.str x)) s) (h2 : fs env s = .ok us s1) (h : mt (.d (.str x)) us s1 = some v) : fM "str" (pu4 mt) fx fs env s = .ok v s1:=by
 have ht : tyB "str" s (.d (.str x)) = true:=rfl
 unfold fM bnd
 rw [h1]
 simp only [ht,if_true,h2,pu4,h,Option.map_some]
 rfl
theorem fnZ {us : List U} {x : D} (hw : WF s) (h : g (us.map some ++ List.replicate (n - us.length) none) s = .ok env1 (.rt (.d x)) (s ++ s1)) : fnM n g wFrz us s = .ok (.d x) s:=by
 rw [fnA h]
 unfold wFrz
 rw [frz_dd,nf_cut hw]
theorem puA {o : List U → Store → Option U} {fs : F (List U)} {us : List U} {v : U} (h1 : fs env s = .ok us s1) (h : o us s1 = some v) : fB (pu o) fs env s = .ok v s1:=by
 unfold fB bnd
 rw [h1]
 simp only [pu,h,Option.map_some]
 rfl
theorem seqR {u : U} (e : g1 env s = .ok env1 (.rt u) s1) : sSeq g1 g2 env s = .ok env1 (.rt u) s1:=by
 unfold sSeq
 rw [e]
end
section
variable {f fx fy : F U} {g g1 g2 : G} {env env1 : VEnv} {s s1 s2 : Store} {u y : U} {n p : Nat} {r : RS}
theorem methA {C : Addr} {nm : Str} {k : Nat} {mf : List U → M U} {fs : F (List U)} {us : List U} {ws : List (Str × U)} {v : U} (h1 : fx env s = .ok u s) (hi : insU s u = some (C,ws)) (hl : ws.lookup nm = none) (h2 : fs env s = .ok us s1) (hk : us.length = k) (h : mf (u :: us) s1 = .ok v s2) : fMeth C nm k 0 gPos mf fx (fCW fs fNil) env s = .ok v s2:=by
 have e : fCW fs fNil env s = .ok (us,[]) s1:=cwA h2 rfl
 unfold fMeth bnd
 rw [h1]
 simp only [hi,hl,and_self,if_true]
 rw [e]
 simp only [hk,List.length_nil,and_self,if_true,gPos]
 exact h
theorem propA {C : Addr} {mf : List U → M U} {ws : List (Str × U)} {v : U} (h1 : fx env s = .ok u s1) (hi : insU s1 u = some (C,ws)) (h : mf [u] s1 = .ok v s2) : fProp C mf fx env s = .ok v s2:=by
 unfold fProp bnd
 rw [h1]
 simp only [hi,if_true,h]
end
section
variable {f fx fy : F U} {g g1 g2 : G} {env env1 : VEnv} {s s1 s2 : Store} {u y : U}
theorem asTA {k : Bool} (h : f env s = .ok u s1) (h2 : truB s1 u = some k) : asT f env s = .ok k s1:=by
 unfold asT bnd
 rw [h]
 simp only [h2,R.of]
theorem bNotA {b : F Bool} {k : Bool} (h : b env s = .ok k s1) : bNot b env s = .ok (!k) s1:=by
 unfold bNot bnd
 rw [h]
theorem bOrF {b1 b2 : F Bool} {k : Bool} (h1 : b1 env s = .ok false s1) (h2 : b2 env s1 = .ok k s2) : bOr b1 b2 env s = .ok k s2:=by
 unfold bOr bnd
 rw [h1]
 exact h2
theorem andT {v : U} (h1 : fx env s = .ok (.d (.bl true)) s1) (h2 : fy env s1 = .ok v s2) : fAnd fx fy env s = .ok v s2:=by
 unfold fAnd bnd
 rw [h1]
 exact h2
theorem lstDA {fs : F (List U)} {ds : List D} (h : fs env s = .ok (ds.map U.d) s1) (hz : ds.length ≤ sizeLine) : fN vLst fs env s = .ok (.d (.lst ds)) s1:=by
 unfold fN bnd
 rw [h]
 simp only [vLst,pureL_map,if_pos hz,R.of]
end
section
variable {K : PySem.W.Frag} {f fx fy fa fb fc : F U} {g g1 g2 gb : G} {o o' : P2} {tg : U → G} {env env1 env2 : VEnv} {s s1 s2 s3 : Store} {u v w x y z : U} {us : List U} {r : RS} {c : F Bool} {k : Value} {cl : Value} {xf : XF} {i n : Nat} {gs : Addr → Option Addr → Value → G} {ks : List (Value × Nat × (Addr → Option Addr → Value → G))}
/-- a def that leaves the number of cells as it was -/
theorem fnL {d : D} (w : WF s1) (hl : s1.length = s.length) (h : g (us.map some ++ List.replicate (n - us.length) none) s = .ok env1 (.rt (.d d)) s1) : fnM n g wFrz us s = .ok (.d d) s1:=by
 rw [fnA h]
 unfold wFrz
 rw [frz_dd,← hl,w.cut]
theorem iterA {ds : List D} (h : fx env s = .ok (.d (.lst ds)) s1) : fIter fx env s = .ok (.lst (ds.map U.d)) s1:=by
 unfold fIter bnd
 rw [h]
 rfl
end
theorem oLt_ii {i j : Int} {b : Bool} (h : decide (i < j) = b) : oLt (.d (.int i)) (.d (.int j)) st = some (.d (.bl b)):=by rw [← h]; rfl
/-- a loop of which each turn ends well -/
theorem loopI {n : Nat} {g : G} (I : VEnv → Store → Prop) : ∀ (us : List U),(∀ u ∈ us,∀ (env : VEnv) (s : Store),I env s → ∃ env1 s1,g (env.set n (some u)) s = .ok env1 .nx s1 ∧ I env1 s1) → ∀ (env : VEnv) (s : Store),I env s → ∃ env1 s1,loopL (tgN n) g us env s = .ok env1 .nx s1 ∧ I env1 s1
 | [],_,env,s,i=>⟨env,s,rfl,i⟩
 | u :: us,h,env,s,i=>by
  obtain ⟨env1,s1,e1,i1⟩:=h u List.mem_cons_self env s i
  obtain ⟨env2,s2,e2,i2⟩:=loopI I us (fun v hv=>h v (List.mem_cons_of_mem _ hv)) env1 s1 i1
  exact ⟨env2,s2,loopN e1 e2,i2⟩
theorem sDlen (ss : List Str) : (sD ss).length = ss.length:=by unfold sD; rw [List.length_map]
theorem sUlen (ss : List Str) : (sU ss).length = ss.length:=by unfold sU sD; rw [List.length_map,List.length_map]
theorem sUapp (xs ys : List Str) : sU xs ++ sU ys = sU (xs ++ ys):=by unfold sU sD; rw [List.map_append,List.map_append]
theorem pure_sU (xs : List Str) : pureL (sU xs) = some (sD xs):=pureL_map _
theorem slTake (ss : List Str) (d : Nat) : oSl (.d (.lst (sD ss))) none (some (d : Int)) st = some (.d (.lst (sD (ss.take d)))):=by
 show (match pureL (cutG ((sD ss).map U.d) none (some (d : Int))) with
   | some ds=>some (U.d (.lst ds))
   | none=>none) = _
 have : cutG ((sD ss).map U.d) none (some (d : Int)) = sU (ss.take d):=by
  rw [cutG_map U.d (sD ss),cutTake]
  rfl
 rw [this,pure_sU]
theorem cutDrop {ss : List Str} {d : Nat} (h : d ≤ ss.length) : cutG (sD ss) (some (d : Int)) none = sD (ss.drop d):=by
 unfold cutG HT.sIx sD
 have h1 : ¬ ((d : Int) < 0):=by omega
 simp only [List.length_map]
 simp [List.map_drop]
 rw [if_neg h1,Nat.min_eq_left h]
 exact List.take_of_length_le (by rw [List.length_drop,List.length_map]; exact Nat.le_refl _)
theorem slDrop (ss : List Str) {d : Nat} (h : d ≤ ss.length) : oSl (.d (.lst (sD ss))) (some (d : Int)) none st = some (.d (.lst (sD (ss.drop d)))):=by
 show (match pureL (cutG ((sD ss).map U.d) (some (d : Int)) none) with
   | some ds=>some (U.d (.lst ds))
   | none=>none) = _
 have : cutG ((sD ss).map U.d) (some (d : Int)) none = sU (ss.drop d):=by
  rw [cutG_map U.d (sD ss),cutDrop h]
  rfl
 rw [this,pure_sU]
theorem addL_g {u w : U} {xs ys : List Str} (hu : lstG st u = some (sU xs)) (hw : lstG st w = some (sU ys)) (hl : xs.length + ys.length ≤ 300) : oAddL u w st = some (.d (.lst (sD (xs ++ ys)))):=by
 have hz : (sU xs).length + (sU ys).length ≤ sizeLine:=by rw [sUlen,sUlen]; exact szb hl
 unfold oAddL
 simp only [hu,hw]
 rw [if_pos hz,sUapp,pure_sU]
 rfl
theorem addC_g {u w : U} {xs ys : List Str} (hu : lstG st u = some (sU xs)) (hw : lstG st w = some (sU ys)) (hl : xs.length + ys.length ≤ 300) : vAddC u w st = .ok (.ref st.length) (st ++ [.lst (sU (xs ++ ys))]):=by
 have hz : (sU xs).length + (sU ys).length ≤ sizeLine:=by rw [sUlen,sUlen]; exact szb hl
 unfold vAddC
 simp only [hu,hw]
 rw [if_pos hz,sUapp]
theorem lg_at {n : Nat} {xs : List Str} (h : st[n]? = some (.lst (sU xs))) : lstG st (.ref n) = some (sU xs):=by
 unfold lstG
 simp only [h]
noncomputable def sz60 {n : Nat} (h : n ≤ 60) : n ≤ sizeLine:=Nat.le_trans h (by decide)
noncomputable def plainB (s : Str) : Bool:=!Txt.startswith s "#~" && !decide (s = ("" : Str)) && !Txt.startswith s "#"
noncomputable def secI (s : Str) : Bool:=decide (L2.cutS s none (some 1) = ("[" : Str)) && decide (L2.cutS s (some (-1)) none = ("]" : Str)) && isName (L2.cutS s (some 1) (some (-1)))
noncomputable def setI (s : Str) : Bool:=isName (Txt.partition s " = ").1 && isValue (Txt.partition s " = ").2.2
noncomputable def comB (s : Str) : Bool:=decide (s.length ≤ 60) && (!(s.cps.toList.contains 10) && PyData.strOk s)
noncomputable def remB (s : Str) : Bool:=comB s && (!Txt.startswith s "#~" && (decide (s = ("" : Str)) || Txt.startswith s "#"))
noncomputable def headB (h : Str) : Bool:=comB (Ln.text (.head h)) && (plainB (Ln.text (.head h)) && (secI (Ln.text (.head h)) && decide (L2.cutS (Ln.text (.head h)) (some 1) (some (-1)) = h)))
noncomputable def setB (k v : Str) : Bool:=comB (Ln.text (.set k v)) && (plainB (Ln.text (.set k v)) && (!secI (Ln.text (.set k v)) && (setI (Ln.text (.set k v)) && (decide ((Txt.partition (Ln.text (.set k v)) " = ").1 = k) && (decide ((Txt.partition (Ln.text (.set k v)) " = ").2.2 = v) && decide (k.length ≤ 60))))))
noncomputable def kwB (s w1 p : Str) (n : Int) : Bool:=comB s && (Txt.startswith s "#~" && (isNumber w1 && (decide (intText? w1 = some n) && (decide (w1.length ≤ 640) && (isPlace p && decide (p.length ≤ 60))))))
structure LnG (l : Ln) : Prop where
 ok : l.Ok
 len : l.text.length ≤ 60
 nl : ¬ (10 ∈ TL.tl l.text)
 so : PyData.strOk l.text = true
theorem com_ok {s : Str} (h : comB s = true) : s.length ≤ 60 ∧ ¬ (10 ∈ TL.tl s) ∧ PyData.strOk s = true:=by
 unfold comB at h
 rw [Bool.and_eq_true,Bool.and_eq_true] at h
 refine ⟨of_decide_eq_true h.1,fun z=>?_,h.2.2⟩
 have:=h.2.1
 simp at this
 exact this (by simpa [TL.tl] using z)
theorem plain_ok {s : Str} (h : plainB s = true) : Plain s:=by
 unfold plainB at h
 simp only [Bool.and_eq_true,Bool.not_eq_true',decide_eq_false_iff_not] at h
 exact ⟨h.1.1,h.1.2,h.2⟩
noncomputable def HD : Nat → Str
 | 4=>"net"
 | 5=>"b"
 | _=>"a"
noncomputable def ln : Nat → Ln
 | 0=>.rem "# top" | 1=>.rem "" | 2=>.rem "# c" | 3=>.rem "#"
 | 4=>.head "net" | 5=>.head "b"
 | 6=>.set "a" "1" | 7=>.set "a" "on" | 8=>.set "port" "1" | 9=>.set "port" "on" | 10=>.set "xx" "1" | 11=>.set "xx" "on"
 | 12=>.kept "#~ 2 a.b" 2 "a.b" .non | 13=>.kept "#~ 3 a.b = 1" 3 "a.b" (.str "1") | 14=>.kept "#~ 3 a.b = on" 3 "a.b" (.str "on") | 15=>.kept "#~ 77 x.y" 77 "x.y" .non
 | _=>.head "a"
theorem c17 {P : Nat → Prop} (h0 : P 0) (h1 : P 1) (h2 : P 2) (h3 : P 3) (h4 : P 4) (h5 : P 5) (h6 : P 6) (h7 : P 7) (h8 : P 8) (h9 : P 9) (h10 : P 10) (h11 : P 11) (h12 : P 12) (h13 : P 13) (h14 : P 14) (h15 : P 15) (h16 : P 16) : ∀ i,i < 17 → P i
 | 0,_=>h0 | 1,_=>h1 | 2,_=>h2 | 3,_=>h3 | 4,_=>h4 | 5,_=>h5 | 6,_=>h6 | 7,_=>h7 | 8,_=>h8 | 9,_=>h9 | 10,_=>h10 | 11,_=>h11 | 12,_=>h12 | 13,_=>h13 | 14,_=>h14 | 15,_=>h15 | 16,_=>h16
 | n + 17,h=>absurd h (by omega)
theorem ln_rem {s : Str} (this : remB s = true) : LnG (.rem s):=by
 unfold remB at this
 simp only [Bool.and_eq_true,Bool.not_eq_true',Bool.or_eq_true,decide_eq_true_eq] at this
 obtain ⟨c1,c2,c3⟩:=com_ok this.1
 exact ⟨⟨sz60 c1,this.2⟩,c1,c2,c3⟩
theorem ln_head {h : Str} (this : headB h = true) : LnG (.head h):=by
 unfold headB at this
 simp only [Bool.and_eq_true,decide_eq_true_eq] at this
 obtain ⟨q1,q2,q3,q4⟩:=this
 obtain ⟨c1,c2,c3⟩:=com_ok q1
 refine ⟨⟨sz60 c1,plain_ok q2,?_⟩,c1,c2,c3⟩
 show (if secI (Ln.text (.head h)) = true then D.str (L2.cutS (Ln.text (.head h)) (some 1) (some (-1))) else D.non) = _
 rw [q3,q4]
 rfl
theorem ln_set {k v : Str} (this : setB k v = true) : LnG (.set k v):=by
 unfold setB at this
 simp only [Bool.and_eq_true,Bool.not_eq_true',decide_eq_true_eq] at this
 obtain ⟨q1,q2,q3,q4,q5,q6,q7⟩:=this
 obtain ⟨c1,c2,c3⟩:=com_ok q1
 refine ⟨⟨sz60 c1,plain_ok q2,?_,?_,sz60 q7⟩,c1,c2,c3⟩
 ·show (if secI (Ln.text (.set k v)) = true then _ else D.non) = _
  rw [q3]
  rfl
 ·show (if setI (Ln.text (.set k v)) = true then D.tup [.str (Txt.partition (Ln.text (.set k v)) " = ").1,.str (Txt.partition (Ln.text (.set k v)) " = ").2.2] else D.non) = _
  rw [q4,q5,q6]
  rfl
theorem ln_k0 {s w1 p : Str} {n : Int} (this : kwB s w1 p n = true) (q6 : Txt.split s " " = [("#~" : Str),w1,p]) : LnG (.kept s n p .non):=by
 unfold kwB at this
 simp only [Bool.and_eq_true,decide_eq_true_eq] at this
 obtain ⟨q1,q2,q3,q4,q5,q7,q8⟩:=this
 obtain ⟨c1,c2,c3⟩:=com_ok q1
 exact ⟨⟨sz60 c1,q2,⟨Nat.le_trans (Nat.add_le_add_right c1 2) (by decide),.inl ⟨_,q6,q3,q4,q5,rfl⟩,q7,sz60 q8⟩⟩,c1,c2,c3⟩
theorem ln_k1 {s w1 w p : Str} {n : Int} (this : kwB s w1 p n = true) (q6 : Txt.split s " " = [("#~" : Str),w1,p,("=" : Str),w]) (hv : isValue w = true) (hw : w.length ≤ 60) : LnG (.kept s n p (.str w)):=by
 unfold kwB at this
 simp only [Bool.and_eq_true,decide_eq_true_eq] at this
 obtain ⟨q1,q2,q3,q4,q5,q7,q8⟩:=this
 obtain ⟨c1,c2,c3⟩:=com_ok q1
 exact ⟨⟨sz60 c1,q2,⟨Nat.le_trans (Nat.add_le_add_right c1 2) (by decide),.inr ⟨_,_,q6,q3,q4,q5,hv,sz60 hw,rfl⟩,q7,sz60 q8⟩⟩,c1,c2,c3⟩
theorem lnG : ∀ i,i < 17 → LnG (ln i) :=
 c17 (ln_rem (by decide +kernel)) (ln_rem (by decide +kernel)) (ln_rem (by decide +kernel)) (ln_rem (by decide +kernel)) (ln_head (by decide +kernel)) (ln_head (by decide +kernel))
  (ln_set (by decide +kernel)) (ln_set (by decide +kernel)) (ln_set (by decide +kernel)) (ln_set (by decide +kernel)) (ln_set (by decide +kernel)) (ln_set (by decide +kernel))
  (ln_k0 (w1:="2") (by decide +kernel) (by decide +kernel)) (ln_k1 (w1:="3") (by decide +kernel) (by decide +kernel) (by decide +kernel) (by decide +kernel)) (ln_k1 (w1:="3") (by decide +kernel) (by decide +kernel) (by decide +kernel) (by decide +kernel)) (ln_k0 (w1:="77") (by decide +kernel) (by decide +kernel)) (ln_head (by decide +kernel))
noncomputable def en : Nat → En
 | 4=>.sec "net" | 5=>.sec "b" | 16=>.sec "a"
 | 12=>.kp 2 "a.b" | 13=>.kp 3 "a.b" | 15=>.kp 77 "x.y"
 | 20=>.plc (("net" : Str) ++ ("." : Str) ++ "a") | 21=>.plc (("net" : Str) ++ ("." : Str) ++ "port") | 22=>.plc (("net" : Str) ++ ("." : Str) ++ "xx")
 | 30=>.plc (("b" : Str) ++ ("." : Str) ++ "a") | 31=>.plc (("b" : Str) ++ ("." : Str) ++ "port") | 32=>.plc (("b" : Str) ++ ("." : Str) ++ "xx")
 | 40=>.plc (("a" : Str) ++ ("." : Str) ++ "a") | 41=>.plc (("a" : Str) ++ ("." : Str) ++ "port") | _=>.plc (("a" : Str) ++ ("." : Str) ++ "xx")
noncomputable def IDS : List Nat:=[4,5,16,12,13,15,20,21,22,30,31,32,40,41,42]
theorem en_inj : ∀ i ∈ IDS,∀ j ∈ IDS,en i = en j → i = j:=by decide +kernel
noncomputable def En.okB : En → Bool
 | .sec h=>PyData.strOk h
 | .plc x=>PyData.strOk x
 | .kp _ p=>PyData.strOk p
theorem en_okB : ∀ i ∈ IDS,En.okB (en i) = true:=by decide +kernel
theorem En.of_okB {e : En} (h : e.okB = true) : e.ok:=by cases e <;> exact h
theorem en_ok : ∀ i ∈ IDS,(en i).ok:=fun i hi=>En.of_okB (en_okB i hi)
noncomputable def mid (s i : Nat) : List Nat :=
 if i = 4 ∨ i = 5 ∨ i = 16 then [i] else if 6 ≤ i ∧ i ≤ 11 then [(if s = 4 then 20 else if s = 5 then 30 else 40) + (i - 6) / 2] else if i = 12 then [12] else if i = 13 ∨ i = 14 then [13] else if i = 15 then [15] else []
noncomputable def secD (s : Nat) : D:=if s = 0 then .non else .str (HD s)
noncomputable def nsec (s i : Nat) : Nat:=if i = 4 ∨ i = 5 ∨ i = 16 then i else s
noncomputable def okS (s i : Nat) : Bool:=decide (s ≠ 0 ∨ i < 6 ∨ 11 < i)
noncomputable def SS : List Nat:=[0,4,5,16]
theorem ss4 {P : Nat → Prop} (h0 : P 0) (h4 : P 4) (h5 : P 5) (h6 : P 16) : ∀ s ∈ SS,P s:=fun s hs=>by
 simp only [SS,List.mem_cons,List.not_mem_nil,or_false] at hs
 rcases hs with rfl | rfl | rfl | rfl
 ·exact h0
 ·exact h4
 ·exact h5
 ·exact h6
theorem met_t : ∀ s ∈ SS,∀ i,i < 17 → okS s i = true → (ln i).met (secD s) = (mid s i).map fun j=>(en j).D :=
 ss4 (c17 (fun _=>rfl) (fun _=>rfl) (fun _=>rfl) (fun _=>rfl) (fun _=>rfl) (fun _=>rfl) (fun h=>absurd h (by decide)) (fun h=>absurd h (by decide)) (fun h=>absurd h (by decide)) (fun h=>absurd h (by decide)) (fun h=>absurd h (by decide)) (fun h=>absurd h (by decide)) (fun _=>rfl) (fun _=>rfl) (fun _=>rfl) (fun _=>rfl) (fun _=>rfl))
  (c17 (fun _=>rfl) (fun _=>rfl) (fun _=>rfl) (fun _=>rfl) (fun _=>rfl) (fun _=>rfl) (fun _=>rfl) (fun _=>rfl) (fun _=>rfl) (fun _=>rfl) (fun _=>rfl) (fun _=>rfl) (fun _=>rfl) (fun _=>rfl) (fun _=>rfl) (fun _=>rfl) (fun _=>rfl))
  (c17 (fun _=>rfl) (fun _=>rfl) (fun _=>rfl) (fun _=>rfl) (fun _=>rfl) (fun _=>rfl) (fun _=>rfl) (fun _=>rfl) (fun _=>rfl) (fun _=>rfl) (fun _=>rfl) (fun _=>rfl) (fun _=>rfl) (fun _=>rfl) (fun _=>rfl) (fun _=>rfl) (fun _=>rfl))
  (c17 (fun _=>rfl) (fun _=>rfl) (fun _=>rfl) (fun _=>rfl) (fun _=>rfl) (fun _=>rfl) (fun _=>rfl) (fun _=>rfl) (fun _=>rfl) (fun _=>rfl) (fun _=>rfl) (fun _=>rfl) (fun _=>rfl) (fun _=>rfl) (fun _=>rfl) (fun _=>rfl) (fun _=>rfl))
theorem sec_t (s : Nat) : ∀ i,i < 17 → (ln i).sec (secD s) = secD (nsec s i) :=
 c17 rfl rfl rfl rfl rfl rfl rfl rfl rfl rfl rfl rfl rfl rfl rfl rfl rfl
theorem nsec_ss {s i : Nat} (h : s ∈ SS) : nsec s i ∈ SS:=by
 unfold nsec
 split
 ·rename_i z
  rcases z with rfl | rfl | rfl <;> decide
 ·exact h
theorem in_set {s : Nat} (hs : s ∈ SS) (h0 : s ≠ 0) {k v : Str} (hk : ∀ x ∈ [("net" : Str),"b","a"],(x ++ ("." : Str) ++ k).length ≤ 60) : (Ln.set k v).In (secD s):=by
 have hl : ∀ x ∈ [("net" : Str),"b","a"],x.length ≤ 60 ∧ (x ++ ("." : Str)).length ≤ 60:=by decide +kernel
 have hx : HD s ∈ [("net" : Str),"b","a"]:=by
  simp only [SS,List.mem_cons,List.not_mem_nil,or_false] at hs
  rcases hs with rfl | rfl | rfl | rfl
  ·exact absurd rfl h0
  ·exact .head _
  ·exact .tail _ (.head _)
  ·exact .tail _ (.tail _ (.head _))
 refine ⟨HD s,?_,sz60 (hl _ hx).1,sz60 (hl _ hx).2,sz60 (hk _ hx)⟩
 unfold secD
 rw [if_neg h0]
theorem okS_ne {s i : Nat} (h : okS s i = true) (h6 : 6 ≤ i) (h11 : i ≤ 11) : s ≠ 0:=by
 unfold okS at h
 rw [decide_eq_true_eq] at h
 omega
theorem in_t {s : Nat} (hs : s ∈ SS) : ∀ i,i < 17 → okS s i = true → (ln i).In (secD s) :=
 c17 (fun _=>trivial) (fun _=>trivial) (fun _=>trivial) (fun _=>trivial) (fun _=>trivial) (fun _=>trivial)
  (fun h=>in_set hs (okS_ne h (by decide) (by decide)) (by decide +kernel)) (fun h=>in_set hs (okS_ne h (by decide) (by decide)) (by decide +kernel)) (fun h=>in_set hs (okS_ne h (by decide) (by decide)) (by decide +kernel)) (fun h=>in_set hs (okS_ne h (by decide) (by decide)) (by decide +kernel)) (fun h=>in_set hs (okS_ne h (by decide) (by decide)) (by decide +kernel)) (fun h=>in_set hs (okS_ne h (by decide) (by decide)) (by decide +kernel))
  (fun _=>trivial) (fun _=>trivial) (fun _=>trivial) (fun _=>trivial) (fun _=>trivial)
theorem mid_ids : ∀ s ∈ SS,∀ i,i < 17 → okS s i = true → ∀ j ∈ mid s i,j ∈ IDS:=by
 have h : ∀ s ∈ SS,∀ i : Fin 17,okS s i.val = true → ∀ j ∈ mid s i.val,j ∈ IDS:=by decide +kernel
 exact fun s hs i hi=>h s hs ⟨i,hi⟩
noncomputable def okL : Nat → List Nat → Bool
 | _,[]=>true
 | s,i :: cs=>okS s i && okL (nsec s i) cs
noncomputable def mids : Nat → List Nat → List Nat
 | _,[]=>[]
 | s,i :: cs=>mid s i ++ mids (nsec s i) cs
noncomputable def secs : Nat → List Nat → Nat
 | s,[]=>s
 | s,i :: cs=>secs (nsec s i) cs
theorem vd_of : ∀ (cs : List Nat) (s : Nat) (m : List Nat),s ∈ SS → (∀ i ∈ m,i ∈ IDS) → (∀ i ∈ cs,i < 17) → okL s cs = true → (m ++ mids s cs).Nodup → Vd (secD s) (m.map fun j=>(en j).D) (cs.map ln)
 | [],_,_,_,_,_,_,_=>trivial
 | i :: cs,s,m,hs,hm,hi,ho,hn=>by
  have hi0:=hi i List.mem_cons_self
  have ho2 : okS s i = true ∧ okL (nsec s i) cs = true:=by
   have : (okS s i && okL (nsec s i) cs) = true:=ho
   rwa [Bool.and_eq_true] at this
  have hn2 : (m ++ (mid s i ++ mids (nsec s i) cs)).Nodup:=hn
  rw [← List.append_assoc] at hn2
  have hid:=mid_ids s hs i hi0 ho2.1
  refine ⟨(lnG i hi0).ok,in_t hs i hi0 ho2.1,fun x hx=>?_,?_⟩
  ·rw [met_t s hs i hi0 ho2.1] at hx
   obtain ⟨j,hj,rfl⟩:=List.mem_map.mp hx
   have:=En.new (es:=m.map en) (e:=en j) (fun e he=>by obtain ⟨k,hk,rfl⟩:=List.mem_map.mp he; exact en_ok k (hm k hk)) (en_ok j (hid j hj)) (fun z=>by
    obtain ⟨k,hk,e⟩:=List.mem_map.mp z
    have:=en_inj k (hm k hk) j (hid j hj) e
    subst this
    exact (List.nodup_append.mp (List.nodup_append.mp hn2).1).2.2 k hk k hj rfl)
   rwa [List.map_map] at this
  ·have:=vd_of cs (nsec s i) (m ++ mid s i) (nsec_ss hs) (fun k hk=>(List.mem_append.mp hk).elim (hm k) (hid k)) (fun k hk=>hi k (List.mem_cons_of_mem _ hk)) ho2.2 hn2
   rw [List.map_append] at this
   show Vd ((ln i).sec (secD s)) ((m.map fun j=>(en j).D) ++ (ln i).met (secD s)) (cs.map ln)
   rw [met_t s hs i hi0 ho2.1,sec_t s i hi0]
   exact this
structure Good (cs : List Nat) : Prop where
 lt : ∀ i ∈ cs,i < 17
 ok : okL 0 cs = true
 nd : (mids 0 cs).Nodup
theorem Good.vd {cs : List Nat} (g : Good cs) : Vd .non [] (cs.map ln) :=
 vd_of cs 0 [] (by decide) nofun g.lt g.ok (by rw [List.nil_append]; exact g.nd)
theorem mids_app : ∀ (xs ys : List Nat) (s : Nat),mids s (xs ++ ys) = mids s xs ++ mids (secs s xs) ys
 | [],_,_=>rfl
 | x :: xs,ys,s=>by
  show mid s x ++ mids (nsec s x) (xs ++ ys) = mid s x ++ mids (nsec s x) xs ++ _
  rw [mids_app xs ys,List.append_assoc]
  rfl
theorem okL_app : ∀ (xs ys : List Nat) (s : Nat),okL s (xs ++ ys) = (okL s xs && okL (secs s xs) ys)
 | [],_,_=>by rw [List.nil_append]; rfl
 | x :: xs,ys,s=>by
  show (okS s x && okL (nsec s x) (xs ++ ys)) = (okS s x && okL (nsec s x) xs && _)
  rw [okL_app xs ys,Bool.and_assoc]
  rfl
theorem secs_app : ∀ (xs ys : List Nat) (s : Nat),secs s (xs ++ ys) = secs (secs s xs) ys
 | [],_,_=>rfl
 | x :: xs,ys,s=>secs_app xs ys (nsec s x)
theorem mid15 {s i : Nat} (h : 15 ∈ mid s i) : i = 15:=by
 unfold mid at h
 repeat' split at h
 all_goals (simp only [List.mem_cons,List.not_mem_nil,or_false] at h; try omega)
theorem mids15 : ∀ (cs : List Nat) (s : Nat),15 ∈ mids s cs → 15 ∈ cs
 | i :: cs,s,h=>by
  rcases List.mem_append.mp (show 15 ∈ mid s i ++ mids (nsec s i) cs from h) with q | q
  ·rw [mid15 q]; exact List.mem_cons_self
  ·exact List.mem_cons_of_mem _ (mids15 cs _ q)
theorem Good.ins {xs ys : List Nat} (g : Good (xs ++ ys)) {j : Nat} (hj : j = 1 ∨ j = 3 ∨ j = 15) (h15 : 15 ∉ xs ++ ys) : Good (xs ++ [j] ++ ys):=by
 have hs : nsec (secs 0 xs) j = secs 0 xs:=by rcases hj with rfl | rfl | rfl <;> rfl
 have ho:=g.ok
 rw [okL_app,Bool.and_eq_true] at ho
 have hn:=g.nd
 rw [mids_app] at hn
 have e1 : secs 0 (xs ++ [j]) = secs 0 xs:=by rw [secs_app]; exact hs
 refine ⟨fun i hi=>?_,?_,?_⟩
 ·rcases List.mem_append.mp hi with q | q
  ·rcases List.mem_append.mp q with q | q
   ·exact g.lt i (List.mem_append_left _ q)
   ·rw [List.mem_singleton.mp q]; omega
  ·exact g.lt i (List.mem_append_right _ q)
 ·rw [okL_app,okL_app,e1,ho.1,ho.2]
  rcases hj with rfl | rfl | rfl <;> simp [okL,okS]
 ·rw [mids_app,mids_app,e1]
  show (mids 0 xs ++ (mid (secs 0 xs) j ++ []) ++ mids (secs 0 xs) ys).Nodup
  rw [List.append_nil]
  rcases hj with rfl | rfl | rfl
  ·rw [show mid (secs 0 xs) 1 = [] from rfl,List.append_nil]; exact hn
  ·rw [show mid (secs 0 xs) 3 = [] from rfl,List.append_nil]; exact hn
  ·rw [show mid (secs 0 xs) 15 = [15] from rfl,List.append_assoc]
   have hp : (mids 0 xs ++ ([15] ++ mids (secs 0 xs) ys)).Perm (15 :: (mids 0 xs ++ mids (secs 0 xs) ys)):=List.perm_middle
   refine hp.nodup_iff.mpr (List.nodup_cons.mpr ⟨fun z=>h15 ?_,hn⟩)
   rw [← mids_app] at z
   exact mids15 _ _ z
noncomputable def isK (i : Nat) : Bool:=decide (12 ≤ i ∧ i ≤ 15)
noncomputable def rp (i : Nat) : Nat:=if i = 6 then 7 else if i = 8 then 9 else if i = 10 then 11 else if i = 13 then 14 else i
theorem ne1_mids : ∀ (cs : List Nat) (s : Nat),mids s (cs.filter fun i=>decide (i ≠ 1)) = mids s cs ∧ (okL s cs = true → okL s (cs.filter fun i=>decide (i ≠ 1)) = true)
 | [],_=>⟨rfl,fun h=>h⟩
 | i :: cs,s=>by
  by_cases h : i = 1
  ·subst h
   rw [List.filter_cons_of_neg (by simp)]
   obtain ⟨a1,a2⟩:=ne1_mids cs s
   refine ⟨a1,fun h=>a2 ?_⟩
   have : (okS s 1 && okL s cs) = true:=h
   rw [Bool.and_eq_true] at this
   exact this.2
  ·rw [List.filter_cons_of_pos (by simpa using h)]
   obtain ⟨a1,a2⟩:=ne1_mids cs (nsec s i)
   refine ⟨by show mid s i ++ _ = mid s i ++ _; rw [a1],fun h=>?_⟩
   have : (okS s i && okL (nsec s i) cs) = true:=h
   rw [Bool.and_eq_true] at this
   show (okS s i && okL (nsec s i) _) = true
   rw [this.1,a2 this.2]
   rfl
theorem Good.ne1 {cs : List Nat} (g : Good cs) : Good (cs.filter fun i=>decide (i ≠ 1)) :=
 ⟨fun i hi=>g.lt i ((List.mem_filter.mp hi).1),(ne1_mids cs 0).2 g.ok,by rw [(ne1_mids cs 0).1]; exact g.nd⟩
theorem rp_t : ∀ s ∈ SS,∀ i,i < 17 → mid s (rp i) = mid s i ∧ nsec s (rp i) = nsec s i ∧ okS s (rp i) = okS s i ∧ rp i < 17:=by
 have h : ∀ s ∈ SS,∀ i : Fin 17,mid s (rp i.val) = mid s i.val ∧ nsec s (rp i.val) = nsec s i.val ∧ okS s (rp i.val) = okS s i.val ∧ rp i.val < 17:=by decide +kernel
 exact fun s hs i hi=>h s hs ⟨i,hi⟩
theorem rp_mids : ∀ (cs : List Nat) (s : Nat),s ∈ SS → (∀ i ∈ cs,i < 17) → mids s (cs.map rp) = mids s cs ∧ okL s (cs.map rp) = okL s cs
 | [],_,_,_=>⟨rfl,rfl⟩
 | i :: cs,s,hs,h=>by
  obtain ⟨b1,b2,b3,-⟩:=rp_t s hs i (h i List.mem_cons_self)
  obtain ⟨a1,a2⟩:=rp_mids cs (nsec s i) (nsec_ss hs) fun k hk=>h k (List.mem_cons_of_mem _ hk)
  constructor
  ·show mid s (rp i) ++ mids (nsec s (rp i)) (cs.map rp) = mid s i ++ _
   rw [b1,b2,a1]
  ·show (okS s (rp i) && okL (nsec s (rp i)) (cs.map rp)) = (okS s i && _)
   rw [b3,b2,a2]
theorem Good.rp {cs : List Nat} (g : Good cs) : Good (cs.map rp):=by
 obtain ⟨a1,a2⟩:=rp_mids cs 0 (by decide) g.lt
 refine ⟨fun i hi=>?_,by rw [a2]; exact g.ok,by rw [a1]; exact g.nd⟩
 obtain ⟨j,hj,rfl⟩:=List.mem_map.mp hi
 exact (rp_t 0 (by decide) j (g.lt j hj)).2.2.2
theorem k_t {i : Nat} (h : isK i = true) (s s' : Nat) : mid s i = mid s' i ∧ nsec s i = s ∧ okS s i = true:=by
 unfold isK at h
 rw [decide_eq_true_eq] at h
 have : i = 12 ∨ i = 13 ∨ i = 14 ∨ i = 15:=by omega
 rcases this with rfl | rfl | rfl | rfl
 ·exact ⟨rfl,rfl,by simp [okS]⟩
 ·exact ⟨rfl,rfl,by simp [okS]⟩
 ·exact ⟨rfl,rfl,by simp [okS]⟩
 ·exact ⟨rfl,rfl,by simp [okS]⟩
theorem k_all : ∀ (cs : List Nat),(∀ i ∈ cs,isK i = true) → ∀ s,secs s cs = s ∧ okL s cs = true
 | [],_,_=>⟨rfl,rfl⟩
 | i :: cs,h,s=>by
  obtain ⟨-,b2,b3⟩:=k_t (h i List.mem_cons_self) s s
  obtain ⟨a1,a2⟩:=k_all cs (fun k hk=>h k (List.mem_cons_of_mem _ hk)) s
  constructor
  ·show secs (nsec s i) cs = s
   rw [b2,a1]
  ·show (okS s i && okL (nsec s i) cs) = true
   rw [b2,b3,a2]
   rfl
theorem k_mids : ∀ (cs : List Nat) (s s' : Nat),(mids s' (cs.filter isK) ++ mids s (cs.filter fun i=>!isK i)).Perm (mids s cs) ∧ (okL s cs = true → okL s (cs.filter fun i=>!isK i) = true)
 | [],_,_=>⟨.refl _,fun h=>h⟩
 | i :: cs,s,s'=>by
  by_cases h : isK i = true
  ·obtain ⟨b1,b2,b3⟩:=k_t h s' s
   have b4:=(k_t h s s').2.1
   rw [List.filter_cons_of_pos h,List.filter_cons_of_neg (by simp [h])]
   obtain ⟨a1,a2⟩:=k_mids cs s s'
   refine ⟨?_,fun z=>a2 ?_⟩
   ·show (mid s' i ++ mids (nsec s' i) (cs.filter isK) ++ _).Perm (mid s i ++ mids (nsec s i) cs)
    rw [b1,b2,b4,List.append_assoc]
    exact a1.append_left _
   ·have : (okS s i && okL (nsec s i) cs) = true:=z
    rw [Bool.and_eq_true,b4] at this
    exact this.2
  ·rw [List.filter_cons_of_neg h,List.filter_cons_of_pos (by simp [h])]
   obtain ⟨a1,a2⟩:=k_mids cs (nsec s i) s'
   refine ⟨?_,fun z=>?_⟩
   ·show (mids s' (cs.filter isK) ++ (mid s i ++ mids (nsec s i) _)).Perm (mid s i ++ mids (nsec s i) cs)
    exact (List.perm_append_comm_assoc _ _ _).trans (a1.append_left _)
   ·have : (okS s i && okL (nsec s i) cs) = true:=z
    rw [Bool.and_eq_true] at this
    show (okS s i && okL (nsec s i) _) = true
    rw [this.1,a2 this.2]
    rfl
theorem Good.kf {cs : List Nat} (g : Good cs) : Good (cs.filter isK ++ cs.filter fun i=>!isK i):=by
 obtain ⟨a1,a2⟩:=k_mids cs 0 0
 obtain ⟨b1,b2⟩:=k_all (cs.filter isK) (fun i hi=>(List.mem_filter.mp hi).2) 0
 refine ⟨fun i hi=>?_,?_,?_⟩
 ·rcases List.mem_append.mp hi with q | q
  ·exact g.lt i ((List.mem_filter.mp q).1)
  ·exact g.lt i ((List.mem_filter.mp q).1)
 ·rw [okL_app,b1,b2,a2 g.ok]
  rfl
 ·rw [mids_app,b1]
  exact a1.nodup_iff.mpr g.nd
theorem Good.snoc {cs : List Nat} (g : Good cs) {i : Nat} (hi : i < 17) (ho : okS (secs 0 cs) i = true) (hn : ∀ j ∈ mid (secs 0 cs) i,j ∉ mids 0 cs) (hd : (mid (secs 0 cs) i).Nodup) : Good (cs ++ [i]):=by
 refine ⟨fun k hk=>?_,?_,?_⟩
 ·rcases List.mem_append.mp hk with q | q
  ·exact g.lt k q
  ·rw [List.mem_singleton.mp q]; exact hi
 ·rw [okL_app,g.ok]
  show (true && (okS (secs 0 cs) i && true)) = true
  rw [ho]
  rfl
 ·rw [mids_app]
  show (mids 0 cs ++ (mid (secs 0 cs) i ++ [])).Nodup
  rw [List.append_nil,List.nodup_append]
  exact ⟨g.nd,hd,fun x hx y hy e=>hn y hy (by rw [← e]; exact hx)⟩
noncomputable def txt (i : Nat) : Str:=(ln i).text
noncomputable def tx (cs : List Nat) : List Str:=cs.map txt
theorem rp_tx : ∀ i,i < 17 → Txt.replace (txt i) "1" "on" = txt (rp i):=by
 have h : ∀ i : Fin 17,Txt.replace (txt i.val) "1" "on" = txt (rp i.val):=by decide +kernel
 exact fun i hi=>h ⟨i,hi⟩
theorem ne_tx : ∀ i,i < 17 → (txt i = ("" : Str) ↔ i = 1):=by
 have h : ∀ i : Fin 17,(txt i.val = ("" : Str) ↔ i.val = 1):=by decide +kernel
 exact fun i hi=>h ⟨i,hi⟩
theorem k_tx : ∀ i,i < 17 → Txt.startswith (txt i) "#~" = isK i:=by
 have h : ∀ i : Fin 17,Txt.startswith (txt i.val) "#~" = isK i.val:=by decide +kernel
 exact fun i hi=>h ⟨i,hi⟩
theorem len_tx : ∀ i,i < 17 → (txt i).length + ((txt i).length + 1) * ("on" : Str).length ≤ 16777216:=by
 have h : ∀ i : Fin 17,(txt i.val).length + ((txt i.val).length + 1) * ("on" : Str).length ≤ 16777216:=by decide +kernel
 exact fun i hi=>h ⟨i,hi⟩
noncomputable def rk (j : Nat) : Nat:=if j = 4 then 1 else if j = 5 then 5 else if 20 ≤ j ∧ j < 23 then j - 18 else if 30 ≤ j ∧ j < 33 then j - 24 else if j = 12 then 9 else if j = 13 then 10 else 11
structure Gd (cs : List Nat) (s n : Nat) : Prop where
 g : Good cs
 sec : secs 0 cs = s
 rk : ∀ j ∈ mids 0 cs,rk j < n
 n15 : 15 ∉ cs
theorem Gd.add {cs : List Nat} {s n : Nat} (h : Gd cs s n) {i n' : Nat} (hi : i < 15) (ho : okS s i = true) (hr : ∀ j ∈ mid s i,n ≤ VL.K07.rk j ∧ VL.K07.rk j < n') (hn : n ≤ n') (hd : (mid s i).Nodup) : Gd (cs ++ [i]) (nsec s i) n':=by
 refine ⟨h.g.snoc (by omega) (by rw [h.sec]; exact ho) (fun j hj z=>?_) (by rw [h.sec]; exact hd),?_,fun j hj=>?_,fun z=>?_⟩
 ·rw [h.sec] at hj
  have h1:=hr j hj
  have h2:=h.rk j z
  omega
 ·rw [secs_app,h.sec]
  rfl
 ·rw [mids_app,h.sec] at hj
  rcases List.mem_append.mp hj with q | q
  ·have:=h.rk j q; omega
  ·have q' : j ∈ mid s i ++ []:=q
   rw [List.append_nil] at q'
   exact (hr j q').2
 ·rcases List.mem_append.mp z with q | q
  ·exact h.n15 q
  ·have:=List.mem_singleton.mp q; omega
theorem Gd.rem {cs : List Nat} {s n : Nat} (h : Gd cs s n) {i : Nat} (hi : i < 4) : Gd (cs ++ [i]) s n:=by
 have hm : mid s i = []:=by
  have : i = 0 ∨ i = 1 ∨ i = 2 ∨ i = 3:=by omega
  rcases this with rfl | rfl | rfl | rfl <;> rfl
 have hs : nsec s i = s:=by
  have : i = 0 ∨ i = 1 ∨ i = 2 ∨ i = 3:=by omega
  rcases this with rfl | rfl | rfl | rfl <;> rfl
 have:=h.add (i:=i) (n':=n) (by omega) (by unfold okS; rw [decide_eq_true_eq]; omega) (by rw [hm]; exact nofun) (Nat.le_refl _) (by rw [hm]; exact .nil)
 rwa [hs] at this
theorem Gd.nil : Gd [] 0 1:=⟨⟨nofun,rfl,.nil⟩,rfl,nofun,nofun⟩
theorem tx_app (xs ys : List Nat) : tx (xs ++ ys) = tx xs ++ tx ys:=List.map_append
theorem tx_len (cs : List Nat) : (tx cs).length = cs.length:=List.length_map ..
structure Li (st s : Store) (b p : Nat) (cs : List Nat) : Prop where
 wf : WF s
 bag : Bag s b
 li : s[p]? = some (.lst (sU (tx cs)))
 bl : b < st.length
 pl : st.length ≤ p
 le : st.length ≤ s.length
 fr : ∀ n,n < st.length → n ≠ b → s[n]? = st[n]?
section
variable {b p : Nat} {cs : List Nat} {s : Store}
theorem Li.fb (x : Li st s b p cs) {s' : Store} (f : Fb s s' b) : Li st s' b p cs :=
 ⟨f.wf,f.bag,by rw [f.fr p (by have:=x.bl; have:=x.pl; omega)]; exact x.li,x.bl,x.pl,by rw [f.len]; exact x.le,fun n h1 h2=>(f.fr n h2).trans (x.fr n h1 h2)⟩
theorem Li.push (x : Li st s b p cs) (cs' : List Nat) : Li st (s ++ [.lst (sU (tx cs'))]) b s.length cs' :=
 ⟨x.wf.pushL _,by obtain ⟨n,y,e⟩:=x.bag; exact ⟨n,y,app_at e⟩,new_at,x.bl,x.le,by rw [List.length_append]; have:=x.le; omega,fun n h1 h2=>by
  rw [List.getElem?_append_left (by have:=x.le; omega)]; exact x.fr n h1 h2⟩
theorem Li.set (x : Li st s b p cs) (i : Nat) : Li st (s.set p (.lst (sU (tx (cs ++ [i]))))) b p (cs ++ [i]) :=
 ⟨x.wf.setL _ _,x.bag.set (by have:=x.bl; have:=x.pl; omega) _,set_at x.li,x.bl,x.pl,by rw [List.length_set]; exact x.le,fun n h1 h2=>by
  rw [List.getElem?_set_ne (by have:=x.pl; omega)]; exact x.fr n h1 h2⟩
end
noncomputable def KEYS : List Str:=["a","port","xx"]
noncomputable def KY : Nat → Str
 | 0=>"a"
 | 1=>"port"
 | _=>"xx"
theorem keys_drop {k : Nat} (h : k < 3) : KEYS.drop k = KY k :: KEYS.drop (k + 1):=by
 have : k = 0 ∨ k = 1 ∨ k = 2:=by omega
 rcases this with rfl | rfl | rfl <;> rfl
theorem val_tx : ∀ k : Fin 3,∀ d : Fin 2,KY k.val ++ (" = " : Str) ++ (if d.val = 0 then ("1" : Str) else "on") = txt (6 + 2 * k.val + d.val):=by decide +kernel
theorem key_z : ∀ k : Fin 3,(KY k.val).length + (" = " : Str).length ≤ 60 ∧ (∀ v ∈ [("1" : Str),"on"],(KY k.val ++ (" = " : Str)).length + v.length ≤ 60):=by decide +kernel
theorem f2sA {fx fy : F U} {env : VEnv} {s s1 s2 : Store} {y : U} {o : P2S} {x : U} {r : R U} (h1 : fx env s = .ok x s1) (h2 : fy env s1 = .ok y s2) (h : o x y s2 = r) : f2s o fx fy env s = r:=by
 unfold f2s bnd
 rw [h1]
 simp only
 rw [h2]
 exact h
theorem slA {f : F U} {l h : F (Option Int)} {env : VEnv} {s s1 s2 s3 : Store} {u v : U} {lo hi : Option Int} (h1 : f env s = .ok u s1) (h2 : l env s1 = .ok lo s2) (h3 : h env s2 = .ok hi s3) (h4 : oSl u lo hi s3 = some v) : fSl f l h env s = .ok v s3:=by
 unfold fSl bnd
 rw [h1]
 simp only
 rw [h2]
 simp only
 rw [h3]
 simp only [h4,R.of]
theorem someA {f : F U} {env : VEnv} {s s1 : Store} {i : Int} (h : f env s = .ok (.d (.int i)) s1) : oSome f env s = .ok (some i) s1:=by
 unfold oSome bnd
 rw [h]
theorem sec45 {k h : Nat} (hk : k < 3) (hh : h = 4 ∨ h = 5) {d : Nat} (hd : d < 2) {cs : List Nat} {n : Nat} (g : Gd cs h n) (hn : n = (if h = 4 then 2 else 6) + k) : Gd (cs ++ [6 + 2 * k + d]) h (n + 1):=by
 have ht : ∀ k : Fin 3,∀ d : Fin 2,∀ h ∈ [4,5],okS h (6 + 2 * k.val + d.val) = true ∧ (∀ j ∈ mid h (6 + 2 * k.val + d.val),(if h = 4 then 2 else 6) + k.val ≤ rk j ∧ rk j < (if h = 4 then 2 else 6) + k.val + 1) ∧ (mid h (6 + 2 * k.val + d.val)).Nodup ∧ nsec h (6 + 2 * k.val + d.val) = h:=by decide +kernel
 obtain ⟨q1,q2,q3,q4⟩:=ht ⟨k,hk⟩ ⟨d,hd⟩ h (by rcases hh with rfl | rfl <;> decide)
 have:=g.add (i:=6 + 2 * k + d) (n':=n + 1) (by omega) q1 (by rw [hn]; exact q2) (by omega) q3
 rwa [show nsec h (6 + 2 * k + d) = h from q4] at this
theorem ev_l1 {b p : Nat} {cs : List Nat} {s : Store} (x : Li st s b p cs) {h k n : Nat} (hk : k < 3) (hh : h = 4 ∨ h = 5) (g : Gd cs h n) (hn : n = (if h = 4 then 2 else 6) + k) (hl : cs.length ≤ 100) {x2 : Option U} :
  ∃ p' cs' s',b_L_law_lines_1 K a [some (.ref b),some (.ref p),x2,some (.d (.str (KY k)))] s = .ok [some (.ref b),some (.ref p'),x2,some (.d (.str (KY k)))] .nx s' ∧ Li st s' b p' cs' ∧ Gd cs' h (n + 1) ∧ cs'.length ≤ cs.length + 2:=by
 obtain ⟨d,s1,e1,hd,k1⟩:=ev_ltake (K:=K) (a:=a) x.wf x.bag (m:=2) (by decide) (by decide)
 have x1:=x.fb k1
 obtain ⟨y,s2,e2,hy,k2⟩:=ev_lof (K:=K) (a:=a) x1.wf x1.bag (ds:=[.str "1",.str "on"]) (by decide) (by decide)
 obtain ⟨q,hq,rfl⟩ : ∃ q,q < 2 ∧ y = .str (if q = 0 then ("1" : Str) else "on"):=by
  simp only [List.mem_cons,List.not_mem_nil,or_false] at hy
  rcases hy with rfl | rfl
  ·exact ⟨0,by decide,rfl⟩
  ·exact ⟨1,by decide,rfl⟩
 have x2':=x1.fb k2
 obtain ⟨cs1,g1,t1,hl1⟩ : ∃ cs1,Gd cs1 h n ∧ tx cs1 = tx cs ++ [("# c" : Str)].take d ∧ cs1.length ≤ cs.length + 1:=by
  have : d = 0 ∨ d = 1:=by omega
  rcases this with rfl | rfl
  ·exact ⟨cs,g,by rw [List.take_zero,List.append_nil],by omega⟩
  ·exact ⟨cs ++ [2],g.rem (by decide),by rw [tx_app]; rfl,by rw [List.length_append,List.length_singleton]; omega⟩
 have g2:=sec45 hk hh hq g1 hn
 have kz:=key_z ⟨k,hk⟩
 have hv:=val_tx ⟨k,hk⟩ ⟨q,hq⟩
 refine ⟨s2.length,cs1 ++ [6 + 2 * k + q],s2 ++ [.lst (sU (tx (cs1 ++ [6 + 2 * k + q])))],?_,x2'.push _,g2,by rw [List.length_append,List.length_singleton]; omega⟩
 have z1 : (KY k).length + (" = " : Str).length ≤ sizeLine:=Nat.le_trans kz.1 (by decide)
 have z2 : ((KY k) ++ (" = " : Str)).length + (if q = 0 then ("1" : Str) else "on").length ≤ sizeLine:=Nat.le_trans (kz.2 _ (by split <;> decide)) (by decide)
 have l1:=addL_g (st:=s1) (lg_at x1.li) (w:=.d (.lst (sD ([("# c" : Str)].take d)))) (ys:=[("# c" : Str)].take d) rfl (by rw [tx_len,List.length_take]; omega)
 rw [← t1] at l1
 have l4:=addC_g (st:=s2) (u:=.d (.lst (sD (tx cs1)))) (w:=.d (.lst [.str (txt (6 + 2 * k + q))])) (xs:=tx cs1) (ys:=[txt (6 + 2 * k + q)]) rfl rfl (by rw [tx_len,List.length_singleton]; omega)
 have hv' : (KY k) ++ (" = " : Str) ++ (if q = 0 then ("1" : Str) else "on") = txt (6 + 2 * k + q):=hv
 have o1 : oAdd (.d (.str (KY k))) (.d (.str " = ")) s1 = some (.d (.str ((KY k) ++ (" = " : Str)))):=if_pos z1
 have o2 : oAdd (.d (.str ((KY k) ++ (" = " : Str)))) (.d (.str (if q = 0 then ("1" : Str) else "on"))) s2 = some (.d (.str (txt (6 + 2 * k + q)))):=(if_pos z2).trans (by rw [hv'])
 unfold b_L_law_lines_1
 refine asgA (f2sA (f2A rfl (slA (lstDA (ds:=[.str "# c"]) (cons1 rfl) (by decide)) rfl (someA (callA (consA rfl (cons1 rfl)) rfl e1)) (slTake [("# c" : Str)] d)) l1) (lstDA (ds:=[.str (txt (6 + 2 * k + q))]) (cons1 (f2A (f2A rfl rfl o1) (callA (consA rfl (cons1 (lstDA (ds:=[.str "1",.str "on"]) (consA rfl (cons1 rfl)) (by decide)))) rfl e2) o2)) (by show 1 ≤ sizeLine; decide)) (l4.trans ?_))
 rw [tx_app]
 rfl
theorem ev_l1s {b : Nat} {h : Nat} (hh : h = 4 ∨ h = 5) {x2 : Option U} : ∀ (m k p : Nat) (cs : List Nat) (s : Store) (x3 : Option U),k + m ≤ 3 → Li st s b p cs → Gd cs h ((if h = 4 then 2 else 6) + k) → cs.length + 2 * m ≤ 100 →
  ∃ p' cs' s' y3,loopL (tgN 3) (b_L_law_lines_1 K a) ((sD ((KEYS.drop k).take m)).map U.d) [some (.ref b),some (.ref p),x2,x3] s = .ok [some (.ref b),some (.ref p'),x2,y3] .nx s' ∧ Li st s' b p' cs' ∧ Gd cs' h ((if h = 4 then 2 else 6) + 3) ∧ cs'.length ≤ cs.length + 2 * m
 | 0,k,p,cs,s,x3,hk,x,g,hl=>⟨p,cs,s,x3,rfl,x,⟨g.g,g.sec,fun j hj=>by have:=g.rk j hj; omega,g.n15⟩,by omega⟩
 | m + 1,k,p,cs,s,x3,hk,x,g,hl=>by
  obtain ⟨p1,cs1,s1,e1,x1,g1,l1⟩:=ev_l1 (K:=K) (a:=a) x (by omega : k < 3) hh g rfl (by omega) (x2:=x2)
  obtain ⟨p',cs',s',y3,e2,x2',g2,l2⟩:=ev_l1s hh (x2:=x2) m (k + 1) p1 cs1 s1 (some (.d (.str (KY k)))) (by omega) x1 g1 (by omega)
  refine ⟨p',cs',s',y3,?_,x2',g2,by omega⟩
  have hd : (KEYS.drop k).take (m + 1) = (KY k) :: (KEYS.drop (k + 1)).take m:=by
   rw [keys_drop (by omega),List.take_succ_cons]
  rw [hd]
  exact loopN e1 e2
noncomputable def HEADS : List Str:=["net","b"]
noncomputable def HE : Nat → Str
 | 0=>"net"
 | _=>"b"
theorem heads_drop {k : Nat} (h : k < 2) : HEADS.drop k = HE k :: HEADS.drop (k + 1):=by
 have : k = 0 ∨ k = 1:=by omega
 rcases this with rfl | rfl <;> rfl
theorem head_tx : ∀ k : Fin 2,("[" : Str) ++ (HE k.val) ++ ("]" : Str) = txt (4 + k.val) ∧ ("[" : Str).length + (HE k.val).length ≤ 60 ∧ (("[" : Str) ++ (HE k.val)).length + ("]" : Str).length ≤ 60:=by decide +kernel
theorem headG {k : Nat} (hk : k < 2) {cs : List Nat} {s n : Nat} (g : Gd cs s n) (hn : n ≤ 1 + 4 * k) : Gd (cs ++ [4 + k]) (4 + k) (2 + 4 * k):=by
 have : k = 0 ∨ k = 1:=by omega
 rcases this with rfl | rfl
 ·exact g.add (i:=4) (n':=2) (by decide) (by unfold okS; rw [decide_eq_true_eq]; omega) (fun j hj=>by
   have : j = 4:=List.mem_singleton.mp hj
   subst this
   exact ⟨hn,by decide⟩) (by omega) (List.nodup_cons.mpr ⟨nofun,.nil⟩)
 ·exact g.add (i:=5) (n':=6) (by decide) (by unfold okS; rw [decide_eq_true_eq]; omega) (fun j hj=>by
   have : j = 5:=List.mem_singleton.mp hj
   subst this
   exact ⟨hn,by decide⟩) (by omega) (List.nodup_cons.mpr ⟨nofun,.nil⟩)
theorem ev_l2 {b p : Nat} {cs : List Nat} {s : Store} (x : Li st s b p cs) {k sc n : Nat} (hk : k < 2) (g : Gd cs sc n) (hn : n ≤ 1 + 4 * k) (hl : cs.length ≤ 50) {x3 : Option U} :
  ∃ p' cs' s' y3,b_L_law_lines_2 K a [some (.ref b),some (.ref p),some (.d (.str (HE k))),x3] s = .ok [some (.ref b),some (.ref p'),some (.d (.str (HE k))),y3] .nx s' ∧ Li st s' b p' cs' ∧ Gd cs' (4 + k) (5 + 4 * k) ∧ cs'.length ≤ cs.length + 7:=by
 obtain ⟨t1,t2,t3⟩:=head_tx ⟨k,hk⟩
 have t1' : ("[" : Str) ++ (HE k) ++ ("]" : Str) = txt (4 + k):=t1
 have z1 : ("[" : Str).length + (HE k).length ≤ sizeLine:=Nat.le_trans t2 (by decide)
 have z2 : (("[" : Str) ++ (HE k)).length + ("]" : Str).length ≤ sizeLine:=Nat.le_trans t3 (by decide)
 have x1:=x.set (4 + k)
 have g1:=headG hk g hn
 obtain ⟨d,s1,e1,hd,k1⟩:=ev_ltake (K:=K) (a:=a) x1.wf x1.bag (m:=4) (by decide) (by decide)
 have hn2 : 2 + 4 * k = (if 4 + k = 4 then 2 else 6) + 0:=by split <;> omega
 have hn5 : (if 4 + k = 4 then 2 else 6) + 3 = 5 + 4 * k:=by split <;> omega
 obtain ⟨p',cs',s',y3,e2,x2,g2,l2⟩:=ev_l1s (K:=K) (a:=a) (b:=b) (h:=4 + k) (by omega) (x2:=some (.d (.str (HE k)))) d 0 p (cs ++ [4 + k]) s1 x3 (by omega) (x1.fb k1) (by rw [← hn2]; exact g1) (by rw [List.length_append,List.length_singleton]; omega)
 rw [List.drop_zero] at e2
 rw [hn5] at g2
 rw [List.length_append,List.length_singleton] at l2
 refine ⟨p',cs',s',y3,?_,x2,g2,by omega⟩
 have o1 : oAdd (.d (.str "[")) (.d (.str (HE k))) s = some (.d (.str (("[" : Str) ++ (HE k)))):=if_pos z1
 have o2 : oAdd (.d (.str (("[" : Str) ++ (HE k)))) (.d (.str "]")) s = some (.d (.str (txt (4 + k)))):=(if_pos z2).trans (by rw [t1'])
 have eA:=appE (env:=[some (.ref b),some (.ref p),some (.d (.str (HE k))),x3]) (fx:=vVar 1) (fy:=f2 oAdd (f2 oAdd (vC (.str "[")) (vVar 2)) (vC (.str "]"))) rfl (f2A (f2A rfl rfl o1) rfl o2) x.li x.li (by rw [sUlen,tx_len]; exact Nat.lt_of_le_of_lt hl (show 50 < sizeLine by decide))
 rw [show sU (tx cs) ++ [U.d (.str (txt (4 + k)))] = sU (tx (cs ++ [4 + k])) by rw [tx_app]; exact sUapp _ [_]] at eA
 unfold b_L_law_lines_2
 refine seqG eA ((sFor_lst (iterA (slA (lstDA (ds:=[.str "a",.str "port",.str "xx"]) (consA rfl (consA rfl (cons1 rfl))) (by decide)) rfl (someA (callA (consA rfl (cons1 rfl)) rfl e1)) (slTake KEYS d)))).trans e2)
theorem ev_l2s {b : Nat} : ∀ (m k p : Nat) (cs : List Nat) (s : Store) (x2 x3 : Option U) (sc n : Nat),k + m ≤ 2 → Li st s b p cs → Gd cs sc n → n ≤ 1 + 4 * k → cs.length + 7 * m ≤ 50 →
  ∃ p' cs' s' y2 y3 sc',loopL (tgN 2) (b_L_law_lines_2 K a) ((sD ((HEADS.drop k).take m)).map U.d) [some (.ref b),some (.ref p),x2,x3] s = .ok [some (.ref b),some (.ref p'),y2,y3] .nx s' ∧ Li st s' b p' cs' ∧ Gd cs' sc' 9 ∧ cs'.length ≤ cs.length + 7 * m
 | 0,k,p,cs,s,x2,x3,sc,n,hk,x,g,hn,hl=>⟨p,cs,s,x2,x3,sc,rfl,x,⟨g.g,g.sec,fun j hj=>by have:=g.rk j hj; omega,g.n15⟩,by omega⟩
 | m + 1,k,p,cs,s,x2,x3,sc,n,hk,x,g,hn,hl=>by
  obtain ⟨p1,cs1,s1,y3,e1,x1,g1,l1⟩:=ev_l2 (K:=K) (a:=a) x (by omega : k < 2) g hn (by omega) (x3:=x3)
  obtain ⟨p',cs',s',y2,z3,sc',e2,x2',g2,l2⟩:=ev_l2s m (k + 1) p1 cs1 s1 (some (.d (.str (HE k)))) y3 (4 + k) (5 + 4 * k) (by omega) x1 g1 (by omega) (by omega)
  refine ⟨p',cs',s',y2,z3,sc',?_,x2',g2,by omega⟩
  have hd : (HEADS.drop k).take (m + 1) = (HE k) :: (HEADS.drop (k + 1)).take m:=by
   rw [heads_drop (by omega),List.take_succ_cons]
  rw [hd]
  exact loopN e1 e2
theorem slCA {f : F U} {l h : F (Option Int)} {env : VEnv} {s s1 s2 s3 : Store} {u : U} {r : R U} {lo hi : Option Int} (h1 : f env s = .ok u s1) (h2 : l env s1 = .ok lo s2) (h3 : h env s2 = .ok hi s3) (h4 : oSlC u lo hi s3 = r) : fSlC f l h env s = r:=by
 unfold fSlC bnd
 rw [h1]
 simp only
 rw [h2]
 simp only
 rw [h3]
 exact h4
noncomputable def TAIL : List Str:=["#~ 2 a.b","#~ 3 a.b = 1",""]
noncomputable def TOP : List Str:=["# top",""]
theorem slDropC (ss : List Str) {d : Nat} (h : d ≤ ss.length) (s : Store) : oSlC (.d (.lst (sD ss))) (some (d : Int)) none s = .ok (.ref s.length) (s ++ [.lst (sU (ss.drop d))]):=by
 show R.ok (U.ref s.length) (s ++ [O.lst (cutG ((sD ss).map U.d) (some (d : Int)) none)]) = _
 rw [cutG_map U.d (sD ss),cutDrop h]
 rfl
/-- the lines that are drawn -/
structure Dr (cs : List Nat) : Prop where
 g : Good cs
 n15 : 15 ∉ cs
 len : cs.length ≤ 30
theorem ev_llines {b : Nat} (w : WF st) (hb : Bag st b) : ∃ cs s',m_L_law_lines K a [.ref b] st = .ok (.d (.lst (sD (tx cs)))) s' ∧ Dr cs ∧ Fb st s' b:=by
 obtain ⟨d0,s0,e0,hd0,k0⟩:=ev_ltake (K:=K) (a:=a) w hb (m:=3) (by decide) (by decide)
 have hbl:=hb.lt
 obtain ⟨cs0,g0,t0,l0⟩ : ∃ cs0,Gd cs0 0 1 ∧ tx cs0 = TOP.drop d0 ∧ cs0.length ≤ 2:=by
  have : d0 = 0 ∨ d0 = 1 ∨ d0 = 2:=by omega
  rcases this with rfl | rfl | rfl
  ·exact ⟨[0,1],(Gd.nil.rem (i:=0) (by decide)).rem (i:=1) (by decide),rfl,by decide⟩
  ·exact ⟨[1],Gd.nil.rem (i:=1) (by decide),rfl,by decide⟩
  ·exact ⟨[],Gd.nil,rfl,by decide⟩
 have x0 : Li st (s0 ++ [.lst (sU (tx cs0))]) b s0.length cs0 :=
  ⟨k0.wf.pushL _,by obtain ⟨n,y,e⟩:=k0.bag; exact ⟨n,y,app_at e⟩,new_at,hbl,by rw [k0.len]; exact Nat.le_refl _,by rw [List.length_append,k0.len]; omega,fun n h1 h2=>by
   rw [List.getElem?_append_left (by rw [k0.len]; exact h1)]; exact k0.fr n h2⟩
 obtain ⟨d1,s1,e1,hd1,k1⟩:=ev_ltake (K:=K) (a:=a) x0.wf x0.bag (m:=3) (by decide) (by decide)
 obtain ⟨p,cs1,s2,y2,y3,sc,e2,x2,g2,l2⟩:=ev_l2s (K:=K) (a:=a) (b:=b) d1 0 s0.length cs0 s1 none none 0 1 (by omega) (x0.fb k1) g0 (by omega) (by omega)
 obtain ⟨d3,s3,e3,hd3,k3⟩:=ev_ltake (K:=K) (a:=a) x2.wf x2.bag (m:=4) (by decide) (by decide)
 have x3:=x2.fb k3
 have add12 : ∀ {cs : List Nat} {n : Nat},Gd cs sc n → n ≤ 9 → Gd (cs ++ [12]) sc 10:=fun {cs n} g hn=>g.add (i:=12) (n':=10) (by decide) (by unfold okS; rw [decide_eq_true_eq]; omega) (fun j hj=>by
  have : j = 12:=List.mem_singleton.mp hj
  subst this
  exact ⟨hn,by decide⟩) (by omega) (List.nodup_cons.mpr ⟨nofun,.nil⟩)
 have add13 : ∀ {cs : List Nat} {n : Nat},Gd cs sc n → n ≤ 10 → Gd (cs ++ [13]) sc 11:=fun {cs n} g hn=>g.add (i:=13) (n':=11) (by decide) (by unfold okS; rw [decide_eq_true_eq]; omega) (fun j hj=>by
  have : j = 13:=List.mem_singleton.mp hj
  subst this
  exact ⟨hn,by decide⟩) (by omega) (List.nodup_cons.mpr ⟨nofun,.nil⟩)
 obtain ⟨cs2,n2,g3,t3,l3⟩ : ∃ cs2 n2,Gd cs2 sc n2 ∧ tx cs2 = tx cs1 ++ TAIL.drop d3 ∧ cs2.length ≤ cs1.length + 3:=by
  have : d3 = 0 ∨ d3 = 1 ∨ d3 = 2 ∨ d3 = 3:=by omega
  rcases this with rfl | rfl | rfl | rfl
  ·exact ⟨cs1 ++ [12] ++ [13] ++ [1],_,(add13 (add12 g2 (by omega)) (by omega)).rem (i:=1) (by decide),by rw [tx_app,tx_app,tx_app,List.append_assoc,List.append_assoc]; rfl,by simp⟩
  ·exact ⟨cs1 ++ [13] ++ [1],_,(add13 g2 (by omega)).rem (i:=1) (by decide),by rw [tx_app,tx_app,List.append_assoc]; rfl,by simp⟩
  ·exact ⟨cs1 ++ [1],_,g2.rem (i:=1) (by decide),by rw [tx_app]; rfl,by simp⟩
  ·exact ⟨cs1,_,g2,by rw [show TAIL.drop 3 = [] from rfl,List.append_nil],by simp⟩
 have hd3' : d3 ≤ TAIL.length:=by show d3 ≤ 3; omega
 have l1:=addL_g (st:=s3) (lg_at x3.li) (w:=.d (.lst (sD (TAIL.drop d3)))) (ys:=TAIL.drop d3) rfl (by
  rw [tx_len,List.length_drop]; show cs1.length + (3 - d3) ≤ 300; omega)
 rw [← t3] at l1
 obtain ⟨ec,fb⟩:=cut_fb w x3.bag hbl x3.le x3.fr
 refine ⟨cs2,_,?_,⟨g3.g,g3.n15,by omega⟩,fb⟩
 have main : g_L_law_lines K a [some (.ref b),none,none,none] st = .ok [some (.ref b),some (.ref p),y2,y3] (.rt (.d (.lst (sD (tx cs2))))) s3:=by
  have hd0' : d0 ≤ TOP.length:=by show d0 ≤ 2; omega
  have hc:=slDropC TOP hd0' s0
  rw [← t0] at hc
  rw [List.drop_zero] at e2
  unfold g_L_law_lines
  refine seqA (slCA (lstDA (ds:=[.str "# top",.str ""]) (consA rfl (cons1 rfl)) (by decide)) (someA (callA (consA rfl (cons1 rfl)) rfl e0)) rfl hc) ?_
  refine seqG ((sFor_lst (iterA (slA (lstDA (ds:=[.str "net",.str "b"]) (consA rfl (cons1 rfl)) (by decide)) rfl (someA (callA (consA rfl (cons1 rfl)) rfl e1)) (slTake HEADS d1)))).trans e2) ?_
  exact retA (f2A rfl (slA (lstDA (ds:=[.str "#~ 2 a.b",.str "#~ 3 a.b = 1",.str ""]) (consA rfl (consA rfl (cons1 rfl))) (by decide)) (someA (callA (consA rfl (cons1 rfl)) rfl e3)) rfl (slDrop TAIL hd3')) l1)
 unfold m_L_law_lines
 rw [fnA main]
 unfold wFrz
 rw [frz_dd,ec]
theorem lcX_of {fi : F Itb} {tg : U → G} {tt : F Bool} {fe : F U} {vs : List Nat} {env : VEnv} {us : List U} {st st1 s : Store} {v : U} (hi : fi env st = .ok (.lst us) st1) (h : fLc fi tg tt fe vs env st = .ok v s) : fLcX fi tg tt fe vs env st = .ok v s:=by
 unfold fLc bnd at h
 unfold fLcX bnd
 rw [hi] at h ⊢
 simp only at h ⊢
 cases e : lcL st1.length tg tt fe (wipeE env vs) us (st1 ++ [.lst []]) with
 | ok b s1 =>
  rw [e] at h
  cases b
  rw [lxL_ok e]
  exact h
 | ex c fs s1=>rw [e] at h; cases h
 | bad=>rw [e] at h; cases h
theorem lcX_pure {fi : F Itb} {tg : U → G} {fe : F U} {vs : List Nat} {env : VEnv} (q : U → D) {us : List U} (hw : WF st) (hi : fi env st = .ok (.lst us) st) (hl : us.length ≤ sizeLine)
  (h : ∀ u ∈ us,∀ s : Store,WF s → ∃ env1,tg u (wipeE env vs) s = .ok env1 .nx s ∧ fe env1 s = .ok (.d (q u)) s) : fLcX fi tg tYesB fe vs env st = .ok (.d (.lst (us.map q))) st:=by
 refine lcX_of hi ?_
 have:=fLc_pure (fi:=fi) (tg:=tg) (tt:=tYesB) (fe:=fe) (vs:=vs) (env:=env) (P:=fun _=>true) (q:=q) hw hi hl fun u hu s hs=>by
  obtain ⟨env1,h1,h2⟩:=h u hu s hs
  exact ⟨env1,h1,rfl,fun _=>h2⟩
 rw [List.filter_eq_self.mpr fun _ _=>rfl] at this
 exact this
theorem sD_tx (cs : List Nat) : sD (tx cs) = cs.map fun i=>D.str (txt i):=by unfold sD tx; rw [List.map_map]; rfl
theorem eqs (x y : Str) (s : Store) : eqB s (.d (.str x)) (.d (.str y)) = some (decide (x = y)):=by
 unfold eqB
 rfl
section
variable {cs : List Nat} {u0 u2 u3 u4 u5 : Option U}
theorem ev_ch1 (w : WF st) (h : Dr cs) : c_L_law_changed_1 K a [u0,some (.d (.lst (sD (tx cs)))),u2,u3,u4,u5] st = .ok (.d (.lst (sD (tx (cs.map rp))))) st:=by
 unfold c_L_law_changed_1
 have hz : (cs.map fun i=>U.d (.str (txt i))).length ≤ sizeLine:=by rw [List.length_map]; exact Nat.le_trans h.len (by decide)
 have:=lcX_pure (fi:=fIter (vVar 1)) (tg:=tgN 4) (fe:=fRepl (vVar 4) "1" "on") (vs:=[4]) (env:=[u0,some (.d (.lst (sD (tx cs)))),u2,u3,u4,u5]) (q:=fun u=>match u with
  | .d (.str x)=>D.str (Txt.replace x "1" "on")
  | _=>.non) (us:=cs.map fun i=>U.d (.str (txt i))) w (by
   rw [sD_tx]
   have e:=iterA (fx:=vVar 1) (env:=[u0,some (.d (.lst (cs.map fun i=>D.str (txt i)))),u2,u3,u4,u5]) (s:=st) (s1:=st) (ds:=cs.map fun i=>D.str (txt i)) rfl
   rwa [List.map_map] at e) hz fun u hu s hs=>by
  obtain ⟨i,hi,rfl⟩:=List.mem_map.mp hu
  refine ⟨_,rfl,?_⟩
  show (if (txt i).length + ((txt i).length + 1) * ("on" : Str).length ≤ 16777216 then R.ok (U.d (.str (Txt.replace (txt i) "1" "on"))) s else .bad) = _
  rw [if_pos (len_tx i (h.g.lt i hi))]
 rw [this,List.map_map,sD_tx,List.map_map]
 congr 3
 refine List.map_congr_left fun i hi=>?_
 show D.str (Txt.replace (txt i) "1" "on") = .str (txt (rp i))
 rw [rp_tx i (h.g.lt i hi)]
theorem fil {P : Str → Bool} {p : Nat → Bool} (h : ∀ i ∈ cs,P (txt i) = p i) {tt : F Bool} {env : VEnv} (he : env = [u0,some (.d (.lst (sD (tx cs)))),u2,u3,u4,u5]) (w : WF st) (hl : cs.length ≤ 100) (ht : ∀ (i : Nat) (s : Store),tt ((wipeE env [4]).set 4 (some (.d (.str (txt i))))) s = .ok (P (txt i)) s) :
  fLc (fIter (vVar 1)) (tgN 4) tt (vVar 4) [4] env st = .ok (.d (.lst (sD (tx (cs.filter p))))) st:=by
 have hz : (cs.map fun i=>U.d (.str (txt i))).length ≤ sizeLine:=by rw [List.length_map]; exact Nat.le_trans hl (by decide)
 have:=fLc_pure (fi:=fIter (vVar 1)) (tg:=tgN 4) (tt:=tt) (fe:=vVar 4) (vs:=[4]) (env:=env) (us:=cs.map fun i=>U.d (.str (txt i))) (P:=fun u=>match u with
  | .d (.str x)=>P x
  | _=>false) (q:=fun u=>match u with
  | .d d=>d
  | _=>.non) w (by
   subst he
   rw [sD_tx]
   have e:=iterA (fx:=vVar 1) (env:=[u0,some (.d (.lst (cs.map fun i=>D.str (txt i)))),u2,u3,u4,u5]) (s:=st) (s1:=st) (ds:=cs.map fun i=>D.str (txt i)) rfl
   rwa [List.map_map] at e) hz fun u hu s hs=>by
  obtain ⟨i,hi,rfl⟩:=List.mem_map.mp hu
  refine ⟨_,rfl,ht i s,fun _=>?_⟩
  subst he
  rfl
 rw [this,List.filter_map,List.map_map,sD_tx]
 congr 3
 rw [show (cs.filter ((fun u : U=>match u with
  | .d (.str x)=>P x
  | _=>false) ∘ fun i=>U.d (.str (txt i)))) = cs.filter p from List.filter_congr fun i hi=>h i hi]
 rfl
theorem ev_ch2 (w : WF st) (h : Dr cs) : c_L_law_changed_2 K a [u0,some (.d (.lst (sD (tx cs)))),u2,u3,u4,u5] st = .ok (.d (.lst (sD (tx (cs.filter fun i=>decide (i ≠ 1)))))) st:=by
 unfold c_L_law_changed_2
 refine fil (P:=fun x=>!decide (x = ("" : Str))) (fun i hi=>?_) rfl w (Nat.le_trans h.len (by decide)) fun i s=>?_
 ·show (!decide (txt i = ("" : Str))) = decide (i ≠ 1)
  rw [show decide (txt i = ("" : Str)) = decide (i = 1) from decide_eq_decide.mpr (ne_tx i (h.g.lt i hi))]
  by_cases e : i = 1 <;> simp [e]
 ·refine asBA (f2A rfl rfl ?_)
  show (eqB s (.d (.str (txt i))) (.d (.str ""))).map (fun k=>U.d (.bl !k)) = _
  rw [eqs]
  rfl
theorem ev_ch3 (w : WF st) (h : Dr cs) : c_L_law_changed_3 K a [u0,some (.d (.lst (sD (tx cs)))),u2,u3,u4,u5] st = .ok (.d (.lst (sD (tx (cs.filter isK))))) st:=by
 unfold c_L_law_changed_3
 exact fil (P:=fun x=>Txt.startswith x "#~") (fun i hi=>k_tx i (h.g.lt i hi)) rfl w (Nat.le_trans h.len (by decide)) fun i s=>asTA (strM rfl (cons1 rfl) rfl) rfl
theorem ev_ch4 (w : WF st) (h : Dr cs) : c_L_law_changed_4 K a [u0,some (.d (.lst (sD (tx cs)))),u2,u3,u4,u5] st = .ok (.d (.lst (sD (tx (cs.filter fun i=>!isK i))))) st:=by
 unfold c_L_law_changed_4
 exact fil (P:=fun x=>!Txt.startswith x "#~") (fun i hi=>by show (!Txt.startswith (txt i) "#~") = _; rw [k_tx i (h.g.lt i hi)]) rfl w (Nat.le_trans h.len (by decide)) fun i s=>bNotA (asTA (strM rfl (cons1 rfl) rfl) rfl)
end
/-- any lines that make a file -/
structure Fl (cs : List Nat) : Prop where
 g : Good cs
 len : cs.length ≤ 60
theorem Dr.fl {cs : List Nat} (h : Dr cs) : Fl cs:=⟨h.g,Nat.le_trans h.len (by decide)⟩
noncomputable def INS : List Nat:=[1,3,15]
theorem ins_tx : ∀ k : Fin 3,atI [U.d (.str ""),U.d (.str "#"),U.d (.str "#~ 77 x.y")] ((k.val : Nat) : Int) = some (.d (.str (txt INS[k.val]))):=fun ⟨k,hk⟩=>by
 match k,hk with
 | 0,_=>exact at_0 _ _
 | 1,_=>exact at_1 _ _ _
 | 2,_=>exact at_2 _ _ _ _
theorem ev_lchanged {b : Nat} (w : WF st) (hb : Bag st b) {cs : List Nat} (h : Dr cs) : ∃ cs' s',m_L_law_changed K a [.ref b,.d (.lst (sD (tx cs)))] st = .ok (.d (.lst (sD (tx cs')))) s' ∧ Fl cs' ∧ Fb st s' b:=by
 have hl:=h.len
 obtain ⟨d,s1,e1,hd,k1⟩:=ev_ltake (K:=K) (a:=a) w hb (m:=8) (by decide) (by decide)
 obtain ⟨n,s2,e2,hn,k2⟩:=ev_ltake (K:=K) (a:=a) k1.wf k1.bag (m:=((cs.length + 1 : Nat) : Int)) (by omega) (by omega)
 have w2:=k2.wf
 have hlen : fB (pu oLen) (fCons (vVar 1) fNil) [some (.ref b),some (.d (.lst (sD (tx cs)))),none,none,none,none] s1 = .ok (.d (.int (cs.length : Nat))) s1:=puA (cons1 rfl) (by
  simp only [oLen,lenN,getL,List.length_map,Option.map_some]
  rw [show (sD (tx cs)).length = cs.length by rw [sDlen,tx_len]]
  rfl)
 have eA : sPar 2 3 (fCons (fCall 2 0 gPos (m_L_law_take K a) (fCW (fCons (vVar 0) (fCons (vC (.int 8)) fNil)) fNil)) (fCons (fCall 2 0 gPos (m_L_law_take K a) (fCW (fCons (vVar 0) (fCons (f2 oAdd (fB (pu oLen) (fCons (vVar 1) fNil)) (vC (.int 1))) fNil)) fNil)) fNil)) [some (.ref b),some (.d (.lst (sD (tx cs)))),none,none,none,none] st = .ok [some (.ref b),some (.d (.lst (sD (tx cs)))),some (.d (.int (d : Nat))),some (.d (.int (n : Nat))),none,none] .nx s2 :=
  parA (consA (callA (consA rfl (cons1 rfl)) rfl e1) (cons1 (callA (consA rfl (cons1 (f2A hlen rfl (show oAdd (.d (.int (cs.length : Nat))) (.d (.int 1)) s1 = some (.d (.int ((cs.length + 1 : Nat) : Int))) from rfl)))) rfl e2)))
 have fb:=k1.trans k2
 have fin : ∀ (cs' : List Nat) (env' : VEnv),Fl cs' → g_L_law_changed K a [some (.ref b),some (.d (.lst (sD (tx cs)))),none,none,none,none] st = .ok env' (.rt (.d (.lst (sD (tx cs'))))) s2 → ∃ cs' s',m_L_law_changed K a [.ref b,.d (.lst (sD (tx cs)))] st = .ok (.d (.lst (sD (tx cs')))) s' ∧ Fl cs' ∧ Fb st s' b:=fun cs' env' hf e =>
  ⟨cs',s2,fnL (us:=[.ref b,.d (.lst (sD (tx cs)))]) (n:=6) (g:=g_L_law_changed K a) w2 fb.len e,hf,fb⟩
 have lt : ∀ {env : VEnv} {i : Nat} {m : Int} {k : Bool},vVar i env s2 = .ok (.d (.int (d : Nat))) s2 → decide (((d : Nat) : Int) < m) = k → asB (f2 oLt (vVar i) (vC (.int m))) env s2 = .ok k s2:=fun {env i m k} h1 h2=>asBA (f2A h1 rfl (oLt_ii h2))
 have eq : ∀ {env : VEnv} {i : Nat} {m : Int} {k : Bool},vVar i env s2 = .ok (.d (.int (d : Nat))) s2 → decide (((d : Nat) : Int) = m) = k → asB (f2 oEq (vVar i) (vC (.int m))) env s2 = .ok k s2:=fun {env i m k} h1 h2=>asBA (f2A h1 rfl (by
  show (eqB s2 (.d (.int (d : Nat))) (.d (.int m))).map (fun k=>U.d (.bl k)) = _
  rw [← h2]
  unfold eqB
  rfl))
 by_cases c2 : d < 2
 ·refine fin cs [some (.ref b),some (.d (.lst (sD (tx cs)))),some (.d (.int (d : Nat))),some (.d (.int (n : Nat))),none,none] h.fl ?_
  unfold g_L_law_changed
  refine seqG eA (seqR (ifT (lt rfl (decide_eq_true (by omega))) (retA (puA (cons1 rfl) ?_))))
  simp only [oList,itemsU,getL,pureL_map,Option.map_some]
 ·by_cases c5 : d < 5
  ·have hk : INS[d - 2]'(by show d - 2 < 3; omega) ∈ INS:=List.getElem_mem _
   have g2 : Good (cs.take n ++ [INS[d - 2]'(by show d - 2 < 3; omega)] ++ cs.drop n):=by
    refine Good.ins (by rw [List.take_append_drop]; exact h.g) ?_ (by rw [List.take_append_drop]; exact h.n15)
    generalize INS[d - 2]'(by show d - 2 < 3; omega) = q at hk
    simp only [INS,List.mem_cons,List.not_mem_nil,or_false] at hk
    exact hk
   refine fin _ [some (.ref b),some (.d (.lst (sD (tx cs)))),some (.d (.int (d : Nat))),some (.d (.int (n : Nat))),none,none] ⟨g2,?_⟩ ?_
   rotate_left
   ·unfold g_L_law_changed
    refine seqG eA (seqG (ifF (lt rfl (decide_eq_false (by omega))) rfl) (seqR (ifT (lt rfl (decide_eq_true (by omega))) (retA ?_))))
    have hix:=ins_tx ⟨d - 2,by omega⟩
    have hsub : oSub (.d (.int (d : Nat))) (.d (.int 2)) s2 = some (.d (.int ((d - 2 : Nat) : Int))):=by
     show some (U.d (.int ((d : Int) - 2))) = _
     rw [show (d : Int) - 2 = ((d - 2 : Nat) : Int) by omega]
    have hn' : n ≤ (tx cs).length:=by rw [tx_len]; omega
    have ha : ∀ (xs ys : List Str),xs.length + ys.length ≤ 300 → oAdd (.d (.lst (sD xs))) (.d (.lst (sD ys))) s2 = some (.d (.lst (sD (xs ++ ys)))):=fun xs ys hz=>by
     show (if (sD xs).length + (sD ys).length ≤ sizeLine then some (U.d (.lst (sD xs ++ sD ys))) else none) = _
     rw [if_pos (by rw [sDlen,sDlen]; exact szb hz)]
     unfold sD
     rw [List.map_append]
    refine f2A (f2A (slA rfl rfl (someA rfl) (slTake (tx cs) n)) (lstDA (ds:=[.str (txt (INS[d - 2]'(by show d - 2 < 3; omega)))]) (cons1 (f2A (lstDA (ds:=[.str "",.str "#",.str "#~ 77 x.y"]) (consA rfl (consA rfl (cons1 rfl))) (by decide)) (f2A rfl rfl hsub) hix)) (by show 1 ≤ sizeLine; decide)) (ha ((tx cs).take n) [txt (INS[d - 2]'(by show d - 2 < 3; omega))] (by rw [List.length_take,tx_len,List.length_singleton]; omega))) (slA rfl (someA rfl) rfl (slDrop (tx cs) hn')) ((ha _ _ (by rw [List.length_append,List.length_take,List.length_drop,tx_len,List.length_singleton]; omega)).trans ?_)
    rw [tx_app,tx_app]
    unfold tx
    rw [List.map_take,List.map_drop]
    rfl
   ·rw [List.length_append,List.length_append,List.length_take,List.length_drop,List.length_singleton]; omega
  ·by_cases c6 : d = 5
   ·refine fin _ [some (.ref b),some (.d (.lst (sD (tx cs)))),some (.d (.int (d : Nat))),some (.d (.int (n : Nat))),none,none] ⟨h.g.rp,by rw [List.length_map]; omega⟩ ?_
    unfold g_L_law_changed
    exact seqG eA (seqG (ifF (lt rfl (decide_eq_false (by omega))) rfl) (seqG (ifF (lt rfl (decide_eq_false (by omega))) rfl) (seqR (ifT (eq rfl (decide_eq_true (by omega))) (retA (ev_ch1 w2 h))))))
   ·by_cases c7 : d = 6
    ·refine fin _ [some (.ref b),some (.d (.lst (sD (tx cs)))),some (.d (.int (d : Nat))),some (.d (.int (n : Nat))),none,none] ⟨h.g.ne1,Nat.le_trans (List.length_filter_le _ _) (by omega)⟩ ?_
     unfold g_L_law_changed
     exact seqG eA (seqG (ifF (lt rfl (decide_eq_false (by omega))) rfl) (seqG (ifF (lt rfl (decide_eq_false (by omega))) rfl) (seqG (ifF (eq rfl (decide_eq_false (by omega))) rfl) (seqR (ifT (eq rfl (decide_eq_true (by omega))) (retA (ev_ch2 w2 h)))))))
    ·have hfl : (cs.filter isK).length ≤ cs.length ∧ (cs.filter fun i=>!isK i).length ≤ cs.length:=⟨List.length_filter_le _ _,List.length_filter_le _ _⟩
     refine fin _ [some (.ref b),some (.d (.lst (sD (tx cs)))),some (.d (.int (d : Nat))),some (.d (.int (n : Nat))),none,some (.d (.lst (sD (tx (cs.filter isK)))))] ⟨h.g.kf,by rw [List.length_append]; omega⟩ ?_
     unfold g_L_law_changed
     refine seqG eA (seqG (ifF (lt rfl (decide_eq_false (by omega))) rfl) (seqG (ifF (lt rfl (decide_eq_false (by omega))) rfl) (seqG (ifF (eq rfl (decide_eq_false (by omega))) rfl) (seqG (ifF (eq rfl (decide_eq_false (by omega))) rfl) (seqA (ev_ch3 w2 h) (retA (f2A rfl (ev_ch4 w2 h) ?_)))))))
     show (if (sD (tx (cs.filter isK))).length + (sD (tx (cs.filter fun i=>!isK i))).length ≤ sizeLine then some (U.d (.lst (sD (tx (cs.filter isK)) ++ sD (tx (cs.filter fun i=>!isK i))))) else none) = _
     rw [if_pos (by rw [sDlen,sDlen,tx_len,tx_len]; exact szb (by omega)),tx_app]
     unfold sD
     rw [List.map_append]
noncomputable def txL (ls : List Ln) : List Str:=ls.map Ln.text
theorem txL_len (ls : List Ln) : (txL ls).length = ls.length:=List.length_map ..
noncomputable def jnL (ls : List Ln) : Str:=Txt.join ("\n" : Str) (txL ls)
theorem split_nl {parts : List Str} (h0 : parts ≠ []) (h : ∀ p ∈ parts,¬ (10 ∈ TL.tl p)) : Txt.split (Txt.join ("\n" : Str) parts) ("\n" : Str) = parts :=
 TL.split_join (y:=("\n" : Str)) (s:=10) (S:=[]) rfl (by decide +kernel) h0 h
theorem strsU_sD (ss : List Str) : strsU ((sD ss).map U.d) = some ss:=by
 induction ss with
 | nil=>rfl
 | cons s ss ih =>
  unfold strsU at ih ⊢
  unfold sD at ih ⊢
  rw [List.map_cons,List.map_cons,allM,ih]
section
variable {ls : List Ln}
theorem txL_nl (h : ∀ l ∈ ls,LnG l) : ∀ p ∈ txL ls,¬ (10 ∈ TL.tl p):=fun p hp=>by
 obtain ⟨l,hl,rfl⟩:=List.mem_map.mp hp
 exact (h l hl).nl
theorem jnL_sum (h : ∀ l ∈ ls,LnG l) (hl : ls.length ≤ 200) : ((txL ls).map fun x=>x.length).sum + (txL ls).length * ("\n" : Str).length ≤ 61 * 200 :=
 join_len (txL ls) 200 (fun p hp=>by
  obtain ⟨l,hl,rfl⟩:=List.mem_map.mp hp
  exact (h l hl).len) (by rw [txL_len]; exact hl)
theorem jnL_len (h : ∀ l ∈ ls,LnG l) (hl : ls.length ≤ 200) : (jnL ls).length + 2 ≤ sizeLine:=by
 have hj:=jnL_sum h hl
 have hsz : (jnL ls).length ≤ ((txL ls).map fun x=>x.length).sum + (txL ls).length * ("\n" : Str).length:=by
  show (Builtin.Str.glued _ _).length ≤ _
  rw [size_glued]
  exact Nat.add_le_add_left (Nat.mul_le_mul_right _ (Nat.sub_le _ _)) _
 exact Nat.le_trans (Nat.add_le_add_right (Nat.le_trans hsz hj) 2) (by decide)
theorem jnL_ok (h : ∀ l ∈ ls,LnG l) (hl : ls.length ≤ 200) (st : Store) : mJoin (.d (.str "\n")) [.d (.lst (sD (txL ls)))] st = some (.d (.str (jnL ls))):=by
 have hs:=jnL_sum h hl
 unfold mJoin
 show (match strsU ((sD (txL ls)).map U.d) with
   | some ys=>if (ys.map fun x : Str=>x.length).sum + ys.length * ("\n" : Str).length ≤ 16777216 then some (U.d (.str (Txt.join "\n" ys))) else none
   | none=>none) = _
 rw [strsU_sD]
 exact if_pos (Nat.le_trans hs (by decide))
theorem lines_jn (h : ∀ l ∈ ls,LnG l) : linesOf (jnL ls) = if jnL ls = ("" : Str) then [] else txL ls:=by
 unfold linesOf
 by_cases e : jnL ls = ("" : Str)
 ·rw [if_pos e,if_pos e]
 ·rw [if_neg e,if_neg e]
  refine split_nl (fun z=>e ?_) (txL_nl h)
  unfold jnL
  rw [z,join_nil]
theorem partsL_len : ∀ (ls : List Ln) (s : D) (k : Nat),(partsL s k ls).length = ls.length
 | [],_,_=>rfl
 | l :: ls,s,k=>by
  show (partsL (l.sec s) (k + 1) ls).length + 1 = _
  rw [partsL_len ls]; rfl
end
noncomputable def isSec : U → Bool
 | .d (.tup [_,.str w,_])=>decide (w = ("section" : Str))
 | _=>false
theorem ne_se1 : ¬ (("remark" : Str) = ("section" : Str)):=by decide +kernel
theorem ne_se2 : ¬ (("kept" : Str) = ("section" : Str)):=by decide +kernel
theorem ne_se3 : ¬ (("place" : Str) = ("section" : Str)):=by decide +kernel
noncomputable def pairD2 (p : Str × Str) : D:=.tup [.str p.1,.str p.2]
theorem sets_of : ∀ (ls : List Ln) (s : D) (k : Nat),(((partsL s k ls).map U.d).filter isSet).map thingP = (setsL s ls).map pairD2
 | [],_,_=>rfl
 | .rem x :: ls,s,k=>by
  show (((U.d (.tup [.int k,.str "remark",.str x]) :: (partsL s (k + 1) ls).map U.d)).filter isSet).map thingP = _
  rw [List.filter_cons_of_neg (by simp only [isSet,decide_eq_false ne_pl1]; exact Bool.false_ne_true)]
  exact sets_of ls s (k + 1)
 | .kept x n p v :: ls,s,k=>by
  show (((U.d (.tup [.int k,.str "kept",.tup [.int n,.str p,v]]) :: (partsL s (k + 1) ls).map U.d)).filter isSet).map thingP = _
  rw [List.filter_cons_of_neg (by simp only [isSet,decide_eq_false ne_pl2]; exact Bool.false_ne_true)]
  exact sets_of ls s (k + 1)
 | .head n :: ls,s,k=>by
  show (((U.d (.tup [.int k,.str "section",.str n]) :: (partsL (.str n) (k + 1) ls).map U.d)).filter isSet).map thingP = _
  rw [List.filter_cons_of_neg (by simp only [isSet,decide_eq_false ne_pl3]; exact Bool.false_ne_true)]
  exact sets_of ls (.str n) (k + 1)
 | .set x v :: ls,s,k=>by
  show (((U.d (.tup [.int k,.str "place",.tup [.str (pl s x),.str v]]) :: (partsL s (k + 1) ls).map U.d)).filter isSet).map thingP = _
  rw [List.filter_cons_of_pos (by simp only [isSet,decide_true]),List.map_cons,sets_of ls s (k + 1)]
  rfl
theorem lu_whole (w x y z : U) : List.lookup ("whole" : Str) [(("whole" : Str),w),(("all_parts" : Str),x),(("parts" : Str),y),(("settings_read" : Str),z)] = some w:=rfl
theorem lu_all (w x y z : U) : List.lookup ("all_parts" : Str) [(("whole" : Str),w),(("all_parts" : Str),x),(("parts" : Str),y),(("settings_read" : Str),z)] = some x:=rfl
theorem lu_read (w x y z : U) : List.lookup ("settings_read" : Str) [(("whole" : Str),w),(("all_parts" : Str),x),(("parts" : Str),y),(("settings_read" : Str),z)] = some z:=rfl
noncomputable abbrev FL (a : Ad) (s : Str) (ls : List Ln) (ds : List D) (dd : List (Key × D)) : D:=fileD a s (partsL .non 0 ls) ds dd
section
variable {s : Str} {ls : List Ln} {ds : List D} {dd : List (Key × D)}
theorem pairs_loop {u0 : Option U} : ∀ (ps : List D) (acc : List U) (x1 x2 x3 : Option U),(∀ p ∈ ps,PartOk p) → acc.length + ps.length ≤ sizeLine →
  ∃ y1 y2 y3,loopLY (tgT 3 (tgCons (tgN 1) (tgCons (tgN 2) (tgCons (tgN 3) tgNil)))) (b_SettingsFile_pairs_1 K a) (ps.map U.d) [u0,x1,x2,x3] st acc = .ok [u0,y1,y2,y3] .nx st (acc ++ (((ps.map U.d).filter isSet).map thingP).map U.d)
 | [],acc,x1,x2,x3,_,_=>⟨x1,x2,x3,by simp [loopLY,yNil]⟩
 | p :: ps,acc,x1,x2,x3,ok,hl=>by
  rw [List.length_cons] at hl
  have hp:=ok p (List.mem_cons_self ..)
  have skip : ∀ (t : Int) (w : Str) (th : D),p = .tup [.int t,.str w,th] → (decide (w = ("place" : Str))) = false → ∃ y1 y2 y3,loopLY (tgT 3 (tgCons (tgN 1) (tgCons (tgN 2) (tgCons (tgN 3) tgNil)))) (b_SettingsFile_pairs_1 K a) ((p :: ps).map U.d) [u0,x1,x2,x3] st acc = .ok [u0,y1,y2,y3] .nx st (acc ++ (((((p :: ps)).map U.d).filter isSet).map thingP).map U.d):=fun t w th e hw=>by
   obtain ⟨y1,y2,y3,ih⟩:=pairs_loop (u0:=u0) ps acc (some (.d (.int t))) (some (.d (.str w))) (some (.d th)) (fun q hq=>ok q (List.mem_cons_of_mem _ hq)) (by omega)
   subst e
   refine ⟨y1,y2,y3,?_⟩
   rw [List.map_cons,List.filter_cons_of_neg (by simp only [isSet,hw]; exact Bool.false_ne_true),← ih]
   have eb : b_SettingsFile_pairs_1 K a [u0,some (.d (.int t)),some (.d (.str w)),some (.d th)] st acc = .ok [u0,some (.d (.int t)),some (.d (.str w)),some (.d th)] .nx st acc:=by
    unfold b_SettingsFile_pairs_1
    simp_all? only [ySeq,yIf,yBnd,yNil,eqB,hw]
   rw [loopLY]
   simp_all? only [eb]
  cases hp with
  | rem t x=>exact skip t "remark" (.str x) rfl (decide_eq_false ne_pl1)
  | kept t n q v=>exact skip t "kept" _ rfl (decide_eq_false ne_pl2)
  | head t n=>exact skip t "section" (.str n) rfl (decide_eq_false ne_pl3)
  | set t q v =>
   obtain ⟨y1,y2,y3,ih⟩:=pairs_loop (u0:=u0) ps (acc ++ [.d (.tup [.str q,.str v])]) (some (.d (.int t))) (some (.d (.str "place"))) (some (.d (.tup [.str q,.str v]))) (fun q hq=>ok q (List.mem_cons_of_mem _ hq)) (by rw [List.length_append,List.length_singleton]; omega)
   refine ⟨y1,y2,y3,?_⟩
   have hlt : acc.length < sizeLine:=by omega
   have eb : b_SettingsFile_pairs_1 K a [u0,some (.d (.int t)),some (.d (.str "place")),some (.d (.tup [.str q,.str v]))] st acc = .ok [u0,some (.d (.int t)),some (.d (.str "place")),some (.d (.tup [.str q,.str v]))] .nx st (acc ++ [.d (.tup [.str q,.str v])]):=by
    unfold b_SettingsFile_pairs_1
    simp_all? only [ySeq,yIf,yBnd,yNil,yYield,eqB,hlt]
   rw [List.map_cons,List.filter_cons_of_pos (by simp only [isSet,decide_true]),List.map_cons,List.map_cons,List.append_cons,show (U.d (thingP (U.d (.tup [.int t,.str "place",.tup [.str q,.str v]])))) = U.d (.tup [.str q,.str v]) from rfl,← ih,loopLY]
   simp_all? only [eb]
theorem ev_fpairs (hl : (partsL .non 0 ls).length ≤ sizeLine) : m_SettingsFile_pairs K a [.d (FL a s ls ds dd)] st = some (st,((setsL .non ls).map pairD2).map U.d):=by
 obtain ⟨y1,y2,y3,e⟩:=pairs_loop (K:=K) (a:=a) (st:=st) (u0:=some (.d (FL a s ls ds dd))) (partsL .non 0 ls) [] none none none (partsL_ok ls .non 0) (by simpa using hl)
 rw [sets_of ls .non 0,List.nil_append] at e
 unfold m_SettingsFile_pairs g_SettingsFile_pairs runY
 have ei : fIter (fFld [a.C_SettingsFile] "all_parts" (vVar 0)) [some (.d (FL a s ls ds dd)),none,none,none] st = .ok (.lst ((partsL .non 0 ls).map U.d)) st:=by
  unfold FL fileD
  simp_all? only [itV,List.mem_cons,List.not_mem_nil,or_false,lu_all]
 simp only [ySeq,yFor,yBnd,List.map_cons,List.map_nil,List.length_cons,List.length_nil,Nat.reduceAdd,Nat.reduceSub,List.replicate_succ,List.replicate_zero,List.cons_append,List.nil_append,ei,e,yNil]
end
noncomputable abbrev FV (a : Ad) (s : Str) (ls : List Ln) (ds : List D) : D:=FL a s ls ds (mergeD [] (kvD (setsL .non ls)))
section
variable {s : Str} {ls : List Ln} {ds : List D}
theorem insF (s0 : Store) : insU s0 (.d (FV a s ls ds)) = some (a.C_SettingsFile,[(("whole" : Str),.d (.str s)),(("all_parts" : Str),.d (.lst (partsL .non 0 ls))),(("parts" : Str),.d (.lst ds)),(("settings_read" : Str),.d (.dct (mergeD [] (kvD (setsL .non ls)))))]):=rfl
theorem ev_flines (w : WF st) (hs : s.length + 2 ≤ sizeLine) : ∃ xs,m_SettingsFile_lines K a [.d (FV a s ls ds)] st = .ok (.d (.lst xs)) st:=by
 have e:=ev_lines_of (K:=K) (a:=a) w s hs
 refine ⟨(linesOf s).map D.str,?_⟩
 have f1 : oFld [a.C_SettingsFile] "whole" (.d (FV a s ls ds)) st = some (.d (.str s)):=by
  unfold oFld
  rw [insF]
  simp only [List.mem_cons,true_or,if_true]
  rfl
 exact fnZ (us:=[.d (FV a s ls ds)]) (n:=1) (g:=g_SettingsFile_lines K a) (s1:=[]) w (by
  rw [List.append_nil]
  unfold g_SettingsFile_lines
  exact retA (callA (cons1 (f1A rfl f1)) rfl e))
theorem ev_fsections (w : WF st) (hl : (partsL .non 0 ls).length ≤ sizeLine) : ∃ xs,m_SettingsFile_sections K a [.d (FV a s ls ds)] st = .ok (.d (.lst xs)) st:=by
 have ok:=partsL_ok ls .non 0
 refine ⟨(((partsL .non 0 ls).map U.d).filter isSec).map thingP,fnZ (us:=[.d (FV a s ls ds)]) (n:=4) (g:=g_SettingsFile_sections K a) (s1:=[]) (env1:=[some (.d (FV a s ls ds)),none,none,none]) w ?_⟩
 ·rw [List.append_nil]
  unfold g_SettingsFile_sections
  refine retA ?_
  unfold c_SettingsFile_sections_1
  refine fLc_pure (us:=(partsL .non 0 ls).map U.d) isSec thingP w ?_ (by rw [List.length_map]; exact hl) fun u hu st' h'=>?_
  ·show fIter (fFld [a.C_SettingsFile] "all_parts" (vVar 0)) [some (.d (FL a s ls ds (mergeD [] (kvD (setsL .non ls))))),none,none,none] st = _
   unfold FL fileD
   simp_all? only [itV,List.mem_cons,List.not_mem_nil,or_false,lu_all]
  ·obtain ⟨p,hp,rfl⟩:=List.mem_map.mp hu
   have:=ok p hp
   cases this with
   | rem t x=>exact ⟨_,rfl,by simp only [fnM,sSeq,sRet,sRetN,sExpr,sIf,sNil,sNo,sAsg,tgN,bndS,bnd,vVar,vC,f2,f1,fB,pu,fN,vTup,vLst,fTup,fCons,fNil,fPure,fIf,fAnd,fOr,fNot,asB,asT,bAnd,bOr,bNot,fChain,fCall,fCW,gPos,gApp,R.of,R.of2,fM,pu4,tgT,tgCons,tgNil,unp,pureL,sPar,sPar3,fLstC,fFld,oFld,fMeth,insU,sFldS,setFld,fSl,oNone,oSome,tgSub,setU,fIter,fItN,fItS,sFor,getL,getT,VL.getD,keyD,tyB,lstC,oAdd,oSub,oMul,oFdiv,oMod,oPow,oNeg,oLt,oLe,oGt,oGe,oEq,oNe,oIsN,oNotN,oIn,oNotIn,oIx,oLen,oInt,oAbs,oMin,oMax,oStr,oList,oListC,oTuple,oAll,oAny,itemsU,lenN,truB,fJs,oFmt,List.map_cons,List.map_nil,List.length_cons,List.length_nil,List.replicate_succ,List.replicate_zero,List.cons_append,List.nil_append,List.append_nil,List.getElem?_cons_zero,List.getElem?_cons_succ,List.set_cons_zero,List.set_cons_succ,Nat.reduceAdd,Nat.reduceSub,Option.map_some,Option.map_none,if_true,if_false,ite_true,ite_false,Bool.false_eq_true,reduceCtorEq,true_and,and_true,and_self,Bool.not_true,Bool.not_false,Nat.zero_add,Option.bind_some,Option.bind_eq_bind,Option.pure_def,decide_true,decide_false,eq_self,Nat.reduceEqDiff,Nat.reduceLT,Nat.reduceLeDiff,Int.reduceLT,Int.reduceLE,Int.reduceEq,Bool.and_true,Bool.true_and,Bool.false_and,Bool.or_false,Bool.or_true,Bool.true_or,Bool.false_or,sz0,szl0,sz1,szl1,sz2,szl2,sz3,szl3,sz4,szl4,sz5,szl5,sz6,szl6,sz7,szl7,sz8,szl8,sz9,szl9,sz10,szl10,sz11,szl11,sz12,szl12,sz13,szl13,sz14,szl14,sz15,szl15,wipeE,eqB,isSec,decide_eq_false ne_se1],fun e=>by simp only [fnM,sSeq,sRet,sRetN,sExpr,sIf,sNil,sNo,sAsg,tgN,bndS,bnd,vVar,vC,f2,f1,fB,pu,fN,vTup,vLst,fTup,fCons,fNil,fPure,fIf,fAnd,fOr,fNot,asB,asT,bAnd,bOr,bNot,fChain,fCall,fCW,gPos,gApp,R.of,R.of2,fM,pu4,tgT,tgCons,tgNil,unp,pureL,sPar,sPar3,fLstC,fFld,oFld,fMeth,insU,sFldS,setFld,fSl,oNone,oSome,tgSub,setU,fIter,fItN,fItS,sFor,getL,getT,VL.getD,keyD,tyB,lstC,oAdd,oSub,oMul,oFdiv,oMod,oPow,oNeg,oLt,oLe,oGt,oGe,oEq,oNe,oIsN,oNotN,oIn,oNotIn,oIx,oLen,oInt,oAbs,oMin,oMax,oStr,oList,oListC,oTuple,oAll,oAny,itemsU,lenN,truB,fJs,oFmt,List.map_cons,List.map_nil,List.length_cons,List.length_nil,List.replicate_succ,List.replicate_zero,List.cons_append,List.nil_append,List.append_nil,List.getElem?_cons_zero,List.getElem?_cons_succ,List.set_cons_zero,List.set_cons_succ,Nat.reduceAdd,Nat.reduceSub,Option.map_some,Option.map_none,if_true,if_false,ite_true,ite_false,Bool.false_eq_true,reduceCtorEq,true_and,and_true,and_self,Bool.not_true,Bool.not_false,Nat.zero_add,Option.bind_some,Option.bind_eq_bind,Option.pure_def,decide_true,decide_false,eq_self,Nat.reduceEqDiff,Nat.reduceLT,Nat.reduceLeDiff,Int.reduceLT,Int.reduceLE,Int.reduceEq,Bool.and_true,Bool.true_and,Bool.false_and,Bool.or_false,Bool.or_true,Bool.true_or,Bool.false_or,sz0,szl0,sz1,szl1,sz2,szl2,sz3,szl3,sz4,szl4,sz5,szl5,sz6,szl6,sz7,szl7,sz8,szl8,sz9,szl9,sz10,szl10,sz11,szl11,sz12,szl12,sz13,szl13,sz14,szl14,sz15,szl15,wipeE,thingP]⟩
   | kept t n p v=>exact ⟨_,rfl,by simp only [fnM,sSeq,sRet,sRetN,sExpr,sIf,sNil,sNo,sAsg,tgN,bndS,bnd,vVar,vC,f2,f1,fB,pu,fN,vTup,vLst,fTup,fCons,fNil,fPure,fIf,fAnd,fOr,fNot,asB,asT,bAnd,bOr,bNot,fChain,fCall,fCW,gPos,gApp,R.of,R.of2,fM,pu4,tgT,tgCons,tgNil,unp,pureL,sPar,sPar3,fLstC,fFld,oFld,fMeth,insU,sFldS,setFld,fSl,oNone,oSome,tgSub,setU,fIter,fItN,fItS,sFor,getL,getT,VL.getD,keyD,tyB,lstC,oAdd,oSub,oMul,oFdiv,oMod,oPow,oNeg,oLt,oLe,oGt,oGe,oEq,oNe,oIsN,oNotN,oIn,oNotIn,oIx,oLen,oInt,oAbs,oMin,oMax,oStr,oList,oListC,oTuple,oAll,oAny,itemsU,lenN,truB,fJs,oFmt,List.map_cons,List.map_nil,List.length_cons,List.length_nil,List.replicate_succ,List.replicate_zero,List.cons_append,List.nil_append,List.append_nil,List.getElem?_cons_zero,List.getElem?_cons_succ,List.set_cons_zero,List.set_cons_succ,Nat.reduceAdd,Nat.reduceSub,Option.map_some,Option.map_none,if_true,if_false,ite_true,ite_false,Bool.false_eq_true,reduceCtorEq,true_and,and_true,and_self,Bool.not_true,Bool.not_false,Nat.zero_add,Option.bind_some,Option.bind_eq_bind,Option.pure_def,decide_true,decide_false,eq_self,Nat.reduceEqDiff,Nat.reduceLT,Nat.reduceLeDiff,Int.reduceLT,Int.reduceLE,Int.reduceEq,Bool.and_true,Bool.true_and,Bool.false_and,Bool.or_false,Bool.or_true,Bool.true_or,Bool.false_or,sz0,szl0,sz1,szl1,sz2,szl2,sz3,szl3,sz4,szl4,sz5,szl5,sz6,szl6,sz7,szl7,sz8,szl8,sz9,szl9,sz10,szl10,sz11,szl11,sz12,szl12,sz13,szl13,sz14,szl14,sz15,szl15,wipeE,eqB,isSec,decide_eq_false ne_se2],fun e=>by simp only [fnM,sSeq,sRet,sRetN,sExpr,sIf,sNil,sNo,sAsg,tgN,bndS,bnd,vVar,vC,f2,f1,fB,pu,fN,vTup,vLst,fTup,fCons,fNil,fPure,fIf,fAnd,fOr,fNot,asB,asT,bAnd,bOr,bNot,fChain,fCall,fCW,gPos,gApp,R.of,R.of2,fM,pu4,tgT,tgCons,tgNil,unp,pureL,sPar,sPar3,fLstC,fFld,oFld,fMeth,insU,sFldS,setFld,fSl,oNone,oSome,tgSub,setU,fIter,fItN,fItS,sFor,getL,getT,VL.getD,keyD,tyB,lstC,oAdd,oSub,oMul,oFdiv,oMod,oPow,oNeg,oLt,oLe,oGt,oGe,oEq,oNe,oIsN,oNotN,oIn,oNotIn,oIx,oLen,oInt,oAbs,oMin,oMax,oStr,oList,oListC,oTuple,oAll,oAny,itemsU,lenN,truB,fJs,oFmt,List.map_cons,List.map_nil,List.length_cons,List.length_nil,List.replicate_succ,List.replicate_zero,List.cons_append,List.nil_append,List.append_nil,List.getElem?_cons_zero,List.getElem?_cons_succ,List.set_cons_zero,List.set_cons_succ,Nat.reduceAdd,Nat.reduceSub,Option.map_some,Option.map_none,if_true,if_false,ite_true,ite_false,Bool.false_eq_true,reduceCtorEq,true_and,and_true,and_self,Bool.not_true,Bool.not_false,Nat.zero_add,Option.bind_some,Option.bind_eq_bind,Option.pure_def,decide_true,decide_false,eq_self,Nat.reduceEqDiff,Nat.reduceLT,Nat.reduceLeDiff,Int.reduceLT,Int.reduceLE,Int.reduceEq,Bool.and_true,Bool.true_and,Bool.false_and,Bool.or_false,Bool.or_true,Bool.true_or,Bool.false_or,sz0,szl0,sz1,szl1,sz2,szl2,sz3,szl3,sz4,szl4,sz5,szl5,sz6,szl6,sz7,szl7,sz8,szl8,sz9,szl9,sz10,szl10,sz11,szl11,sz12,szl12,sz13,szl13,sz14,szl14,sz15,szl15,wipeE,thingP]⟩
   | head t n=>exact ⟨_,rfl,by simp only [fnM,sSeq,sRet,sRetN,sExpr,sIf,sNil,sNo,sAsg,tgN,bndS,bnd,vVar,vC,f2,f1,fB,pu,fN,vTup,vLst,fTup,fCons,fNil,fPure,fIf,fAnd,fOr,fNot,asB,asT,bAnd,bOr,bNot,fChain,fCall,fCW,gPos,gApp,R.of,R.of2,fM,pu4,tgT,tgCons,tgNil,unp,pureL,sPar,sPar3,fLstC,fFld,oFld,fMeth,insU,sFldS,setFld,fSl,oNone,oSome,tgSub,setU,fIter,fItN,fItS,sFor,getL,getT,VL.getD,keyD,tyB,lstC,oAdd,oSub,oMul,oFdiv,oMod,oPow,oNeg,oLt,oLe,oGt,oGe,oEq,oNe,oIsN,oNotN,oIn,oNotIn,oIx,oLen,oInt,oAbs,oMin,oMax,oStr,oList,oListC,oTuple,oAll,oAny,itemsU,lenN,truB,fJs,oFmt,List.map_cons,List.map_nil,List.length_cons,List.length_nil,List.replicate_succ,List.replicate_zero,List.cons_append,List.nil_append,List.append_nil,List.getElem?_cons_zero,List.getElem?_cons_succ,List.set_cons_zero,List.set_cons_succ,Nat.reduceAdd,Nat.reduceSub,Option.map_some,Option.map_none,if_true,if_false,ite_true,ite_false,Bool.false_eq_true,reduceCtorEq,true_and,and_true,and_self,Bool.not_true,Bool.not_false,Nat.zero_add,Option.bind_some,Option.bind_eq_bind,Option.pure_def,decide_true,decide_false,eq_self,Nat.reduceEqDiff,Nat.reduceLT,Nat.reduceLeDiff,Int.reduceLT,Int.reduceLE,Int.reduceEq,Bool.and_true,Bool.true_and,Bool.false_and,Bool.or_false,Bool.or_true,Bool.true_or,Bool.false_or,sz0,szl0,sz1,szl1,sz2,szl2,sz3,szl3,sz4,szl4,sz5,szl5,sz6,szl6,sz7,szl7,sz8,szl8,sz9,szl9,sz10,szl10,sz11,szl11,sz12,szl12,sz13,szl13,sz14,szl14,sz15,szl15,wipeE,eqB,isSec],fun e=>by simp only [fnM,sSeq,sRet,sRetN,sExpr,sIf,sNil,sNo,sAsg,tgN,bndS,bnd,vVar,vC,f2,f1,fB,pu,fN,vTup,vLst,fTup,fCons,fNil,fPure,fIf,fAnd,fOr,fNot,asB,asT,bAnd,bOr,bNot,fChain,fCall,fCW,gPos,gApp,R.of,R.of2,fM,pu4,tgT,tgCons,tgNil,unp,pureL,sPar,sPar3,fLstC,fFld,oFld,fMeth,insU,sFldS,setFld,fSl,oNone,oSome,tgSub,setU,fIter,fItN,fItS,sFor,getL,getT,VL.getD,keyD,tyB,lstC,oAdd,oSub,oMul,oFdiv,oMod,oPow,oNeg,oLt,oLe,oGt,oGe,oEq,oNe,oIsN,oNotN,oIn,oNotIn,oIx,oLen,oInt,oAbs,oMin,oMax,oStr,oList,oListC,oTuple,oAll,oAny,itemsU,lenN,truB,fJs,oFmt,List.map_cons,List.map_nil,List.length_cons,List.length_nil,List.replicate_succ,List.replicate_zero,List.cons_append,List.nil_append,List.append_nil,List.getElem?_cons_zero,List.getElem?_cons_succ,List.set_cons_zero,List.set_cons_succ,Nat.reduceAdd,Nat.reduceSub,Option.map_some,Option.map_none,if_true,if_false,ite_true,ite_false,Bool.false_eq_true,reduceCtorEq,true_and,and_true,and_self,Bool.not_true,Bool.not_false,Nat.zero_add,Option.bind_some,Option.bind_eq_bind,Option.pure_def,decide_true,decide_false,eq_self,Nat.reduceEqDiff,Nat.reduceLT,Nat.reduceLeDiff,Int.reduceLT,Int.reduceLE,Int.reduceEq,Bool.and_true,Bool.true_and,Bool.false_and,Bool.or_false,Bool.or_true,Bool.true_or,Bool.false_or,sz0,szl0,sz1,szl1,sz2,szl2,sz3,szl3,sz4,szl4,sz5,szl5,sz6,szl6,sz7,szl7,sz8,szl8,sz9,szl9,sz10,szl10,sz11,szl11,sz12,szl12,sz13,szl13,sz14,szl14,sz15,szl15,wipeE,thingP]⟩
   | set t p v=>exact ⟨_,rfl,by simp only [fnM,sSeq,sRet,sRetN,sExpr,sIf,sNil,sNo,sAsg,tgN,bndS,bnd,vVar,vC,f2,f1,fB,pu,fN,vTup,vLst,fTup,fCons,fNil,fPure,fIf,fAnd,fOr,fNot,asB,asT,bAnd,bOr,bNot,fChain,fCall,fCW,gPos,gApp,R.of,R.of2,fM,pu4,tgT,tgCons,tgNil,unp,pureL,sPar,sPar3,fLstC,fFld,oFld,fMeth,insU,sFldS,setFld,fSl,oNone,oSome,tgSub,setU,fIter,fItN,fItS,sFor,getL,getT,VL.getD,keyD,tyB,lstC,oAdd,oSub,oMul,oFdiv,oMod,oPow,oNeg,oLt,oLe,oGt,oGe,oEq,oNe,oIsN,oNotN,oIn,oNotIn,oIx,oLen,oInt,oAbs,oMin,oMax,oStr,oList,oListC,oTuple,oAll,oAny,itemsU,lenN,truB,fJs,oFmt,List.map_cons,List.map_nil,List.length_cons,List.length_nil,List.replicate_succ,List.replicate_zero,List.cons_append,List.nil_append,List.append_nil,List.getElem?_cons_zero,List.getElem?_cons_succ,List.set_cons_zero,List.set_cons_succ,Nat.reduceAdd,Nat.reduceSub,Option.map_some,Option.map_none,if_true,if_false,ite_true,ite_false,Bool.false_eq_true,reduceCtorEq,true_and,and_true,and_self,Bool.not_true,Bool.not_false,Nat.zero_add,Option.bind_some,Option.bind_eq_bind,Option.pure_def,decide_true,decide_false,eq_self,Nat.reduceEqDiff,Nat.reduceLT,Nat.reduceLeDiff,Int.reduceLT,Int.reduceLE,Int.reduceEq,Bool.and_true,Bool.true_and,Bool.false_and,Bool.or_false,Bool.or_true,Bool.true_or,Bool.false_or,sz0,szl0,sz1,szl1,sz2,szl2,sz3,szl3,sz4,szl4,sz5,szl5,sz6,szl6,sz7,szl7,sz8,szl8,sz9,szl9,sz10,szl10,sz11,szl11,sz12,szl12,sz13,szl13,sz14,szl14,sz15,szl15,wipeE,eqB,isSec,decide_eq_false ne_se3],fun e=>by simp only [fnM,sSeq,sRet,sRetN,sExpr,sIf,sNil,sNo,sAsg,tgN,bndS,bnd,vVar,vC,f2,f1,fB,pu,fN,vTup,vLst,fTup,fCons,fNil,fPure,fIf,fAnd,fOr,fNot,asB,asT,bAnd,bOr,bNot,fChain,fCall,fCW,gPos,gApp,R.of,R.of2,fM,pu4,tgT,tgCons,tgNil,unp,pureL,sPar,sPar3,fLstC,fFld,oFld,fMeth,insU,sFldS,setFld,fSl,oNone,oSome,tgSub,setU,fIter,fItN,fItS,sFor,getL,getT,VL.getD,keyD,tyB,lstC,oAdd,oSub,oMul,oFdiv,oMod,oPow,oNeg,oLt,oLe,oGt,oGe,oEq,oNe,oIsN,oNotN,oIn,oNotIn,oIx,oLen,oInt,oAbs,oMin,oMax,oStr,oList,oListC,oTuple,oAll,oAny,itemsU,lenN,truB,fJs,oFmt,List.map_cons,List.map_nil,List.length_cons,List.length_nil,List.replicate_succ,List.replicate_zero,List.cons_append,List.nil_append,List.append_nil,List.getElem?_cons_zero,List.getElem?_cons_succ,List.set_cons_zero,List.set_cons_succ,Nat.reduceAdd,Nat.reduceSub,Option.map_some,Option.map_none,if_true,if_false,ite_true,ite_false,Bool.false_eq_true,reduceCtorEq,true_and,and_true,and_self,Bool.not_true,Bool.not_false,Nat.zero_add,Option.bind_some,Option.bind_eq_bind,Option.pure_def,decide_true,decide_false,eq_self,Nat.reduceEqDiff,Nat.reduceLT,Nat.reduceLeDiff,Int.reduceLT,Int.reduceLE,Int.reduceEq,Bool.and_true,Bool.true_and,Bool.false_and,Bool.or_false,Bool.or_true,Bool.true_or,Bool.false_or,sz0,szl0,sz1,szl1,sz2,szl2,sz3,szl3,sz4,szl4,sz5,szl5,sz6,szl6,sz7,szl7,sz8,szl8,sz9,szl9,sz10,szl10,sz11,szl11,sz12,szl12,sz13,szl13,sz14,szl14,sz15,szl15,wipeE,thingP]⟩
theorem ev_flen (w : WF st) : m_SettingsFile___len__ K a [.d (FV a s ls ds)] st = .ok (.d (.int ((mergeD [] (kvD (setsL .non ls))).length : Nat))) st:=by
 unfold m_SettingsFile___len__ g_SettingsFile___len__ FV FL fileD
 simp_all? only [List.mem_cons,List.not_mem_nil,or_false,lu_read,List.length_map,wFrz_d w]
theorem ev_fstr (w : WF st) : m_SettingsFile___str__ K a [.d (FV a s ls ds)] st = .ok (.d (.str s)) st:=by
 unfold m_SettingsFile___str__ g_SettingsFile___str__ FV FL fileD
 simp_all? only [List.mem_cons,List.not_mem_nil,or_false,lu_whole,oStrS,wFrz_d w]
theorem kit_own' (C : Addr) : PySem.W.kitOne K (.ref C) (.ref C) = some true:=by
 unfold PySem.W.kitOne
 rw [if_pos]
 simp [BEq.beq]
theorem fldW (s0 : Store) : oFld [a.C_SettingsFile] "whole" (.d (FV a s ls ds)) s0 = some (.d (.str s)):=by
 unfold oFld
 rw [insF]
 simp only [List.mem_cons,true_or,if_true]
 rfl
theorem ev_feq (w : WF st) {s' : Str} {ls' : List Ln} {ds' : List D} : m_SettingsFile___eq__ K a [.d (FV a s ls ds),.d (FV a s' ls' ds')] st = .ok (.d (.bl (decide (s = s')))) st:=by
 have hi : oIsi K a.own [.d (FV a s' ls' ds'),.d (.obj a.C_SettingsFile)] st = some (.d (.bl true)):=by
  unfold oIsi
  have : tyN a.own st (.d (FV a s' ls' ds')) = some (.ref a.C_SettingsFile):=if_pos List.mem_cons_self
  simp only [this,kit_own',Option.map_some]
 exact fnZ (us:=[.d (FV a s ls ds),.d (FV a s' ls' ds')]) (n:=2) (g:=g_SettingsFile___eq__ K a) (s1:=[]) w (by
  rw [List.append_nil]
  unfold g_SettingsFile___eq__
  exact retA (andT (puA (consA rfl (cons1 rfl)) hi) (f2A (f1A rfl (fldW _)) (f1A rfl (fldW _)) (by show (eqB st (.d (.str s)) (.d (.str s'))).map _ = _; rw [eqs]; rfl))))
/-- an object that is no file -/
inductive Oth : D → Prop
 | non : Oth .non
 | bl (k : Bool) : Oth (.bl k)
 | int (i : Int) : Oth (.int i)
 | str (x : Str) : Oth (.str x)
 | lst (xs : List D) : Oth (.lst xs)
 | tup (xs : List D) : Oth (.tup xs)
theorem isiN {x : D} {n : String} (s0 : Store) (h : tyN a.own s0 (.d x) = some (.type n)) (k : PySem.W.kitOne K (.type n) (.ref a.C_SettingsFile) = some false) : oIsi K a.own [.d x,.d (.obj a.C_SettingsFile)] s0 = some (.d (.bl false)):=by
 show (match tyN a.own s0 (.d x) with
  | some t=>(PySem.W.kitOne K t (.ref a.C_SettingsFile)).map fun k=>U.d (.bl k)
  | none=>none) = _
 rw [h]
 simp only [k,Option.map_some]
theorem Oth.isi (Q : Kx K a) {x : D} (h : Oth x) (s0 : Store) : oIsi K a.own [.d x,.d (.obj a.C_SettingsFile)] s0 = some (.d (.bl false)):=by
 cases h with
 | non=>exact isiN s0 rfl Q.xi_NoneType
 | bl k=>exact isiN s0 rfl Q.xi_bool
 | int i=>exact isiN s0 rfl Q.xi_int
 | str y=>exact isiN s0 rfl Q.xi_str
 | lst xs=>exact isiN s0 rfl Q.xi_list
 | tup xs=>exact isiN s0 rfl Q.xi_tuple
theorem andF {fx fy : F U} {env : VEnv} {s s1 : Store} (h1 : fx env s = .ok (.d (.bl false)) s1) : fAnd fx fy env s = .ok (.d (.bl false)) s1:=by
 unfold fAnd bnd
 rw [h1]
theorem Oth.feq (Q : Kx K a) {x : D} (h : Oth x) (w : WF st) : m_SettingsFile___eq__ K a [.d (FV a s ls ds),.d x] st = .ok (.d (.bl false)) st :=
 fnZ (us:=[.d (FV a s ls ds),.d x]) (n:=2) (g:=g_SettingsFile___eq__ K a) (s1:=[]) w (by
  rw [List.append_nil]
  unfold g_SettingsFile___eq__
  exact retA (andF (puA (consA rfl (cons1 rfl)) (h.isi Q st))))
theorem okF {s' : Str} {ls' : List Ln} {ds' : List D} : okTy a.C_SettingsFile eqTys st (.d (FV a s' ls' ds')) = true:=by
 unfold okTy
 rw [insF]
 simp
theorem eqFF (w : WF st) {s' : Str} {ls' : List Ln} {ds' : List D} : eqM a.C_SettingsFile eqTys (m_SettingsFile___eq__ K a) (.d (FV a s ls ds)) (.d (FV a s' ls' ds')) st = .ok (.d (.bl (decide (s = s')))) st ∧ neM a.C_SettingsFile eqTys (m_SettingsFile___eq__ K a) (.d (FV a s ls ds)) (.d (FV a s' ls' ds')) st = .ok (.d (.bl (!decide (s = s')))) st:=by
 constructor
 ·unfold eqM eqOA
  simp only [insF,okF,and_self,if_true,ev_feq w]
 ·unfold neM neOA
  simp only [insF,okF,and_self,if_true,ev_feq w]
theorem Oth.all (Q : Kx K a) {x : D} (h : Oth x) (w : WF st) : eqM a.C_SettingsFile eqTys (m_SettingsFile___eq__ K a) (.d (FV a s ls ds)) (.d x) st = .ok (.d (.bl false)) st ∧ neM a.C_SettingsFile eqTys (m_SettingsFile___eq__ K a) (.d (FV a s ls ds)) (.d x) st = .ok (.d (.bl true)) st ∧ eqM a.C_SettingsFile eqTys (m_SettingsFile___eq__ K a) (.d x) (.d (FV a s ls ds)) st = .ok (.d (.bl false)) st:=by
 have e:=h.feq (s:=s) (ls:=ls) (ds:=ds) Q w
 have hi : insU st (.d x) = none:=by cases h <;> rfl
 have ho : okTy a.C_SettingsFile eqTys st (.d x) = true:=by
  unfold okTy
  cases h <;> rfl
 have hs : (sclU (.d x) || (seqU st (.d x)).isSome) = true:=by cases h <;> rfl
 refine ⟨?_,?_,?_⟩
 ·unfold eqM eqOA
  simp only [insF,ho,and_self,if_true,e]
 ·unfold neM neOA
  simp only [insF,ho,and_self,if_true,e]
  rfl
 ·unfold eqM eqOR2
  simp only [insF,hi,hs,and_self,if_true,e]
end
theorem txL_ln (cs : List Nat) : txL (cs.map ln) = tx cs:=by unfold txL tx; rw [List.map_map]; rfl
noncomputable def jn (cs : List Nat) : Str:=Txt.join ("\n" : Str) (tx cs)
theorem jn_eq (cs : List Nat) : jnL (cs.map ln) = jn cs:=by unfold jnL jn; rw [txL_ln]
theorem Fl.lg {cs : List Nat} (h : Fl cs) : ∀ l ∈ cs.map ln,LnG l:=fun l hl=>by
 obtain ⟨i,hi,rfl⟩:=List.mem_map.mp hl
 exact lnG i (h.g.lt i hi)
theorem Fl.file {cs : List Nat} (h : Fl cs) : ∃ ls,TextOk (jn cs) ls ∧ ls.length ≤ 60:=by
 have hl : (cs.map ln).length ≤ 200:=by rw [List.length_map]; exact Nat.le_trans h.len (by decide)
 have hj:=jnL_len h.lg hl
 have hn:=lines_jn h.lg
 rw [jn_eq] at hj hn
 by_cases e : jn cs = ("" : Str)
 ·rw [if_pos e] at hn
  exact ⟨[],⟨hn,trivial,hj,by decide⟩,by decide⟩
 ·rw [if_neg e] at hn
  exact ⟨cs.map ln,⟨hn,h.g.vd,hj,by rw [List.length_map]; exact Nat.lt_of_le_of_lt h.len (by decide)⟩,by rw [List.length_map]; exact h.len⟩
theorem putD_len (acc : List (Key × D)) (k : Key) (v : D) : (putD acc k v).length ≤ acc.length + 1:=by
 unfold putD
 split
 ·rw [List.length_map]; exact Nat.le_succ _
 ·rw [List.length_append]; exact Nat.le_refl _
theorem mergeD_len : ∀ (kvs acc : List (Key × D)),(mergeD acc kvs).length ≤ acc.length + kvs.length
 | [],acc=>Nat.le_refl _
 | kv :: kvs,acc=>by
  have h1:=mergeD_len kvs (putD acc kv.1 kv.2)
  have h2:=putD_len acc kv.1 kv.2
  show (mergeD (putD acc kv.1 kv.2) kvs).length ≤ _
  rw [List.length_cons]
  omega
theorem setsL_len : ∀ (ls : List Ln) (s : D),(setsL s ls).length ≤ ls.length
 | [],_=>Nat.le_refl _
 | .set k v :: ls,s=>Nat.succ_le_succ (setsL_len ls s)
 | .rem _ :: ls,s=>Nat.le_succ_of_le (setsL_len ls s)
 | .kept _ _ _ _ :: ls,s=>Nat.le_succ_of_le (setsL_len ls s)
 | .head n :: ls,_=>Nat.le_succ_of_le (setsL_len ls (.str n))
theorem dd_len {ls : List Ln} (h : ls.length ≤ 60) : (mergeD [] (kvD (setsL .non ls))).length ≤ 60:=by
 have h1:=mergeD_len (kvD (setsL .non ls)) []
 have h2:=setsL_len ls .non
 have h3 : (kvD (setsL .non ls)).length = (setsL .non ls).length:=List.length_map ..
 rw [List.length_nil] at h1
 omega
theorem eqB_self {x : List D} {p : PyData} (h : toP (.lst x) = some p) (hs : SeqAt.shaped p = true) (he : PyData.eqv p p = true) : eqB st (.d (.lst x)) (.d (.lst x)) = some true:=by
 unfold eqB
 simp only [asP_d,h,hs,he,and_self,if_true]
noncomputable def B3 (k : Bool) : D:=.lst [.bl k,.bl !k,.bl k]
theorem eq3 (k : Bool) : oNe (.d (B3 k)) (.d (B3 k)) st = some (.d (.bl false)):=by
 have:=eqB_self (st:=st) (x:=[.bl k,.bl !k,.bl k]) (p:=.list [.bool k,.bool !k,.bool k]) rfl (by simp [SeqAt.shaped,PyData.canLay0,PyData.canLayAll0,PyData.depth,PyData.depthAll]) (by simp [PyData.eqv,PyData.eqvAll])
 unfold oNe B3
 rw [this]
 rfl
noncomputable def B8 : D:=.lst [B3 false,B3 false,B3 false,B3 false,B3 false,B3 false,B3 false,B3 false]
theorem eq8 : oEq (.d B8) (.d B8) st = some (.d (.bl true)):=by
 have:=eqB_self (st:=st) (x:=[B3 false,B3 false,B3 false,B3 false,B3 false,B3 false,B3 false,B3 false]) (p:=.list (List.replicate 8 (.list [.bool false,.bool true,.bool false]))) rfl (by simp [SeqAt.shaped,PyData.canLay0,PyData.canLayAll0,PyData.depth,PyData.depthAll,List.replicate_succ]) (by simp [PyData.eqv,PyData.eqvAll,List.replicate_succ])
 unfold oEq B8
 rw [this]
 rfl
theorem lu_pairs (w x y z : U) : List.lookup ("pairs" : Str) [(("whole" : Str),w),(("all_parts" : Str),x),(("parts" : Str),y),(("settings_read" : Str),z)] = none:=rfl
section
variable {s : Str} {ls : List Ln} {ds : List D}
theorem ev_lunlike (Q : Kx K a) (w : WF st) (T : TextOk s ls) (hl : ls.length ≤ 60) : m_L_law_unlike K a [.d (FV a s ls ds),.d (.str s)] st = .ok (.d (.bl true)) st:=by
 have hpl : (partsL .non 0 ls).length ≤ sizeLine:=by rw [partsL_len]; exact Nat.le_trans hl (by decide)
 obtain ⟨xs,e1⟩:=ev_flines (K:=K) (ls:=ls) (ds:=ds) w T.l1
 obtain ⟨hs,e2⟩:=ev_fsections (K:=K) (a:=a) (s:=s) (ds:=ds) w hpl
 have e3:=ev_flen (K:=K) (a:=a) (s:=s) (ls:=ls) (ds:=ds) w
 have hd:=dd_len hl
 have hn : (0 : Int) ≤ (((mergeD [] (kvD (setsL .non ls))).length : Nat) : Int) ∧ (((mergeD [] (kvD (setsL .non ls))).length : Nat) : Int) < 2 ^ 63:=⟨by omega,by omega⟩
 have e4:=ev_fpairs (K:=K) (a:=a) (st:=st) (s:=s) (ls:=ls) (ds:=ds) (dd:=mergeD [] (kvD (setsL .non ls))) hpl
 generalize hN : (mergeD [] (kvD (setsL .non ls))).length = N at *
 have i0:=insF (a:=a) (s:=s) (ls:=ls) (ds:=ds) st
 have eN : fB (oLenO a.C_SettingsFile (m_SettingsFile___len__ K a)) (fCons (vVar 0) fNil) [some (.d (FV a s ls ds)),some (.d (.str s)),none,none,none] st = .ok (.d (.int (N : Nat))) st:=by
  unfold fB oLenO
  simp only [bnd,fCons,vVar,fNil,fPure,List.getElem?_cons_zero,i0,if_true,e3,hn,and_self,R.of2]
 have eY : fListY a.C_SettingsFile "pairs" (m_SettingsFile_pairs K a) (vVar 0) [some (.d (FV a s ls ds)),some (.d (.str s)),none,none,none] st = .ok (.d (.lst ((setsL .non ls).map pairD2))) st:=by
  unfold fListY bnd vVar
  simp only [List.getElem?_cons_zero,i0,lu_pairs,and_self,if_true,e4,pureL_map]
 let some8 : List D:=[.str s,.non,.bl true,.int (N : Nat),.lst xs,.tup [.str s],.lst hs,.lst ((setsL .non ls).map pairD2)]
 have hO : ∀ x ∈ some8,Oth x:=fun x hx=>by
  simp only [some8,List.mem_cons,List.not_mem_nil,or_false] at hx
  rcases hx with rfl | rfl | rfl | rfl | rfl | rfl | rfl | rfl
  ·exact .str _
  ·exact .non
  ·exact .bl _
  ·exact .int _
  ·exact .lst _
  ·exact .tup _
  ·exact .lst _
  ·exact .lst _
 have e0 : fN vLst (fCons (vVar 1) (fCons (vC .non) (fCons (vC (.bl true)) (fCons (fB (oLenO a.C_SettingsFile (m_SettingsFile___len__ K a)) (fCons (vVar 0) fNil)) (fCons (fProp a.C_SettingsFile (m_SettingsFile_lines K a) (vVar 0)) (fCons (fTup (fCons (vVar 1) fNil)) (fCons (fMeth a.C_SettingsFile "sections" 0 0 gPos (m_SettingsFile_sections K a) (vVar 0) (fCW fNil fNil)) (fCons (fListY a.C_SettingsFile "pairs" (m_SettingsFile_pairs K a) (vVar 0)) fNil)))))))) [some (.d (FV a s ls ds)),some (.d (.str s)),none,none,none] st = .ok (.d (.lst some8)) st :=
  lstDA (ds:=some8) (consA rfl (consA rfl (consA rfl (consA eN (consA (propA rfl (insF _) e1) (consA (tupA (ds:=[.str s]) (cons1 rfl) (by show 1 ≤ sizeLine; decide)) (consA (methA rfl (insF _) rfl rfl rfl e2) (cons1 eY)))))))) (by show 8 ≤ sizeLine; decide)
 have ec : c_L_law_unlike_1 K a [some (.d (FV a s ls ds)),some (.d (.str s)),some (.d (.lst some8)),none,none] st = .ok (.d B8) st:=by
  unfold c_L_law_unlike_1
  have:=fLc_pure (fi:=fIter (vVar 2)) (tg:=tgN 4) (tt:=tYesB) (fe:=fN vLst (fCons (f2s (eqM a.C_SettingsFile eqTys (m_SettingsFile___eq__ K a)) (vVar 0) (vVar 4)) (fCons (f2s (neM a.C_SettingsFile eqTys (m_SettingsFile___eq__ K a)) (vVar 0) (vVar 4)) (fCons (f2s (eqM a.C_SettingsFile eqTys (m_SettingsFile___eq__ K a)) (vVar 4) (vVar 0)) fNil)))) (vs:=[4]) (env:=[some (.d (FV a s ls ds)),some (.d (.str s)),some (.d (.lst some8)),none,none]) (us:=some8.map U.d) (P:=fun _=>true) (q:=fun _=>B3 false) w (iterA rfl) (by rw [List.length_map]; show 8 ≤ sizeLine; decide) fun u hu s1 w1=>by
   obtain ⟨x,hx,rfl⟩:=List.mem_map.mp hu
   obtain ⟨a1,a2,a3⟩:=(hO x hx).all (s:=s) (ls:=ls) (ds:=ds) Q w1
   exact ⟨_,rfl,rfl,fun _=>lstDA (ds:=[.bl false,.bl true,.bl false]) (consA (f2sA rfl rfl a1) (consA (f2sA rfl rfl a2) (cons1 (f2sA rfl rfl a3)))) (by decide)⟩
  rw [this]
  rfl
 have main : g_L_law_unlike K a [some (.d (FV a s ls ds)),some (.d (.str s)),none,none,none] st = .ok [some (.d (FV a s ls ds)),some (.d (.str s)),some (.d (.lst some8)),some (.d B8),none] (.rt (.d (.bl true))) (st ++ []):=by
  rw [List.append_nil]
  unfold g_L_law_unlike
  refine seqA e0 (seqA ec (retA (f2A rfl (f2A (lstDA (ds:=[B3 false]) (cons1 (lstDA (ds:=[.bl false,.bl true,.bl false]) (consA rfl (consA rfl (cons1 rfl))) (by decide))) (by decide)) (puA (cons1 rfl) rfl) rfl) eq8)))
 exact fnZ (us:=[.d (FV a s ls ds),.d (.str s)]) (n:=5) (g:=g_L_law_unlike K a) (s1:=[]) w main
theorem ev_strO (w : WF st) {env : VEnv} {fo : F U} (hf : fo env st = .ok (.d (FV a s ls ds)) st) : fB (oStrO a.C_SettingsFile (m_SettingsFile___str__ K a)) (fCons fo fNil) env st = .ok (.d (.str s)) st:=by
 have e:=ev_fstr (K:=K) (a:=a) (s:=s) (ls:=ls) (ds:=ds) w
 unfold fB
 simp only [bnd,fCons,hf,fNil,fPure]
 unfold oStrO
 simp only [insF,if_true,e,R.of2]
end
theorem notA {f : F U} {env : VEnv} {s s1 : Store} {k : Bool} (h : f env s = .ok (.d (.bl k)) s1) : fNot f env s = .ok (.d (.bl !k)) s1:=by
 unfold fNot bnd
 rw [h]
 rfl
theorem mk {s : Str} (T : ∃ ls,TextOk s ls ∧ ls.length ≤ 60) (w : WF st) : ∃ ls,TextOk s ls ∧ ls.length ≤ 60 ∧ ∃ ds,∀ (fx : F U) (env : VEnv),fx env st = .ok (.d (.str s)) st → fWr wFrz (fMake a.C_SettingsFile 1 0 gPos (m_SettingsFile_init K a) (fCW (fCons fx fNil) fNil)) env st = .ok (.d (FV a s ls ds)) st:=by
 obtain ⟨ls,T,hl⟩:=T
 obtain ⟨ds,e⟩:=ev_make (K:=K) (a:=a) w T (fc:=fun _ st=>.ok ([.d (.str s)],[]) st) (env:=[]) rfl
 refine ⟨ls,T,hl,ds,fun fx env hf=>?_⟩
 rw [← e]
 have hc : fCW (fCons fx fNil) fNil env st = .ok ([.d (.str s)],[]) st:=cwA (cons1 hf) rfl
 unfold fWr fMake bnd
 rw [hc]
theorem ev_turn (Q : Kx K a) {b : Nat} (w : WF st) (hb : Bag st b) {x0 x1 x3 x4 x5 x6 x7 x8 x9 x10 : Option U} : ∃ (y4 y5 y6 y7 y8 y9 y10 : Option U) (s' : Store),b_law_1 K a [x0,x1,some (.ref b),x3,x4,x5,x6,x7,x8,x9,x10] st = .ok [x0,x1,some (.ref b),x3,y4,y5,y6,y7,y8,y9,y10] .nx s' ∧ Fb st s' b:=by
 obtain ⟨cs,s1,e1,h1,k1⟩:=ev_llines (K:=K) (a:=a) w hb
 obtain ⟨ct,s2,e2,h2,k2⟩:=ev_lchanged (K:=K) (a:=a) k1.wf k1.bag h1
 have w2:=k2.wf
 have j1:=jnL_ok h1.fl.lg (by rw [List.length_map]; have:=h1.len; omega) s2
 have j2:=jnL_ok h2.lg (by rw [List.length_map]; have:=h2.len; omega) s2
 rw [txL_ln,jn_eq] at j1 j2
 obtain ⟨l1,T1,z1,d1,m1⟩:=mk (K:=K) (a:=a) h1.fl.file w2
 obtain ⟨l2,T2,z2,d2,m2⟩:=mk (K:=K) (a:=a) h2.file w2
 have u:=ev_lunlike (K:=K) (a:=a) (ds:=d1) Q w2 T1 z1
 obtain ⟨q1,q2⟩:=eqFF (K:=K) (a:=a) (s:=jn cs) (ls:=l1) (ds:=d1) w2 (s':=jn ct) (ls':=l2) (ds':=d2)
 obtain ⟨q3,-⟩:=eqFF (K:=K) (a:=a) (s:=jn ct) (ls:=l2) (ds:=d2) w2 (s':=jn cs) (ls':=l1) (ds':=d1)
 obtain ⟨q4,-⟩:=eqFF (K:=K) (a:=a) (s:=jn ct) (ls:=l2) (ds:=d2) w2 (s':=jn ct) (ls':=l2) (ds':=d2)
 rw [show decide (jn ct = jn cs) = decide (jn cs = jn ct) from decide_eq_decide.mpr eq_comm] at q3
 rw [decide_eq_true rfl] at q4
 have hk:=fun k : Bool=>eq3 (st:=s2) k
 refine ⟨some (.d (.lst (sD (tx cs)))),some (.d (.lst (sD (tx ct)))),some (.d (.str (jn cs))),some (.d (.str (jn ct))),some (.d (FV a (jn cs) l1 d1)),some (.d (FV a (jn ct) l2 d2)),some (.d (.bl (decide (jn cs = jn ct)))),s2,?_,k1.trans k2⟩
 unfold b_law_1
 refine seqA (callA (cons1 rfl) rfl e1) (seqA (callA (consA rfl (cons1 rfl)) rfl e2) ?_)
 refine seqG (parA (consA (strM rfl (cons1 rfl) j1) (cons1 (strM rfl (cons1 rfl) j2)))) ?_
 refine seqG (parA (consA (m1 _ _ rfl) (cons1 (m2 _ _ rfl)))) ?_
 refine seqA (f2A rfl rfl (show oEq (.d (.str (jn cs))) (.d (.str (jn ct))) s2 = some (.d (.bl (decide (jn cs = jn ct)))) by unfold oEq; rw [eqs]; rfl)) ?_
 generalize decide (jn cs = jn ct) = k at *
 refine seqG (ifF (asBA (f2A (lstDA (ds:=[.bl k,.bl !k,.bl k]) (consA (f2sA rfl rfl q1) (consA (f2sA rfl rfl q2) (cons1 (f2sA rfl rfl q3)))) (by show 3 ≤ sizeLine; decide)) (lstDA (ds:=[.bl k,.bl !k,.bl k]) (consA rfl (consA (notA rfl) (cons1 rfl))) (by show 3 ≤ sizeLine; decide)) (hk k))) rfl) ?_
 refine ifF (bOrF (bNotA (k:=true) (asTA (callA (consA rfl (cons1 rfl)) rfl u) rfl)) (bOrF (bNotA (k:=true) (asBA (f2sA (m2 _ _ (ev_strO w2 rfl)) rfl q4))) (asBA (f2A (ev_strO w2 rfl) rfl (by unfold oNe; rw [eqs,decide_eq_true rfl]; rfl))))) rfl
theorem ev_at (Q : Kx K a) {ns : List Int} (hn : ns.length ≤ 63) {i : Nat} (hi : i < 64) (w : WF st) {x2 x3 x4 x5 x6 x7 x8 x9 x10 : Option U} : ∃ (y2 y3 y4 y5 y6 y7 y8 y9 y10 : Option U) (s' : Store),b_law_2 K a [some (.d (.scr ns)),some (.d (.int (i : Nat))),x2,x3,x4,x5,x6,x7,x8,x9,x10] st = .ok [some (.d (.scr ns)),some (.d (.int (i : Nat))),y2,y3,y4,y5,y6,y7,y8,y9,y10] .nx s' ∧ WF s':=by
 obtain ⟨n,x,e0⟩:=ev_lbag (K:=K) (a:=a) w ns hn i hi
 have w0 : WF (st ++ [.lst [.d (.int n),.d (.int x)]]):=w.pushL [.int n,.int x]
 have b0 : Bag (st ++ [.lst [.d (.int n),.d (.int x)]]) st.length:=⟨n,x,new_at⟩
 obtain ⟨env',s3,e4,⟨y3,y4,y5,y6,y7,y8,y9,y10,rfl,w3,b3⟩⟩:=loopI (n:=3) (g:=b_law_1 K a) (fun env s=>∃ y3 y4 y5 y6 y7 y8 y9 y10 : Option U,env = [some (.d (.scr ns)),some (.d (.int (i : Nat))),some (.ref st.length),y3,y4,y5,y6,y7,y8,y9,y10] ∧ WF s ∧ Bag s st.length) ((List.range 12).map fun i=>U.d (.int (((0 + i : Nat)) : Int))) (fun u hu env s ⟨y3,y4,y5,y6,y7,y8,y9,y10,he,ww,bb⟩=>by
  subst he
  obtain ⟨z4,z5,z6,z7,z8,z9,z10,s',e,k'⟩:=ev_turn (K:=K) (a:=a) Q (x0:=some (.d (.scr ns))) (x1:=some (.d (.int (i : Nat)))) (x3:=some u) (x4:=y4) (x5:=y5) (x6:=y6) (x7:=y7) (x8:=y8) (x9:=y9) (x10:=y10) ww bb
  exact ⟨_,s',e,_,_,_,_,_,_,_,_,rfl,k'.wf,k'.bag⟩) [some (.d (.scr ns)),some (.d (.int (i : Nat))),some (.ref st.length),x3,x4,x5,x6,x7,x8,x9,x10] (st ++ [.lst [.d (.int n),.d (.int x)]]) ⟨_,_,_,_,_,_,_,_,rfl,w0,b0⟩
 refine ⟨some (.ref st.length),y3,y4,y5,y6,y7,y8,y9,y10,s3,?_,w3⟩
 unfold b_law_2
 exact seqA (callA (consA rfl (cons1 rfl)) rfl e0) ((sFor_lst (fItN_ok rfl (itRn (by decide)))).trans e4)
theorem minmax4 (L : Nat) : (if (if ((L : Nat) : Int) < 4 then ((L : Nat) : Int) else 4) > 1 then (if ((L : Nat) : Int) < 4 then ((L : Nat) : Int) else 4) else 1) = ((max 1 (min 4 L) : Nat) : Int):=by
 split <;> split <;> omega
theorem law_ok : LawOk:=by
 intro K a Q ns hn
 obtain ⟨env',s1,e1,⟨y1,y2,y3,y4,y5,y6,y7,y8,y9,y10,rfl,w1⟩⟩:=loopI (n:=1) (g:=b_law_2 K a) (fun env s=>∃ y1 y2 y3 y4 y5 y6 y7 y8 y9 y10 : Option U,env = [some (.d (.scr ns)),y1,y2,y3,y4,y5,y6,y7,y8,y9,y10] ∧ WF s) ((List.range (max 1 (min 4 ns.length))).map fun i=>U.d (.int (((0 + i : Nat)) : Int))) (fun u hu env s ⟨y1,y2,y3,y4,y5,y6,y7,y8,y9,y10,he,ww⟩=>by
  subst he
  obtain ⟨i,hi,rfl⟩:=List.mem_map.mp hu
  rw [List.mem_range] at hi
  obtain ⟨z2,z3,z4,z5,z6,z7,z8,z9,z10,s',e,w'⟩:=ev_at (K:=K) (a:=a) Q hn (i:=0 + i) (by omega) (x2:=y2) (x3:=y3) (x4:=y4) (x5:=y5) (x6:=y6) (x7:=y7) (x8:=y8) (x9:=y9) (x10:=y10) ww
  exact ⟨_,s',e,_,_,_,_,_,_,_,_,_,_,rfl,w'⟩) [some (.d (.scr ns)),none,none,none,none,none,none,none,none,none,none] [] ⟨_,_,_,_,_,_,_,_,_,_,rfl,WF.nil⟩
 have h0 : Fl []:=⟨⟨nofun,rfl,.nil⟩,by decide⟩
 have h1 : Fl [16]:=⟨⟨by decide,by decide,by decide⟩,by decide⟩
 have h2 : Fl [16,1]:=⟨⟨by decide,by decide,by decide⟩,by decide⟩
 obtain ⟨l0,T0,z0,d0,m0⟩:=mk (K:=K) (a:=a) h0.file w1
 obtain ⟨l1,T1,z1,d1,m1⟩:=mk (K:=K) (a:=a) h1.file w1
 obtain ⟨l2,T2,z2,d2,m2⟩:=mk (K:=K) (a:=a) h2.file w1
 have t0 : jn [] = ("" : Str):=by decide +kernel
 have t1 : jn [16] = ("[a]" : Str):=by decide +kernel
 have t2 : jn [16,1] = ("[a]\n" : Str):=by decide +kernel
 obtain ⟨q0,-⟩:=eqFF (K:=K) (a:=a) (s:=jn []) (ls:=l0) (ds:=d0) w1 (s':=jn []) (ls':=l0) (ds':=d0)
 obtain ⟨-,q1⟩:=eqFF (K:=K) (a:=a) (s:=jn [16]) (ls:=l1) (ds:=d1) w1 (s':=jn [16,1]) (ls':=l2) (ds':=d2)
 rw [decide_eq_true rfl] at q0
 rw [decide_eq_false (show jn [16] ≠ jn [16,1] by decide +kernel)] at q1
 have hfi : fItN itR (fCons (fB (pu oMax) (fCons (vC (.int 1)) (fCons (fB (pu oMin) (fCons (vC (.int 4)) (fCons (fB (pu oLen) (fCons (vVar 0) fNil)) fNil))) fNil))) fNil) [some (.d (.scr ns)),none,none,none,none,none,none,none,none,none,none] [] = .ok (.lst ((List.range (max 1 (min 4 ns.length))).map fun i=>U.d (.int (((0 + i : Nat)) : Int)))) []:=by
  refine fItN_ok (us:=[.d (.int ((max 1 (min 4 ns.length) : Nat) : Int))]) ?_ (itRn (by omega))
  have:=minmax4 ns.length
  simp_all? only [List.length_map,this]
 refine ⟨[],?_⟩
 have main : g_law K a [some (.d (.scr ns)),none,none,none,none,none,none,none,none,none,none] [] = .ok [some (.d (.scr ns)),y1,y2,y3,y4,y5,y6,y7,y8,y9,y10] (.rt (.d (.bl true))) s1:=by
  unfold g_law
  exact seqG ((sFor_lst hfi).trans e1) (retA (andT (f2sA (m0 _ _ (by rw [t0]; rfl)) (m0 _ _ (by rw [t0]; rfl)) q0) (f2sA (m1 _ _ (by rw [t1]; rfl)) (m2 _ _ (by rw [t2]; rfl)) q1)))
 have m9:=fnA (us:=[.d (.scr ns)]) (n:=11) (g:=g_law K a) (w:=wFrz) main
 refine m9.trans ?_
 unfold wFrz
 rw [frz_dd]
 rfl
end VL.K07
namespace VL.K07
open PySem PySem.Spec PyProof.Rows L2 VL VL.Hd
noncomputable def hl0 : List Str:=["_wall","__name__","BadText","NoPlace","LETTERS","DIGITS","MOST_LETTERS","MOST_SIGNS","SECTION","PLACE","KEPT","REMARK","is_made_of","is_name","is_place","is_value","is_number","kept_in","setting_in","section_in","Reader","lines_of","SettingsFile","parts_of","_law_bag"]
noncomputable def hl1 : List Str:=["_law_take","_law_of","_law_lines","_law_changed","_law_unlike"]
noncomputable def hl : List Str:=hl0 ++ (hl1)
noncomputable def hn0 : List Str:=["Reader","SettingsFile","_law_bag","_law_take","_law_of","_law_lines","_law_changed","lines_of","is_made_of","is_number","is_name","is_place","is_value","kept_in","section_in","setting_in","parts_of","_law_unlike","law"]
noncomputable def hn : List Str:=hn0
noncomputable def ad (K : PySem.W.Frag) : Ad where
 C_Reader:=He.ga K "Reader"
 C_SettingsFile:=He.ga K "SettingsFile"
 f_L_law_bag:=(He.ga K "_law_bag")
 f_L_law_take:=(He.ga K "_law_take")
 f_L_law_of:=(He.ga K "_law_of")
 f_L_law_lines:=(He.ga K "_law_lines")
 f_L_law_changed:=(He.ga K "_law_changed")
 f_Reader_init:=(He.ma K (He.ga K "Reader") "__init__")
 f_lines_of:=(He.ga K "lines_of")
 f_is_made_of:=(He.ga K "is_made_of")
 f_is_number:=(He.ga K "is_number")
 f_is_name:=(He.ga K "is_name")
 f_is_place:=(He.ga K "is_place")
 f_is_value:=(He.ga K "is_value")
 f_kept_in:=(He.ga K "kept_in")
 f_Reader_put:=(He.ma K (He.ga K "Reader") "put")
 f_Reader_take_kept:=(He.ma K (He.ga K "Reader") "take_kept")
 f_section_in:=(He.ga K "section_in")
 f_setting_in:=(He.ga K "setting_in")
 f_Reader_take_setting:=(He.ma K (He.ga K "Reader") "take_setting")
 f_Reader_take:=(He.ma K (He.ga K "Reader") "take")
 f_parts_of:=(He.ga K "parts_of")
 f_SettingsFile_init:=(He.ma K (He.ga K "SettingsFile") "__init__")
 f_SettingsFile___eq__:=(He.ma K (He.ga K "SettingsFile") "__eq__")
 f_SettingsFile___len__:=(He.ma K (He.ga K "SettingsFile") "__len__")
 f_SettingsFile_lines:=(propF K (He.ma K (He.ga K "SettingsFile") "lines"))
 f_SettingsFile_sections:=(He.ma K (He.ga K "SettingsFile") "sections")
 f_SettingsFile_pairs:=(He.ma K (He.ga K "SettingsFile") "pairs")
 f_L_law_unlike:=(He.ga K "_law_unlike")
 f_SettingsFile___str__:=(He.ma K (He.ga K "SettingsFile") "__str__")
 f_law:=(He.ga K "law")
 p_SettingsFile_lines:=He.ma K (He.ga K "SettingsFile") "lines"
noncomputable def fb0 (K : PySem.W.Frag) : List Bool:=[decide (PySem.W.nsIn K mainGlobals "_law_bag" = some (some (.ref (ad K).f_L_law_bag))),
 codeB K (ad K).f_L_law_bag "_law_bag",
 decide (PySem.W.keepIn K (.ref (ad K).f_L_law_bag) = true),
 decide (PySem.W.nsIn K mainGlobals "_law_take" = some (some (.ref (ad K).f_L_law_take))),
 codeB K (ad K).f_L_law_take "_law_take",
 decide (PySem.W.keepIn K (.ref (ad K).f_L_law_take) = true),
 decide (PySem.W.nsIn K mainGlobals "_law_of" = some (some (.ref (ad K).f_L_law_of))),
 codeB K (ad K).f_L_law_of "_law_of",
 decide (PySem.W.keepIn K (.ref (ad K).f_L_law_of) = true),
 decide (PySem.W.nsIn K mainGlobals "_law_lines" = some (some (.ref (ad K).f_L_law_lines))),
 codeB K (ad K).f_L_law_lines "_law_lines",
 decide (PySem.W.keepIn K (.ref (ad K).f_L_law_lines) = true),
 decide (PySem.W.nsIn K mainGlobals "_law_changed" = some (some (.ref (ad K).f_L_law_changed))),
 codeB K (ad K).f_L_law_changed "_law_changed",
 decide (PySem.W.keepIn K (.ref (ad K).f_L_law_changed) = true),
 decide (PySem.W.findIn K (.ref (ad K).C_Reader) "__init__" = some (some (.ref (ad K).f_Reader_init))),
 decide (PySem.W.isFn K (.ref (ad K).f_Reader_init) = true),
 codeB K (ad K).f_Reader_init "Reader.__init__",
 decide (PySem.W.keepIn K (.ref (ad K).f_Reader_init) = true),
 decide (PySem.W.nsIn K mainGlobals "lines_of" = some (some (.ref (ad K).f_lines_of))),
 codeB K (ad K).f_lines_of "lines_of",
 decide (PySem.W.keepIn K (.ref (ad K).f_lines_of) = true),
 decide (PySem.W.nsIn K mainGlobals "is_made_of" = some (some (.ref (ad K).f_is_made_of))),
 codeB K (ad K).f_is_made_of "is_made_of",
 decide (PySem.W.keepIn K (.ref (ad K).f_is_made_of) = true)]
noncomputable def fb1 (K : PySem.W.Frag) : List Bool:=[decide (PySem.W.nsIn K mainGlobals "is_number" = some (some (.ref (ad K).f_is_number))),
 codeB K (ad K).f_is_number "is_number",
 decide (PySem.W.keepIn K (.ref (ad K).f_is_number) = true),
 decide (PySem.W.nsIn K mainGlobals "is_name" = some (some (.ref (ad K).f_is_name))),
 codeB K (ad K).f_is_name "is_name",
 decide (PySem.W.keepIn K (.ref (ad K).f_is_name) = true),
 decide (PySem.W.nsIn K mainGlobals "is_place" = some (some (.ref (ad K).f_is_place))),
 codeB K (ad K).f_is_place "is_place",
 decide (PySem.W.keepIn K (.ref (ad K).f_is_place) = true),
 decide (PySem.W.nsIn K mainGlobals "is_value" = some (some (.ref (ad K).f_is_value))),
 codeB K (ad K).f_is_value "is_value",
 decide (PySem.W.keepIn K (.ref (ad K).f_is_value) = true),
 decide (PySem.W.nsIn K mainGlobals "kept_in" = some (some (.ref (ad K).f_kept_in))),
 codeB K (ad K).f_kept_in "kept_in",
 decide (PySem.W.keepIn K (.ref (ad K).f_kept_in) = true),
 decide (PySem.W.findIn K (.ref (ad K).C_Reader) "put" = some (some (.ref (ad K).f_Reader_put))),
 decide (PySem.W.isFn K (.ref (ad K).f_Reader_put) = true),
 codeB K (ad K).f_Reader_put "Reader.put",
 decide (PySem.W.keepIn K (.ref (ad K).f_Reader_put) = true),
 decide (PySem.W.findIn K (.ref (ad K).C_Reader) "take_kept" = some (some (.ref (ad K).f_Reader_take_kept))),
 decide (PySem.W.isFn K (.ref (ad K).f_Reader_take_kept) = true),
 codeB K (ad K).f_Reader_take_kept "Reader.take_kept",
 decide (PySem.W.keepIn K (.ref (ad K).f_Reader_take_kept) = true),
 decide (PySem.W.nsIn K mainGlobals "section_in" = some (some (.ref (ad K).f_section_in))),
 codeB K (ad K).f_section_in "section_in"]
noncomputable def fb2 (K : PySem.W.Frag) : List Bool:=[decide (PySem.W.keepIn K (.ref (ad K).f_section_in) = true),
 decide (PySem.W.nsIn K mainGlobals "setting_in" = some (some (.ref (ad K).f_setting_in))),
 codeB K (ad K).f_setting_in "setting_in",
 decide (PySem.W.keepIn K (.ref (ad K).f_setting_in) = true),
 decide (PySem.W.findIn K (.ref (ad K).C_Reader) "take_setting" = some (some (.ref (ad K).f_Reader_take_setting))),
 decide (PySem.W.isFn K (.ref (ad K).f_Reader_take_setting) = true),
 codeB K (ad K).f_Reader_take_setting "Reader.take_setting",
 decide (PySem.W.keepIn K (.ref (ad K).f_Reader_take_setting) = true),
 decide (PySem.W.findIn K (.ref (ad K).C_Reader) "take" = some (some (.ref (ad K).f_Reader_take))),
 decide (PySem.W.isFn K (.ref (ad K).f_Reader_take) = true),
 codeB K (ad K).f_Reader_take "Reader.take",
 decide (PySem.W.keepIn K (.ref (ad K).f_Reader_take) = true),
 decide (PySem.W.nsIn K mainGlobals "parts_of" = some (some (.ref (ad K).f_parts_of))),
 codeB K (ad K).f_parts_of "parts_of",
 decide (PySem.W.keepIn K (.ref (ad K).f_parts_of) = true),
 decide (PySem.W.findIn K (.ref (ad K).C_SettingsFile) "__init__" = some (some (.ref (ad K).f_SettingsFile_init))),
 decide (PySem.W.isFn K (.ref (ad K).f_SettingsFile_init) = true),
 codeB K (ad K).f_SettingsFile_init "SettingsFile.__init__",
 decide (PySem.W.keepIn K (.ref (ad K).f_SettingsFile_init) = true),
 decide (PySem.W.findIn K (.ref (ad K).C_SettingsFile) "__eq__" = some (some (.ref (ad K).f_SettingsFile___eq__))),
 decide (PySem.W.isFn K (.ref (ad K).f_SettingsFile___eq__) = true),
 codeB K (ad K).f_SettingsFile___eq__ "SettingsFile.__eq__",
 decide (PySem.W.keepIn K (.ref (ad K).f_SettingsFile___eq__) = true),
 decide (PySem.W.findIn K (.ref (ad K).C_SettingsFile) "__len__" = some (some (.ref (ad K).f_SettingsFile___len__))),
 decide (PySem.W.isFn K (.ref (ad K).f_SettingsFile___len__) = true)]
noncomputable def fb3 (K : PySem.W.Frag) : List Bool:=[codeB K (ad K).f_SettingsFile___len__ "SettingsFile.__len__",
 decide (PySem.W.keepIn K (.ref (ad K).f_SettingsFile___len__) = true),
 decide (PySem.W.findIn K (.ref (ad K).C_SettingsFile) "lines" = some (some (.ref (ad K).p_SettingsFile_lines))),
 propB K (ad K).p_SettingsFile_lines,
 decide (PySem.W.specialIn K (.ref (ad K).p_SettingsFile_lines) "__get__" = some (some (.builtin "property.__get__"))),
 decide (PySem.W.takesIn K (.ref (ad K).p_SettingsFile_lines) = some true),
 codeB K (ad K).f_SettingsFile_lines "SettingsFile.lines",
 decide (PySem.W.keepIn K (.ref (ad K).f_SettingsFile_lines) = true),
 decide (PySem.W.findIn K (.ref (ad K).C_SettingsFile) "sections" = some (some (.ref (ad K).f_SettingsFile_sections))),
 decide (PySem.W.isFn K (.ref (ad K).f_SettingsFile_sections) = true),
 codeB K (ad K).f_SettingsFile_sections "SettingsFile.sections",
 decide (PySem.W.keepIn K (.ref (ad K).f_SettingsFile_sections) = true),
 decide (PySem.W.findIn K (.ref (ad K).C_SettingsFile) "pairs" = some (some (.ref (ad K).f_SettingsFile_pairs))),
 decide (PySem.W.isFn K (.ref (ad K).f_SettingsFile_pairs) = true),
 codeB K (ad K).f_SettingsFile_pairs "SettingsFile.pairs",
 decide (PySem.W.keepIn K (.ref (ad K).f_SettingsFile_pairs) = true),
 decide (PySem.W.nsIn K mainGlobals "_law_unlike" = some (some (.ref (ad K).f_L_law_unlike))),
 codeB K (ad K).f_L_law_unlike "_law_unlike",
 decide (PySem.W.keepIn K (.ref (ad K).f_L_law_unlike) = true),
 decide (PySem.W.findIn K (.ref (ad K).C_SettingsFile) "__str__" = some (some (.ref (ad K).f_SettingsFile___str__))),
 decide (PySem.W.isFn K (.ref (ad K).f_SettingsFile___str__) = true),
 codeB K (ad K).f_SettingsFile___str__ "SettingsFile.__str__",
 decide (PySem.W.keepIn K (.ref (ad K).f_SettingsFile___str__) = true),
 decide (PySem.W.nsIn K mainGlobals "law" = some (some (.ref (ad K).f_law))),
 codeB K (ad K).f_law "law"]
noncomputable def fb4 (K : PySem.W.Frag) : List Bool:=[decide (PySem.W.keepIn K (.ref (ad K).f_law) = true),
 decide (PySem.W.nsIn K mainGlobals "abs" = some none),
 decide (PySem.W.nsIn K mainGlobals "all" = some none),
 decide (PySem.W.nsIn K mainGlobals "dict" = some none),
 decide (PySem.W.nsIn K mainGlobals "enumerate" = some none),
 decide (PySem.W.nsIn K mainGlobals "int" = some none),
 decide (PySem.W.nsIn K mainGlobals "isinstance" = some none),
 decide (PySem.W.nsIn K mainGlobals "len" = some none),
 decide (PySem.W.nsIn K mainGlobals "list" = some none),
 decide (PySem.W.nsIn K mainGlobals "max" = some none),
 decide (PySem.W.nsIn K mainGlobals "min" = some none),
 decide (PySem.W.nsIn K mainGlobals "range" = some none),
 decide (PySem.W.nsIn K mainGlobals "str" = some none),
 strB K "DIGITS" "0123456789",
 strB K "KEPT" "kept",
 strB K "LETTERS" "abcdefghijklmnopqrstuvwxyz",
 intB K "MOST_LETTERS" 8,
 intB K "MOST_SIGNS" 12,
 strB K "PLACE" "place",
 strB K "REMARK" "remark",
 strB K "SECTION" "section",
 decide (PySem.W.nsIn K mainGlobals "Reader" = some (some (.ref (ad K).C_Reader))),
 decide (PySem.W.plainGet K (ad K).C_Reader Str.empty = true),
 decide (PySem.W.hasDictIn K (ad K).C_Reader = true),
 decide (PySem.W.plainOver K (ad K).C_Reader = true)]
noncomputable def fb5 (K : PySem.W.Frag) : List Bool:=[decide (PySem.W.findIn K (.ref (ad K).C_Reader) "__setattr__" = some (some (.builtin "object.__setattr__"))),
 decide (PySem.W.nsIn K mainGlobals "SettingsFile" = some (some (.ref (ad K).C_SettingsFile))),
 decide (PySem.W.plainGet K (ad K).C_SettingsFile Str.empty = true),
 decide (PySem.W.hasDictIn K (ad K).C_SettingsFile = true),
 decide (PySem.W.plainOver K (ad K).C_SettingsFile = true),
 decide (PySem.W.findIn K (.ref (ad K).C_SettingsFile) "__setattr__" = some (some (.builtin "object.__setattr__"))),
 decide (PySem.W.makesIn K (ad K).C_Reader = true),
 decide (PySem.W.keepIn K (.ref (ad K).C_Reader) = true),
 decide (PySem.W.makesIn K (ad K).C_SettingsFile = true),
 decide (PySem.W.keepIn K (.ref (ad K).C_SettingsFile) = true),
 decide (PySem.W.findIn K (.ref (ad K).C_SettingsFile) "all_parts" = some none),
 decide (PySem.W.findIn K (.ref (ad K).C_Reader) "met" = some none),
 decide (PySem.W.findIn K (.ref (ad K).C_Reader) "parts" = some none),
 decide (PySem.W.findIn K (.ref (ad K).C_SettingsFile) "parts" = some none),
 decide (PySem.W.findIn K (.ref (ad K).C_Reader) "section" = some none),
 decide (PySem.W.findIn K (.ref (ad K).C_SettingsFile) "settings_read" = some none),
 decide (PySem.W.findIn K (.ref (ad K).C_SettingsFile) "whole" = some none),
 decide (PySem.W.subIn K (.type "NoneType") (.ref (ad K).C_SettingsFile) = some false),
 decide (PySem.W.subIn K (.ref (ad K).C_SettingsFile) (.type "NoneType") = some false),
 decide (PySem.W.subIn K (.type "bool") (.ref (ad K).C_SettingsFile) = some false),
 decide (PySem.W.subIn K (.ref (ad K).C_SettingsFile) (.type "bool") = some false),
 decide (PySem.W.subIn K (.type "int") (.ref (ad K).C_SettingsFile) = some false),
 decide (PySem.W.subIn K (.ref (ad K).C_SettingsFile) (.type "int") = some false),
 decide (PySem.W.subIn K (.type "str") (.ref (ad K).C_SettingsFile) = some false),
 decide (PySem.W.subIn K (.ref (ad K).C_SettingsFile) (.type "str") = some false)]
noncomputable def fb6 (K : PySem.W.Frag) : List Bool:=[decide (PySem.W.subIn K (.type "list") (.ref (ad K).C_SettingsFile) = some false),
 decide (PySem.W.subIn K (.ref (ad K).C_SettingsFile) (.type "list") = some false),
 decide (PySem.W.subIn K (.type "tuple") (.ref (ad K).C_SettingsFile) = some false),
 decide (PySem.W.subIn K (.ref (ad K).C_SettingsFile) (.type "tuple") = some false),
 decide (PySem.W.findIn K (.ref (ad K).C_SettingsFile) "__ne__" = some (some (.builtin "object.__ne__"))),
 decide (PySem.W.mroIn K (ad K).C_SettingsFile (.type "object") = some true),
 decide (PySem.W.specialIn K (.builtin "object.__class__") "__get__" = some (some (.builtin "getset_descriptor.__get__"))),
 decide (PySem.W.takesIn K (.builtin "object.__class__") = some true),
 decide (PySem.W.findIn K (.ref (ad K).C_SettingsFile) "__class__" = some (some (.builtin "object.__class__"))),
 decide (PySem.W.mroIn K (ad K).C_SettingsFile (.type "object") = some true),
 decide (PySem.W.kitOne K (.type "NoneType") (.ref (ad K).C_SettingsFile) = some false),
 decide (PySem.W.kitOne K (.type "bool") (.ref (ad K).C_SettingsFile) = some false),
 decide (PySem.W.kitOne K (.type "int") (.ref (ad K).C_SettingsFile) = some false),
 decide (PySem.W.kitOne K (.type "str") (.ref (ad K).C_SettingsFile) = some false),
 decide (PySem.W.kitOne K (.type "list") (.ref (ad K).C_SettingsFile) = some false),
 decide (PySem.W.kitOne K (.type "tuple") (.ref (ad K).C_SettingsFile) = some false)]
noncomputable def fb (K : PySem.W.Frag) : List (List Bool):=[fb0 K,fb1 K,fb2 K,fb3 K,fb4 K,fb5 K,fb6 K]
noncomputable def ff0 (K : PySem.W.Frag) : List He.FnV:=[fnV K (ad K).f_L_law_bag,fnV K (ad K).f_L_law_take,fnV K (ad K).f_L_law_of,fnV K (ad K).f_L_law_lines,fnV K (ad K).f_L_law_changed,fnV K (ad K).f_Reader_init,fnV K (ad K).f_lines_of,fnV K (ad K).f_is_made_of,fnV K (ad K).f_is_number,fnV K (ad K).f_is_name,fnV K (ad K).f_is_place,fnV K (ad K).f_is_value,fnV K (ad K).f_kept_in,fnV K (ad K).f_Reader_put,fnV K (ad K).f_Reader_take_kept,fnV K (ad K).f_section_in,fnV K (ad K).f_setting_in,fnV K (ad K).f_Reader_take_setting,fnV K (ad K).f_Reader_take,fnV K (ad K).f_parts_of,fnV K (ad K).f_SettingsFile_init,fnV K (ad K).f_SettingsFile___eq__,fnV K (ad K).f_SettingsFile___len__,fnV K (ad K).f_SettingsFile_lines,fnV K (ad K).f_SettingsFile_sections]
noncomputable def ff1 (K : PySem.W.Frag) : List He.FnV:=[fnV K (ad K).f_SettingsFile_pairs,fnV K (ad K).f_L_law_unlike,fnV K (ad K).f_SettingsFile___str__,fnV K (ad K).f_law]
noncomputable def ff (K : PySem.W.Frag) : List He.FnV:=ff0 K ++ (ff1 K)
noncomputable def fv0 : List He.FnV:=[fnT "_law_bag" "_law_bag" s_L_law_bag,fnT "_law_take" "_law_take" s_L_law_take,fnT "_law_of" "_law_of" s_L_law_of,fnT "_law_lines" "_law_lines" s_L_law_lines,fnT "_law_changed" "_law_changed" s_L_law_changed,fnT "__init__" "Reader.__init__" s_Reader_init,fnT "lines_of" "lines_of" s_lines_of,fnT "is_made_of" "is_made_of" s_is_made_of,fnT "is_number" "is_number" s_is_number,fnT "is_name" "is_name" s_is_name,fnT "is_place" "is_place" s_is_place,fnT "is_value" "is_value" s_is_value,fnT "kept_in" "kept_in" s_kept_in,fnT "put" "Reader.put" s_Reader_put,fnT "take_kept" "Reader.take_kept" s_Reader_take_kept,fnT "section_in" "section_in" s_section_in,fnT "setting_in" "setting_in" s_setting_in,fnT "take_setting" "Reader.take_setting" s_Reader_take_setting,fnT "take" "Reader.take" s_Reader_take,fnT "parts_of" "parts_of" s_parts_of,fnT "__init__" "SettingsFile.__init__" s_SettingsFile_init,fnT "__eq__" "SettingsFile.__eq__" s_SettingsFile___eq__,fnT "__len__" "SettingsFile.__len__" s_SettingsFile___len__,fnT "lines" "SettingsFile.lines" s_SettingsFile_lines,fnT "sections" "SettingsFile.sections" s_SettingsFile_sections]
noncomputable def fv1 : List He.FnV:=[fnT "pairs" "SettingsFile.pairs" s_SettingsFile_pairs,fnT "_law_unlike" "_law_unlike" s_L_law_unlike,fnT "__str__" "SettingsFile.__str__" s_SettingsFile___str__,fnT "law" "law" s_law]
noncomputable def fv : List He.FnV:=fv0 ++ (fv1)
noncomputable def tb (K : PySem.W.Frag) : List Addr:=[]
noncomputable abbrev hk : PySem.W.Hook:=hookV hn fb ff fv tb
noncomputable def ob (s : PySem.W.SharedT) : Al:=obsV hn fb ff tb (HandSHeadRun.getT s)
theorem ob_eq (s : PySem.W.SharedT) : ob s = hk.obs s.abs:=obsV_eq (HandSHeadRun.getT_eq s)
noncomputable abbrev RR : PySem.W.OpenRow:=PySem.W.OpenLaw.row PySem.Challenge.rw_settingsmerge_k07_equal_files
set_option maxHeartbeats 0 in
theorem run (w : World) : HandSHeadRun.RunEq RR (PySem.W.view RR.prog [32]) hk ob 30000 hl w:=by
 intro os
 kernel_rfl
set_option maxHeartbeats 0 in
theorem all_hd {w : World} {K : PySem.W.Frag} {h : Heap} {mg : Str → Option Value} {fa : Addr} {l : PySem.W.OpenLaw} (X : PySem.W.Frag.In K h) (G : h.Ns mainGlobals mg) (hfa : mg "law" = some (.ref fa)) (c : Says hn fb ff fv tb h K) :
  ∃ fd : FuncData,(∀ (s : Shared) (v : Value),BindsTo s fd { pos:=[v] } [("_law_script",v)]) ∧ ∀ base : Heap,PySem.W.Frag.In K base → base.Ns mainGlobals mg → FnG l.prog w K mg base 8 fa fd ["_law_script"] (spAll K):=by
 have h_a1:=of_decide_eq_true (c.at 0 0)
 obtain ⟨_,_,_,_,_,_,_,_,_,h_l1,h_c1⟩:=fn_of (show fnV K (ad K).f_L_law_bag = fnT "_law_bag" "_law_bag" s_L_law_bag from c.fn 0) (c.at 0 1)
 have h_k1:=of_decide_eq_true (c.at 0 2)
 have h_a2:=of_decide_eq_true (c.at 0 3)
 obtain ⟨_,_,_,_,_,_,_,_,_,h_l2,h_c2⟩:=fn_of (show fnV K (ad K).f_L_law_take = fnT "_law_take" "_law_take" s_L_law_take from c.fn 1) (c.at 0 4)
 have h_k2:=of_decide_eq_true (c.at 0 5)
 have h_a3:=of_decide_eq_true (c.at 0 6)
 obtain ⟨_,_,_,_,_,_,_,_,_,h_l3,h_c3⟩:=fn_of (show fnV K (ad K).f_L_law_of = fnT "_law_of" "_law_of" s_L_law_of from c.fn 2) (c.at 0 7)
 have h_k3:=of_decide_eq_true (c.at 0 8)
 have h_a4:=of_decide_eq_true (c.at 0 9)
 obtain ⟨_,_,_,_,_,_,_,_,_,h_l4,h_c4⟩:=fn_of (show fnV K (ad K).f_L_law_lines = fnT "_law_lines" "_law_lines" s_L_law_lines from c.fn 3) (c.at 0 10)
 have h_k4:=of_decide_eq_true (c.at 0 11)
 have h_a5:=of_decide_eq_true (c.at 0 12)
 obtain ⟨_,_,_,_,_,_,_,_,_,h_l5,h_c5⟩:=fn_of (show fnV K (ad K).f_L_law_changed = fnT "_law_changed" "_law_changed" s_L_law_changed from c.fn 4) (c.at 0 13)
 have h_k5:=of_decide_eq_true (c.at 0 14)
 have h_a6:=of_decide_eq_true (c.at 0 15)
 have h_i6:=of_decide_eq_true (c.at 0 16)
 obtain ⟨_,_,_,_,_,_,_,_,_,h_l6,h_c6⟩:=fn_of (show fnV K (ad K).f_Reader_init = fnT "__init__" "Reader.__init__" s_Reader_init from c.fn 5) (c.at 0 17)
 have h_k6:=of_decide_eq_true (c.at 0 18)
 have h_a7:=of_decide_eq_true (c.at 0 19)
 obtain ⟨_,_,_,_,_,_,_,_,_,h_l7,h_c7⟩:=fn_of (show fnV K (ad K).f_lines_of = fnT "lines_of" "lines_of" s_lines_of from c.fn 6) (c.at 0 20)
 have h_k7:=of_decide_eq_true (c.at 0 21)
 have h_a8:=of_decide_eq_true (c.at 0 22)
 obtain ⟨_,_,_,_,_,_,_,_,_,h_l8,h_c8⟩:=fn_of (show fnV K (ad K).f_is_made_of = fnT "is_made_of" "is_made_of" s_is_made_of from c.fn 7) (c.at 0 23)
 have h_k8:=of_decide_eq_true (c.at 0 24)
 have h_a9:=of_decide_eq_true (c.at 1 0)
 obtain ⟨_,_,_,_,_,_,_,_,_,h_l9,h_c9⟩:=fn_of (show fnV K (ad K).f_is_number = fnT "is_number" "is_number" s_is_number from c.fn 8) (c.at 1 1)
 have h_k9:=of_decide_eq_true (c.at 1 2)
 have h_a10:=of_decide_eq_true (c.at 1 3)
 obtain ⟨_,_,_,_,_,_,_,_,_,h_l10,h_c10⟩:=fn_of (show fnV K (ad K).f_is_name = fnT "is_name" "is_name" s_is_name from c.fn 9) (c.at 1 4)
 have h_k10:=of_decide_eq_true (c.at 1 5)
 have h_a11:=of_decide_eq_true (c.at 1 6)
 obtain ⟨_,_,_,_,_,_,_,_,_,h_l11,h_c11⟩:=fn_of (show fnV K (ad K).f_is_place = fnT "is_place" "is_place" s_is_place from c.fn 10) (c.at 1 7)
 have h_k11:=of_decide_eq_true (c.at 1 8)
 have h_a12:=of_decide_eq_true (c.at 1 9)
 obtain ⟨_,_,_,_,_,_,_,_,_,h_l12,h_c12⟩:=fn_of (show fnV K (ad K).f_is_value = fnT "is_value" "is_value" s_is_value from c.fn 11) (c.at 1 10)
 have h_k12:=of_decide_eq_true (c.at 1 11)
 have h_a13:=of_decide_eq_true (c.at 1 12)
 obtain ⟨_,_,_,_,_,_,_,_,_,h_l13,h_c13⟩:=fn_of (show fnV K (ad K).f_kept_in = fnT "kept_in" "kept_in" s_kept_in from c.fn 12) (c.at 1 13)
 have h_k13:=of_decide_eq_true (c.at 1 14)
 have h_a14:=of_decide_eq_true (c.at 1 15)
 have h_i14:=of_decide_eq_true (c.at 1 16)
 obtain ⟨_,_,_,_,_,_,_,_,_,h_l14,h_c14⟩:=fn_of (show fnV K (ad K).f_Reader_put = fnT "put" "Reader.put" s_Reader_put from c.fn 13) (c.at 1 17)
 have h_k14:=of_decide_eq_true (c.at 1 18)
 have h_a15:=of_decide_eq_true (c.at 1 19)
 have h_i15:=of_decide_eq_true (c.at 1 20)
 obtain ⟨_,_,_,_,_,_,_,_,_,h_l15,h_c15⟩:=fn_of (show fnV K (ad K).f_Reader_take_kept = fnT "take_kept" "Reader.take_kept" s_Reader_take_kept from c.fn 14) (c.at 1 21)
 have h_k15:=of_decide_eq_true (c.at 1 22)
 have h_a16:=of_decide_eq_true (c.at 1 23)
 obtain ⟨_,_,_,_,_,_,_,_,_,h_l16,h_c16⟩:=fn_of (show fnV K (ad K).f_section_in = fnT "section_in" "section_in" s_section_in from c.fn 15) (c.at 1 24)
 have h_k16:=of_decide_eq_true (c.at 2 0)
 have h_a17:=of_decide_eq_true (c.at 2 1)
 obtain ⟨_,_,_,_,_,_,_,_,_,h_l17,h_c17⟩:=fn_of (show fnV K (ad K).f_setting_in = fnT "setting_in" "setting_in" s_setting_in from c.fn 16) (c.at 2 2)
 have h_k17:=of_decide_eq_true (c.at 2 3)
 have h_a18:=of_decide_eq_true (c.at 2 4)
 have h_i18:=of_decide_eq_true (c.at 2 5)
 obtain ⟨_,_,_,_,_,_,_,_,_,h_l18,h_c18⟩:=fn_of (show fnV K (ad K).f_Reader_take_setting = fnT "take_setting" "Reader.take_setting" s_Reader_take_setting from c.fn 17) (c.at 2 6)
 have h_k18:=of_decide_eq_true (c.at 2 7)
 have h_a19:=of_decide_eq_true (c.at 2 8)
 have h_i19:=of_decide_eq_true (c.at 2 9)
 obtain ⟨_,_,_,_,_,_,_,_,_,h_l19,h_c19⟩:=fn_of (show fnV K (ad K).f_Reader_take = fnT "take" "Reader.take" s_Reader_take from c.fn 18) (c.at 2 10)
 have h_k19:=of_decide_eq_true (c.at 2 11)
 have h_a20:=of_decide_eq_true (c.at 2 12)
 obtain ⟨_,_,_,_,_,_,_,_,_,h_l20,h_c20⟩:=fn_of (show fnV K (ad K).f_parts_of = fnT "parts_of" "parts_of" s_parts_of from c.fn 19) (c.at 2 13)
 have h_k20:=of_decide_eq_true (c.at 2 14)
 have h_a21:=of_decide_eq_true (c.at 2 15)
 have h_i21:=of_decide_eq_true (c.at 2 16)
 obtain ⟨_,_,_,_,_,_,_,_,_,h_l21,h_c21⟩:=fn_of (show fnV K (ad K).f_SettingsFile_init = fnT "__init__" "SettingsFile.__init__" s_SettingsFile_init from c.fn 20) (c.at 2 17)
 have h_k21:=of_decide_eq_true (c.at 2 18)
 have h_a22:=of_decide_eq_true (c.at 2 19)
 have h_i22:=of_decide_eq_true (c.at 2 20)
 obtain ⟨_,_,_,_,_,_,_,_,_,h_l22,h_c22⟩:=fn_of (show fnV K (ad K).f_SettingsFile___eq__ = fnT "__eq__" "SettingsFile.__eq__" s_SettingsFile___eq__ from c.fn 21) (c.at 2 21)
 have h_k22:=of_decide_eq_true (c.at 2 22)
 have h_a23:=of_decide_eq_true (c.at 2 23)
 have h_i23:=of_decide_eq_true (c.at 2 24)
 obtain ⟨_,_,_,_,_,_,_,_,_,h_l23,h_c23⟩:=fn_of (show fnV K (ad K).f_SettingsFile___len__ = fnT "__len__" "SettingsFile.__len__" s_SettingsFile___len__ from c.fn 22) (c.at 3 0)
 have h_k23:=of_decide_eq_true (c.at 3 1)
 have h_aP_24:=of_decide_eq_true (c.at 3 2)
 obtain ⟨_,h_aQ_24⟩:=prop_ok (c.at 3 3)
 have h_aR_24:=of_decide_eq_true (c.at 3 4)
 have h_aS_24:=of_decide_eq_true (c.at 3 5)
 obtain ⟨_,_,_,_,_,_,_,_,_,h_l24,h_c24⟩:=fn_of (show fnV K (ad K).f_SettingsFile_lines = fnT "lines" "SettingsFile.lines" s_SettingsFile_lines from c.fn 23) (c.at 3 6)
 have h_k24:=of_decide_eq_true (c.at 3 7)
 have h_a25:=of_decide_eq_true (c.at 3 8)
 have h_i25:=of_decide_eq_true (c.at 3 9)
 obtain ⟨_,_,_,_,_,_,_,_,_,h_l25,h_c25⟩:=fn_of (show fnV K (ad K).f_SettingsFile_sections = fnT "sections" "SettingsFile.sections" s_SettingsFile_sections from c.fn 24) (c.at 3 10)
 have h_k25:=of_decide_eq_true (c.at 3 11)
 have h_a26:=of_decide_eq_true (c.at 3 12)
 have h_i26:=of_decide_eq_true (c.at 3 13)
 obtain ⟨_,_,_,_,_,_,_,_,_,h_l26,h_c26⟩:=fn_of (show fnV K (ad K).f_SettingsFile_pairs = fnT "pairs" "SettingsFile.pairs" s_SettingsFile_pairs from c.fn 25) (c.at 3 14)
 have h_k26:=of_decide_eq_true (c.at 3 15)
 have h_a27:=of_decide_eq_true (c.at 3 16)
 obtain ⟨_,_,_,_,_,_,_,_,_,h_l27,h_c27⟩:=fn_of (show fnV K (ad K).f_L_law_unlike = fnT "_law_unlike" "_law_unlike" s_L_law_unlike from c.fn 26) (c.at 3 17)
 have h_k27:=of_decide_eq_true (c.at 3 18)
 have h_a28:=of_decide_eq_true (c.at 3 19)
 have h_i28:=of_decide_eq_true (c.at 3 20)
 obtain ⟨_,_,_,_,_,_,_,_,_,h_l28,h_c28⟩:=fn_of (show fnV K (ad K).f_SettingsFile___str__ = fnT "__str__" "SettingsFile.__str__" s_SettingsFile___str__ from c.fn 27) (c.at 3 21)
 have h_k28:=of_decide_eq_true (c.at 3 22)
 have h_a29:=of_decide_eq_true (c.at 3 23)
 obtain ⟨_,_,_,_,_,_,_,_,_,h_l29,h_c29⟩:=fn_of (show fnV K (ad K).f_law = fnT "law" "law" s_law from c.fn 28) (c.at 3 24)
 have h_k29:=of_decide_eq_true (c.at 4 0)
 have h_z_abs:=of_decide_eq_true (c.at 4 1)
 have h_z_all:=of_decide_eq_true (c.at 4 2)
 have h_z_dict:=of_decide_eq_true (c.at 4 3)
 have h_z_enumerate:=of_decide_eq_true (c.at 4 4)
 have h_z_int:=of_decide_eq_true (c.at 4 5)
 have h_z_isinstance:=of_decide_eq_true (c.at 4 6)
 have h_z_len:=of_decide_eq_true (c.at 4 7)
 have h_z_list:=of_decide_eq_true (c.at 4 8)
 have h_z_max:=of_decide_eq_true (c.at 4 9)
 have h_z_min:=of_decide_eq_true (c.at 4 10)
 have h_z_range:=of_decide_eq_true (c.at 4 11)
 have h_z_str:=of_decide_eq_true (c.at 4 12)
 obtain ⟨_,h_g_DIGITS⟩:=str_ok (c.at 4 13)
 obtain ⟨_,h_g_KEPT⟩:=str_ok (c.at 4 14)
 obtain ⟨_,h_g_LETTERS⟩:=str_ok (c.at 4 15)
 obtain ⟨_,h_g_MOST_LETTERS⟩:=int_ok (c.at 4 16)
 obtain ⟨_,h_g_MOST_SIGNS⟩:=int_ok (c.at 4 17)
 obtain ⟨_,h_g_PLACE⟩:=str_ok (c.at 4 18)
 obtain ⟨_,h_g_REMARK⟩:=str_ok (c.at 4 19)
 obtain ⟨_,h_g_SECTION⟩:=str_ok (c.at 4 20)
 have h_aC_Reader:=of_decide_eq_true (c.at 4 21)
 have h_pg_Reader:=of_decide_eq_true (c.at 4 22)
 have h_hd_Reader:=of_decide_eq_true (c.at 4 23)
 have h_po_Reader:=of_decide_eq_true (c.at 4 24)
 have h_sa_Reader:=of_decide_eq_true (c.at 5 0)
 have h_aC_SettingsFile:=of_decide_eq_true (c.at 5 1)
 have h_pg_SettingsFile:=of_decide_eq_true (c.at 5 2)
 have h_hd_SettingsFile:=of_decide_eq_true (c.at 5 3)
 have h_po_SettingsFile:=of_decide_eq_true (c.at 5 4)
 have h_sa_SettingsFile:=of_decide_eq_true (c.at 5 5)
 have h_mk_Reader:=of_decide_eq_true (c.at 5 6)
 have h_kc_Reader:=of_decide_eq_true (c.at 5 7)
 have h_mk_SettingsFile:=of_decide_eq_true (c.at 5 8)
 have h_kc_SettingsFile:=of_decide_eq_true (c.at 5 9)
 have h_nf_all_parts_SettingsFile:=of_decide_eq_true (c.at 5 10)
 have h_nf_met_Reader:=of_decide_eq_true (c.at 5 11)
 have h_nf_parts_Reader:=of_decide_eq_true (c.at 5 12)
 have h_nf_parts_SettingsFile:=of_decide_eq_true (c.at 5 13)
 have h_nf_section_Reader:=of_decide_eq_true (c.at 5 14)
 have h_nf_settings_read_SettingsFile:=of_decide_eq_true (c.at 5 15)
 have h_nf_whole_SettingsFile:=of_decide_eq_true (c.at 5 16)
 have h_eu_SettingsFile_NoneType:=of_decide_eq_true (c.at 5 17)
 have h_ed_SettingsFile_NoneType:=of_decide_eq_true (c.at 5 18)
 have h_eu_SettingsFile_bool:=of_decide_eq_true (c.at 5 19)
 have h_ed_SettingsFile_bool:=of_decide_eq_true (c.at 5 20)
 have h_eu_SettingsFile_int:=of_decide_eq_true (c.at 5 21)
 have h_ed_SettingsFile_int:=of_decide_eq_true (c.at 5 22)
 have h_eu_SettingsFile_str:=of_decide_eq_true (c.at 5 23)
 have h_ed_SettingsFile_str:=of_decide_eq_true (c.at 5 24)
 have h_eu_SettingsFile_list:=of_decide_eq_true (c.at 6 0)
 have h_ed_SettingsFile_list:=of_decide_eq_true (c.at 6 1)
 have h_eu_SettingsFile_tuple:=of_decide_eq_true (c.at 6 2)
 have h_ed_SettingsFile_tuple:=of_decide_eq_true (c.at 6 3)
 have h_en_SettingsFile:=of_decide_eq_true (c.at 6 4)
 have h_em_SettingsFile:=of_decide_eq_true (c.at 6 5)
 have h_oo2:=of_decide_eq_true (c.at 6 6)
 have h_oo3:=of_decide_eq_true (c.at 6 7)
 have h_o1_SettingsFile:=of_decide_eq_true (c.at 6 8)
 have h_o4_SettingsFile:=of_decide_eq_true (c.at 6 9)
 have h_xi_NoneType:=of_decide_eq_true (c.at 6 10)
 have h_xi_bool:=of_decide_eq_true (c.at 6 11)
 have h_xi_int:=of_decide_eq_true (c.at 6 12)
 have h_xi_str:=of_decide_eq_true (c.at 6 13)
 have h_xi_list:=of_decide_eq_true (c.at 6 14)
 have h_xi_tuple:=of_decide_eq_true (c.at 6 15)
 exact all_mk X G hfa h_a1 h_l1 h_c1 h_k1 h_a2 h_l2 h_c2 h_k2 h_a3 h_l3 h_c3 h_k3 h_a4 h_l4 h_c4 h_k4 h_a5 h_l5 h_c5 h_k5 h_a6 h_i6 h_l6 h_c6 h_k6 h_a7 h_l7 h_c7 h_k7 h_a8 h_l8 h_c8 h_k8 h_a9 h_l9 h_c9 h_k9 h_a10 h_l10 h_c10 h_k10 h_a11 h_l11 h_c11 h_k11 h_a12 h_l12 h_c12 h_k12 h_a13 h_l13 h_c13 h_k13 h_a14 h_i14 h_l14 h_c14 h_k14 h_a15 h_i15 h_l15 h_c15 h_k15 h_a16 h_l16 h_c16 h_k16 h_a17 h_l17 h_c17 h_k17 h_a18 h_i18 h_l18 h_c18 h_k18 h_a19 h_i19 h_l19 h_c19 h_k19 h_a20 h_l20 h_c20 h_k20 h_a21 h_i21 h_l21 h_c21 h_k21 h_a22 h_i22 h_l22 h_c22 h_k22 h_a23 h_i23 h_l23 h_c23 h_k23 h_aP_24 h_aQ_24 h_aR_24 h_aS_24 h_l24 h_c24 h_k24 h_a25 h_i25 h_l25 h_c25 h_k25 h_a26 h_i26 h_l26 h_c26 h_k26 h_a27 h_l27 h_c27 h_k27 h_a28 h_i28 h_l28 h_c28 h_k28 h_a29 h_l29 h_c29 h_k29 h_z_abs h_z_all h_z_dict h_z_enumerate h_z_int h_z_isinstance h_z_len h_z_list h_z_max h_z_min h_z_range h_z_str h_g_DIGITS h_g_KEPT h_g_LETTERS h_g_MOST_LETTERS h_g_MOST_SIGNS h_g_PLACE h_g_REMARK h_g_SECTION h_aC_Reader h_pg_Reader h_hd_Reader h_po_Reader h_sa_Reader h_aC_SettingsFile h_pg_SettingsFile h_hd_SettingsFile h_po_SettingsFile h_sa_SettingsFile h_mk_Reader h_kc_Reader h_mk_SettingsFile h_kc_SettingsFile h_nf_all_parts_SettingsFile h_nf_met_Reader h_nf_parts_Reader h_nf_parts_SettingsFile h_nf_section_Reader h_nf_settings_read_SettingsFile h_nf_whole_SettingsFile h_eu_SettingsFile_NoneType h_ed_SettingsFile_NoneType h_eu_SettingsFile_bool h_ed_SettingsFile_bool h_eu_SettingsFile_int h_ed_SettingsFile_int h_eu_SettingsFile_str h_ed_SettingsFile_str h_eu_SettingsFile_list h_ed_SettingsFile_list h_eu_SettingsFile_tuple h_ed_SettingsFile_tuple h_en_SettingsFile h_em_SettingsFile h_oo2 h_oo3 h_o1_SettingsFile h_o4_SettingsFile h_xi_NoneType h_xi_bool h_xi_int h_xi_str h_xi_list h_xi_tuple
end VL.K07
open PySem PySem.W PySem.Calls PyProof.Rows in
set_option maxRecDepth 100000 in
set_option maxHeartbeats 0 in
theorem PySem.Challenge.cw_settingsmerge_k07_equal_files_holds : PySem.Challenge.rw_settingsmerge_k07_equal_files.Holds := by
 w_on; o_law
 refine HandSHeadRun.head_any (r:=OpenLaw.row PySem.Challenge.rw_settingsmerge_k07_equal_files) (q:=view (OpenLaw.row PySem.Challenge.rw_settingsmerge_k07_equal_files).prog [32]) (H:=VL.K07.hk) (ob:=VL.K07.ob) (M:=30000) (loose:=VL.K07.hl) (d:=HandSHeadRun.topDef (OpenLaw.row PySem.Challenge.rw_settingsmerge_k07_equal_files).prog 32) (kwd:=[]) VL.K07.ob_eq (by kernel_rfl) (fun s=>by kernel_rfl) VL.K07.run (by kernel_rfl) (by kernel_rfl) (by kernel_rfl) (by rfl) (by first | assumption | decide +kernel) (by decide +kernel) ⟨rfl,rfl,rfl,rfl,rfl,by decide +kernel⟩ ?hw ?hc
 case hw=>w_witness2
 case hc =>
  refine VL.walk_ofGE (l:=PySem.Challenge.rw_settingsmerge_k07_equal_files) (n:=63) (k:=8) (x:="_law_script") rfl (by decide) (by kernel_rfl) ⟨⟨rfl,by decide,by decide⟩,rfl⟩ ?F
  intro w mg fa h Y G hmg0
  obtain ⟨K,KX,c⟩:=Y
  have hmg : mg ("law" : PySem.Str) = some (.ref fa):=by
   have e : (HandSHeadRun.topDef (OpenLaw.row PySem.Challenge.rw_settingsmerge_k07_equal_files).prog 32).name = ("law" : PySem.Str):=by kernel_rfl
   rw [← e]
   exact hmg0
  obtain ⟨fd,hb,hF⟩:=VL.K07.all_hd (w:=w) (l:=PySem.Challenge.rw_settingsmerge_k07_equal_files) KX G hmg c
  exact ⟨K,VL.K07.spAll K,fd,KX,fun H b ns hl hO hS a hK=>VL.law_sp (VL.K07.law_ok _ a hK ns hl) hO hS,hb,hF⟩
