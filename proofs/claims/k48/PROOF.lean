import PyProof.Rows.All
import Wide.All
import OpenK.AllK
import Wide.FinOn
import HandS.ForMost
import HandS.Exc
import HandS.Lambda
import KE.KDictKeyed
import KE.KeyNested
import HandS.IsInst
import HandS.TupAny
import HandS.Flow
import HandS.Deep
import HandS.More
import HandS.TryOnly
import HandS.Walk
import HandS.WordsExc
import HandS.SetKeys
import HandS.SortInts
import HandS.FStr
import HandS.Small
import HandS.StrMore
import HandS.MakeKwOnly
import HandS.Style
import HandS.ExcInit
import HandS.ExcField
import HandS.ExcIs
import KE.KExcIs
import KE.KExcInit
import HandS.GenList
import HandS.Ends
import HandS.Property
import KE.KCallOwn
import HandS.RaiseMore
import HandS.OwnEq
import HandS.EndTab
import KE.KNestM
import HandS.Star
import HandS.ClsMeth
import HandS.Iter
import KE.KDictList
import KE.GoesEnum
import HandS.Set
import HandS.SetFor
import HandS.Strs
import HandS.NoneIn
import HandS.ListItems
import HandS.Conv
import KE.KStateDown
import HandS.Head0
import HandS.Head1
import HandS.Head2
import HandS.HeadHook1
import KE.DataMinMax
import HandS.TupSets
import HandS.SetBool
import KE.SortData
import KE.DataCmp
import HandS.Zip
import KE.DataEq
import OpenK.KDescr
import HandS.Defaults
import HandS.DictComp
import HandS.Replace
import KE.KDictPairs
import KE.KDictItemsList
import KE.KDictSum
import PySem.Challenge.RW_settingsmerge_k48_rules_of_states
set_option Elab.async false
set_option linter.all false
set_option maxRecDepth 100000
set_option autoImplicit false
namespace VL
open PySem PySem.Spec PyProof.Rows L2
/-- data that does not change -/
inductive D where
 | non | bl (b : Bool) | int (i : Int) | str (x : Str) | ty (n : String) | obj (a : Addr)
 | tup (ds : List D) | lst (ds : List D) | dct (kvs : List (Key × D)) | ins (C : Addr) (fs : List (Str × D))
 | scr (ns : List Int)
 | exc (a : Addr) (d : Option Addr) (c : Value) (fs : List (Str × D))
 | kdc (w : World) (kvs : List (D × D))
/-- a value: data,or a cell -/
inductive U where
 | d (x : D) | ref (n : Nat)
/-- what a cell holds -/
inductive O where
 | lst (us : List U) | tup (us : List U) | dct (kvs : List (Key × U)) | ins (C : Addr) (fs : List (Str × U))
 | tbl (P : Addr) (q : Str)
 | lck (kvs : List (Key × U))
 | kdc (w : World) (kvs : List (D × U))
noncomputable abbrev Store:=List O
noncomputable abbrev VEnv:=List (Option U)
mutual
noncomputable def keyE : D → Option NestedKey
 | .non=>some .none
 | .int i=>some (.num i)
 | .str x=>some (.text x)
 | .tup ds=>(keyEs ds).map .tup
 | _=>none
noncomputable def keyEs : List D → Option (List NestedKey)
 | []=>some []
 | d :: ds=>match keyE d,keyEs ds with
  | some k,some ks=>some (k :: ks)
  | _,_=>none
end
noncomputable def keyN (d : D) : Option NestedKey:=match d with
 | .tup _=>match keyE d with
  | some k=>if k.depth ≤ 8 then some k else none
  | none=>none
 | _=>none
/-- an object that is known to the bit -/
noncomputable abbrev PinO (b : Addr) (o : Obj) : HO:=.ext fun h=>h.get? b = some o
/-- a dict with such keys -/
noncomputable def KdOk (w : World) (b : Addr) (o : Obj) (es : List (NestedKey × Addr × V)) : Prop:=es.length ≤ sizeLine ∧ (b == sysModules) = false ∧ ∃ xs : List (NestedKey × Addr × Value),
 Paired (fun (p : NestedKey × Addr × V) (q : NestedKey × Addr × Value)=>p.1 = q.1 ∧ p.2.1 = q.2.1 ∧ RelV p.2.2 q.2.2) es xs ∧ (xs.map (·.1)).Nodup ∧
 ∃ ents ep,o.ExactDict ∧ o.data = .dict ents ep ∧ ents.toList = xs.map fun x=>(⟨x.1.hash w,.ref x.2.1,x.2.2⟩ : DictEntry)
noncomputable def LsV (m : List Addr) (H : Hp) (a : Addr) (vs : List V) : Prop:=a ∉ m ∧ H a = some (.lst vs)
/-- the script -/
noncomputable def ScV (K : PySem.W.Frag) (m : List Addr) (H : Hp) (a : Addr) (vs : List V) : Prop:=(a ∉ m ∧ ∃ ob,H a = some (.frz ob (.lst vs))) ∨ SqL K (fun _=>none) a vs
noncomputable def TpV (K : PySem.W.Frag) (m : List Addr) (H : Hp) (a : Addr) (vs : List V) : Prop:=(a ∉ m ∧ H a = some (.tup vs)) ∨ SqT K (fun _=>none) a vs
mutual
noncomputable def RpD (K : PySem.W.Frag) (m : List Addr) (H : Hp) : D → V → Prop
 | .non,v=>v = .non
 | .bl b,v=>v = .bl b
 | .int i,v=>v = .int i
 | .str x,v=>v = .str x
 | .ty n,v=>v = .ty n
 | .obj a,v=>v = .ref a
 | .tup ds,v=>∃ a vs,v = .ref a ∧ TpV K m H a vs ∧ RpDs K m H ds vs
 | .lst ds,v=>∃ a vs,v = .ref a ∧ LsV m H a vs ∧ RpDs K m H ds vs
 | .dct kvs,v=>∃ a vs,v = .ref a ∧ (a ∉ m ∧ Rd H a (.dK vs)) ∧ RpK K m H kvs vs
 | .ins C fs,v=>∃ a dx vs,v = .ref a ∧ (a ∉ m ∧ H a = some (.ins C dx vs)) ∧ RpF K m H fs vs
 | .scr ns,v=>∃ a,v = .ref a ∧ ScV K m H a (ns.map V.int)
 | .exc a d _ fs,v=>v = .ref a ∧ (fs = [] ∨ ∃ dd vs,d = some dd ∧ (dd ∉ m ∧ H dd = some (.xd vs)) ∧ RpF K m H fs vs)
 | .kdc w kvs,v=>∃ a o es,v = .ref a ∧ (a ∉ m ∧ H a = some (PinO a o)) ∧ KdOk w a o es ∧ RpKd K m H kvs es
noncomputable def RpDs (K : PySem.W.Frag) (m : List Addr) (H : Hp) : List D → List V → Prop
 | [],vs=>vs = []
 | d :: ds,vs=>∃ v r,vs = v :: r ∧ RpD K m H d v ∧ RpDs K m H ds r
noncomputable def RpKd (K : PySem.W.Frag) (m : List Addr) (H : Hp) : List (D × D) → List (NestedKey × Addr × V) → Prop
 | [],es=>es = []
 | (k,d) :: ds,es=>∃ n b v r,es = (n,b,v) :: r ∧ keyN k = some n ∧ RpD K m H k (.ref b) ∧ RpD K m H d v ∧ RpKd K m H ds r
noncomputable def RpK (K : PySem.W.Frag) (m : List Addr) (H : Hp) : List (Key × D) → List (Key × V) → Prop
 | [],vs=>vs = []
 | (k,d) :: ds,vs=>∃ v r,vs = (k,v) :: r ∧ RpD K m H d v ∧ RpK K m H ds r
noncomputable def RpF (K : PySem.W.Frag) (m : List Addr) (H : Hp) : List (Str × D) → List (Str × V) → Prop
 | [],vs=>vs = []
 | (k,d) :: ds,vs=>∃ v r,vs = (k,v) :: r ∧ RpD K m H d v ∧ RpF K m H ds r
end
/-- what is data stays: all but dicts exactly,dicts readable -/
structure Stay (m : List Addr) (H : Hp) (m' : List Addr) (H' : Hp) : Prop where
 ex : ∀ (a : Addr) (o : HO),a ∉ m → H a = some o → (∀ kvs,o ≠ .dK kvs) → (∀ ps,o ≠ .tbl ps) → H' a = some o ∧ a ∉ m'
 dk : ∀ (a : Addr) (kvs : List (Key × V)),a ∉ m → Rd H a (.dK kvs) → Rd H' a (.dK kvs) ∧ a ∉ m'
 fz : ∀ (a : Addr) (o : Obj) (u : HO),H a = some (.frz o u) → H' a = some (.frz o u)
theorem Stay.of {m m' : List Addr} {H H' : Hp} (f : ∀ a o,a ∉ m → H a = some o → (∀ ps,o ≠ .tbl ps) → H' a = some o ∧ a ∉ m') (g : ∀ (a : Addr) (o : Obj) (u : HO),H a = some (.frz o u) → H' a = some (.frz o u)) : Stay m H m' H':=⟨fun a o n r _ nt=>f a o n r nt,fun a u n r=>by
 rcases r with r | ⟨o,r⟩
 ·exact ⟨.inl (f a _ n r fun _ z=>nomatch z).1,(f a _ n r fun _ z=>nomatch z).2⟩
 ·exact ⟨.inr ⟨o,(f a _ n r fun _ z=>nomatch z).1⟩,(f a _ n r fun _ z=>nomatch z).2⟩,g⟩
theorem Stay.trans {m m1 m2 : List Addr} {H H1 H2 : Hp} (a : Stay m H m1 H1) (b : Stay m1 H1 m2 H2) : Stay m H m2 H2 :=
 ⟨fun x o n h nd nt=>let ⟨h1,n1⟩:=a.ex x o n h nd nt; b.ex x o n1 h1 nd nt,fun x u n h=>let ⟨h1,n1⟩:=a.dk x u n h; b.dk x u n1 h1,fun x o u h=>b.fz x o u (a.fz x o u h)⟩
theorem Stay.less {m m1 m2 : List Addr} {H H1 : Hp} (a : Stay m H m1 H1) (h : ∀ b,b ∈ m2 → b ∈ m1) : Stay m H m2 H1 :=
 ⟨fun x o n q nd nt=>let ⟨h1,n1⟩:=a.ex x o n q nd nt; ⟨h1,fun z=>n1 (h x z)⟩,fun x u n q=>let ⟨h1,n1⟩:=a.dk x u n q; ⟨h1,fun z=>n1 (h x z)⟩,a.fz⟩
/-- exactly,but that a dict may be locked -/
structure Ext (m : List Addr) (H : Hp) (m' : List Addr) (H' : Hp) : Prop where
 pre : m <+: m'
 toStay : Stay m H m' H'
theorem Ext.of {m m' : List Addr} {H H' : Hp} (p : m <+: m') (f : ∀ a o,a ∉ m → H a = some o → (∀ ps,o ≠ .tbl ps) → H' a = some o ∧ a ∉ m') (g : ∀ (a : Addr) (o : Obj) (u : HO),H a = some (.frz o u) → H' a = some (.frz o u)) : Ext m H m' H':=⟨p,Stay.of f g⟩
theorem Ext.refl (m : List Addr) (H : Hp) : Ext m H m H:=.of (List.prefix_refl m) (fun _ _ n h _=>⟨h,n⟩) fun _ _ _ h=>h
theorem Ext.trans {m m1 m2 : List Addr} {H H1 H2 : Hp} (a : Ext m H m1 H1) (b : Ext m1 H1 m2 H2) : Ext m H m2 H2 :=
 ⟨a.pre.trans b.pre,a.toStay.trans b.toStay⟩
section
variable {K : PySem.W.Frag} {m m' : List Addr} {H H' : Hp}
theorem LsV.stay {a : Addr} {vs : List V} (s : Stay m H m' H') (h : LsV m H a vs) : LsV m' H' a vs:=⟨(s.ex a _ h.1 h.2 (fun _ z=>nomatch z) fun _ z=>nomatch z).2,(s.ex a _ h.1 h.2 (fun _ z=>nomatch z) fun _ z=>nomatch z).1⟩
theorem ScV.stay {a : Addr} {vs : List V} (s : Stay m H m' H') (h : ScV K m H a vs) : ScV K m' H' a vs:=by
 rcases h with ⟨n,ob,r⟩ | h
 ·exact .inl ⟨(s.ex a _ n r (fun _ z=>nomatch z) fun _ z=>nomatch z).2,ob,(s.ex a _ n r (fun _ z=>nomatch z) fun _ z=>nomatch z).1⟩
 ·exact .inr h
theorem TpV.stay {a : Addr} {vs : List V} (s : Stay m H m' H') (h : TpV K m H a vs) : TpV K m' H' a vs:=by
 rcases h with ⟨n,r⟩ | h
 ·exact .inl ⟨(s.ex a _ n r (fun _ z=>nomatch z) fun _ z=>nomatch z).2,(s.ex a _ n r (fun _ z=>nomatch z) fun _ z=>nomatch z).1⟩
 ·exact .inr h
theorem LsV.sq {a : Addr} {vs : List V} (h : LsV m H a vs) : SqL K H a vs:=.inl (.inl h.2)
theorem ScV.sq {a : Addr} {vs : List V} (h : ScV K m H a vs) : SqL K H a vs:=by
 rcases h with ⟨_,r⟩ | (r | ⟨_,r⟩) | r
 ·exact .inl (.inr r)
 ·cases r
 ·cases r
 ·exact .inr r
theorem TpV.sq {a : Addr} {vs : List V} (h : TpV K m H a vs) : SqT K H a vs:=by
 rcases h with ⟨_,r⟩ | (r | ⟨_,r⟩) | r
 ·exact .inl (.inl r)
 ·cases r
 ·cases r
 ·exact .inr r
mutual
theorem RpD.stay (s : Stay m H m' H') : ∀ (d : D) (v : V),RpD K m H d v → RpD K m' H' d v
 | .non,_,h=>h
 | .bl _,_,h=>h
 | .int _,_,h=>h
 | .str _,_,h=>h
 | .ty _,_,h=>h
 | .obj _,_,h=>h
 | .tup ds,_,⟨a,vs,e,t,r⟩=>⟨a,vs,e,t.stay s,RpDs.stay s ds vs r⟩
 | .lst ds,_,⟨a,vs,e,t,r⟩=>⟨a,vs,e,t.stay s,RpDs.stay s ds vs r⟩
 | .dct ks,_,⟨a,vs,e,t,r⟩=>⟨a,vs,e,⟨(s.dk a _ t.1 t.2).2,(s.dk a _ t.1 t.2).1⟩,RpK.stay s ks vs r⟩
 | .ins C fs,_,⟨a,dx,vs,e,t,r⟩=>⟨a,dx,vs,e,⟨(s.ex a _ t.1 t.2 (fun _ z=>nomatch z) fun _ z=>nomatch z).2,(s.ex a _ t.1 t.2 (fun _ z=>nomatch z) fun _ z=>nomatch z).1⟩,RpF.stay s fs vs r⟩
 | .scr ns,_,⟨a,e,t⟩=>⟨a,e,t.stay s⟩
 | .kdc w ks,_,⟨a,o,vs,e,t,z,r⟩=>⟨a,o,vs,e,⟨(s.ex a _ t.1 t.2 (fun _ z=>nomatch z) fun _ z=>nomatch z).2,(s.ex a _ t.1 t.2 (fun _ z=>nomatch z) fun _ z=>nomatch z).1⟩,z,RpKd.stay s ks vs r⟩
 | .exc _ _ _ fs,_,⟨e,.inl h⟩=>⟨e,.inl h⟩
 | .exc _ _ _ fs,_,⟨e,.inr ⟨dd,vs,q,t,r⟩⟩=>⟨e,.inr ⟨dd,vs,q,⟨(s.ex dd _ t.1 t.2 (fun _ z=>nomatch z) fun _ z=>nomatch z).2,(s.ex dd _ t.1 t.2 (fun _ z=>nomatch z) fun _ z=>nomatch z).1⟩,RpF.stay s fs vs r⟩⟩
theorem RpDs.stay (s : Stay m H m' H') : ∀ (ds : List D) (vs : List V),RpDs K m H ds vs → RpDs K m' H' ds vs
 | [],_,h=>h
 | d :: ds,_,⟨v,r,e,h1,h2⟩=>⟨v,r,e,RpD.stay s d v h1,RpDs.stay s ds r h2⟩
theorem RpKd.stay (s : Stay m H m' H') : ∀ (ds : List (D × D)) (vs : List (NestedKey × Addr × V)),RpKd K m H ds vs → RpKd K m' H' ds vs
 | [],_,h=>h
 | (k,d) :: ds,_,⟨n,b,v,r,e,q,h0,h1,h2⟩=>⟨n,b,v,r,e,q,RpD.stay s k _ h0,RpD.stay s d v h1,RpKd.stay s ds r h2⟩
theorem RpK.stay (s : Stay m H m' H') : ∀ (ds : List (Key × D)) (vs : List (Key × V)),RpK K m H ds vs → RpK K m' H' ds vs
 | [],_,h=>h
 | (_,d) :: ds,_,⟨v,r,e,h1,h2⟩=>⟨v,r,e,RpD.stay s d v h1,RpK.stay s ds r h2⟩
theorem RpF.stay (s : Stay m H m' H') : ∀ (ds : List (Str × D)) (vs : List (Str × V)),RpF K m H ds vs → RpF K m' H' ds vs
 | [],_,h=>h
 | (_,d) :: ds,_,⟨v,r,e,h1,h2⟩=>⟨v,r,e,RpD.stay s d v h1,RpF.stay s ds r h2⟩
end
theorem RpD.ext (e : Ext m H m' H') {d : D} {v : V} (h : RpD K m H d v) : RpD K m' H' d v:=RpD.stay e.toStay d v h
theorem RpDs.ext (e : Ext m H m' H') {d : List D} {v : List V} (h : RpDs K m H d v) : RpDs K m' H' d v:=RpDs.stay e.toStay d v h
theorem RpF.ext (e : Ext m H m' H') {d : List (Str × D)} {v : List (Str × V)} (h : RpF K m H d v) : RpF K m' H' d v:=RpF.stay e.toStay d v h
theorem RpKd.ext (e : Ext m H m' H') {d : List (D × D)} {v : List (NestedKey × Addr × V)} (h : RpKd K m H d v) : RpKd K m' H' d v:=RpKd.stay e.toStay d v h
theorem RpK.ext (e : Ext m H m' H') {d : List (Key × D)} {v : List (Key × V)} (h : RpK K m H d v) : RpK K m' H' d v:=RpK.stay e.toStay d v h
end
noncomputable def RpU (K : PySem.W.Frag) (m : List Addr) (H : Hp) : U → V → Prop
 | .d x,v=>RpD K m H x v
 | .ref n,v=>∃ a,m[n]? = some a ∧ v = .ref a
noncomputable def RpUs (K : PySem.W.Frag) (m : List Addr) (H : Hp) : List U → List V → Prop
 | [],vs=>vs = []
 | u :: us,vs=>∃ v r,vs = v :: r ∧ RpU K m H u v ∧ RpUs K m H us r
noncomputable def RpUK (K : PySem.W.Frag) (m : List Addr) (H : Hp) : List (Key × U) → List (Key × V) → Prop
 | [],vs=>vs = []
 | (k,u) :: us,vs=>∃ v r,vs = (k,v) :: r ∧ RpU K m H u v ∧ RpUK K m H us r
noncomputable def RpUKd (K : PySem.W.Frag) (m : List Addr) (H : Hp) : List (D × U) → List (NestedKey × Addr × V) → Prop
 | [],es=>es = []
 | (k,u) :: us,es=>∃ n b v r,es = (n,b,v) :: r ∧ keyN k = some n ∧ RpD K m H k (.ref b) ∧ RpU K m H u v ∧ RpUKd K m H us r
noncomputable def RpUF (K : PySem.W.Frag) (m : List Addr) (H : Hp) : List (Str × U) → List (Str × V) → Prop
 | [],vs=>vs = []
 | (k,u) :: us,vs=>∃ v r,vs = (k,v) :: r ∧ RpU K m H u v ∧ RpUF K m H us r
noncomputable def RpO (K : PySem.W.Frag) (m : List Addr) (H : Hp) (b : Addr) : O → HO → Prop
 | .lst us,o=>∃ vs,o = .lst vs ∧ RpUs K m H us vs
 | .tup us,o=>∃ vs,o = .tup vs ∧ RpUs K m H us vs
 | .dct us,o=>∃ vs,o = .dK vs ∧ RpUK K m H us vs
 | .ins C us,o=>∃ dx vs,o = .ins C dx vs ∧ RpUF K m H us vs
 | .lck us,o=>∃ ob vs,o = .frz ob (.dK vs) ∧ RpUK K m H us vs
 | .kdc w us,o=>∃ ob es,o = PinO b ob ∧ KdOk w b ob es ∧ RpUKd K m H us es
 | .tbl P q,o=>b = P ∧ ∃ ps : Array Value,o = .tbl ps ∧ TriplesOk ps.toList ∧ ∀ (pos : Pos) (cv : Value),codeAmong pos ps.toList = some cv → ∃ c,cv = .ref c ∧ c ∉ m ∧ H c = some (LamX.CodeO c q)
structure Rep (K : PySem.W.Frag) (m : List Addr) (st : Store) (H : Hp) : Prop where
 len : m.length = st.length
 nd : m.Nodup
 cell : ∀ (n : Nat) (o : O) (a : Addr),st[n]? = some o → m[n]? = some a → ∃ ho,H a = some ho ∧ RpO K m H a o ho
/-- the frame's names -/
structure RpEnv (K : PySem.W.Frag) (m : List Addr) (H : Hp) (env : VEnv) (σ : L2.St) : Prop where
 len : env.length = σ.length
 at' : ∀ (i : Nat) (u : U),env[i]? = some (some u) → ∃ v,σ[i]? = some (some v) ∧ RpU K m H u v
section
variable {K : PySem.W.Frag} {m m' : List Addr} {H H' : Hp} {st : Store}
theorem RpU.stay (p : m <+: m') (s : Stay m H m' H') : ∀ (u : U) (v : V),RpU K m H u v → RpU K m' H' u v
 | .d x,v,h=>RpD.stay s x v h
 | .ref n,v,⟨a,e,h⟩=>⟨a,by
  obtain ⟨t,rfl⟩:=p
  rw [List.getElem?_append_left (List.getElem?_eq_some_iff.mp e).1]; exact e,h⟩
theorem RpUs.stay (p : m <+: m') (s : Stay m H m' H') : ∀ (us : List U) (vs : List V),RpUs K m H us vs → RpUs K m' H' us vs
 | [],_,h=>h
 | u :: us,_,⟨v,r,e,h1,h2⟩=>⟨v,r,e,RpU.stay p s u v h1,RpUs.stay p s us r h2⟩
theorem RpUK.stay (p : m <+: m') (s : Stay m H m' H') : ∀ (us : List (Key × U)) (vs : List (Key × V)),RpUK K m H us vs → RpUK K m' H' us vs
 | [],_,h=>h
 | (_,u) :: us,_,⟨v,r,e,h1,h2⟩=>⟨v,r,e,RpU.stay p s u v h1,RpUK.stay p s us r h2⟩
theorem RpUKd.stay (p : m <+: m') (s : Stay m H m' H') : ∀ (us : List (D × U)) (vs : List (NestedKey × Addr × V)),RpUKd K m H us vs → RpUKd K m' H' us vs
 | [],_,h=>h
 | (k,u) :: us,_,⟨n,b,v,r,e,q,h0,h1,h2⟩=>⟨n,b,v,r,e,q,RpD.stay s k _ h0,RpU.stay p s u v h1,RpUKd.stay p s us r h2⟩
theorem RpUF.stay (p : m <+: m') (s : Stay m H m' H') : ∀ (us : List (Str × U)) (vs : List (Str × V)),RpUF K m H us vs → RpUF K m' H' us vs
 | [],_,h=>h
 | (_,u) :: us,_,⟨v,r,e,h1,h2⟩=>⟨v,r,e,RpU.stay p s u v h1,RpUF.stay p s us r h2⟩
theorem RpO.stay (p : m <+: m') (s : Stay m H m' H') {b : Addr} : ∀ (o : O) (ho : HO),RpO K m H b o ho → RpO K m' H' b o ho
 | .lst us,_,⟨vs,e,r⟩=>⟨vs,e,RpUs.stay p s us vs r⟩
 | .tup us,_,⟨vs,e,r⟩=>⟨vs,e,RpUs.stay p s us vs r⟩
 | .dct us,_,⟨vs,e,r⟩=>⟨vs,e,RpUK.stay p s us vs r⟩
 | .lck us,_,⟨ob,vs,e,r⟩=>⟨ob,vs,e,RpUK.stay p s us vs r⟩
 | .kdc w us,_,⟨o,vs,e,z,r⟩=>⟨o,vs,e,z,RpUKd.stay p s us vs r⟩
 | .ins C us,_,⟨dx,vs,e,r⟩=>⟨dx,vs,e,RpUF.stay p s us vs r⟩
 | .tbl P q,_,⟨e,ps,e1,e2,h⟩=>⟨e,ps,e1,e2,fun pos cv hc=>let ⟨c,g1,g2,g3⟩:=h pos cv hc; ⟨c,g1,(s.ex c _ g2 g3 (fun _ z=>by cases z) fun _ z=>by cases z).2,(s.ex c _ g2 g3 (fun _ z=>by cases z) fun _ z=>by cases z).1⟩⟩
theorem RpU.ext (e : Ext m H m' H') {u : U} {v : V} (h : RpU K m H u v) : RpU K m' H' u v:=RpU.stay e.pre e.toStay u v h
theorem RpUs.ext (e : Ext m H m' H') {u : List U} {v : List V} (h : RpUs K m H u v) : RpUs K m' H' u v:=RpUs.stay e.pre e.toStay u v h
theorem RpUK.ext (e : Ext m H m' H') {u : List (Key × U)} {v : List (Key × V)} (h : RpUK K m H u v) : RpUK K m' H' u v:=RpUK.stay e.pre e.toStay u v h
theorem RpUKd.ext (e : Ext m H m' H') {u : List (D × U)} {v : List (NestedKey × Addr × V)} (h : RpUKd K m H u v) : RpUKd K m' H' u v:=RpUKd.stay e.pre e.toStay u v h
theorem RpUF.ext (e : Ext m H m' H') {u : List (Str × U)} {v : List (Str × V)} (h : RpUF K m H u v) : RpUF K m' H' u v:=RpUF.stay e.pre e.toStay u v h
theorem RpO.ext (e : Ext m H m' H') {b : Addr} {o : O} {ho : HO} (h : RpO K m H b o ho) : RpO K m' H' b o ho:=RpO.stay e.pre e.toStay o ho h
theorem RpEnv.ext (e : Ext m H m' H') {env : VEnv} {σ : L2.St} (h : RpEnv K m H env σ) : RpEnv K m' H' env σ :=
 ⟨h.len,fun i u hi=>let ⟨v,h1,h2⟩:=h.at' i u hi; ⟨v,h1,h2.ext e⟩⟩
theorem RpEnv.set {env : VEnv} {σ : L2.St} (h : RpEnv K m H env σ) (i : Nat) {u : U} {v : V} (r : RpU K m H u v) : RpEnv K m H (env.set i (some u)) (σ.set i (some v)):=by
 refine ⟨by rw [List.length_set,List.length_set]; exact h.len,fun j w hj=>?_⟩
 by_cases e : i = j
 ·subst e
  by_cases hi : i < env.length
  ·rw [List.getElem?_set_self hi] at hj
   cases hj
   exact ⟨v,by rw [List.getElem?_set_self (by rw [← h.len]; exact hi)],r⟩
  ·rw [List.getElem?_eq_none (by rw [List.length_set]; omega)] at hj
   cases hj
 ·rw [List.getElem?_set_ne e] at hj
  obtain ⟨x,h1,h2⟩:=h.at' j w hj
  exact ⟨x,by rw [List.getElem?_set_ne e]; exact h1,h2⟩
theorem Rep.live (r : Rep K m st H) {a : Addr} (h : a ∈ m) : ∃ ho,H a = some ho:=by
 obtain ⟨n,hn,e⟩:=List.mem_iff_getElem.mp h
 have hs : n < st.length:=by rw [← r.len]; exact hn
 obtain ⟨ho,e1,_⟩:=r.cell n st[n] a (List.getElem?_eq_getElem hs) (by rw [List.getElem?_eq_getElem hn,e])
 exact ⟨ho,e1⟩
theorem Rep.fresh (r : Rep K m st H) {a : Addr} (h : H a = none) : a ∉ m:=fun q=>by
 obtain ⟨ho,e⟩:=r.live q
 rw [h] at e; cases e
/-- a new object that is data -/
theorem ext_new (r : Rep K m st H) {p : Addr} (np : H p = none) (o : HO) : Ext m H m (upd H p o) :=
 .of (List.prefix_refl m) (fun a u n h _=>⟨by rw [upd_ne (ne_of_none h np)]; exact h,n⟩) fun a ob u h=>by rw [upd_ne (ne_of_none h np)]; exact h
theorem Rep.new (r : Rep K m st H) {p : Addr} (np : H p = none) (o : HO) : Rep K m st (upd H p o) :=
 ⟨r.len,r.nd,fun n c a h1 h2=>by
  obtain ⟨ho,e,q⟩:=r.cell n c a h1 h2
  exact ⟨ho,by rw [upd_ne (ne_of_none e np)]; exact e,q.ext (ext_new r np o)⟩⟩
/-- a new cell -/
theorem ext_push (r : Rep K m st H) {p : Addr} (np : H p = none) (o : HO) : Ext m H (m ++ [p]) (upd H p o) :=
 .of (List.prefix_append m [p]) (fun a u n h _=>⟨by rw [upd_ne (ne_of_none h np)]; exact h,fun q=>by
  rcases List.mem_append.mp q with q | q
  ·exact n q
  ·rw [List.mem_singleton] at q
   subst q
   rw [np] at h; cases h⟩) fun a ob u h=>by rw [upd_ne (ne_of_none h np)]; exact h
theorem Rep.push (r : Rep K m st H) {p : Addr} (np : H p = none) {c : O} {o : HO} (q : RpO K (m ++ [p]) (upd H p o) p c o) : Rep K (m ++ [p]) (st ++ [c]) (upd H p o):=by
 refine ⟨by rw [List.length_append,List.length_append,r.len]; rfl,?_,fun n c' a h1 h2=>?_⟩
 ·rw [List.nodup_append]
  refine ⟨r.nd,by simp,fun x hx y hy=>?_⟩
  rw [List.mem_singleton] at hy
  subst hy
  exact fun e=>r.fresh np (by rw [← e]; exact hx)
 ·by_cases hn : n < st.length
  ·rw [List.getElem?_append_left hn] at h1
   rw [List.getElem?_append_left (by rw [r.len]; exact hn)] at h2
   obtain ⟨ho,e,q'⟩:=r.cell n c' a h1 h2
   exact ⟨ho,by rw [upd_ne (ne_of_none e np)]; exact e,q'.ext (ext_push r np o)⟩
  ·have hn2 : n = st.length:=by
    have:=(List.getElem?_eq_some_iff.mp h1).1
    rw [List.length_append] at this
    simp at this; omega
   subst hn2
   rw [List.getElem?_append_right (Nat.le_refl _),Nat.sub_self] at h1
   rw [← r.len,List.getElem?_append_right (Nat.le_refl _),Nat.sub_self] at h2
   cases h1; cases h2
   exact ⟨o,upd_same,q⟩
/-- what lies there is not locked -/
noncomputable def NF (H : Hp) (a : Addr) : Prop:=∀ (o : Obj) (u : HO),H a ≠ some (.frz o u)
theorem nf_l {a : Addr} {vs : List V} (h : H a = some (.lst vs)) : NF H a:=fun o u z=>by rw [h] at z; cases z
theorem nf_d {a : Addr} {vs : List (Key × V)} (h : H a = some (.dK vs)) : NF H a:=fun o u z=>by rw [h] at z; cases z
theorem nf_i {a C dx : Addr} {vs : List (Str × V)} (h : H a = some (.ins C dx vs)) : NF H a:=fun o u z=>by rw [h] at z; cases z
theorem ext_write {a : Addr} (ha : a ∈ m) (o : HO) (nf : NF H a) : Ext m H m (upd H a o) :=
 .of (List.prefix_refl m) (fun b u n h _=>⟨by rw [upd_ne (fun e=>n (by rw [e]; exact ha))]; exact h,n⟩) fun b ob u h=>by rw [upd_ne (fun e=>nf ob u (by rw [← e]; exact h))]; exact h
theorem Rep.write (r : Rep K m st H) {n : Nat} {a : Addr} {c : O} {o : HO} (hn : m[n]? = some a) (q : RpO K m (upd H a o) a c o) (nf : NF H a) : Rep K m (st.set n c) (upd H a o):=by
 have ha : a ∈ m:=List.mem_of_getElem? hn
 refine ⟨by rw [List.length_set]; exact r.len,r.nd,fun k c' b h1 h2=>?_⟩
 by_cases e : n = k
 ·subst e
  rw [hn] at h2; cases h2
  have hl : n < st.length:=by rw [← r.len]; exact (List.getElem?_eq_some_iff.mp hn).1
  rw [List.getElem?_set_self hl] at h1; cases h1
  exact ⟨o,upd_same,q⟩
 ·rw [List.getElem?_set_ne e] at h1
  obtain ⟨ho,e1,q1⟩:=r.cell k c' b h1 h2
  have hb : b ≠ a:=fun z=>by
   subst z
   obtain ⟨l1,g1⟩:=List.getElem?_eq_some_iff.mp hn
   obtain ⟨l2,g2⟩:=List.getElem?_eq_some_iff.mp h2
   exact e ((List.getElem_inj r.nd).mp (g1.trans g2.symm))
  exact ⟨ho,by rw [upd_ne hb]; exact e1,q1.ext (ext_write ha o nf)⟩
end
inductive R (α : Type) where
 | ok (a : α) (st : Store)
 | ex (c : Value) (fs : Option (List (Str × D))) (st : Store)
 | bad
noncomputable abbrev M (α : Type):=Store → R α
noncomputable abbrev F (α : Type):=VEnv → M α
inductive Fl where
 | nx | rt (u : U) | bk | ct
inductive RS where
 | ok (env : VEnv) (f : Fl) (st : Store)
 | ex (c : Value) (fs : Option (List (Str × D))) (env : VEnv) (st : Store)
 | bad
noncomputable abbrev G:=VEnv → Store → RS
noncomputable def RpX (K : PySem.W.Frag) (m : List Addr) (H : Hp) : Option (List (Str × D)) → Option Addr → Prop
 | none,none=>True
 | some fs,some d=>∃ vs,H d = some (.xd vs) ∧ d ∉ m ∧ RpF K m H fs vs
 | _,_=>False
/-- what is wanted of a value's way -/
noncomputable def PO' {α β : Type} (K : PySem.W.Frag) (m : List Addr) (H : Hp) (rel : List Addr → Hp → α → β → Prop) (Q : β → Hp → Prop) (E : XK) : R α → Prop
 | .ok u st'=>∀ v m' H',rel m' H' u v → Rep K m' st' H' → Ext m H m' H' → Q v H'
 | .ex c fs st'=>∀ d m' H',Rep K m' st' H' → Ext m H m' H' → RpX K m' H' fs d → E c d H'
 | .bad=>False
noncomputable abbrev PU (K : PySem.W.Frag) (m : List Addr) (H : Hp) (Q : VK) (E : XK) : R U → Prop:=PO' K m H (RpU K) Q E
noncomputable abbrev PUs (K : PySem.W.Frag) (m : List Addr) (H : Hp) (Q : List V → Hp → Prop) (E : XK) : R (List U) → Prop:=PO' K m H (RpUs K) Q E
noncomputable abbrev PB (K : PySem.W.Frag) (m : List Addr) (H : Hp) (Q : Bool → Hp → Prop) (E : XK) : R Bool → Prop:=PO' K m H (fun _ _ a b=>b = a) Q E
noncomputable def PS' (K : PySem.W.Frag) (m : List Addr) (H : Hp) (D : Ends) (W : WX) : RS → Prop
 | .ok env .nx st'=>∀ σ' m' H',RpEnv K m' H' env σ' → Rep K m' st' H' → Ext m H m' H' → D.nx σ' H'
 | .ok env (.rt u) st'=>∀ v m' H',RpU K m' H' u v → Rep K m' st' H' → Ext m H m' H' → D.rt v H'
 | .ok env .bk st'=>∀ σ' m' H',RpEnv K m' H' env σ' → Rep K m' st' H' → Ext m H m' H' → D.bk σ' H'
 | .ok env .ct st'=>∀ σ' m' H',RpEnv K m' H' env σ' → Rep K m' st' H' → Ext m H m' H' → D.ct σ' H'
 | .ex c fs env st'=>∀ d σ' m' H',RpEnv K m' H' env σ' → Rep K m' st' H' → Ext m H m' H' → RpX K m' H' fs d → W c d σ' H'
 | .bad=>False
theorem PO'.from {α β : Type} {K : PySem.W.Frag} {m m1 : List Addr} {H H1 : Hp} {rel : List Addr → Hp → α → β → Prop} {Q : β → Hp → Prop} {E : XK} (e : Ext m H m1 H1) : ∀ {r : R α},PO' K m H rel Q E r → PO' K m1 H1 rel Q E r
 | .ok u st',h=>fun v m' H' a b c=>h v m' H' a b (e.trans c)
 | .ex c fs st',h=>fun d m' H' a b x=>h d m' H' a (e.trans b) x
 | .bad,h=>h
theorem PO'.imp {α β : Type} {K : PySem.W.Frag} {m : List Addr} {H : Hp} {rel : List Addr → Hp → α → β → Prop} {Q Q' : β → Hp → Prop} {E : XK} (hq : ∀ v H,Q v H → Q' v H) : ∀ {r : R α},PO' K m H rel Q E r → PO' K m H rel Q' E r
 | .ok u st',h=>fun v m' H' a b c=>hq _ _ (h v m' H' a b c)
 | .ex c fs st',h=>h
 | .bad,h=>h
theorem PS'.from {K : PySem.W.Frag} {m m1 : List Addr} {H H1 : Hp} {D : Ends} {W : WX} (e : Ext m H m1 H1) : ∀ {r : RS},PS' K m H D W r → PS' K m1 H1 D W r
 | .ok env .nx st',h=>fun v m' H' a b c=>h v m' H' a b (e.trans c)
 | .ok env (.rt u) st',h=>fun v m' H' a b c=>h v m' H' a b (e.trans c)
 | .ok env .bk st',h=>fun v m' H' a b c=>h v m' H' a b (e.trans c)
 | .ok env .ct st',h=>fun v m' H' a b c=>h v m' H' a b (e.trans c)
 | .ex c fs env st',h=>fun d σ' m' H' a b x y=>h d σ' m' H' a b (e.trans x) y
 | .bad,h=>h
noncomputable def tF (K : PySem.W.Frag) (W : WX) (f : F U) : TE:=fun σ H Q=>∃ m env st,Rep K m st H ∧ RpEnv K m H env σ ∧ PU K m H Q (fun c d H'=>W c d σ H') (f env st)
noncomputable def tFB (K : PySem.W.Frag) (W : WX) (f : F Bool) : TT:=fun σ H Q=>∃ m env st,Rep K m st H ∧ RpEnv K m H env σ ∧ PB K m H Q (fun c d H'=>W c d σ H') (f env st)
noncomputable def tFs (K : PySem.W.Frag) (W : WX) (f : F (List U)) : TA:=fun σ H Q=>∃ m env st,Rep K m st H ∧ RpEnv K m H env σ ∧ PUs K m H Q (fun c d H'=>W c d σ H') (f env st)
noncomputable def tG (K : PySem.W.Frag) (W : WX) (g : G) : TS:=fun D σ H=>∃ m env st,Rep K m st H ∧ RpEnv K m H env σ ∧ PS' K m H D W (g env st)
structure DE (X : Cx) (W : WX) (e : Expr) (f : F U) : Prop where
 pe : PE X e (tF X.K W f)
structure DT (X : Cx) (W : WX) (e : Expr) (f : F Bool) : Prop where
 pt : PT X e (tFB X.K W f)
structure DW (X : Cx) (W : WX) (e : Expr) (f : F Bool) : Prop where
 pw : PW X e (tFB X.K W f)
structure DA (X : Cx) (W : WX) (es : List Expr) (f : F (List U)) : Prop where
 pa : PA X es (tFs X.K W f)
structure DS (X : Cx) (W : WX) (s : Stmt) (g : G) : Prop where
 ps : PS X s (tG X.K W g)
structure DB (X : Cx) (W : WX) (s : List Stmt) (g : G) : Prop where
 pss : PSs X s (tG X.K W g)
theorem PE.imp {X : Cx} {e : Expr} {t t' : TE} (h : PE X e t) (i : ∀ σ H Q,t' σ H Q → t σ H Q) : PE X e t':=⟨fun pins s σ H Q I q=>h.run pins s σ H Q I (i σ H Q q)⟩
theorem PT.imp {X : Cx} {e : Expr} {t t' : TT} (h : PT X e t) (i : ∀ σ H Q,t' σ H Q → t σ H Q) : PT X e t':=⟨fun pins s σ H Q I q=>h.run pins s σ H Q I (i σ H Q q)⟩
theorem PW.imp {X : Cx} {e : Expr} {t t' : TT} (h : PW X e t) (i : ∀ σ H Q,t' σ H Q → t σ H Q) : PW X e t':=⟨fun w pins s σ H Q I q=>h.run w pins s σ H Q I (i σ H Q q)⟩
theorem PA.imp {X : Cx} {e : List Expr} {t t' : TA} (h : PA X e t) (i : ∀ σ H Q,t' σ H Q → t σ H Q) : PA X e t':=⟨fun pos pins s σ H Q I q=>h.run pos pins s σ H Q I (i σ H Q q)⟩
theorem PS.imp {X : Cx} {e : Stmt} {t t' : TS} (h : PS X e t) (i : ∀ D σ H,t' D σ H → t D σ H) : PS X e t':=⟨fun pins s σ H Q I q=>h.run pins s σ H Q I (i Q σ H q)⟩
theorem PSs.imp {X : Cx} {e : List Stmt} {t t' : TS} (h : PSs X e t) (i : ∀ D σ H,t' D σ H → t D σ H) : PSs X e t':=⟨fun pins s σ H Q I q=>h.run pins s σ H Q I (i Q σ H q)⟩
end VL
namespace VL
open PySem PySem.Spec PyProof.Rows L2
noncomputable def bnd {α β : Type} (f : F α) (g : α → F β) : F β:=fun env st=>match f env st with
 | .ok a st1=>g a env st1
 | .ex c fs st1=>.ex c fs st1
 | .bad=>.bad
noncomputable def bndS {α : Type} (f : F α) (g : α → G) : G:=fun env st=>match f env st with
 | .ok a st1=>g a env st1
 | .ex c fs st1=>.ex c fs env st1
 | .bad=>.bad
/-- an operation that leaves the cells -/
noncomputable def R.of {α : Type} (st : Store) : Option α → R α
 | some a=>.ok a st
 | none=>.bad
/-- an operation that may write them -/
noncomputable def R.of2 {α : Type} : Option (α × Store) → R α
 | some (a,st)=>.ok a st
 | none=>.bad
noncomputable def fPure {α : Type} (a : α) : F α:=fun _ st=>.ok a st
section
variable {K : PySem.W.Frag} {W : WX} {m : List Addr} {env : VEnv} {st : Store} {H : Hp} {σ : L2.St} {γ δ : Type} {rel : List Addr → Hp → γ → δ → Prop} {Q : δ → Hp → Prop}
theorem tF_step {f : F U} {g : U → F γ} {Z : VK} (r : Rep K m st H) (re : RpEnv K m H env σ) (p : PO' K m H rel Q (fun c d H'=>W c d σ H') (bnd f g env st))
  (h : ∀ a st1 v m1 H1,RpU K m1 H1 a v → Rep K m1 st1 H1 → RpEnv K m1 H1 env σ → Ext m H m1 H1 → PO' K m1 H1 rel Q (fun c d H'=>W c d σ H') (g a env st1) → Z v H1) : tF K W f σ H Z :=
 ⟨m,env,st,r,re,by
  unfold bnd at p
  cases e : f env st with
  | ok a st1=>rw [e] at p; exact fun v m1 H1 h1 h2 h3=>h a st1 v m1 H1 h1 h2 (re.ext h3) h3 (p.from h3)
  | ex c fs st1=>rw [e] at p; exact p
  | bad=>rw [e] at p; exact p.elim⟩
theorem tFs_step {f : F (List U)} {g : List U → F γ} {Z : List V → Hp → Prop} (r : Rep K m st H) (re : RpEnv K m H env σ) (p : PO' K m H rel Q (fun c d H'=>W c d σ H') (bnd f g env st))
  (h : ∀ a st1 v m1 H1,RpUs K m1 H1 a v → Rep K m1 st1 H1 → RpEnv K m1 H1 env σ → Ext m H m1 H1 → PO' K m1 H1 rel Q (fun c d H'=>W c d σ H') (g a env st1) → Z v H1) : tFs K W f σ H Z :=
 ⟨m,env,st,r,re,by
  unfold bnd at p
  cases e : f env st with
  | ok a st1=>rw [e] at p; exact fun v m1 H1 h1 h2 h3=>h a st1 v m1 H1 h1 h2 (re.ext h3) h3 (p.from h3)
  | ex c fs st1=>rw [e] at p; exact p
  | bad=>rw [e] at p; exact p.elim⟩
theorem tFB_step {f : F Bool} {g : Bool → F γ} {Z : Bool → Hp → Prop} (r : Rep K m st H) (re : RpEnv K m H env σ) (p : PO' K m H rel Q (fun c d H'=>W c d σ H') (bnd f g env st))
  (h : ∀ a st1 m1 H1,Rep K m1 st1 H1 → RpEnv K m1 H1 env σ → Ext m H m1 H1 → PO' K m1 H1 rel Q (fun c d H'=>W c d σ H') (g a env st1) → Z a H1) : tFB K W f σ H Z :=
 ⟨m,env,st,r,re,by
  unfold bnd at p
  cases e : f env st with
  | ok a st1=>rw [e] at p; exact fun v m1 H1 h1 h2 h3=>by subst h1; exact h _ st1 m1 H1 h2 (re.ext h3) h3 (p.from h3)
  | ex c fs st1=>rw [e] at p; exact p
  | bad=>rw [e] at p; exact p.elim⟩
variable {Dn : Ends}
theorem sF_step {f : F U} {g : U → G} {Z : VK} (r : Rep K m st H) (re : RpEnv K m H env σ) (p : PS' K m H Dn W (bndS f g env st))
  (h : ∀ a st1 v m1 H1,RpU K m1 H1 a v → Rep K m1 st1 H1 → RpEnv K m1 H1 env σ → Ext m H m1 H1 → PS' K m1 H1 Dn W (g a env st1) → Z v H1) : tF K W f σ H Z :=
 ⟨m,env,st,r,re,by
  unfold bndS at p
  cases e : f env st with
  | ok a st1=>rw [e] at p; exact fun v m1 H1 h1 h2 h3=>h a st1 v m1 H1 h1 h2 (re.ext h3) h3 (p.from h3)
  | ex c fs st1=>rw [e] at p; exact fun d m' H' h1 h2 h3=>p d σ m' H' (re.ext h2) h1 h2 h3
  | bad=>rw [e] at p; exact p.elim⟩
theorem sFB_step {f : F Bool} {g : Bool → G} {Z : Bool → Hp → Prop} (r : Rep K m st H) (re : RpEnv K m H env σ) (p : PS' K m H Dn W (bndS f g env st))
  (h : ∀ a st1 m1 H1,Rep K m1 st1 H1 → RpEnv K m1 H1 env σ → Ext m H m1 H1 → PS' K m1 H1 Dn W (g a env st1) → Z a H1) : tFB K W f σ H Z :=
 ⟨m,env,st,r,re,by
  unfold bndS at p
  cases e : f env st with
  | ok a st1=>rw [e] at p; exact fun v m1 H1 h1 h2 h3=>by subst h1; exact h _ st1 m1 H1 h2 (re.ext h3) h3 (p.from h3)
  | ex c fs st1=>rw [e] at p; exact fun d m' H' h1 h2 h3=>p d σ m' H' (re.ext h2) h1 h2 h3
  | bad=>rw [e] at p; exact p.elim⟩
theorem sFs_step {f : F (List U)} {g : List U → G} {Z : List V → Hp → Prop} (r : Rep K m st H) (re : RpEnv K m H env σ) (p : PS' K m H Dn W (bndS f g env st))
  (h : ∀ a st1 v m1 H1,RpUs K m1 H1 a v → Rep K m1 st1 H1 → RpEnv K m1 H1 env σ → Ext m H m1 H1 → PS' K m1 H1 Dn W (g a env st1) → Z v H1) : tFs K W f σ H Z :=
 ⟨m,env,st,r,re,by
  unfold bndS at p
  cases e : f env st with
  | ok a st1=>rw [e] at p; exact fun v m1 H1 h1 h2 h3=>h a st1 v m1 H1 h1 h2 (re.ext h3) h3 (p.from h3)
  | ex c fs st1=>rw [e] at p; exact fun d m' H' h1 h2 h3=>p d σ m' H' (re.ext h2) h1 h2 h3
  | bad=>rw [e] at p; exact p.elim⟩
end
noncomputable def vVar (i : Nat) : F U:=fun env st=>match env[i]? with
 | some (some u)=>.ok u st
 | _=>.bad
noncomputable def vC (x : D) : F U:=fun _ st=>.ok (.d x) st
section
variable {X : Cx} {W : WX}
theorem d_var (i : Nat) {x : Str} {pos : Pos} (hN : X.N[i]? = some x:=by rfl) (hv : Vis X.env.scope x:=by first | exact Or.inl rfl | exact Or.inr (Or.inl rfl) | exact Or.inr (Or.inr rfl)) (hd : (x == ("__debug__" : Str)) = false:=by decide)
  (hcd : (x == ("__classdict__" : Str)) = false:=by decide) : DE X W (.Name x pos) (vVar i):=⟨PE.imp (pv i hN hv hd hcd) fun σ H Q ⟨m,env,st,r,re,p⟩=>by
 unfold vVar at p
 split at p
 ·rename_i u hu
  obtain ⟨v,h1,h2⟩:=re.at' i u hu
  exact ⟨v,h1,p v m H h2 r (Ext.refl _ _)⟩
 ·exact p.elim⟩
theorem d_con {e : Expr} {v : V} {x : D} (h : PE X e (tC v)) (hx : ∀ m H,RpD X.K m H x v) : DE X W e (vC x):=⟨PE.imp h fun σ H Q ⟨m,env,st,r,re,p⟩=>p v m H (hx m H) r (Ext.refl _ _)⟩
theorem d_int {i : Int} {j : Nat} {pos : Pos} : DE X W (.Constant (.int i) j pos) (vC (.int i)):=d_con pe_int fun _ _=>rfl
theorem d_bl {i : Bool} {j : Nat} {pos : Pos} : DE X W (.Constant (.bool i) j pos) (vC (.bl i)):=d_con pe_bl fun _ _=>rfl
theorem d_non {j : Nat} {pos : Pos} : DE X W (.Constant .none j pos) (vC .non):=d_con pe_non fun _ _=>rfl
theorem d_str {x : Str} {j : Nat} {pos : Pos} : DE X W (.Constant (.str x) j pos) (vC (.str x)):=d_con pe_str fun _ _=>rfl
/-- a constant of the module that is a number,a text -/
theorem d_glob {x : Str} {v : V} {d : D} {u : Value} {pos : Pos} (hm : X.mg x = some u) (r : RelV v u) (hx : ∀ m H,RpD X.K m H d v) (hg : Gl X x:=by rfl) (hd : (x == ("__debug__" : Str)) = false:=by decide) : DE X W (.Name x pos) (vC d) :=
 d_con (pe_glob hg hm r hd) hx
/-- a built-in class as a value -/
theorem d_ty {x : Str} {n : String} {pos : Pos} (hm : X.mg x = none) (hv : bootBuiltins x = some (.type n)) (hg : Gl X x:=by rfl) (hn : x ≠ "__name__":=by decide) (hd : (x == ("__debug__" : Str)) = false:=by decide) : DE X W (.Name x pos) (vC (.ty n)) :=
 d_con (v:=.ty n) (pe_bltn hg hm hv rfl hn hd) fun _ _=>rfl
end
noncomputable def getL (st : Store) : U → Option (List U)
 | .d (.lst ds)=>some (ds.map .d)
 | .d (.scr ns)=>some (ns.map fun i=>.d (.int i))
 | .ref n=>match st[n]? with
  | some (.lst us)=>some us
  | _=>none
 | _=>none
noncomputable def getT : U → Option (List D)
 | .d (.tup ds)=>some ds
 | _=>none
noncomputable def pureL : List U → Option (List D)
 | []=>some []
 | .d x :: r=>(pureL r).map (x :: ·)
 | _=>none
theorem pureL_map : ∀ ds : List D,pureL (ds.map .d) = some ds
 | []=>rfl
 | d :: ds=>by rw [List.map_cons,pureL,pureL_map ds]; rfl
section
variable {K : PySem.W.Frag} {m : List Addr} {H : Hp} {st : Store}
theorem RpUs.ofD : ∀ {ds : List D} {vs : List V},RpDs K m H ds vs → RpUs K m H (ds.map .d) vs
 | [],_,h=>h
 | d :: ds,_,⟨v,r,e,h1,h2⟩=>⟨v,r,e,h1,RpUs.ofD h2⟩
theorem pureL_rp : ∀ {us : List U} {vs : List V} {ds : List D},RpUs K m H us vs → pureL us = some ds → RpDs K m H ds vs
 | [],vs,ds,h,e=>by cases e; exact h
 | .d x :: r,vs,ds,⟨v,t,ev,h1,h2⟩,e=>by
  unfold pureL at e
  cases q : pureL r with
  | none=>rw [q] at e; cases e
  | some zs =>
   rw [q] at e
   cases e
   exact ⟨v,t,ev,h1,pureL_rp h2 q⟩
 | .ref n :: r,vs,ds,h,e=>by cases e
theorem RpUs.ints : ∀ (ns : List Int),RpUs K m H (ns.map fun i=>.d (.int i)) (ns.map V.int)
 | []=>rfl
 | n :: ns=>⟨.int n,_,rfl,rfl,RpUs.ints ns⟩
theorem getL_rp (r : Rep K m st H) : ∀ {u : U} {v : V} {us : List U},RpU K m H u v → getL st u = some us → ∃ a vs,v = .ref a ∧ SqL K H a vs ∧ RpUs K m H us vs
 | .d (.lst ds),v,us,⟨a,vs,e,h1,h2⟩,q=>by
  cases q
  exact ⟨a,vs,e,h1.sq,RpUs.ofD h2⟩
 | .d (.scr ns),v,us,⟨a,e,h1⟩,q=>by
  cases q
  exact ⟨a,_,e,h1.sq,RpUs.ints ns⟩
 | .ref n,v,us,⟨a,ha,e⟩,q=>by
  simp only [getL] at q
  split at q
  ·rename_i zs hs
   cases q
   obtain ⟨ho,h1,vs,e2,h2⟩:=r.cell n _ a hs ha
   rw [e2] at h1
   exact ⟨a,vs,e,.inl (.inl h1),h2⟩
  ·cases q
 | .d .non,_,_,_,q=>by cases q
 | .d (.bl _),_,_,_,q=>by cases q
 | .d (.int _),_,_,_,q=>by cases q
 | .d (.str _),_,_,_,q=>by cases q
 | .d (.ty _),_,_,_,q=>by cases q
 | .d (.obj _),_,_,_,q=>by cases q
 | .d (.tup _),_,_,_,q=>by cases q
 | .d (.dct _),_,_,_,q=>by cases q
 | .d (.ins _ _),_,_,_,q=>by cases q
 | .d (.exc _ _ _ _),_,_,_,q=>by cases q
 | .d (.kdc _ _),_,_,_,q=>by cases q
theorem getT_rp : ∀ {u : U} {v : V} {us : List D},RpU K m H u v → getT u = some us → ∃ a vs,v = .ref a ∧ TpV K m H a vs ∧ RpDs K m H us vs
 | .d (.tup ds),v,us,⟨a,vs,e,h1,h2⟩,q=>by
  cases q
  exact ⟨a,vs,e,h1,h2⟩
 | .ref n,_,_,_,q=>by cases q
 | .d .non,_,_,_,q=>by cases q
 | .d (.bl _),_,_,_,q=>by cases q
 | .d (.int _),_,_,_,q=>by cases q
 | .d (.str _),_,_,_,q=>by cases q
 | .d (.ty _),_,_,_,q=>by cases q
 | .d (.obj _),_,_,_,q=>by cases q
 | .d (.lst _),_,_,_,q=>by cases q
 | .d (.scr _),_,_,_,q=>by cases q
 | .d (.dct _),_,_,_,q=>by cases q
 | .d (.ins _ _),_,_,_,q=>by cases q
 | .d (.exc _ _ _ _),_,_,_,q=>by cases q
 | .d (.kdc _ _),_,_,_,q=>by cases q
theorem RpUs.length : ∀ {us : List U} {vs : List V},RpUs K m H us vs → vs.length = us.length
 | [],_,h=>by rw [show _ = [] from h]; rfl
 | u :: us,_,⟨v,r,e,h1,h2⟩=>by rw [e,List.length_cons,List.length_cons,RpUs.length h2]
theorem RpDs.length {us : List D} {vs : List V} (h : RpDs K m H us vs) : vs.length = us.length:=by
 have:=(RpUs.ofD h).length
 rwa [List.length_map] at this
theorem RpUs.append : ∀ {us ws : List U} {vs xs : List V},RpUs K m H us vs → RpUs K m H ws xs → RpUs K m H (us ++ ws) (vs ++ xs)
 | [],_,_,_,h,k=>by rw [show _ = [] from h]; exact k
 | u :: us,_,_,_,⟨v,r,e,h1,h2⟩,k=>by subst e; exact ⟨v,_,rfl,h1,RpUs.append h2 k⟩
theorem RpDs.append : ∀ {us ws : List D} {vs xs : List V},RpDs K m H us vs → RpDs K m H ws xs → RpDs K m H (us ++ ws) (vs ++ xs)
 | [],_,_,_,h,k=>by rw [show _ = [] from h]; exact k
 | u :: us,_,_,_,⟨v,r,e,h1,h2⟩,k=>by subst e; exact ⟨v,_,rfl,h1,RpDs.append h2 k⟩
theorem RpUs.get : ∀ {us : List U} {vs : List V} {i : Nat} {u : U},RpUs K m H us vs → us[i]? = some u → ∃ v,vs[i]? = some v ∧ RpU K m H u v
 | [],_,_,_,h,q=>by simp at q
 | u :: us,_,0,w,⟨v,r,e,h1,h2⟩,q=>by subst e; simp at q; subst q; exact ⟨v,rfl,h1⟩
 | u :: us,_,i + 1,w,⟨v,r,e,h1,h2⟩,q=>by
  subst e
  obtain ⟨x,g1,g2⟩:=RpUs.get (i:=i) h2 (by simpa using q)
  exact ⟨x,by simpa using g1,g2⟩
theorem RpUs.set : ∀ {us : List U} {vs : List V} (i : Nat) {u : U} {v : V},RpUs K m H us vs → RpU K m H u v → RpUs K m H (us.set i u) (vs.set i v)
 | [],_,_,_,_,h,_=>by rw [show _ = [] from h]; rfl
 | w :: us,_,0,u,v,⟨x,r,e,h1,h2⟩,k=>by subst e; exact ⟨v,r,rfl,k,h2⟩
 | w :: us,_,i + 1,u,v,⟨x,r,e,h1,h2⟩,k=>by subst e; exact ⟨x,r.set i v,rfl,h1,RpUs.set i h2 k⟩
theorem RpUs.take : ∀ {us : List U} {vs : List V} (n : Nat),RpUs K m H us vs → RpUs K m H (us.take n) (vs.take n)
 | _,_,0,_=>rfl
 | [],_,n + 1,h=>by rw [show _ = [] from h]; rfl
 | u :: us,_,n + 1,⟨x,r,e,h1,h2⟩=>by subst e; exact ⟨x,r.take n,rfl,h1,RpUs.take n h2⟩
theorem RpUs.drop : ∀ {us : List U} {vs : List V} (n : Nat),RpUs K m H us vs → RpUs K m H (us.drop n) (vs.drop n)
 | _,_,0,h=>h
 | [],_,n + 1,h=>by rw [show _ = [] from h]; rfl
 | u :: us,_,n + 1,⟨x,r,e,h1,h2⟩=>by subst e; exact RpUs.drop n h2
theorem RpDs.get {us : List D} {vs : List V} {i : Nat} {u : D} (h : RpDs K m H us vs) (q : us[i]? = some u) : ∃ v,vs[i]? = some v ∧ RpD K m H u v:=by
 obtain ⟨v,h1,h2⟩:=RpUs.get (RpUs.ofD h) (i:=i) (u:=.d u) (by rw [List.getElem?_map,q]; rfl)
 exact ⟨v,h1,h2⟩
theorem RpDs.toD {us : List D} {vs : List V} (h : RpUs K m H (us.map .d) vs) : RpDs K m H us vs:=pureL_rp h (pureL_map us)
/-- new data -/
theorem new_lst (r : Rep K m st H) {p : Addr} (np : H p = none) {ds : List D} {vs : List V} (h : RpDs K m H ds vs) : RpU K m (upd H p (.lst vs)) (.d (.lst ds)) (.ref p) :=
 ⟨p,vs,rfl,⟨r.fresh np,upd_same⟩,h.ext (ext_new r np _)⟩
theorem new_tup (r : Rep K m st H) {p : Addr} (np : H p = none) {ds : List D} {vs : List V} (h : RpDs K m H ds vs) : RpU K m (upd H p (.tup vs)) (.d (.tup ds)) (.ref p) :=
 ⟨p,vs,rfl,.inl ⟨r.fresh np,upd_same⟩,h.ext (ext_new r np _)⟩
end
/-- what an operation that leaves the cells gives -/
noncomputable def PV (K : PySem.W.Frag) (m : List Addr) (st : Store) (H : Hp) (Q : VK) : Option U → Prop
 | some u=>∀ v H',RpU K m H' u v → Rep K m st H' → Ext m H m H' → Q v H'
 | none=>False
theorem PV.of {K : PySem.W.Frag} {m : List Addr} {st : Store} {H : Hp} {Q : VK} {E : XK} : ∀ {o : Option U},PU K m H Q E (R.of st o) → PV K m st H Q o
 | some u,h=>fun v H' a b c=>h v m H' a b c
 | none,h=>h
noncomputable abbrev P1:=U → Store → Option U
noncomputable abbrev P2:=U → U → Store → Option U
noncomputable def rG (K : PySem.W.Frag) (g : P2) : R2:=fun x y H Q=>∃ m st a b,Rep K m st H ∧ RpU K m H a x ∧ RpU K m H b y ∧ PV K m st H Q (g a b st)
noncomputable def f2 (g : P2) (fa fb : F U) : F U:=bnd fa fun a=>bnd fb fun b=>fun _ st=>.of st (g a b st)
noncomputable def f1 (g : P1) (fa : F U) : F U:=bnd fa fun a=>fun _ st=>.of st (g a st)
section
variable {X : Cx} {W : WX} {a b : Expr} {fa fb : F U} {pos : Pos} {g : P2}
theorem t_op2 {σ : L2.St} {H : Hp} {Q : VK} (h : tF X.K W (f2 g fa fb) σ H Q) : tOp (rG X.K g) (tF X.K W fa) (tF X.K W fb) σ H Q:=by
 obtain ⟨m,env,st,r,re,p⟩:=h
 refine tF_step r re p fun a st1 v m1 H1 h1 r1 re1 e1 p1=>?_
 refine tF_step r1 re1 p1 fun b st2 w m2 H2 h2 r2 re2 e2 p2=>?_
 exact ⟨m2,st2,a,b,r2,h1.ext e2,h2,PV.of p2⟩
theorem d_op {op : Operator} (ho : OpR X (binaryOp op) (rG X.K g)) (ha : DE X W a fa) (hb : DE X W b fb) : DE X W (.BinOp a op b pos) (f2 g fa fb) :=
 ⟨PE.imp (pe_op ho ha.pe hb.pe) fun _ _ _ h=>t_op2 h⟩
theorem d_cmp {op : CmpOp} (ho : OpR X (compareOp op) (rG X.K g)) (ha : DE X W a fa) (hb : DE X W b fb) (hm : behindInMarks op b = false:=by first | exact nomark _ | rfl) : DE X W (.Compare a [op] [b] pos) (f2 g fa fb) :=
 ⟨PE.imp (pe_cmpR ho ha.pe hb.pe hm) fun _ _ _ h=>t_op2 h⟩
/-- a bool as a test -/
noncomputable def asB (f : F U) : F Bool:=bnd f fun u=>fun _ st=>match u with
 | .d (.bl k)=>.ok k st
 | _=>.bad
theorem PO'.imp' {K : PySem.W.Frag} {m : List Addr} {H : Hp} {Q : Bool → Hp → Prop} {E : XK} {k : Bool} {st : Store} (p : PB K m H Q E (.ok k st)) (r : Rep K m st H) : Q k H:=p k m H rfl r (Ext.refl _ _)
theorem t_asB {f : F U} {σ : L2.St} {H : Hp} {Q : Bool → Hp → Prop} (h : tFB X.K W (asB f) σ H Q) : tF X.K W f σ H (fun x H'=>∃ k,x = .bl k ∧ Q k H'):=by
 obtain ⟨m,env,st,r,re,p⟩:=h
 refine tF_step r re p fun a st1 v m1 H1 h1 r1 re1 e1 p1=>?_
 cases a with
 | ref n=>exact False.elim p1
 | d x =>
  cases x with
  | bl k=>exact ⟨k,h1,PO'.imp' p1 r1⟩
  | _=>exact False.elim p1
theorem dt_cmp {op : CmpOp} (ho : OpR X (compareOp op) (rG X.K g)) (ha : DE X W a fa) (hb : DE X W b fb) (hm : behindInMarks op b = false:=by first | exact nomark _ | rfl) : DT X W (.Compare a [op] [b] pos) (asB (f2 g fa fb)) :=
 ⟨PT.imp (pt_cmpR ho ha.pe hb.pe hm) fun _ _ _ h=>by
  have h2:=t_asB h
  exact t_op2 h2⟩
/-- a < b < c -/
noncomputable def fChain (g g' : P2) (fa fb fc : F U) : F U:=bnd fa fun a=>bnd fb fun b=>fun env st=>match g a b st with
 | some (.d (.bl true))=>bnd fc (fun c=>fun _ st=>.of st (g' b c st)) env st
 | some (.d (.bl false))=>.ok (.d (.bl false)) st
 | _=>.bad
end
end VL
namespace VL
open PySem PySem.Spec PyProof.Rows L2
mutual
noncomputable def toP : D → Option PyData
 | .non=>some .none
 | .bl b=>some (.bool b)
 | .int i=>some (.int i)
 | .str x=>some (.str x)
 | .tup ds=>(toPs ds).map .tuple
 | .lst ds=>(toPs ds).map .list
 | .scr ns=>some (.list (ns.map .int))
 | _=>none
noncomputable def toPs : List D → Option (List PyData)
 | []=>some []
 | d :: ds=>match toP d,toPs ds with
  | some p,some ps=>some (p :: ps)
  | _,_=>none
end
/-- all answers,or none -/
noncomputable def allM {α β : Type} (g : α → Option β) : List α → Option (List β)
 | []=>some []
 | a :: r=>match g a,allM g r with
  | some b,some bs=>some (b :: bs)
  | _,_=>none
/-- a value with its cells written out -/
noncomputable def deep : Nat → Store → U → Option D
 | _,_,.d x=>some x
 | 0,_,.ref _=>none
 | k + 1,st,.ref n=>match st[n]? with
  | some (.lst us)=>(allM (deep k st) us).map .lst
  | _=>none
noncomputable def asP (st : Store) (u : U) : Option PyData:=(deep 4 st u).bind toP
theorem allM_d {st : Store} {k : Nat} : ∀ ds : List D,allM (deep k st) (ds.map .d) = some ds
 | []=>rfl
 | d :: ds=>by
  rw [List.map_cons,allM,allM_d ds]
  cases k <;> rfl
section
variable {K : PySem.W.Frag} {m : List Addr} {H : Hp} {st : Store}
theorem DpAll.ints : ∀ ns : List Int,DpAll K H (ns.map V.int) (ns.map PyData.int)
 | []=>.nil
 | n :: ns=>.cons (.int n) (DpAll.ints ns)
mutual
theorem toP_dp : ∀ (d : D) (v : V) (p : PyData),RpD K m H d v → toP d = some p → Dp K H v p
 | .non,_,_,h,e=>by cases h; cases e; exact .non
 | .bl b,_,_,h,e=>by cases h; cases e; exact .bl b
 | .int i,_,_,h,e=>by cases h; cases e; exact .int i
 | .str x,_,_,h,e=>by cases h; cases e; exact .str x
 | .tup ds,_,_,h,e=>by
  obtain ⟨a,vs,e1,t,r⟩:=h
  unfold toP at e
  cases q : toPs ds with
  | none=>rw [q] at e; cases e
  | some ps=>rw [q] at e; cases e; subst e1; exact .tup t.sq (toPs_dp ds vs ps r q)
 | .lst ds,_,_,h,e=>by
  obtain ⟨a,vs,e1,t,r⟩:=h
  unfold toP at e
  cases q : toPs ds with
  | none=>rw [q] at e; cases e
  | some ps=>rw [q] at e; cases e; subst e1; exact .lst t.sq (toPs_dp ds vs ps r q)
 | .scr ns,_,_,h,e=>by
  obtain ⟨a,e1,t⟩:=h
  cases e; subst e1; exact .lst t.sq (DpAll.ints ns)
 | .ty _,_,_,_,e=>by cases e
 | .obj _,_,_,_,e=>by cases e
 | .dct _,_,_,_,e=>by cases e
 | .ins _ _,_,_,_,e=>by cases e
 | .exc ..,_,_,_,e=>by cases e
 | .kdc ..,_,_,_,e=>by cases e
theorem toPs_dp : ∀ (ds : List D) (vs : List V) (ps : List PyData),RpDs K m H ds vs → toPs ds = some ps → DpAll K H vs ps
 | [],_,_,h,e=>by cases h; cases e; exact .nil
 | d :: ds,_,_,h,e=>by
  obtain ⟨v,r,e1,h1,h2⟩:=h
  unfold toPs at e
  cases q1 : toP d with
  | none=>rw [q1] at e; cases e
  | some p =>
   cases q2 : toPs ds with
   | none=>rw [q1,q2] at e; cases e
   | some ps =>
    rw [q1,q2] at e; cases e
    subst e1
    exact .cons (toP_dp d v p h1 q1) (toPs_dp ds r ps h2 q2)
end
/-- a weaker way of lying there: cells among it -/
inductive WD (K : PySem.W.Frag) (m : List Addr) (H : Hp) : D → V → Prop
 | ofD {d : D} {v : V} (h : RpD K m H d v) : WD K m H d v
 | lst {a : Addr} {ds : List D} {vs : List V} (h : SqL K H a vs) (hl : vs.length = ds.length) (hs : ∀ (i : Nat) (d : D) (v : V),ds[i]? = some d → vs[i]? = some v → WD K m H d v) : WD K m H (.lst ds) (.ref a)
theorem allM_get {α β : Type} {g : α → Option β} : ∀ {l : List α} {r : List β},allM g l = some r → r.length = l.length ∧ ∀ (i : Nat) (b : β),r[i]? = some b → ∃ a,l[i]? = some a ∧ g a = some b
 | [],r,e=>by cases e; exact ⟨rfl,fun i b h=>by simp at h⟩
 | a :: l,r,e=>by
  unfold allM at e
  cases q1 : g a with
  | none=>rw [q1] at e; cases e
  | some b =>
   cases q2 : allM g l with
   | none=>rw [q1,q2] at e; cases e
   | some bs =>
    rw [q1,q2] at e; cases e
    obtain ⟨h1,h2⟩:=allM_get q2
    refine ⟨by rw [List.length_cons,List.length_cons,h1],fun i c h=>?_⟩
    cases i with
    | zero=>simp at h; subst h; exact ⟨a,rfl,q1⟩
    | succ i=>exact h2 i c (by simpa using h)
theorem deep_wd (r : Rep K m st H) : ∀ (k : Nat) (u : U) (v : V) (d : D),RpU K m H u v → deep k st u = some d → WD K m H d v
 | 0,.d x,v,d,h,e=>by cases e; exact .ofD h
 | k + 1,.d x,v,d,h,e=>by cases e; exact .ofD h
 | 0,.ref n,v,d,h,e=>by cases e
 | k + 1,.ref n,v,d,⟨a,ha,ev⟩,e=>by
  simp only [deep] at e
  split at e
  ·rename_i us hs
   cases q : allM (deep k st) us with
   | none=>rw [q] at e; cases e
   | some ds =>
    rw [q] at e
    cases e
    obtain ⟨ho,h1,vs,e2,h2⟩:=r.cell n _ a hs ha
    subst e2 ev
    obtain ⟨hl,hg⟩:=allM_get q
    refine .lst (.inl (.inl h1)) (by rw [h2.length,hl]) fun i d v hd hv=>?_
    obtain ⟨u,hu,e3⟩:=hg i d hd
    obtain ⟨v',hv',ru⟩:=h2.get hu
    rw [hv] at hv'; cases hv'
    exact deep_wd r k u v d ru e3
  ·cases e
theorem dpAll_of : ∀ {vs : List V} {ps : List PyData},vs.length = ps.length → (∀ (i : Nat) (v : V) (p : PyData),vs[i]? = some v → ps[i]? = some p → Dp K H v p) → DpAll K H vs ps
 | [],[],_,_=>.nil
 | v :: vs,p :: ps,hl,h=>.cons (h 0 v p rfl rfl) (dpAll_of (by simpa using hl) fun i w q hw hq=>h (i + 1) w q (by simpa using hw) (by simpa using hq))
 | [],_ :: _,hl,_=>by simp at hl
 | _ :: _,[],hl,_=>by simp at hl
theorem toPs_get : ∀ {ds : List D} {ps : List PyData},toPs ds = some ps → ps.length = ds.length ∧ ∀ (i : Nat) (p : PyData),ps[i]? = some p → ∃ d,ds[i]? = some d ∧ toP d = some p
 | [],r,e=>by cases e; exact ⟨rfl,fun i b h=>by simp at h⟩
 | d :: l,r,e=>by
  unfold toPs at e
  cases q1 : toP d with
  | none=>rw [q1] at e; cases e
  | some b =>
   cases q2 : toPs l with
   | none=>rw [q1,q2] at e; cases e
   | some bs =>
    rw [q1,q2] at e; cases e
    obtain ⟨h1,h2⟩:=toPs_get q2
    refine ⟨by rw [List.length_cons,List.length_cons,h1],fun i c h=>?_⟩
    cases i with
    | zero=>simp at h; subst h; exact ⟨d,rfl,q1⟩
    | succ i=>exact h2 i c (by simpa using h)
theorem wd_dp {d : D} {v : V} (h : WD K m H d v) : ∀ {p : PyData},toP d = some p → Dp K H v p:=by
 induction h with
 | ofD h=>exact fun e=>toP_dp _ _ _ h e
 | lst hq hl hs ih =>
  rename_i a ds vs
  intro p e
  unfold toP at e
  cases q : toPs ds with
  | none=>rw [q] at e; cases e
  | some ps =>
   rw [q] at e; cases e
   obtain ⟨h1,h2⟩:=toPs_get q
   refine .lst hq (dpAll_of (by rw [hl,h1]) fun i w p hw hp=>?_)
   obtain ⟨d,hd,e2⟩:=h2 i p hp
   exact ih i d w hd hw e2
theorem asP_dp (r : Rep K m st H) {u : U} {v : V} {p : PyData} (h : RpU K m H u v) (e : asP st u = some p) : Dp K H v p:=by
 unfold asP at e
 cases q : deep 4 st u with
 | none=>rw [q] at e; cases e
 | some d=>rw [q] at e; exact wd_dp (deep_wd r 4 u v d h q) e
end
noncomputable def oAdd : P2:=fun a b st=>match a,b with
 | .d (.int i),.d (.int j)=>some (.d (.int (i + j)))
 | .d (.str x),.d (.str y)=>if x.length + y.length ≤ sizeLine then some (.d (.str (x ++ y))) else none
 | .d (.tup xs),.d (.tup ys)=>if xs.length + ys.length ≤ sizeLine then some (.d (.tup (xs ++ ys))) else none
 | .d (.lst xs),.d (.lst ys)=>if xs.length + ys.length ≤ sizeLine then some (.d (.lst (xs ++ ys))) else none
 | _,_=>none
noncomputable def oSub : P2:=fun a b _=>match a,b with
 | .d (.int i),.d (.int j)=>some (.d (.int (i - j)))
 | _,_=>none
noncomputable def oMul : P2:=fun a b _=>match a,b with
 | .d (.int i),.d (.int j)=>if (-(2 ^ 64) < i ∧ i < 2 ^ 64) ∨ (-(2 ^ 64) < j ∧ j < 2 ^ 64) then some (.d (.int (i * j))) else none
 | _,_=>none
noncomputable def oFdiv : P2:=fun a b _=>match a,b with
 | .d (.int i),.d (.int j)=>if 0 < j ∧ j < 1073741824 then some (.d (.int (i / j))) else none
 | _,_=>none
noncomputable def oMod : P2:=fun a b _=>match a,b with
 | .d (.int i),.d (.int j)=>if 0 < j then some (.d (.int (i % j))) else none
 | _,_=>none
noncomputable def oPow : P2:=fun a b _=>match a,b with
 | .d (.int i),.d (.int j)=>if 0 ≤ j ∧ j ≤ 1000000 ∧ i.natAbs < 2 ^ 64 then some (.d (.int (i ^ j.toNat))) else none
 | _,_=>none
noncomputable def oNeg : P1:=fun a _=>match a with
 | .d (.int i)=>some (.d (.int (-i)))
 | _=>none
noncomputable def oLt : P2:=fun a b _=>match a,b with
 | .d (.int i),.d (.int j)=>some (.d (.bl (decide (i < j))))
 | _,_=>none
noncomputable def oLe : P2:=fun a b _=>match a,b with
 | .d (.int i),.d (.int j)=>some (.d (.bl (decide (i ≤ j))))
 | _,_=>none
noncomputable def oGt : P2:=fun a b _=>match a,b with
 | .d (.int i),.d (.int j)=>some (.d (.bl (decide (j < i))))
 | _,_=>none
noncomputable def oGe : P2:=fun a b _=>match a,b with
 | .d (.int i),.d (.int j)=>some (.d (.bl (decide (j ≤ i))))
 | _,_=>none
/-- scalars of one kind,or data -/
noncomputable def eqB (st : Store) (a b : U) : Option Bool:=match a,b with
 | .d (.int i),.d (.int j)=>some (decide (i = j))
 | .d (.str i),.d (.str j)=>some (decide (i = j))
 | .d (.bl i),.d (.bl j)=>some (decide (i = j))
 | .d .non,.d .non=>some true
 | .d (.str _),.d .non=>some false
 | .d .non,.d (.str _)=>some false
 | .d (.int _),.d .non=>some false
 | .d .non,.d (.int _)=>some false
 | a,b=>match asP st a,asP st b with
  | some p,some q=>if SeqAt.shaped p = true ∧ SeqAt.shaped q = true then some (PyData.eqv p q) else none
  | _,_=>none
noncomputable def oEq : P2:=fun a b st=>(eqB st a b).map fun k=>.d (.bl k)
noncomputable def oNe : P2:=fun a b st=>(eqB st a b).map fun k=>.d (.bl (!k))
noncomputable def oIsN : P2:=fun a b _=>match a,b with
 | .d .non,.d .non=>some (.d (.bl true))
 | _,.d .non=>some (.d (.bl false))
 | _,_=>none
noncomputable def oNotN : P2:=fun a b _=>match a,b with
 | .d .non,.d .non=>some (.d (.bl false))
 | _,.d .non=>some (.d (.bl true))
 | _,_=>none
/-- flat data -/
noncomputable def flatD : D → Option PyData
 | .non=>some .none
 | .bl b=>some (.bool b)
 | .int i=>some (.int i)
 | .str x=>some (.str x)
 | _=>none
noncomputable def inB (st : Store) (a b : U) : Option Bool:=match a,b with
 | .d (.str x),.d (.str y)=>some (!(Builtin.Str.occurrences y x 0 y.length 1).isEmpty)
 | .d x,.d (.tup ds)=>match flatD x,allM flatD ds with
  | some p,some qs=>some (qs.any fun q=>PyData.eqv q p)
  | _,_=>none
 | a,b=>match asP st a,asP st b with
  | some p,some (.list qs)=>if SeqAt.shaped p = true ∧ SeqAt.shaped (.list qs) = true then some (qs.any fun q=>PyData.eqv q p) else none
  | _,_=>none
noncomputable def oIn : P2:=fun a b st=>(inB st a b).map fun k=>.d (.bl k)
noncomputable def oNotIn : P2:=fun a b st=>(inB st a b).map fun k=>.d (.bl (!k))
section
variable {X : Cx}
theorem pv_flat {K : PySem.W.Frag} {m : List Addr} {st : Store} {H : Hp} {Q : VK} {u : U} {v : V} (r : Rep K m st H) (p : PV K m st H Q (some u)) (h : RpU K m H u v) : Q v H:=p v H h r (Ext.refl _ _)
theorem opg_i {f : Value → Value → Sem Value} {g : P2} {C : Int → Int → Prop} {z : Int → Int → D} (rule : ∀ (pins : List (Addr × Obj)) (s : Shared) (σ : L2.St) (H : Hp) (i j : Int) (v u : Value) (Q : VK),Inv X pins σ H s → RelV (.int i) v → RelV (.int j) u → C i j → (∀ w,RpD X.K [] H (z i j) w → Q w H) →
  wpAny (model X.prog X.w) X.A (f v u) (EP X pins σ Q) X.xe s) (hz : ∀ i j m H w,RpD X.K [] H (z i j) w → RpD X.K m H (z i j) w)
  (hg : ∀ a b st u,g a b st = some u → ∃ i j,a = .d (.int i) ∧ b = .d (.int j) ∧ C i j ∧ u = .d (z i j)) : OpR X f (rG X.K g):=by
 intro pins s σ H x y v u Q I rx ry h
 obtain ⟨m,st,a,b,r,ha,hb,p⟩:=h
 cases e : g a b st with
 | none=>rw [e] at p; exact p.elim
 | some c =>
  rw [e] at p
  obtain ⟨i,j,rfl,rfl,hc,rfl⟩:=hg a b st c e
  obtain rfl : x = .int i:=ha
  obtain rfl : y = .int j:=hb
  exact rule pins s σ H i j v u Q I rx ry hc fun w hw=>pv_flat r p (hz i j m H w hw)
theorem op_mul' : OpR X (binaryOp .Mult) (rG X.K oMul):=opg_i (C:=CMul) (z:=fun i j=>.int (i * j))
 (fun pins s σ H i j v u Q I rx ry c q=>op_mul pins s σ H _ _ v u Q I rx ry ⟨i,j,rfl,rfl,c,q _ rfl⟩) (fun _ _ _ _ _ h=>h) fun a b st u e=>by
  unfold oMul at e
  split at e
  ·split at e
   ·rename_i h; cases e; exact ⟨_,_,rfl,rfl,h,rfl⟩
   ·cases e
  ·cases e
theorem op_fdiv' : OpR X (binaryOp .FloorDiv) (rG X.K oFdiv):=opg_i (C:=CDiv) (z:=fun i j=>.int (i / j))
 (fun pins s σ H i j v u Q I rx ry c q=>op_fdiv pins s σ H _ _ v u Q I rx ry ⟨i,j,rfl,rfl,c,q _ rfl⟩) (fun _ _ _ _ _ h=>h) fun a b st u e=>by
  unfold oFdiv at e
  split at e
  ·split at e
   ·rename_i h; cases e; exact ⟨_,_,rfl,rfl,h,rfl⟩
   ·cases e
  ·cases e
theorem op_mod' : OpR X (binaryOp .Mod) (rG X.K oMod):=opg_i (C:=fun _ j=>0 < j) (z:=fun i j=>.int (i % j))
 (fun pins s σ H i j v u Q I rx ry c q=>op_mod pins s σ H _ _ v u Q I rx ry ⟨i,j,rfl,rfl,c,q _ rfl⟩) (fun _ _ _ _ _ h=>h) fun a b st u e=>by
  unfold oMod at e
  split at e
  ·split at e
   ·rename_i h; cases e; exact ⟨_,_,rfl,rfl,h,rfl⟩
   ·cases e
  ·cases e
theorem op_pow' : OpR X (binaryOp .Pow) (rG X.K oPow):=opg_i (C:=CPow) (z:=fun i j=>.int (i ^ j.toNat))
 (fun pins s σ H i j v u Q I rx ry c q=>op_pow pins s σ H _ _ v u Q I rx ry ⟨i,j,rfl,rfl,c,q _ rfl⟩) (fun _ _ _ _ _ h=>h) fun a b st u e=>by
  unfold oPow at e
  split at e
  ·split at e
   ·rename_i h; cases e; exact ⟨_,_,rfl,rfl,h,rfl⟩
   ·cases e
  ·cases e
theorem op_lt' : OpR X (compareOp .Lt) (rG X.K oLt):=opg_i (C:=fun _ _=>True) (z:=fun i j=>.bl (decide (i < j)))
 (fun pins s σ H i j v u Q I rx ry _ q=>op_lt pins s σ H _ _ v u Q I rx ry ⟨i,j,rfl,rfl,q _ rfl⟩) (fun _ _ _ _ _ h=>h) fun a b st u e=>by
  unfold oLt at e
  split at e
  ·cases e; exact ⟨_,_,rfl,rfl,trivial,rfl⟩
  ·cases e
theorem op_gt' : OpR X (compareOp .Gt) (rG X.K oGt):=opg_i (C:=fun _ _=>True) (z:=fun i j=>.bl (decide (j < i)))
 (fun pins s σ H i j v u Q I rx ry _ q=>op_gt pins s σ H _ _ v u Q I rx ry ⟨i,j,rfl,rfl,q _ rfl⟩) (fun _ _ _ _ _ h=>h) fun a b st u e=>by
  unfold oGt at e
  split at e
  ·cases e; exact ⟨_,_,rfl,rfl,trivial,rfl⟩
  ·cases e
theorem op_ge' : OpR X (compareOp .GtE) (rG X.K oGe):=opg_i (C:=fun _ _=>True) (z:=fun i j=>.bl (decide (j ≤ i)))
 (fun pins s σ H i j v u Q I rx ry _ q=>op_ge pins s σ H _ _ v u Q I rx ry ⟨i,j,rfl,rfl,q _ rfl⟩) (fun _ _ _ _ _ h=>h) fun a b st u e=>by
  unfold oGe at e
  split at e
  ·cases e; exact ⟨_,_,rfl,rfl,trivial,rfl⟩
  ·cases e
theorem op_add' : OpR X (binaryOp .Add) (rG X.K oAdd):=by
 intro pins s σ H x y v u Q I rx ry h
 obtain ⟨m,st,a,b,r,ha,hb,p⟩:=h
 unfold oAdd at p
 split at p
 ·rename_i i j
  obtain rfl : x = .int i:=ha
  obtain rfl : y = .int j:=hb
  exact op_add pins s σ H _ _ v u Q I rx ry ⟨i,j,rfl,rfl,pv_flat r p rfl⟩
 ·rename_i i j
  obtain rfl : x = .str i:=ha
  obtain rfl : y = .str j:=hb
  split at p
  ·rename_i hz
   exact op_add_str pins s σ H _ _ v u Q I rx ry ⟨i,j,rfl,rfl,hz,pv_flat r p rfl⟩
  ·exact p.elim
 ·rename_i xs ys
  split at p
  ·rename_i hz
   obtain ⟨a,vs,rfl,ta,ra⟩:=ha
   obtain ⟨b,ws,rfl,tb,rb⟩:=hb
   have l1:=ra.length
   have l2:=rb.length
   refine op_catA pins s σ H _ _ v u Q I rx ry ⟨a,b,vs,ws,rfl,rfl,ta.sq,tb.sq,by omega,fun e=>?_,fun _ e=>?_,fun _ _ q hq=>?_⟩
   ·subst e
    have : xs = []:=List.length_eq_zero_iff.mp (by simpa using l1.symm)
    subst this
    exact pv_flat r p ⟨b,ws,rfl,tb,rb⟩
   ·subst e
    have : ys = []:=List.length_eq_zero_iff.mp (by simpa using l2.symm)
    subst this
    exact pv_flat r p ⟨a,vs,rfl,ta,by rw [List.append_nil]; exact ra⟩
   ·exact p _ _ (new_tup r hq (ra.append rb)) (r.new hq _) (ext_new r hq _)
  ·exact p.elim
 ·rename_i xs ys
  split at p
  ·rename_i hz
   obtain ⟨a,vs,rfl,ta,ra⟩:=ha
   obtain ⟨b,ws,rfl,tb,rb⟩:=hb
   have l1:=ra.length
   have l2:=rb.length
   exact op_cat pins s σ H _ _ v u Q I rx ry ⟨a,b,vs,ws,rfl,rfl,ta.2,tb.2,by omega,fun q hq=>p _ _ (new_lst r hq (ra.append rb)) (r.new hq _) (ext_new r hq _)⟩
  ·exact p.elim
 ·exact p.elim
theorem eqB_ok {f : Value → Value → Sem Value} {z : Bool → Bool} (hs : OpR X f (fun x y H Q=>scal x y = true ∧ Q (.bl (z (decide (x = y)))) H))
  (hd : OpR X f (fun x y H Q=>∃ d e,Dp X.K H x d ∧ Dp X.K H y e ∧ SeqAt.shaped d = true ∧ SeqAt.shaped e = true ∧ Q (.bl (z (PyData.eqv d e))) H)) :
  OpR X f (rG X.K fun a b st=>(eqB st a b).map fun k=>.d (.bl (z k))):=by
 intro pins s σ H x y v u Q I rx ry h
 obtain ⟨m,st,a,b,r,ha,hb,p⟩:=h
 replace p : PV X.K m st H Q ((eqB st a b).map fun k=>.d (.bl (z k))):=p
 have sc : ∀ {k : Bool},PV X.K m st H Q (some (.d (.bl (z k)))) → scal x y = true → decide (x = y) = k → wpAny (model X.prog X.w) X.A (f v u) (EP X pins σ Q) X.xe s:=fun {k} p h1 h2 =>
  hs pins s σ H x y v u Q I rx ry ⟨h1,by rw [h2]; exact pv_flat r p rfl⟩
 cases e : eqB st a b with
 | none=>rw [e] at p; exact p.elim
 | some k =>
  rw [e] at p
  have p' : PV X.K m st H Q (some (.d (.bl (z k)))):=p
  unfold eqB at e
  split at e
  ·cases ha; cases hb; cases e; exact sc p' rfl (by simp)
  ·cases ha; cases hb; cases e; exact sc p' rfl (by simp)
  ·cases ha; cases hb; cases e; exact sc p' rfl (by simp)
  ·cases ha; cases hb; cases e; exact sc p' rfl (by simp)
  ·cases ha; cases hb; cases e; exact sc p' rfl (by simp)
  ·cases ha; cases hb; cases e; exact sc p' rfl (by simp)
  ·cases ha; cases hb; cases e; exact sc p' rfl (by simp)
  ·cases ha; cases hb; cases e; exact sc p' rfl (by simp)
  ·split at e
   ·rename_i q1 q2
    split at e
    ·rename_i hsh
     cases e
     exact hd pins s σ H x y v u Q I rx ry ⟨_,_,asP_dp r ha q1,asP_dp r hb q2,hsh.1,hsh.2,pv_flat r p' rfl⟩
    ·cases e
   ·cases e
theorem op_eq' (hu : X.A.units + 64 < cLine) : OpR X (compareOp .Eq) (rG X.K oEq):=eqB_ok (z:=fun k=>k) op_eq (op_eqD hu)
theorem op_ne' (hu : X.A.units + 64 < cLine) : OpR X (compareOp .NotEq) (rG X.K oNe):=eqB_ok (z:=fun k=>!k) op_ne (op_neD hu)
theorem op_notN' : OpR X (compareOp .IsNot) (rG X.K oNotN):=by
 intro pins s σ H x y v u Q I rx ry h
 obtain ⟨m,st,a,b,r,ha,hb,p⟩:=h
 unfold oNotN at p
 split at p
 ·cases ha; cases hb
  exact op_notN pins s σ H _ _ v u Q I rx ry ⟨rfl,pv_flat r p rfl⟩
 ·rename_i hn
  cases hb
  refine op_notN pins s σ H _ _ v u Q I rx ry ⟨rfl,?_⟩
  have : decide (x = .non) = false:=decide_eq_false fun e=>by
   subst e
   cases a with
   | ref n=>obtain ⟨_,_,z⟩:=ha; cases z
   | d w=>cases w <;> first | exact hn rfl | (obtain ⟨_,z,_⟩:=ha; cases z; done) | (obtain ⟨_,_,z,_⟩:=ha; cases z; done) | (obtain ⟨_,_,_,z,_⟩:=ha; cases z; done) | (cases ha; done) | (cases ha.1; done)
  rw [this]
  exact pv_flat r p rfl
 ·exact p.elim
theorem eqV_flat {K : PySem.W.Frag} {m : List Addr} {H : Hp} {d e : D} {x y : V} {p q : PyData} (h1 : RpD K m H d x) (h2 : RpD K m H e y) (e1 : flatD d = some p) (e2 : flatD e = some q) : eqV x y = PyData.eqv p q ∧ flatV x = true:=by
 cases d <;> first | (cases e1; done) | skip
 all_goals (cases e <;> first | (cases e2; done) | skip)
 all_goals (cases h1; cases h2; cases e1; cases e2; exact ⟨rfl,rfl⟩)
theorem allM_flat {K : PySem.W.Frag} {m : List Addr} {H : Hp} {d : D} {x : V} {p : PyData} (h1 : RpD K m H d x) (e1 : flatD d = some p) : ∀ {ds : List D} {vs : List V} {qs : List PyData},RpDs K m H ds vs → allM flatD ds = some qs → inV x vs = qs.any (fun q=>PyData.eqv q p) ∧ vs.all flatV = true
 | [],_,_,h,e=>by cases h; cases e; exact ⟨rfl,rfl⟩
 | d' :: ds,_,qs,⟨v,r,ev,g1,g2⟩,e=>by
  unfold allM at e
  cases q1 : flatD d' with
  | none=>rw [q1] at e; cases e
  | some b =>
   cases q2 : allM flatD ds with
   | none=>rw [q1,q2] at e; cases e
   | some bs =>
    rw [q1,q2] at e; cases e
    subst ev
    obtain ⟨i1,i2⟩:=allM_flat h1 e1 g2 q2
    obtain ⟨j1,j2⟩:=eqV_flat g1 h1 q1 e1
    refine ⟨?_,by rw [List.all_cons,j2,i2]; rfl⟩
    unfold inV at i1 ⊢
    rw [List.any_cons,List.any_cons,i1,j1]
theorem inB_ok {op : CmpOp} {z : Bool → Bool} (hs : OpR X (compareOp op) (fun x y H Q=>∃ i j,x = .str i ∧ y = .str j ∧ Q (.bl (z (!(Builtin.Str.occurrences j i 0 j.length 1).isEmpty))) H))
  (hf : OpR X (compareOp op) (fun x y H Q=>∃ p xs,y = .ref p ∧ (SqL X.K H p xs ∨ SqT X.K H p xs) ∧ flatV x = true ∧ xs.all flatV = true ∧ Q (.bl (z (inV x xs))) H))
  (hd : OpR X (compareOp op) (fun x y H Q=>∃ d ds,Dp X.K H x d ∧ Dp X.K H y (.list ds) ∧ SeqAt.shaped d = true ∧ SeqAt.shaped (.list ds) = true ∧ Q (.bl (z (ds.any fun q=>PyData.eqv q d))) H)) :
  OpR X (compareOp op) (rG X.K fun a b st=>(inB st a b).map fun k=>.d (.bl (z k))):=by
 intro pins s σ H x y v u Q I rx ry h
 obtain ⟨m,st,a,b,r,ha,hb,p⟩:=h
 replace p : PV X.K m st H Q ((inB st a b).map fun k=>.d (.bl (z k))):=p
 cases e : inB st a b with
 | none=>rw [e] at p; exact p.elim
 | some k =>
  rw [e] at p
  have p' : PV X.K m st H Q (some (.d (.bl (z k)))):=p
  unfold inB at e
  split at e
  ·cases ha; cases hb; cases e; exact hs pins s σ H _ _ v u Q I rx ry ⟨_,_,rfl,rfl,pv_flat r p' rfl⟩
  ·split at e
   ·rename_i q1 q2
    cases e
    obtain ⟨b,ws,rfl,tb,rb⟩:=hb
    obtain ⟨i1,i2⟩:=allM_flat ha q1 rb q2
    exact hf pins s σ H _ _ v u Q I rx ry ⟨b,ws,rfl,.inr tb.sq,(eqV_flat ha ha q1 q1).2,i2,by rw [i1]; exact pv_flat r p' rfl⟩
   ·cases e
  ·split at e
   ·rename_i q1 q2
    split at e
    ·rename_i hsh
     cases e
     exact hd pins s σ H x y v u Q I rx ry ⟨_,_,asP_dp r ha q1,asP_dp r hb q2,hsh.1,hsh.2,pv_flat r p' rfl⟩
    ·cases e
   ·cases e
theorem op_notIn' (hu : X.A.units + 65 < cLine) : OpR X (compareOp .NotIn) (rG X.K oNotIn):=inB_ok (z:=fun k=>!k) op_notin_str op_notIn_seq (op_notInD hu)
noncomputable def truB (st : Store) : U → Option Bool
 | .d .non=>some false
 | .d (.bl b)=>some b
 | .d (.int i)=>some (i != 0)
 | .d (.str x)=>if x.length ≤ sizeLine then some ((x.length : Int) != 0) else none
 | .d (.tup ds)=>some (!ds.isEmpty)
 | .d (.lst ds)=>some (!ds.isEmpty)
 | .d (.scr ns)=>some (!ns.isEmpty)
 | .ref n=>match st[n]? with
  | some (.lst us)=>some (!us.isEmpty)
  | some (.dct us)=>some (!us.isEmpty)
  | _=>none
 | _=>none
end
section
variable {K : PySem.W.Frag} {m : List Addr} {H : Hp} {st : Store}
theorem RpUs.isEmpty {us : List U} {vs : List V} (h : RpUs K m H us vs) : vs.isEmpty = us.isEmpty:=by
 cases us with
 | nil=>rw [show vs = [] from h]; rfl
 | cons u us=>obtain ⟨v,r,e,_⟩:=h; rw [e]; rfl
theorem RpDs.isEmpty {us : List D} {vs : List V} (h : RpDs K m H us vs) : vs.isEmpty = us.isEmpty:=by
 cases us with
 | nil=>rw [show vs = [] from h]; rfl
 | cons u us=>obtain ⟨v,r,e,_⟩:=h; rw [e]; rfl
theorem RpUK.isEmpty {us : List (Key × U)} {vs : List (Key × V)} (h : RpUK K m H us vs) : vs.isEmpty = us.isEmpty:=by
 cases us with
 | nil=>rw [show vs = [] from h]; rfl
 | cons u us=>obtain ⟨v,r,e,_⟩:=h; rw [e]; rfl
theorem truB_ok (r : Rep K m st H) {u : U} {v : V} {k : Bool} (h : RpU K m H u v) (e : truB st u = some k) : TruV K v H k:=by
 cases u with
 | ref n =>
  obtain ⟨a,ha,rfl⟩:=h
  simp only [truB] at e
  split at e
  ·rename_i us hs
   obtain ⟨ho,h1,vs,e2,h2⟩:=r.cell n _ a hs ha
   subst e2
   cases e
   exact .inl ⟨vs,.inl (.inl h1),by rw [h2.isEmpty]⟩
  ·rename_i us hs
   obtain ⟨ho,h1,vs,e2,h2⟩:=r.cell n _ a hs ha
   subst e2
   cases e
   exact .inr (.inr ⟨vs,h1,by rw [h2.isEmpty]⟩)
  ·cases e
 | d x =>
  cases x with
  | non=>cases h; cases e; rfl
  | bl b=>cases h; cases e; rfl
  | int i=>cases h; cases e; rfl
  | str x =>
   cases h
   simp only [truB] at e
   split at e
   ·rename_i hz; cases e; exact ⟨hz,rfl⟩
   ·cases e
  | tup ds =>
   obtain ⟨a,vs,rfl,t,q⟩:=h
   cases e
   exact .inr (.inl ⟨vs,t.sq,by rw [q.isEmpty]⟩)
  | lst ds =>
   obtain ⟨a,vs,rfl,t,q⟩:=h
   cases e
   exact .inl ⟨vs,t.sq,by rw [q.isEmpty]⟩
  | scr ns =>
   obtain ⟨a,rfl,t⟩:=h
   cases e
   exact .inl ⟨_,t.sq,by cases ns <;> rfl⟩
  | _=>cases e
end
/-- a value as a test -/
noncomputable def asT (f : F U) : F Bool:=bnd f fun u=>fun _ st=>.of st (truB st u)
noncomputable def fNot (f : F U) : F U:=bnd f fun u=>fun _ st=>.of st ((truB st u).map fun k=>.d (.bl (!k)))
noncomputable def fIf (c : F Bool) (a b : F U) : F U:=bnd c fun k=>if k = true then a else b
noncomputable def fAnd (a b : F U) : F U:=bnd a fun x=>fun env st=>match x with
 | .d (.bl true)=>b env st
 | .d (.bl false)=>.ok (.d (.bl false)) st
 | _=>.bad
noncomputable def fOr (a b : F U) : F U:=bnd a fun x=>fun env st=>match x with
 | .d (.bl true)=>.ok (.d (.bl true)) st
 | .d (.bl false)=>b env st
 | _=>.bad
noncomputable def bNot (f : F Bool) : F Bool:=bnd f fun k=>fun _ st=>.ok (!k) st
noncomputable def bAnd (a b : F Bool) : F Bool:=bnd a fun k=>if k = true then b else fPure false
noncomputable def bOr (a b : F Bool) : F Bool:=bnd a fun k=>if k = true then fPure true else b
section
variable {X : Cx} {W : WX} {a b c : Expr} {rest : List Expr} {fa fb fc : F U} {ba bb bc : F Bool} {pos : Pos}
theorem t_asT {f : F U} {σ : L2.St} {H : Hp} {Q : Bool → Hp → Prop} (h : tFB X.K W (asT f) σ H Q) : tF X.K W f σ H (fun x H'=>∃ k,TruV X.K x H' k ∧ Q k H'):=by
 obtain ⟨m,env,st,r,re,p⟩:=h
 refine tF_step r re p fun a st1 v m1 H1 h1 r1 re1 e1 p1=>?_
 cases e : truB st1 a with
 | none=>rw [e] at p1; exact False.elim p1
 | some k=>rw [e] at p1; exact ⟨k,truB_ok r1 h1 e,PO'.imp' p1 r1⟩
theorem dt_truth (ha : DE X W a fa) (he : ∀ whole,isTrue a X.env whole = (do let v ← whole; standAt a.pos; holding [v] (truthy v)):=by intro _; rfl) : DT X W a (asT fa) :=
 ⟨PT.imp (pt_truth ha.pe he) fun _ _ _ h=>t_asT h⟩
theorem d_not (ha : DE X W a fa) : DE X W (.UnaryOp .Not a pos) (fNot fa):=⟨PE.imp (pe_notT ha.pe) fun σ H Q ⟨m,env,st,r,re,p⟩ =>
 tF_step r re p fun a st1 v m1 H1 h1 r1 re1 e1 p1=>by
  cases e : truB st1 a with
  | none=>rw [e] at p1; exact False.elim p1
  | some k=>rw [e] at p1; exact ⟨k,truB_ok r1 h1 e,p1 _ m1 H1 rfl r1 (Ext.refl _ _)⟩⟩
theorem d_if (hc : DT X W c bc) (ha : DE X W a fa) (hb : DE X W b fb) : DE X W (.IfExp c a b pos) (fIf bc fa fb):=⟨PE.imp (pe_ifExp hc.pt ha.pe hb.pe) fun σ H Q ⟨m,env,st,r,re,p⟩ =>
 tFB_step r re p fun k st1 m1 H1 r1 re1 e1 p1=>by
  cases k with
  | true=>exact iteT ⟨m1,env,st1,r1,re1,p1⟩
  | false=>exact iteF ⟨m1,env,st1,r1,re1,p1⟩⟩
theorem d_one {op : BoolOp} (h : DE X W a fa) : DE X W (.BoolOp op [a] pos) fa:=⟨pe_one h.pe⟩
theorem d_and (ha : DE X W a fa) (hb : DE X W (.BoolOp .And (b :: rest) pos) fb) : DE X W (.BoolOp .And (a :: b :: rest) pos) (fAnd fa fb):=⟨PE.imp (pe_and ha.pe hb.pe) fun σ H Q ⟨m,env,st,r,re,p⟩ =>
 tF_step r re p fun x st1 v m1 H1 h1 r1 re1 e1 p1=>by
  cases x with
  | ref n=>exact False.elim p1
  | d x =>
   cases x with
   | bl k =>
    refine ⟨k,h1,?_⟩
    cases k with
    | true=>exact iteT ⟨m1,env,st1,r1,re1,p1⟩
    | false=>exact iteF (p1 _ m1 H1 rfl r1 (Ext.refl _ _))
   | _=>exact False.elim p1⟩
theorem dt_not (h : DT X W a ba) : DT X W (.UnaryOp .Not a pos) (bNot ba):=⟨PT.imp (pt_not h.pt) fun σ H Q ⟨m,env,st,r,re,p⟩ =>
 tFB_step r re p fun k st1 m1 H1 r1 re1 e1 p1=>PO'.imp' p1 r1⟩
theorem dw_and1 (h : DT X W a ba) : DW X W (.BoolOp .And [a] pos) ba:=⟨pw_and1 h.pt⟩
theorem dw_or1 (h : DT X W a ba) : DW X W (.BoolOp .Or [a] pos) ba:=⟨pw_or1 h.pt⟩
theorem dw_and (ha : DT X W a ba) (hb : DW X W (.BoolOp .And (b :: rest) pos) bb) : DW X W (.BoolOp .And (a :: b :: rest) pos) (bAnd ba bb):=⟨PW.imp (pw_and ha.pt hb.pw) fun σ H Q ⟨m,env,st,r,re,p⟩ =>
 tFB_step r re p fun k st1 m1 H1 r1 re1 e1 p1=>by
  cases k with
  | true=>exact iteT ⟨m1,env,st1,r1,re1,p1⟩
  | false=>exact iteF (PO'.imp' p1 r1)⟩
theorem dw_or (ha : DT X W a ba) (hb : DW X W (.BoolOp .Or (b :: rest) pos) bb) : DW X W (.BoolOp .Or (a :: b :: rest) pos) (bOr ba bb):=⟨PW.imp (pw_or ha.pt hb.pw) fun σ H Q ⟨m,env,st,r,re,p⟩ =>
 tFB_step r re p fun k st1 m1 H1 r1 re1 e1 p1=>by
  cases k with
  | true=>exact iteT (PO'.imp' p1 r1)
  | false=>exact iteF ⟨m1,env,st1,r1,re1,p1⟩⟩
theorem dw_pt (h : DW X W a ba) : DT X W a ba:=⟨h.pw.pt⟩
end
end VL
namespace VL
open PySem PySem.Spec PyProof.Rows L2
noncomputable def fNil : F (List U):=fPure []
noncomputable def fCons (f : F U) (g : F (List U)) : F (List U):=bnd f fun u=>bnd g fun us=>fPure (u :: us)
noncomputable def vTup : List U → Store → Option U:=fun us _=>match pureL us with
 | some ds=>if ds.length ≤ sizeLine then some (.d (.tup ds)) else none
 | none=>none
noncomputable def vLst : List U → Store → Option U:=fun us _=>match pureL us with
 | some ds=>if ds.length ≤ sizeLine then some (.d (.lst ds)) else none
 | none=>none
noncomputable def fN (g : List U → Store → Option U) (f : F (List U)) : F U:=bnd f fun us=>fun _ st=>.of st (g us st)
/-- a display that is a cell -/
noncomputable def fLstC (f : F (List U)) : F U:=bnd f fun us=>fun _ st=>if us.length ≤ sizeLine then .ok (.ref st.length) (st ++ [.lst us]) else .bad
section
variable {X : Cx} {W : WX} {e : Expr} {es : List Expr} {fe : F U} {fs : F (List U)} {pos : Pos}
theorem da_nil : DA X W [] fNil:=⟨PA.imp pa_nil fun σ H Q ⟨m,env,st,r,re,p⟩=>p [] m H rfl r (Ext.refl _ _)⟩
theorem da_cons (he : DE X W e fe) (hs : DA X W es fs) (hst : starEach (e :: es) X.env = (false,eval e X.env) :: starEach es X.env:=by rfl) : DA X W (e :: es) (fCons fe fs) :=
 ⟨PA.imp (pa_cons he.pe hs.pa hst) fun σ H Q ⟨m,env,st,r,re,p⟩=>tF_step r re p fun u st1 v m1 H1 h1 r1 re1 e1 p1=>tFs_step r1 re1 p1 fun us st2 vs m2 H2 h2 r2 re2 e2 p2 =>
  p2 (v :: vs) m2 H2 ⟨v,vs,rfl,h1.ext e2,h2⟩ r2 (Ext.refl _ _)⟩
/-- a tuple,of data or of cells -/
noncomputable def fTup (f : F (List U)) : F U:=bnd f fun us=>fun _ st=>match pureL us with
 | some ds=>if ds.length ≤ sizeLine then .ok (.d (.tup ds)) st else .bad
 | none=>if us.length ≤ sizeLine then .ok (.ref st.length) (st ++ [.tup us]) else .bad
theorem d_tupC {k : Nat} (h : DA X W es fs) : DE X W (.Tuple es k pos) (fTup fs):=⟨PE.imp (pe_tup h.pa) fun σ H Q ⟨m,env,st,r,re,p⟩=>tFs_step r re p fun us st1 vs m1 H1 h1 r1 re1 e1 p1=>by
 split at p1
 ·rename_i ds hd
  split at p1
  ·rename_i hz
   have hr:=pureL_rp h1 hd
   exact ⟨by rw [hr.length]; exact hz,fun q hq=>p1 _ m1 _ (new_tup r1 hq hr) (r1.new hq _) (ext_new r1 hq _)⟩
  ·exact False.elim p1
 ·split at p1
  ·rename_i hz
   exact ⟨by rw [h1.length]; exact hz,fun q hq=>p1 _ (m1 ++ [q]) _ ⟨q,by rw [← r1.len]; simp,rfl⟩ (r1.push hq ⟨vs,rfl,h1.ext (ext_push r1 hq _)⟩) (ext_push r1 hq _)⟩
  ·exact False.elim p1⟩
theorem d_lst (h : DA X W es fs) : DE X W (.List es pos) (fN vLst fs):=⟨PE.imp (pe_lst h.pa) fun σ H Q ⟨m,env,st,r,re,p⟩=>tFs_step r re p fun us st1 vs m1 H1 h1 r1 re1 e1 p1=>by
 cases e : vLst us st1 with
 | none=>rw [e] at p1; exact False.elim p1
 | some u =>
  rw [e] at p1
  unfold vLst at e
  split at e
  ·rename_i ds hd
   split at e
   ·rename_i hz
    cases e
    have hr:=pureL_rp h1 hd
    exact ⟨by rw [hr.length]; exact hz,fun q hq=>p1 _ m1 _ (new_lst r1 hq hr) (r1.new hq _) (ext_new r1 hq _)⟩
   ·cases e
  ·cases e⟩
theorem push_lst {K : PySem.W.Frag} {m : List Addr} {H : Hp} {st : Store} (r : Rep K m st H) {p : Addr} (np : H p = none) {us : List U} {vs : List V} (h : RpUs K m H us vs) :
  RpU K (m ++ [p]) (upd H p (.lst vs)) (.ref st.length) (.ref p) ∧ Rep K (m ++ [p]) (st ++ [.lst us]) (upd H p (.lst vs)) :=
 ⟨⟨p,by rw [← r.len]; simp,rfl⟩,r.push np ⟨vs,rfl,h.ext (ext_push r np _)⟩⟩
theorem d_lstC (h : DA X W es fs) : DE X W (.List es pos) (fLstC fs):=⟨PE.imp (pe_lst h.pa) fun σ H Q ⟨m,env,st,r,re,p⟩=>tFs_step r re p fun us st1 vs m1 H1 h1 r1 re1 e1 p1=>by
 split at p1
 ·rename_i hz
  refine ⟨by rw [h1.length]; exact hz,fun q hq=>?_⟩
  obtain ⟨g1,g2⟩:=push_lst r1 hq h1
  exact p1 _ _ _ g1 g2 (ext_push r1 hq _)
 ·exact False.elim p1⟩
end
noncomputable def keyD : U → Option Key
 | .d (.int i)=>some (.inl i)
 | .d (.str x)=>some (.inr x)
 | _=>none
noncomputable def lookK {α : Type} (kvs : List (Key × α)) (k : Key) : Option α:=(kvs.find? fun kv=>decide (kv.1 = k)).map (·.2)
/-- a dict's pairs -/
noncomputable def getD (st : Store) : U → Option (List (Key × U))
 | .d (.dct kvs)=>some (kvs.map fun kv=>(kv.1,.d kv.2))
 | .ref n=>match st[n]? with
  | some (.dct us)=>some us
  | some (.lck us)=>some us
  | _=>none
 | _=>none
noncomputable def oIx : P2:=fun a b st=>match getD st a with
 | some kvs=>match keyD b with
  | some k=>lookK kvs k
  | none=>none
 | none=>match b with
  | .d (.int i)=>match getL st a with
   | some us=>atI us i
   | none=>match a with
    | .d (.tup ds)=>(atI ds i).map .d
    | .d (.str z)=>if z.length ≤ sizeLine then (atI z.cps.toList i).map fun c=>.d (.str ⟨#[c]⟩) else none
    | _=>none
  | _=>none
section
variable {K : PySem.W.Frag} {m : List Addr} {H : Hp} {st : Store}
theorem RpUK.ofD : ∀ {ds : List (Key × D)} {vs : List (Key × V)},RpK K m H ds vs → RpUK K m H (ds.map fun kv=>(kv.1,.d kv.2)) vs
 | [],_,h=>h
 | (k,d) :: ds,_,⟨v,r,e,h1,h2⟩=>⟨v,r,e,h1,RpUK.ofD h2⟩
theorem RpUK.toD : ∀ {ds : List (Key × D)} {vs : List (Key × V)},RpUK K m H (ds.map fun kv=>(kv.1,.d kv.2)) vs → RpK K m H ds vs
 | [],_,h=>h
 | (k,d) :: ds,_,⟨v,r,e,h1,h2⟩=>⟨v,r,e,h1,RpUK.toD h2⟩
theorem getD_rp (r : Rep K m st H) : ∀ {u : U} {v : V} {us : List (Key × U)},RpU K m H u v → getD st u = some us → ∃ a vs,v = .ref a ∧ Rd H a (.dK vs) ∧ RpUK K m H us vs
 | .d (.dct ds),v,us,⟨a,vs,e,h1,h2⟩,q=>by
  cases q
  exact ⟨a,vs,e,h1.2,RpUK.ofD h2⟩
 | .ref n,v,us,⟨a,ha,e⟩,q=>by
  simp only [getD] at q
  split at q
  ·rename_i zs hs
   cases q
   obtain ⟨ho,h1,vs,e2,h2⟩:=r.cell n _ a hs ha
   rw [e2] at h1
   exact ⟨a,vs,e,.inl h1,h2⟩
  ·rename_i zs hs
   cases q
   obtain ⟨ho,h1,ob,vs,e2,h2⟩:=r.cell n _ a hs ha
   rw [e2] at h1
   exact ⟨a,vs,e,.inr ⟨ob,h1⟩,h2⟩
  ·cases q
 | .d .non,_,_,_,q=>by cases q
 | .d (.bl _),_,_,_,q=>by cases q
 | .d (.int _),_,_,_,q=>by cases q
 | .d (.str _),_,_,_,q=>by cases q
 | .d (.ty _),_,_,_,q=>by cases q
 | .d (.obj _),_,_,_,q=>by cases q
 | .d (.tup _),_,_,_,q=>by cases q
 | .d (.lst _),_,_,_,q=>by cases q
 | .d (.scr _),_,_,_,q=>by cases q
 | .d (.ins _ _),_,_,_,q=>by cases q
 | .d (.exc _ _ _ _),_,_,_,q=>by cases q
 | .d (.kdc _ _),_,_,_,q=>by cases q
theorem lookK_rp {k : Key} : ∀ {us : List (Key × U)} {vs : List (Key × V)},RpUK K m H us vs → match lookK us k with | some u=>∃ v,valV vs k = some v ∧ RpU K m H u v | none=>valV vs k = none
 | [],_,h=>by cases h; exact rfl
 | (k',u) :: us,_,⟨v,r,e,h1,h2⟩=>by
  subst e
  have ih:=lookK_rp (k:=k) h2
  unfold lookK valV at ih ⊢
  rw [List.find?_cons,List.find?_cons]
  by_cases e : k' = k
  ·rw [decide_eq_true e]; exact ⟨v,rfl,h1⟩
  ·rw [decide_eq_false e]; exact ih
theorem keyD_rp {u : U} {v : V} {k : Key} (h : RpU K m H u v) (e : keyD u = some k) : v = kV k:=by
 unfold keyD at e
 split at e
 ·cases e; exact h
 ·cases e; exact h
 ·cases e
theorem atI_rp {us : List U} {vs : List V} (h : RpUs K m H us vs) {i : Int} {u : U} (e : atI us i = some u) : ∃ v,atI vs i = some v ∧ RpU K m H u v:=by
 unfold atI at e ⊢
 rw [h.length]
 cases q : ixN us.length i with
 | none=>rw [q] at e; cases e
 | some j =>
  rw [q] at e
  exact h.get e
end
section
variable {X : Cx} {W : WX} {a b : Expr} {fa fb : F U} {pos : Pos}
theorem ix_dict (hu : X.A.units + 1 < cLine) : IxR X (fun x y H Q=>∃ p v,x = .ref p ∧ DGet H p y (some v) ∧ Q v H):=by
 intro value slice pins s σ H x y v u Q I rx ry h hs
 obtain ⟨p,w,rfl,g,q⟩:=h
 cases rx
 exact tail_any (ops:=[.ref p,u]) (dict_typeIs I g) PySem.F.slot_dict_getitem.lookup (d_getItem hu I g ry fun w' s' I' r'=>⟨w,H,I',r',q⟩) hs
theorem ix_ok (hu : X.A.units + 1 < cLine) : IxR X (rG X.K oIx):=by
 intro value slice pins s σ H x y v u Q I rx ry h hs
 obtain ⟨m,st,a,b,r,ha,hb,p⟩:=h
 cases e : oIx a b st with
 | none=>rw [e] at p; exact p.elim
 | some w =>
  rw [e] at p
  unfold oIx at e
  split at e
  ·rename_i kvs hk
   split at e
   ·rename_i k hkk
    obtain ⟨q,vs,rfl,h1,h2⟩:=getD_rp r ha hk
    have l:=lookK_rp (k:=k) h2
    rw [e] at l
    obtain ⟨z,hz,rz⟩:=l
    have hy:=keyD_rp hb hkk
    subst hy
    exact ix_dict hu value slice pins s σ H _ _ v u Q I rx ry ⟨q,z,rfl,.inl ⟨vs,k,h1,rfl,hz.symm⟩,pv_flat r p rz⟩ hs
   ·cases e
  ·split at e
   ·cases hb
    split at e
    ·rename_i us hl
     obtain ⟨q,vs,rfl,h1,h2⟩:=getL_rp r ha hl
     obtain ⟨z,hz,rz⟩:=atI_rp h2 e
     exact ix_list value slice pins s σ H _ _ v u Q I rx ry ⟨q,vs,_,z,rfl,rfl,h1,hz,pv_flat r p rz⟩ hs
    ·split at e
     ·rename_i ds _ _
      obtain ⟨q,vs,rfl,h1,h2⟩:=ha
      cases e2 : atI ds _ with
      | none=>rw [e2] at e; cases e
      | some d0 =>
       rw [e2] at e
       cases e
       obtain ⟨z,hz,rz⟩:=atI_rp (RpUs.ofD h2) (i:=_) (u:=.d d0) (by unfold atI at e2 ⊢; rw [List.length_map]; cases q3 : ixN ds.length _ with | none=>rw [q3] at e2; cases e2 | some j=>rw [q3] at e2; show (List.map U.d ds)[j]? = _; rw [List.getElem?_map]; show Option.map _ _ = _; rw [show ds[j]? = some d0 from e2]; rfl)
       exact ix_tup value slice pins s σ H _ _ v u Q I rx ry ⟨q,vs,_,z,rfl,rfl,h1.sq,hz,pv_flat r p rz⟩ hs
     ·cases ha
      split at e
      ·rename_i hz
       cases e2 : atI (Array.toList _) _ with
       | none=>rw [e2] at e; cases e
       | some c =>
        rw [e2] at e
        cases e
        exact ix_str value slice pins s σ H _ _ v u Q I rx ry ⟨_,_,c,rfl,rfl,hz,e2,pv_flat r p rfl⟩ hs
      ·cases e
     ·cases e
   ·cases e
theorem d_ix (hu : X.A.units + 1 < cLine) (ha : DE X W a fa) (hb : DE X W b fb) (hs : PlainIx b:=by intro _ _; rfl) : DE X W (.Subscript a b pos) (f2 oIx fa fb) :=
 ⟨PE.imp (pe_ix (ix_ok hu) ha.pe hb.pe hs) fun _ _ _ h=>t_op2 h⟩
end
noncomputable def tFO (K : PySem.W.Frag) (W : WX) (f : F (Option Int)) : TO:=fun σ H Q=>∃ m env st,Rep K m st H ∧ RpEnv K m H env σ ∧ PO' K m H (fun _ _ a b=>b = a) Q (fun c d H'=>W c d σ H') (f env st)
theorem tFO_step {K : PySem.W.Frag} {W : WX} {m : List Addr} {env : VEnv} {st : Store} {H : Hp} {σ : L2.St} {γ δ : Type} {rel : List Addr → Hp → γ → δ → Prop} {Q : δ → Hp → Prop} {f : F (Option Int)} {g : Option Int → F γ} {Z : Option Int → Hp → Prop}
  (r : Rep K m st H) (re : RpEnv K m H env σ) (p : PO' K m H rel Q (fun c d H'=>W c d σ H') (bnd f g env st))
  (h : ∀ a st1 m1 H1,Rep K m1 st1 H1 → RpEnv K m1 H1 env σ → Ext m H m1 H1 → PO' K m1 H1 rel Q (fun c d H'=>W c d σ H') (g a env st1) → Z a H1) : tFO K W f σ H Z :=
 ⟨m,env,st,r,re,by
  unfold bnd at p
  cases e : f env st with
  | ok a st1=>rw [e] at p; exact fun v m1 H1 h1 h2 h3=>by subst h1; exact h _ st1 m1 H1 h2 (re.ext h3) h3 (p.from h3)
  | ex c fs st1=>rw [e] at p; exact p
  | bad=>rw [e] at p; exact p.elim⟩
structure DO (X : Cx) (W : WX) (e : Option Expr) (f : F (Option Int)) : Prop where
 po : PO X e (tFO X.K W f)
noncomputable def oNone : F (Option Int):=fPure none
noncomputable def oSome (f : F U) : F (Option Int):=bnd f fun u=>fun _ st=>match u with
 | .d (.int i)=>.ok (some i) st
 | _=>.bad
noncomputable def cutG {α : Type} (xs : List α) (lo hi : Option Int) : List α:=(xs.drop (HT.sIx xs.length 0 lo)).take (HT.sIx xs.length xs.length hi - HT.sIx xs.length 0 lo)
noncomputable def oSl (a : U) (lo hi : Option Int) (st : Store) : Option U:=match a with
 | .d (.str z)=>if z.length ≤ sizeLine then some (.d (.str (cutS z lo hi))) else none
 | .d (.tup ds)=>some (.d (.tup (cutG ds lo hi)))
 | a=>match getL st a with
  | some us=>match pureL (cutG us lo hi) with
   | some ds=>some (.d (.lst ds))
   | none=>none
  | none=>none
noncomputable def fSl (f : F U) (l h : F (Option Int)) : F U:=bnd f fun a=>bnd l fun lo=>bnd h fun hi=>fun _ st=>.of st (oSl a lo hi st)
section
variable {K : PySem.W.Frag} {m : List Addr} {H : Hp} {st : Store}
theorem cut_rp {us : List U} {vs : List V} (h : RpUs K m H us vs) (lo hi : Option Int) : RpUs K m H (cutG us lo hi) (cutV vs lo hi):=by
 unfold cutG cutV
 rw [h.length]
 exact (h.drop _).take _
theorem cutG_map {α β : Type} (f : α → β) (xs : List α) (lo hi : Option Int) : cutG (xs.map f) lo hi = (cutG xs lo hi).map f:=by
 unfold cutG
 rw [List.length_map,List.map_take,List.map_drop]
theorem cutG_whole {α : Type} {xs : List α} {lo hi : Option Int} (h : HT.sIx xs.length 0 lo = 0 ∧ HT.sIx xs.length xs.length hi = xs.length) : cutG xs lo hi = xs:=by
 unfold cutG
 rw [h.1,h.2,List.drop_zero,Nat.sub_zero,List.take_length]
end
section
variable {X : Cx} {W : WX} {a e : Expr} {fa fe : F U} {lo hi : Option Expr} {fl fh : F (Option Int)} {pos p2 : Pos}
theorem do_none : DO X W none oNone:=⟨⟨fun pins s σ H Q I h=>po_none.run pins s σ H Q I (by
 obtain ⟨m,env,st,r,re,p⟩:=h
 exact p none m H rfl r (Ext.refl _ _))⟩⟩
theorem do_some (h : DE X W e fe) : DO X W (some e) (oSome fe):=⟨⟨fun pins s σ H Q I hw=>(po_some h.pe).run pins s σ H Q I (by
 obtain ⟨m,env,st,r,re,p⟩:=hw
 refine tF_step r re p fun u st1 v m1 H1 h1 r1 re1 e1 p1=>?_
 cases u with
 | ref n=>exact False.elim p1
 | d x =>
  cases x with
  | int i=>exact ⟨i,h1,p1 _ m1 H1 rfl r1 (Ext.refl _ _)⟩
  | _=>exact False.elim p1)⟩⟩
theorem sl_ok : SlR X (fun x lo hi H Q=>∃ m st a,Rep X.K m st H ∧ RpU X.K m H a x ∧ PV X.K m st H Q (oSl a lo hi st)):=by
 intro pins s σ H x v vl vu lo hi sl Q I rx hs pl pu h
 obtain ⟨m,st,a,r,ha,p⟩:=h
 cases e : oSl a lo hi st with
 | none=>rw [e] at p; exact p.elim
 | some w =>
  rw [e] at p
  unfold oSl at e
  split at e
  ·cases ha
   split at e
   ·rename_i hz
    cases e
    exact sl_str pins s σ H _ v vl vu lo hi sl Q I rx hs pl pu ⟨_,rfl,hz,pv_flat r p rfl⟩
   ·cases e
  ·rename_i ds
   cases e
   obtain ⟨q,vs,rfl,h1,h2⟩:=ha
   have hl:=h2.length
   refine sl_tupA pins s σ H _ v vl vu lo hi sl Q I rx hs pl pu ⟨q,vs,rfl,h1.sq,fun hw=>?_,fun hw z hz=>?_⟩
   ·rw [hl] at hw
    rw [cutG_whole hw] at p
    exact pv_flat r p ⟨q,vs,rfl,h1,h2⟩
   ·have hc:=cut_rp (RpUs.ofD h2) lo hi
    rw [cutG_map] at hc
    exact p _ _ (new_tup r hz (RpDs.toD hc)) (r.new hz _) (ext_new r hz _)
  ·split at e
   ·rename_i us hl
    split at e
    ·rename_i ds hd
     cases e
     obtain ⟨q,vs,rfl,h1,h2⟩:=getL_rp r ha hl
     exact sl_list pins s σ H _ v vl vu lo hi sl Q I rx hs pl pu ⟨q,vs,rfl,h1,fun z hz=>p _ _ (new_lst r hz (pureL_rp (cut_rp h2 lo hi) hd)) (r.new hz _) (ext_new r hz _)⟩
    ·cases e
   ·cases e
theorem d_sl (ha : DE X W a fa) (hl : DO X W lo fl) (hh : DO X W hi fh) : DE X W (.Subscript a (.Slice lo hi none p2) pos) (fSl fa fl fh):=⟨PE.imp (pe_slice sl_ok ha.pe hl.po hh.po) fun σ H Q ⟨m,env,st,r,re,p⟩ =>
 tF_step r re p fun u st1 v m1 H1 h1 r1 re1 e1 p1=>tFO_step r1 re1 p1 fun lo st2 m2 H2 r2 re2 e2 p2=>tFO_step r2 re2 p2 fun hi st3 m3 H3 r3 re3 e3 p3 =>
  ⟨m3,st3,u,r3,(h1.ext e2).ext e3,PV.of p3⟩⟩
end
end VL
namespace VL
open PySem PySem.Spec PyProof.Rows L2
noncomputable def sNil : G:=fun env st=>.ok env .nx st
noncomputable def sSeq (g h : G) : G:=fun env st=>match g env st with
 | .ok env1 .nx st1=>h env1 st1
 | r=>r
noncomputable def sRet (f : F U) : G:=bndS f fun u=>fun env st=>.ok env (.rt u) st
noncomputable def sRetN : G:=fun env st=>.ok env (.rt (.d .non)) st
noncomputable def sExpr (f : F U) : G:=bndS f fun _=>sNil
noncomputable def sIf (c : F Bool) (g h : G) : G:=bndS c fun k=>if k = true then g else h
noncomputable def sBk : G:=fun env st=>.ok env .bk st
noncomputable def sCt : G:=fun env st=>.ok env .ct st
noncomputable def tgN (i : Nat) (u : U) : G:=fun env st=>.ok (env.set i (some u)) .nx st
noncomputable def sAsg (f : F U) (tg : U → G) : G:=bndS f tg
/-- not reached -/
noncomputable def sNo : G:=fun _ _=>.bad
section
variable {X : Cx} {W : WX} {st : Stmt} {sts a b : List Stmt} {g h ga gb : G} {e c : Expr} {fe : F U} {bc : F Bool} {pos : Pos}
theorem db_nil : DB X W [] sNil:=⟨PSs.imp pss_nil fun D σ H ⟨m,env,st,r,re,p⟩=>p σ m H re r (Ext.refl _ _)⟩
theorem t_seq {D : Ends} {σ : L2.St} {H : Hp} (q : tG X.K W (sSeq g h) D σ H) : tSeq (tG X.K W g) (tG X.K W h) D σ H:=by
 obtain ⟨m,env,st,r,re,p⟩:=q
 refine ⟨m,env,st,r,re,?_⟩
 unfold sSeq at p
 cases e : g env st with
 | bad=>rw [e] at p; exact p
 | ex c fs env1 st1=>rw [e] at p; exact p
 | ok env1 f st1 =>
  rw [e] at p
  cases f with
  | nx=>exact fun σ' m' H' h1 h2 h3=>⟨m',env1,st1,h2,h1,p.from h3⟩
  | rt u=>exact p
  | bk=>exact p
  | ct=>exact p
theorem db_cons (h1 : DS X W st g) (h2 : DB X W sts h) : DB X W (st :: sts) (sSeq g h):=⟨PSs.imp (pss_cons h1.ps h2.pss) fun _ _ _ q=>t_seq q⟩
theorem db_one (h1 : DS X W st g) : DB X W [st] g:=⟨pss_one h1.ps⟩
theorem ds_ret (he : DE X W e fe) : DS X W (.Return (some e) pos) (sRet fe):=⟨PS.imp (ps_ret he.pe) fun D σ H ⟨m,env,st,r,re,p⟩=>sF_step r re p fun u st1 v m1 H1 h1 r1 re1 e1 p1=>p1 v m1 H1 h1 r1 (Ext.refl _ _)⟩
theorem ds_expr (he : DE X W e fe) (hs : swapsWith e none pos.line X.env = pure false:=by rfl) : DS X W (.Expr e pos) (sExpr fe):=⟨PS.imp (ps_expr he.pe hs) fun D σ H ⟨m,env,st,r,re,p⟩=>sF_step r re p fun u st1 v m1 H1 h1 r1 re1 e1 p1=>p1 σ m1 H1 re1 r1 (Ext.refl _ _)⟩
theorem ds_if (hc : DT X W c bc) (ha : DB X W a ga) (hb : DB X W b gb) : DS X W (.If c a b pos) (sIf bc ga gb):=⟨PS.imp (ps_if hc.pt ha.pss hb.pss) fun D σ H ⟨m,env,st,r,re,p⟩=>sFB_step r re p fun k st1 m1 H1 r1 re1 e1 p1=>by
 cases k with
 | true=>exact iteT ⟨m1,env,st1,r1,re1,p1⟩
 | false=>exact iteF ⟨m1,env,st1,r1,re1,p1⟩⟩
end
/-- the names at the slots is alone are new -/
noncomputable def Out (is : List Nat) (σ σ' : L2.St) : Prop:=σ'.length = σ.length ∧ ∀ i,i ∉ is → σ'[i]? = σ[i]?
theorem Out.refl (is : List Nat) (σ : L2.St) : Out is σ σ:=⟨rfl,fun _ _=>rfl⟩
theorem Out.trans {is js : List Nat} {σ σ1 σ2 : L2.St} (a : Out is σ σ1) (b : Out js σ1 σ2) : Out (is ++ js) σ σ2 :=
 ⟨b.1.trans a.1,fun i h=>(b.2 i fun z=>h (List.mem_append_right _ z)).trans (a.2 i fun z=>h (List.mem_append_left _ z))⟩
theorem Out.set {σ : L2.St} (i : Nat) (v : Option V) : Out [i] σ (σ.set i v):=⟨List.length_set,fun j h=>List.getElem?_set_ne (fun e=>h (by rw [e]; exact List.mem_singleton.mpr rfl))⟩
noncomputable def tTg (K : PySem.W.Frag) (is : List Nat) (g : U → G) : TG:=fun v σ H Q=>∃ m env st u,Rep K m st H ∧ RpEnv K m H env σ ∧ RpU K m H u v ∧ (match g u env st with
 | .ok env' .nx st'=>∀ σ' m' H',RpEnv K m' H' env' σ' → Rep K m' st' H' → Ext m H m' H' → Out is σ σ' → Q σ' H'
 | _=>False)
noncomputable def tTgs (K : PySem.W.Frag) (is : List Nat) (g : List U → G) : TGs:=fun vs σ H Q=>∃ m env st us,Rep K m st H ∧ RpEnv K m H env σ ∧ RpUs K m H us vs ∧ (match g us env st with
 | .ok env' .nx st'=>∀ σ' m' H',RpEnv K m' H' env' σ' → Rep K m' st' H' → Ext m H m' H' → Out is σ σ' → Q σ' H'
 | _=>False)
structure DG (X : Cx) (e : Expr) (is : List Nat) (g : U → G) : Prop where
 pg : PG X e (tTg X.K is g)
structure DGs (X : Cx) (es : List Expr) (is : List Nat) (g : List U → G) : Prop where
 pgs : PGs X es (tTgs X.K is g)
noncomputable def tgNil : List U → G:=fun us=>match us with
 | []=>sNil
 | _=>sNo
noncomputable def tgCons (g : U → G) (h : List U → G) : List U → G:=fun us=>match us with
 | u :: r=>sSeq (g u) (h r)
 | _=>sNo
/-- the items of a tuple,a list -/
noncomputable def unp (st : Store) : U → Option (List U)
 | .d (.tup ds)=>some (ds.map .d)
 | u=>match getL st u with
  | some us=>some us
  | none=>match u with
   | .ref n=>match st[n]? with
    | some (.tup us)=>some us
    | _=>none
   | _=>none
theorem unp_rp {K : PySem.W.Frag} {m : List Addr} {H : Hp} {st : Store} (r : Rep K m st H) {u : U} {v : V} {us : List U} (h : RpU K m H u v) (e : unp st u = some us) : ∃ a vs,v = .ref a ∧ (SqT K H a vs ∨ SqL K H a vs) ∧ RpUs K m H us vs:=by
 unfold unp at e
 split at e
 ·cases e
  obtain ⟨a,vs,rfl,h1,h2⟩:=h
  exact ⟨a,vs,rfl,.inl h1.sq,RpUs.ofD h2⟩
 ·split at e
  ·rename_i us' hl
   cases e
   obtain ⟨a,vs,e1,h1,h2⟩:=getL_rp r h hl
   exact ⟨a,vs,e1,.inr h1,h2⟩
  ·split at e
   ·split at e
    ·rename_i us' hs
     cases e
     obtain ⟨a,ha,rfl⟩:=h
     obtain ⟨ho,h1,vs,e2,h2⟩:=r.cell _ _ a hs ha
     subst e2
     exact ⟨a,vs,rfl,.inl (.inl (.inl h1)),h2⟩
    ·cases e
   ·cases e
/-- a,b,.. = a tuple (list) of that length -/
noncomputable def tgT (n : Nat) (g : List U → G) : U → G:=fun u env st=>match unp st u with
 | some us=>if us.length = n then g us env st else .bad
 | none=>.bad
theorem PG.imp {X : Cx} {e : Expr} {t t' : TG} (h : PG X e t) (i : ∀ v σ H Q,t' v σ H Q → t v σ H Q) : PG X e t':=⟨fun pins s σ H v u Q I r q=>h.run pins s σ H v u Q I r (i v σ H Q q)⟩
theorem PGs.imp {X : Cx} {e : List Expr} {t t' : TGs} (h : PGs X e t) (i : ∀ v σ H Q,t' v σ H Q → t v σ H Q) : PGs X e t':=⟨fun pins s σ H v u Q I r q=>h.run pins s σ H v u Q I r (i v σ H Q q)⟩
theorem PG.or {X : Cx} {e : Expr} {t t' : TG} (h : PG X e t) (h' : PG X e t') : PG X e (fun v σ H Q=>t v σ H Q ∨ t' v σ H Q):=⟨fun pins s σ H v u Q I r q=>by
 rcases q with q | q
 ·exact h.run pins s σ H v u Q I r q
 ·exact h'.run pins s σ H v u Q I r q⟩
section
variable {X : Cx} {W : WX} {e : Expr} {es : List Expr} {is js : List Nat} {g : U → G} {gs : List U → G} {fe : F U} {pos : Pos}
theorem dg_name (i : Nat) {x : Str} (hN : X.N.Nodup) (hi : X.N[i]? = some x:=by rfl) (hx : Loc X.env.scope x:=by first | exact Or.inl rfl | exact Or.inr rfl) (hf : X.fn x = true ∨ X.env.scope.names.lookup x = some .local:=by first | exact .inl rfl | exact .inr rfl | assumption) : DG X (.Name x pos) [i] (tgN i) :=
 ⟨PG.imp (pg_name hN hi hx hf) fun v σ H Q ⟨m,env,st,u,r,re,ru,p⟩=>p _ m H (re.set i ru) r (Ext.refl _ _) (Out.set i _)⟩
theorem dgs_nil : DGs X [] [] tgNil:=⟨PGs.imp pgs_nil fun vs σ H Q ⟨m,env,st,us,r,re,ru,p⟩=>by
 cases us with
 | nil=>exact ⟨ru,p _ m H re r (Ext.refl _ _) (Out.refl _ _)⟩
 | cons u us=>exact p.elim⟩
theorem dgs_cons (h1 : DG X e is g) (h2 : DGs X es js gs) (hs : (assignEach (e :: es) X.env).map (·.2) = assign e X.env :: (assignEach es X.env).map (·.2):=by rfl) : DGs X (e :: es) (is ++ js) (tgCons g gs) :=
 ⟨PGs.imp (pgs_cons h1.pg h2.pgs hs) fun vs σ H Q ⟨m,env,st,us,r,re,ru,p⟩=>by
  cases us with
  | nil=>exact p.elim
  | cons u us =>
   obtain ⟨v,w,rfl,r1,r2⟩:=ru
   refine ⟨v,w,rfl,m,env,st,u,r,re,r1,?_⟩
   unfold tgCons sSeq at p
   simp only at p
   cases e : g u env st with
   | bad=>rw [e] at p; exact p
   | ex c fs env1 st1=>rw [e] at p; exact p
   | ok env1 f st1 =>
    rw [e] at p
    cases f with
    | nx =>
     refine fun σ' m' H' h1 h2 h3 h4=>⟨m',env1,st1,us,h2,h1,r2.ext h3,?_⟩
     cases e2 : gs us env1 st1 with
     | bad=>simp only [e2] at p
     | ex c fs env2 st2=>simp only [e2] at p
     | ok env2 f2 st2 =>
      simp only [e2] at p
      cases f2 with
      | nx=>exact fun σ'' m'' H'' k1 k2 k3 k4=>p σ'' m'' H'' k1 k2 (h3.trans k3) (h4.trans k4)
      | rt u=>exact p
      | bk=>exact p
      | ct=>exact p
    | rt u=>exact p
    | bk=>exact p
    | ct=>exact p⟩
theorem dg_tup {k n : Nat} (hc : X.calm = true) (h : DGs X es is gs) (hn : (assignEach es X.env).length = n:=by rfl) (hst : (assignEach es X.env).findIdx? (·.1) = none:=by rfl) : DG X (.Tuple es k pos) is (tgT n gs) :=
 ⟨PG.imp (PG.or (pg_tup hc h.pgs hn hst) (pg_lst hc h.pgs hn hst)) fun v σ H Q ⟨m,env,st,u,r,re,ru,p⟩=>by
  unfold tgT at p
  cases q : unp st u with
  | none=>rw [q] at p; exact p.elim
  | some us =>
   rw [q] at p
   simp only at p
   by_cases hz : us.length = n
   ·rw [if_pos hz] at p
    obtain ⟨a,vs,rfl,h1,h2⟩:=unp_rp r ru q
    rcases h1 with h1 | h1
    ·exact .inl ⟨a,vs,rfl,h1,by rw [h2.length,hz],m,env,st,us,r,re,h2,p⟩
    ·exact .inr ⟨a,vs,rfl,h1,by rw [h2.length,hz],m,env,st,us,r,re,h2,p⟩
   ·rw [if_neg hz] at p; exact p.elim⟩
/-- what a target does ends well -/
noncomputable def TgNx (g : U → G) : Prop:=∀ u env st,match g u env st with
 | .ok _ .nx _=>True
 | .bad=>True
 | _=>False
theorem t_asg (hnx : TgNx g) {D : Ends} {σ : L2.St} {H : Hp} (q : tG X.K W (sAsg fe g) D σ H) : tAsg (tF X.K W fe) (tTg X.K is g) D σ H:=by
 obtain ⟨m,env,st,r,re,p⟩:=q
 refine sF_step r re p fun u st1 v m1 H1 h1 r1 re1 e1 p1=>⟨m1,env,st1,u,r1,re1,h1,?_⟩
 have:=hnx u env st1
 cases e : g u env st1 with
 | bad=>rw [e] at p1; exact p1.elim
 | ex c fs env1 st1=>rw [e] at this; exact this.elim
 | ok env1 f st1 =>
  rw [e] at p1 this
  cases f with
  | nx=>exact fun σ' m' H' k1 k2 k3 _=>p1 σ' m' H' k1 k2 k3
  | rt u=>exact this.elim
  | bk=>exact this.elim
  | ct=>exact this.elim
theorem nx_name (i : Nat) : TgNx (tgN i):=fun _ _ _=>trivial
theorem ds_asg {tg : Expr} (he : DE X W e fe) (hg : DG X tg is g) (hnx : TgNx g) (hs : swapsWithSole [tg] e pos.line X.env = pure false:=by rfl) (hw : swappedStores [tg] e X.env = pure none:=by rfl)
  (h1 : (assignEach [tg] X.env).map (·.2) = [assign tg X.env]:=by rfl) : DS X W (.Assign [tg] e pos) (sAsg fe g):=⟨PS.imp (ps_asg he.pe hg.pg hs hw h1) fun _ _ _ q=>t_asg hnx q⟩
theorem ds_set (i : Nat) {x : Str} {pos' : Pos} (hN : X.N.Nodup) (he : DE X W e fe) (hi : X.N[i]? = some x:=by rfl) (hx : Loc X.env.scope x:=by first | exact Or.inl rfl | exact Or.inr rfl) (hs : swapsWith e (some (.Name x pos')) pos.line X.env = pure false:=by rfl)
  (hf : X.fn x = true ∨ X.env.scope.names.lookup x = some .local:=by first | exact .inl rfl | exact .inr rfl | assumption) : DS X W (.Assign [.Name x pos'] e pos) (sAsg fe (tgN i)) :=
 ⟨PS.imp (ps_set hN hi hx he.pe hs hf) fun D σ H ⟨m,env,st,r,re,p⟩=>sF_step r re p fun u st1 v m1 H1 h1 r1 re1 e1 p1=>p1 _ m1 H1 (re1.set i h1) r1 (Ext.refl _ _)⟩
/-- a,b = x,y -/
noncomputable def sPar (i j : Nat) (fs : F (List U)) : G:=bndS fs fun us=>fun env st=>match us with
 | [u,w]=>.ok ((env.set i (some u)).set j (some w)) .nx st
 | _=>.bad
theorem ds_par (i j : Nat) {x y : Str} {a b : Expr} {fs : F (List U)} {px py pt : Pos} {kt k2 : Nat} {pt2 : Pos} (hc : X.calm = true) (hN : X.N.Nodup) (ha : DA X W [a,b] fs) (hij : i ≠ j)
  (hw : swappedStores [.Tuple [.Name x px,.Name y py] kt pt] (.Tuple [a,b] k2 pt2) X.env = pure (some [x,y])) (hi : X.N[i]? = some x:=by rfl) (hj : X.N[j]? = some y:=by rfl)
  (hx : X.env.scope.names.lookup x = some .local:=by rfl) (hy : X.env.scope.names.lookup y = some .local:=by rfl)
  (hs : swapsWithSole [.Tuple [.Name x px,.Name y py] kt pt] (.Tuple [a,b] k2 pt2) pos.line X.env = pure false:=by rfl) :
  DS X W (.Assign [.Tuple [.Name x px,.Name y py] kt pt] (.Tuple [a,b] k2 pt2) pos) (sPar i j fs):=⟨PS.imp (ps_par hc hN hi hj hij hx hy ha.pa hw hs) fun D σ H ⟨m,env,st,r,re,p⟩=>sFs_step r re p fun us st1 vs m1 H1 h1 r1 re1 e1 p1=>by
 match us,h1,p1 with
 | [],_,p1=>exact p1.elim
 | [_],_,p1=>exact p1.elim
 | _ :: _ :: _ :: _,_,p1=>exact p1.elim
 | [u,w],h1,p1 =>
  obtain ⟨v,_,rfl,g1,w',_,rfl,g2,rfl⟩:=h1
  exact ⟨v,w',rfl,p1 _ m1 H1 ((re1.set i g1).set j g2) r1 (Ext.refl _ _)⟩⟩
end
inductive Itb where
 | lst (us : List U)
 | cell (n : Nat) (f : Nat → U → Option U)
noncomputable def IsIt (K : PySem.W.Frag) (m1 : List Addr) (H1 : Hp) (J : It) : Itb → Prop
 | .lst us=>(∀ i m' st' H',i < us.length → Rep K m' st' H' → Ext m1 H1 m' H' → J.go i H') ∧ (∀ m' st' H',Rep K m' st' H' → Ext m1 H1 m' H' → J.stop us.length H') ∧
  ∀ i u m' st' H' x H'',us[i]? = some u → Rep K m' st' H' → Ext m1 H1 m' H' → J.yld i H' x H'' → Rep K m' st' H'' ∧ Ext m' H' m' H'' ∧ RpU K m' H'' u x
 | .cell n f=>∀ us m' st' H',Rep K m' st' H' → Ext m1 H1 m' H' → st'[n]? = some (.lst us) → (∀ i,i < us.length → J.go i H') ∧ (∀ i,us.length ≤ i → J.stop i H') ∧
  ∀ i u w x H'',us[i]? = some u → f i u = some w → J.yld i H' x H'' → Rep K m' st' H'' ∧ Ext m' H' m' H'' ∧ RpU K m' H'' w x
noncomputable def tI (K : PySem.W.Frag) (W : WX) (f : F Itb) : TI:=fun σ H R=>∃ m env st,Rep K m st H ∧ RpEnv K m H env σ ∧ PO' K m H (fun _ _ a b=>b = a) (fun t H1=>∀ m1 st1,f env st = .ok t st1 → Rep K m1 st1 H1 → Ext m H m1 H1 → ∀ J,IsIt K m1 H1 J t → R J H1) (fun c d H'=>W c d σ H') (f env st)
structure DI (X : Cx) (W : WX) (tg iter : Expr) (f : F Itb) : Prop where
 pi : PI X tg iter (tI X.K W f)
noncomputable def loopL (tg : U → G) (body : G) : List U → G
 | []=>sNil
 | u :: us=>fun env st=>match tg u env st with
  | .ok env1 .nx st1=>match body env1 st1 with
   | .ok env2 .nx st2=>loopL tg body us env2 st2
   | .ok env2 .ct st2=>loopL tg body us env2 st2
   | .ok env2 .bk st2=>.ok env2 .nx st2
   | r=>r
  | _=>.bad
noncomputable def loopC (tg : U → G) (body : G) (n : Nat) (f : Nat → U → Option U) : Nat → Nat → G
 | 0,_=>sNo
 | k + 1,i=>fun env st=>match st[n]? with
  | some (.lst us)=>match us[i]? with
   | none=>.ok env .nx st
   | some u=>match f i u with
    | none=>.bad
    | some w=>match tg w env st with
     | .ok env1 .nx st1=>match body env1 st1 with
      | .ok env2 .nx st2=>loopC tg body n f k (i + 1) env2 st2
      | .ok env2 .ct st2=>loopC tg body n f k (i + 1) env2 st2
      | .ok env2 .bk st2=>.ok env2 .nx st2
      | r=>r
     | _=>.bad
  | _=>.bad
noncomputable def sFor (fi : F Itb) (tg : U → G) (body : G) : G:=bndS fi fun t=>match t with
 | .lst us=>loopL tg body us
 | .cell n f=>fun env st=>match st[n]? with
  | some (.lst us)=>loopC tg body n f (us.length + 1) 0 env st
  | _=>.bad
section
variable {X : Cx} {W : WX} {tg iter : Expr} {body : List Stmt} {is : List Nat} {g : U → G} {gb : G} {fi : F Itb} {pos : Pos}
theorem step_loop {K : PySem.W.Frag} {is : List Nat} {D : Ends} {N : L2.St → Hp → Prop} {g : U → G} {gb : G} {rest : G} {u : U} {m m1 : List Addr} {env : VEnv} {st : Store} {H H1 : Hp} {σ : L2.St} {x : V} (r : Rep K m st H) (re : RpEnv K m H env σ) (ru : RpU K m H u x)
  (e0 : Ext m1 H1 m H)
  (p : PS' K m H D W (match g u env st with
   | .ok env1 .nx st1=>match gb env1 st1 with
    | .ok env2 .nx st2=>rest env2 st2
    | .ok env2 .ct st2=>rest env2 st2
    | .ok env2 .bk st2=>.ok env2 .nx st2
    | r=>r
   | _=>.bad))
  (hN : ∀ env2 st2 σ' m' H',RpEnv K m' H' env2 σ' → Rep K m' st2 H' → Ext m1 H1 m' H' → PS' K m' H' D W (rest env2 st2) → N σ' H') :
  tTg K is g x σ H fun σ2 H2=>tG K W gb { D with nx:=N,ct:=N,bk:=D.nx } σ2 H2:=by
 refine ⟨m,env,st,u,r,re,ru,?_⟩
 cases e : g u env st with
 | bad=>rw [e] at p; exact p.elim
 | ex c fs env1 st1=>rw [e] at p; exact p.elim
 | ok env1 f st1 =>
  rw [e] at p
  cases f with
  | rt u=>exact p.elim
  | bk=>exact p.elim
  | ct=>exact p.elim
  | nx =>
   refine fun σ2 m2 H2 k1 k2 k3 _=>⟨m2,env1,st1,k2,k1,?_⟩
   have p2:=PS'.from k3 p
   cases e2 : gb env1 st1 with
   | bad=>simp only [e2] at p2; exact p2
   | ex c fs env2 st2=>simp only [e2] at p2; exact p2
   | ok env2 f2 st2 =>
    simp only [e2] at p2
    cases f2 with
    | nx=>exact fun σ' m' H' j1 j2 j3=>hN env2 st2 σ' m' H' j1 j2 (e0.trans (k3.trans j3)) (p2.from j3)
    | ct=>exact fun σ' m' H' j1 j2 j3=>hN env2 st2 σ' m' H' j1 j2 (e0.trans (k3.trans j3)) (p2.from j3)
    | bk=>exact p2
    | rt u=>exact p2
theorem t_for {D : Ends} {σ : L2.St} {H : Hp} (q : tG X.K W (sFor fi g gb) D σ H) : tFor (tI X.K W fi) (tTg X.K is g) (tG X.K W gb) D σ H:=by
 obtain ⟨m,env,st,r,re,p⟩:=q
 refine ⟨m,env,st,r,re,?_⟩
 unfold sFor bndS at p
 cases e : fi env st with
 | bad=>rw [e] at p; exact p.elim
 | ex c fs st1=>rw [e] at p; exact fun d m' H' h1 h2 h3=>p d σ m' H' (re.ext h2) h1 h2 h3
 | ok t st1 =>
  rw [e] at p
  intro t' m0 H0 ht r0 e0 m1 st1' he r1 e1 J hJ
  subst ht
  cases he
  have re1:=re.ext e1
  have p1:=PS'.from e1 p
  cases t' with
  | lst us =>
   obtain ⟨go,stop,yld⟩:=hJ
   refine ⟨fun i k σ H=>∃ m' env' st',Rep X.K m' st' H ∧ RpEnv X.K m' H env' σ ∧ Ext m1 H0 m' H ∧ k = us.length - i ∧ i ≤ us.length ∧ PS' X.K m' H D W (loopL g gb (us.drop i) env' st'),
    ⟨us.length,m1,env,st1,r1,re1,Ext.refl _ _,by simp,Nat.zero_le _,p1⟩,?_⟩
   rintro i k σ' H' ⟨m',env',st',r',re',e',rfl,hi,p'⟩
   by_cases hlt : i < us.length
   ·have hu : us[i]? = some us[i]:=List.getElem?_eq_getElem hlt
    rw [List.drop_eq_getElem_cons hlt] at p'
    refine .inr ⟨go i m' st' H' hlt r' e',fun σ2 H2=>∃ m2 env2 st2,Rep X.K m2 st2 H2 ∧ RpEnv X.K m2 H2 env2 σ2 ∧ Ext m1 H0 m2 H2 ∧ PS' X.K m2 H2 D W (loopL g gb (us.drop (i + 1)) env2 st2),?_,?_⟩
    ·rintro σ2 H2 ⟨m2,env2,st2,r2,re2,e2,p2⟩
     exact ⟨us.length - (i + 1),by omega,m2,env2,st2,r2,re2,e2,rfl,hlt,p2⟩
    ·intro x H'' hy
     obtain ⟨r2,e2,ru⟩:=yld i _ m' st' H' x H'' hu r' e' hy
     exact step_loop r2 (re'.ext e2) ru (e'.trans e2) (PS'.from e2 p') fun env2 st2 σ2 m2 H2 k1 k2 k3 k4=>⟨m2,env2,st2,k2,k1,k3,k4⟩
   ·have : i = us.length:=by omega
    subst this
    rw [List.drop_length] at p'
    exact .inl ⟨stop m' st' H' r' e',p' σ' m' H' re' r' (Ext.refl _ _)⟩
  | cell n f =>
   simp only at p1
   split at p1
   ·rename_i us0 hs0
    refine ⟨fun i k σ H=>∃ m' env' st',Rep X.K m' st' H ∧ RpEnv X.K m' H env' σ ∧ Ext m1 H0 m' H ∧ PS' X.K m' H D W (loopC g gb n f k i env' st'),
     ⟨us0.length + 1,m1,env,st1,r1,re1,Ext.refl _ _,p1⟩,?_⟩
    rintro i k σ' H' ⟨m',env',st',r',re',e',p'⟩
    cases k with
    | zero=>exact p'.elim
    | succ k =>
     unfold loopC at p'
     split at p'
     ·rename_i us hs
      obtain ⟨go,stop,yld⟩:=hJ us m' st' H' r' e' hs
      cases hu : us[i]? with
      | none =>
       simp only [hu] at p'
       exact .inl ⟨stop i (List.getElem?_eq_none_iff.mp hu),p' σ' m' H' re' r' (Ext.refl _ _)⟩
      | some u =>
       simp only [hu] at p'
       cases hf : f i u with
       | none=>simp only [hf] at p'; exact p'.elim
       | some w =>
        simp only [hf] at p'
        refine .inr ⟨go i (List.getElem?_eq_some_iff.mp hu).1,fun σ2 H2=>∃ m2 env2 st2,Rep X.K m2 st2 H2 ∧ RpEnv X.K m2 H2 env2 σ2 ∧ Ext m1 H0 m2 H2 ∧ PS' X.K m2 H2 D W (loopC g gb n f k (i + 1) env2 st2),?_,?_⟩
        ·rintro σ2 H2 ⟨m2,env2,st2,r2,re2,e2,p2⟩
         exact ⟨k,Nat.lt_succ_self k,m2,env2,st2,r2,re2,e2,p2⟩
        ·intro x H'' hy
         obtain ⟨r2,e2,ru⟩:=yld i u w x H'' hu hf hy
         exact step_loop r2 (re'.ext e2) ru (e'.trans e2) (PS'.from e2 p') fun env2 st2 σ2 m2 H2 k1 k2 k3 k4=>⟨m2,env2,st2,k2,k1,k3,k4⟩
     ·exact p'.elim
   ·exact p1.elim
theorem ds_for (hp : PassesOwn (model X.prog X.w) X.A X.env X.xe) (hc : X.calm = true) (hi : DI X W tg iter fi) (hg : DG X tg is g) (hb : DB X W body gb) (hs : ∀ x,foldedSetIterable iter X.env x = pure x:=by intro _; rfl) :
  DS X W (.For tg iter body [] pos) (sFor fi g gb):=⟨PS.imp (ps_for hp hc hi.pi hg.pg hb.pss hs) fun _ _ _ q=>t_for q⟩
end
end VL
namespace VL
open PySem PySem.Spec PyProof.Rows L2
noncomputable def itV (st : Store) (u : U) : Option Itb:=match u with
 | .d (.lst ds)=>some (.lst (ds.map .d))
 | .d (.scr ns)=>some (.lst (ns.map fun i=>.d (.int i)))
 | .d (.tup ds)=>some (.lst (ds.map .d))
 | .d (.str z)=>some (.lst (z.cps.toList.map fun c=>.d (.str ⟨#[c]⟩)))
 | .ref n=>match st[n]? with
  | some (.lst us)=>some (.cell n fun _ u=>some u)
  | _=>none
 | _=>none
noncomputable def fIter (f : F U) : F Itb:=bnd f fun u=>fun _ st=>.of st (itV st u)
theorem PI.or {X : Cx} {tg e : Expr} {t t' : TI} (h : PI X tg e t) (h' : PI X tg e t') : PI X tg e (fun σ H R=>t σ H R ∨ t' σ H R):=⟨fun pins s σ H R I q=>by
 rcases q with q | q
 ·exact h.run pins s σ H R I q
 ·exact h'.run pins s σ H R I q⟩
theorem PI.imp {X : Cx} {tg e : Expr} {t t' : TI} (h : PI X tg e t) (i : ∀ σ H R,t' σ H R → t σ H R) : PI X tg e t':=⟨fun pins s σ H R I q=>h.run pins s σ H R I (i σ H R q)⟩
section
variable {K : PySem.W.Frag} {m : List Addr} {H : Hp} {st : Store}
theorem isIt_lst {a : Addr} {us : List U} {vs : List V} (hs : ∀ m' H',Ext m H m' H' → SqL K H' a vs) (hr : RpUs K m H us vs) : IsIt K m H (Itl K a) (.lst us):=by
 have hl:=hr.length
 refine ⟨fun i m' st' H' hi r e=>⟨vs,vs[i]'(by omega),hs m' H' e,by simp [hl,hi]⟩,fun m' st' H' r e=>⟨vs,hs m' H' e,by omega⟩,fun i u m' st' H' x H'' hu r e y=>?_⟩
 obtain ⟨rfl,y⟩:=y
 obtain ⟨v,hv,rv⟩:=hr.get hu
 have:=(y vs (hs m' _ e)).symm.trans hv
 cases this
 exact ⟨r,Ext.refl _ _,rv.ext e⟩
theorem isIt_tup {a : Addr} {us : List U} {vs : List V} (hs : ∀ m' H',Ext m H m' H' → SqT K H' a vs) (hr : RpUs K m H us vs) : IsIt K m H (Itt K a) (.lst us):=by
 have hl:=hr.length
 refine ⟨fun i m' st' H' hi r e=>⟨vs,vs[i]'(by omega),hs m' H' e,by simp [hl,hi]⟩,fun m' st' H' r e=>⟨vs,hs m' H' e,by omega⟩,fun i u m' st' H' x H'' hu r e y=>?_⟩
 obtain ⟨rfl,y⟩:=y
 obtain ⟨v,hv,rv⟩:=hr.get hu
 have:=(y vs (hs m' _ e)).symm.trans hv
 cases this
 exact ⟨r,Ext.refl _ _,rv.ext e⟩
theorem isIt_cell {a : Addr} {n : Nat} (hn : m[n]? = some a) : IsIt K m H (Itl K a) (.cell n fun _ u=>some u):=by
 intro us m' st' H' r e hs
 have hn' : m'[n]? = some a:=by
  obtain ⟨t,rfl⟩:=e.pre
  rw [List.getElem?_append_left (List.getElem?_eq_some_iff.mp hn).1]; exact hn
 obtain ⟨ho,h1,vs,e2,h2⟩:=r.cell n _ a hs hn'
 subst e2
 have hl:=h2.length
 have hq : SqL K H' a vs:=.inl (.inl h1)
 refine ⟨fun i hi=>⟨vs,vs[i]'(by omega),hq,by simp [hl,hi]⟩,fun i hi=>⟨vs,hq,by omega⟩,fun i u w x H'' hu hw y=>?_⟩
 cases hw
 obtain ⟨rfl,y⟩:=y
 obtain ⟨v,hv,rv⟩:=h2.get hu
 have:=(y vs hq).symm.trans hv
 cases this
 exact ⟨r,Ext.refl _ _,rv⟩
theorem str_items {z : Str} {i : Nat} {c : Nat} (h : z.cps[i]? = some c) : (z.cps.toList.map fun c=>U.d (.str ⟨#[c]⟩))[i]? = some (.d (.str ⟨#[c]⟩)):=by
 rw [List.getElem?_map,Array.getElem?_toList,h]; rfl
theorem isIt_str {z : Str} : IsIt K m H (Its z) (.lst (z.cps.toList.map fun c=>.d (.str ⟨#[c]⟩))):=by
 have hl : (z.cps.toList.map fun c=>U.d (.str ⟨#[c]⟩)).length = z.cps.size:=by rw [List.length_map,Array.length_toList]
 refine ⟨fun i m' st' H' hi r e=>(by rw [hl] at hi; exact hi),fun m' st' H' r e=>(by rw [hl]; exact Nat.le_refl _),fun i u m' st' H' x H'' hu r e y=>?_⟩
 obtain ⟨rfl,c,hc,rfl⟩:=y
 rw [str_items hc] at hu
 cases hu
 exact ⟨r,Ext.refl _ _,rfl⟩
theorem isIt_rng {lo : Int} {n : Nat} : IsIt K m H (Itr lo n) (.lst ((List.range n).map fun i=>.d (.int (lo + (i : Nat))))):=by
 have hl : ((List.range n).map fun i=>U.d (.int (lo + (i : Nat)))).length = n:=by rw [List.length_map,List.length_range]
 refine ⟨fun i m' st' H' hi r e=>(by rw [hl] at hi; exact hi),fun m' st' H' r e=>(by rw [hl]; exact Nat.le_refl _),fun i u m' st' H' x H'' hu r e y=>?_⟩
 obtain ⟨rfl,rfl⟩:=y
 have hi : i < n:=by have:=(List.getElem?_eq_some_iff.mp hu).1; rw [hl] at this; exact this
 rw [List.getElem?_map,List.getElem?_range hi] at hu
 cases hu
 exact ⟨r,Ext.refl _ _,rfl⟩
end
section
variable {X : Cx} {W : WX} {tg e : Expr} {es : List Expr} {fe : F U} {fs : F (List U)} {pos p : Pos}
theorem d_iter (he : DE X W e fe) : DI X W tg e (fIter fe):=⟨PI.imp (PI.or (pi_list he.pe) (PI.or (pi_tup he.pe) (pi_str he.pe))) fun σ H R ⟨m,env,st,r,re,p⟩=>by
 unfold fIter at p
 have run : ∀ (Z : VK),(∀ a st1 v m1 H1,fe env st = .ok a st1 → RpU X.K m1 H1 a v → Rep X.K m1 st1 H1 → RpEnv X.K m1 H1 env σ → Ext m H m1 H1 → Z v H1) → tF X.K W fe σ H Z:=fun Z hz=>by
  refine ⟨m,env,st,r,re,?_⟩
  unfold bnd at p
  cases e : fe env st with
  | ok a st1=>exact fun v m1 H1 h1 h2 h3=>hz a st1 v m1 H1 e h1 h2 (re.ext h3) h3
  | ex c fs st1=>simp only [e] at p; exact p
  | bad=>simp only [e] at p; exact p.elim
 cases e : fe env st with
 | bad=>unfold bnd at p; simp only [e] at p; exact p.elim
 | ex c fs st1=>exact .inl (run _ fun a st2 v m1 H1 q=>by rw [e] at q; cases q)
 | ok u st1 =>
  have e2 : ∀ {t : Itb},itV st1 u = some t → bnd fe (fun u=>fun _ st=>VL.R.of st (itV st u)) env st = .ok t st1:=fun {t} h=>by unfold bnd; simp only [e,h]; rfl
  cases hi : itV st1 u with
  | none=>unfold bnd at p; simp only [e,hi] at p; exact p.elim
  | some t =>
   rw [e2 hi] at p
   have fin : ∀ {m1 H1},Rep X.K m1 st1 H1 → Ext m H m1 H1 → ∀ J,IsIt X.K m1 H1 J t → R J H1:=fun {m1 H1} r1 e1 J hJ=>p t m1 H1 rfl r1 e1 m1 st1 rfl r1 e1 J hJ
   unfold itV at hi
   split at hi
   ·cases hi
    exact .inl (run _ fun a st2 v m1 H1 q h1 h2 h3 h4=>by
     rw [e] at q; cases q
     obtain ⟨b,vs,rfl,g1,g2⟩:=h1
     exact ⟨b,rfl,⟨vs,g1.sq⟩,fin h2 h4 _ (isIt_lst (fun m' H' e'=>(g1.stay e'.toStay).sq) (RpUs.ofD g2))⟩)
   ·cases hi
    exact .inl (run _ fun a st2 v m1 H1 q h1 h2 h3 h4=>by
     rw [e] at q; cases q
     obtain ⟨b,rfl,g1⟩:=h1
     exact ⟨b,rfl,⟨_,g1.sq⟩,fin h2 h4 _ (isIt_lst (fun m' H' e'=>(g1.stay e'.toStay).sq) (RpUs.ints _))⟩)
   ·cases hi
    exact .inr (.inl (run _ fun a st2 v m1 H1 q h1 h2 h3 h4=>by
     rw [e] at q; cases q
     obtain ⟨b,vs,rfl,g1,g2⟩:=h1
     exact ⟨b,rfl,⟨vs,g1.sq⟩,fin h2 h4 _ (isIt_tup (fun m' H' e'=>(g1.stay e'.toStay).sq) (RpUs.ofD g2))⟩))
   ·cases hi
    exact .inr (.inr (run _ fun a st2 v m1 H1 q h1 h2 h3 h4=>by
     rw [e] at q; cases q
     exact ⟨_,h1,fin h2 h4 _ isIt_str⟩))
   ·split at hi
    ·rename_i us hs
     cases hi
     exact .inl (run _ fun a st2 v m1 H1 q h1 h2 h3 h4=>by
      rw [e] at q; cases q
      obtain ⟨b,hb,rfl⟩:=h1
      obtain ⟨ho,k1,vs,k2,k3⟩:=h2.cell _ _ b hs hb
      subst k2
      exact ⟨b,rfl,⟨vs,.inl (.inl k1)⟩,fin h2 h4 _ (isIt_cell hb)⟩)
    ·cases hi
   ·cases hi⟩
/-- range(n),range(a,b) -/
noncomputable def itR (us : List U) : Option Itb:=match us with
 | [.d (.int j)]=>if -(2 ^ 62) ≤ j ∧ j < 2 ^ 62 then some (.lst ((List.range j.toNat).map fun i=>.d (.int (0 + (i : Nat))))) else none
 | _=>none
noncomputable def fItN (g : List U → Option Itb) (f : F (List U)) : F Itb:=bnd f fun us=>fun _ st=>.of st (g us)
theorem t_itN {g : List U → Option Itb} {σ : L2.St} {H : Hp} {R : It → Hp → Prop} (h : tI X.K W (fItN g fs) σ H R) {Z : List V → Hp → Prop}
  (hz : ∀ us vs m1 st1 H1 t,RpUs X.K m1 H1 us vs → Rep X.K m1 st1 H1 → g us = some t → (∀ J,IsIt X.K m1 H1 J t → R J H1) → Z vs H1) : tFs X.K W fs σ H Z:=by
 obtain ⟨m,env,st,r,re,p⟩:=h
 refine ⟨m,env,st,r,re,?_⟩
 unfold fItN at p
 cases e : fs env st with
 | bad=>unfold bnd at p; simp only [e] at p; exact p.elim
 | ex c fs st1=>unfold bnd at p; simp only [e] at p; exact p
 | ok us st1 =>
  intro vs m1 H1 h1 r1 e1
  cases hi : g us with
  | none=>unfold bnd at p; simp only [e,hi] at p; exact p.elim
  | some t =>
   have e2 : bnd fs (fun us=>fun _ st=>VL.R.of st (g us)) env st = .ok t st1:=by unfold bnd; simp only [e,hi]; rfl
   rw [e2] at p
   exact hz us vs m1 st1 H1 t h1 r1 hi fun J hJ=>p t m1 H1 rfl r1 e1 m1 st1 rfl r1 e1 J hJ
theorem d_range1 {a : Expr} (hm : X.mg "range" = none) (ha : DA X W [a] fs) (hg : Gl X "range":=by rfl) (hs : starEach [a] X.env = [(false,eval a X.env)]:=by rfl) : DI X W tg (.Call (.Name "range" p) [a] [] pos) (fItN itR fs) :=
 ⟨PI.imp (pi_range1 hg hm ha.pa hs) fun σ H R h=>t_itN h fun us vs m1 st1 H1 t h1 r1 ht q=>by
  unfold itR at ht
  split at ht
  ·split at ht
   ·rename_i hb
    cases ht
    obtain ⟨v,_,rfl,rfl,rfl⟩:=h1
    exact ⟨_,rfl,hb.1,hb.2,q _ isIt_rng⟩
   ·cases ht
  ·cases ht⟩
end
/-- pairs of an index,an item -/
noncomputable def pairsFrom : Nat → List D → List U
 | _,[]=>[]
 | i,d :: ds=>.d (.tup [.int (i : Nat),d]) :: pairsFrom (i + 1) ds
theorem pairsFrom_get : ∀ (ds : List D) (k i : Nat) (u : U),(pairsFrom k ds)[i]? = some u → ∃ d,ds[i]? = some d ∧ u = .d (.tup [.int ((k + i : Nat) : Int),d])
 | [],k,i,u,h=>by simp [pairsFrom] at h
 | d :: ds,k,0,u,h=>by simp [pairsFrom] at h; exact ⟨d,rfl,h.symm⟩
 | d :: ds,k,i + 1,u,h=>by
  obtain ⟨d',h1,h2⟩:=pairsFrom_get ds (k + 1) i u (by simpa [pairsFrom] using h)
  exact ⟨d',by simpa using h1,by rw [h2]; congr 4; simp; omega⟩
theorem pairsFrom_length : ∀ (ds : List D) (k : Nat),(pairsFrom k ds).length = ds.length
 | [],_=>rfl
 | d :: ds,k=>by rw [pairsFrom,List.length_cons,List.length_cons,pairsFrom_length]
noncomputable def itE (st : Store) (us : List U) : Option Itb:=match us with
 | [.d (.lst ds)]=>some (.lst (pairsFrom 0 ds))
 | [.d (.scr ns)]=>some (.lst (pairsFrom 0 (ns.map .int)))
 | [.ref n]=>match st[n]? with
  | some (.lst _)=>some (.cell n fun i u=>match u with
   | .d x=>some (.d (.tup [.int (i : Nat),x]))
   | _=>none)
  | _=>none
 | _=>none
section
variable {K : PySem.W.Frag} {m : List Addr} {H : Hp} {st : Store}
theorem pair_new (r : Rep K m st H) {T : Addr} (nT : H T = none) {a b : D} {x y : V} (h1 : RpD K m H a x) (h2 : RpD K m H b y) : Rep K m st (upd H T (.tup [x,y])) ∧ Ext m H m (upd H T (.tup [x,y])) ∧ RpU K m (upd H T (.tup [x,y])) (.d (.tup [a,b])) (.ref T) :=
 ⟨r.new nT _,ext_new r nT _,new_tup r nT ⟨x,_,rfl,h1,y,_,rfl,h2,rfl⟩⟩
theorem isIt_enum {a : Addr} {ds : List D} {vs : List V} (hs : ∀ m' H',Ext m H m' H' → SqL K H' a vs) (hr : RpDs K m H ds vs) : IsIt K m H (Ite K a) (.lst (pairsFrom 0 ds)):=by
 have hl:=hr.length
 have hl2:=pairsFrom_length ds 0
 refine ⟨fun i m' st' H' hi r e=>(walk_enum (K:=K) (a:=a) (xs:=vs)).goes i H' (by omega) (hs m' H' e),fun m' st' H' r e=>(by rw [hl2,← hl]; exact (walk_enum (K:=K) (a:=a) (xs:=vs)).stops H' (hs m' H' e)),fun i u m' st' H' x H'' hu r e y=>?_⟩
 have hi:=(List.getElem?_eq_some_iff.mp hu).1
 obtain ⟨T,x1,y1,rfl,nT,rfl,e1,e2⟩:=(walk_enum (K:=K) (a:=a) (xs:=vs)).yields i H' x H'' (by omega) (hs m' H' e) y
 cases e1
 obtain ⟨d,hd,rfl⟩:=pairsFrom_get ds 0 i u hu
 obtain ⟨v,hv,rv⟩:=hr.get hd
 cases hv.symm.trans e2
 rw [Nat.zero_add]
 exact pair_new r nT (a:=.int (i : Nat)) rfl (rv.ext e)
theorem isIt_enumC {a : Addr} {n : Nat} (hn : m[n]? = some a) : IsIt K m H (Ite K a) (.cell n fun i u=>match u with
  | .d x=>some (.d (.tup [.int (i : Nat),x]))
  | _=>none):=by
 intro us m' st' H' r e hs
 have hn' : m'[n]? = some a:=by
  obtain ⟨t,rfl⟩:=e.pre
  rw [List.getElem?_append_left (List.getElem?_eq_some_iff.mp hn).1]; exact hn
 obtain ⟨ho,h1,vs,e2,h2⟩:=r.cell n _ a hs hn'
 subst e2
 have hl:=h2.length
 have hq : SqL K H' a vs:=.inl (.inl h1)
 refine ⟨fun i hi=>(walk_enum (K:=K) (a:=a) (xs:=vs)).goes i H' (by omega) hq,fun i hi=>?_,fun i u w x H'' hu hw y=>?_⟩
 ·exact ⟨vs,hq,by omega⟩
 ·have hi:=(List.getElem?_eq_some_iff.mp hu).1
  obtain ⟨T,x1,y1,rfl,nT,rfl,e1,e2⟩:=(walk_enum (K:=K) (a:=a) (xs:=vs)).yields i H' x H'' (by omega) hq y
  cases e1
  obtain ⟨v,hv,rv⟩:=h2.get hu
  cases hv.symm.trans e2
  cases u with
  | ref k=>cases hw
  | d z=>cases hw; exact pair_new r nT (a:=.int (i : Nat)) rfl rv
end
section
variable {X : Cx} {W : WX} {e e2 : Expr} {fs : F (List U)} {pos p tpos : Pos} {elts : List Expr} {kk : Nat}
noncomputable def fItS (g : Store → List U → Option Itb) (f : F (List U)) : F Itb:=bnd f fun us=>fun _ st=>.of st (g st us)
theorem t_itS {g : Store → List U → Option Itb} {σ : L2.St} {H : Hp} {R : It → Hp → Prop} (h : tI X.K W (fItS g fs) σ H R) {Z : List V → Hp → Prop}
  (hz : ∀ us vs m1 st1 H1 t,RpUs X.K m1 H1 us vs → Rep X.K m1 st1 H1 → g st1 us = some t → (∀ J,IsIt X.K m1 H1 J t → R J H1) → Z vs H1) : tFs X.K W fs σ H Z:=by
 obtain ⟨m,env,st,r,re,p⟩:=h
 refine ⟨m,env,st,r,re,?_⟩
 unfold fItS at p
 cases e : fs env st with
 | bad=>unfold bnd at p; simp only [e] at p; exact p.elim
 | ex c fs st1=>unfold bnd at p; simp only [e] at p; exact p
 | ok us st1 =>
  intro vs m1 H1 h1 r1 e1
  cases hi : g st1 us with
  | none=>unfold bnd at p; simp only [e,hi] at p; exact p.elim
  | some t =>
   have e2 : bnd fs (fun us=>fun _ st=>VL.R.of st (g st us)) env st = .ok t st1:=by unfold bnd; simp only [e,hi]; rfl
   rw [e2] at p
   exact hz us vs m1 st1 H1 t h1 r1 hi fun J hJ=>p t m1 H1 rfl r1 e1 m1 st1 rfl r1 e1 J hJ
theorem d_enum (hm : X.mg "enumerate" = none) (ha : DA X W [e] fs) (hg : Gl X "enumerate":=by rfl) (hs : starEach [e] X.env = [(false,eval e X.env)]:=by rfl) : DI X W (.Tuple elts kk tpos) (.Call (.Name "enumerate" p) [e] [] pos) (fItS itE fs) :=
 ⟨PI.imp (pi_enum hg hm ha.pa hs) fun σ H R h=>t_itS h fun us vs m1 st1 H1 t h1 r1 ht q=>by
  unfold itE at ht
  split at ht
  ·cases ht
   obtain ⟨v,_,rfl,⟨a,ws,rfl,g1,g2⟩,rfl⟩:=h1
   exact ⟨a,ws,rfl,g1.sq,q _ (isIt_enum (fun m' H' e'=>(g1.stay e'.toStay).sq) g2)⟩
  ·cases ht
   rename_i ns
   obtain ⟨v,_,rfl,⟨a,rfl,g1⟩,rfl⟩:=h1
   exact ⟨a,_,rfl,g1.sq,q _ (isIt_enum (fun m' H' e'=>(g1.stay e'.toStay).sq) (RpDs.toD (by rw [List.map_map]; exact RpUs.ints ns)))⟩
  ·split at ht
   ·rename_i us hs
    cases ht
    obtain ⟨v,_,rfl,⟨a,ha,rfl⟩,rfl⟩:=h1
    obtain ⟨ho,k1,ws,k2,k3⟩:=r1.cell _ _ a hs ha
    subst k2
    exact ⟨a,ws,rfl,.inl (.inl k1),q _ (isIt_enumC ha)⟩
   ·cases ht
  ·cases ht⟩
end
end VL
namespace VL
open PySem PySem.Spec PyProof.Rows L2
noncomputable def okU (k : Nat) : U → Bool
 | .d _=>true
 | .ref n=>decide (n < k)
noncomputable def okO (k : Nat) : O → Bool
 | .lst us=>us.all (okU k)
 | .tup us=>us.all (okU k)
 | .dct us=>us.all fun p=>okU k p.2
 | .ins _ us=>us.all fun p=>okU k p.2
 | .tbl _ _=>true
 | .lck us=>us.all fun p=>okU k p.2
 | .kdc _ us=>us.all fun p=>okU k p.2
/-- no cell speaks of one that is not there -/
noncomputable def wfB (st : Store) : Bool:=st.all (okO st.length)
noncomputable def cutS (k : Nat) (st : Store) : Option Store:=if (st.take k).all (okO k) = true then some (st.take k) else none
theorem RpD.less {K : PySem.W.Frag} {m m' : List Addr} {H : Hp} (h : ∀ a,a ∉ m → a ∉ m') {d : D} {v : V} (r : RpD K m H d v) : RpD K m' H d v :=
 RpD.stay ⟨fun a o n e _ _=>⟨e,h a n⟩,fun a kvs n e=>⟨e,h a n⟩,fun _ _ _ e=>e⟩ d v r
section
variable {K : PySem.W.Frag} {m : List Addr} {H : Hp} {st : Store} {k : Nat}
theorem okU_rp {u : U} {v : V} (h : okU k u = true) (r : RpU K m H u v) : RpU K (m.take k) H u v:=by
 cases u with
 | d x=>exact RpD.less (fun a n z=>n (List.mem_of_mem_take z)) r
 | ref n =>
  obtain ⟨a,ha,e⟩:=r
  exact ⟨a,by rw [List.getElem?_take_of_lt (of_decide_eq_true h)]; exact ha,e⟩
theorem okUs_rp : ∀ {us : List U} {vs : List V},us.all (okU k) = true → RpUs K m H us vs → RpUs K (m.take k) H us vs
 | [],_,_,r=>r
 | u :: us,_,h,⟨v,t,e,h1,h2⟩=>by
  rw [List.all_cons,Bool.and_eq_true] at h
  exact ⟨v,t,e,okU_rp h.1 h1,okUs_rp h.2 h2⟩
theorem okUK_rp : ∀ {us : List (Key × U)} {vs : List (Key × V)},(us.all fun p=>okU k p.2) = true → RpUK K m H us vs → RpUK K (m.take k) H us vs
 | [],_,_,r=>r
 | (_,u) :: us,_,h,⟨v,t,e,h1,h2⟩=>by
  rw [List.all_cons,Bool.and_eq_true] at h
  exact ⟨v,t,e,okU_rp h.1 h1,okUK_rp h.2 h2⟩
theorem okUKd_rp : ∀ {us : List (D × U)} {vs : List (NestedKey × Addr × V)},(us.all fun p=>okU k p.2) = true → RpUKd K m H us vs → RpUKd K (m.take k) H us vs
 | [],_,_,r=>r
 | (_,u) :: us,_,h,⟨n,b,v,t,e,q,h0,h1,h2⟩=>by
  rw [List.all_cons,Bool.and_eq_true] at h
  exact ⟨n,b,v,t,e,q,RpD.less (fun a n z=>n (List.mem_of_mem_take z)) h0,okU_rp h.1 h1,okUKd_rp h.2 h2⟩
theorem okUF_rp : ∀ {us : List (Str × U)} {vs : List (Str × V)},(us.all fun p=>okU k p.2) = true → RpUF K m H us vs → RpUF K (m.take k) H us vs
 | [],_,_,r=>r
 | (_,u) :: us,_,h,⟨v,t,e,h1,h2⟩=>by
  rw [List.all_cons,Bool.and_eq_true] at h
  exact ⟨v,t,e,okU_rp h.1 h1,okUF_rp h.2 h2⟩
theorem okO_rp {b : Addr} {c : O} {o : HO} (h : okO k c = true) (r : RpO K m H b c o) : RpO K (m.take k) H b c o:=by
 cases c with
 | lst us=>obtain ⟨vs,e,q⟩:=r; exact ⟨vs,e,okUs_rp h q⟩
 | tup us=>obtain ⟨vs,e,q⟩:=r; exact ⟨vs,e,okUs_rp h q⟩
 | dct us=>obtain ⟨vs,e,q⟩:=r; exact ⟨vs,e,okUK_rp h q⟩
 | ins C us=>obtain ⟨dx,vs,e,q⟩:=r; exact ⟨dx,vs,e,okUF_rp h q⟩
 | lck us=>obtain ⟨ob,vs,e,q⟩:=r; exact ⟨ob,vs,e,okUK_rp h q⟩
 | kdc w us=>obtain ⟨o,vs,e,z,q⟩:=r; exact ⟨o,vs,e,z,okUKd_rp h q⟩
 | tbl P q=>obtain ⟨e,ps,e1,e2,g⟩:=r; exact ⟨e,ps,e1,e2,fun pos cv hc=>let ⟨c,g1,g2,g3⟩:=g pos cv hc; ⟨c,g1,fun z=>g2 (List.mem_of_mem_take z),g3⟩⟩
theorem Rep.cut (r : Rep K m st H) {s : Store} (e : cutS k st = some s) : Rep K (m.take k) s H:=by
 unfold cutS at e
 split at e
 ·rename_i h
  cases e
  refine ⟨by rw [List.length_take,List.length_take,r.len],r.nd.sublist (List.take_sublist _ _),fun n c a h1 h2=>?_⟩
  have hn : n < k:=by
   have:=(List.getElem?_eq_some_iff.mp h1).1
   rw [List.length_take] at this
   omega
  rw [List.getElem?_take_of_lt hn] at h1 h2
  obtain ⟨ho,e1,q⟩:=r.cell n c a h1 h2
  have hc : okO k c = true:=List.all_eq_true.mp h c (List.mem_of_getElem? (i:=n) (by rw [List.getElem?_take_of_lt hn]; exact h1))
  exact ⟨ho,e1,okO_rp hc q⟩
 ·cases e
theorem ext_cut {m0 : List Addr} {H0 : Hp} (e : Ext m0 H0 m H) (hk : m0.length ≤ k) : Ext m0 H0 (m.take k) H:=by
 refine ⟨?_,e.toStay.less fun _ z=>List.mem_of_mem_take z⟩
 obtain ⟨t,rfl⟩:=e.pre
 rw [List.take_append,List.take_of_length_le hk]
 exact List.prefix_append _ _
end
noncomputable def wipeE (env : VEnv) : List Nat → VEnv
 | []=>env
 | v :: vs=>(wipeE env vs).set v none
noncomputable def lcStep (k : Nat) (tg : U → G) (tt : F Bool) (fe : F U) (env0 : VEnv) (u : U) : Store → R Unit:=fun st=>match tg u env0 st with
 | .ok env1 .nx st1=>match tt env1 st1 with
  | .ok true st2=>match fe env1 st2 with
   | .ok x st3=>match st3[k]? with
    | some (.lst acc)=>if acc.length < sizeLine then .ok () (st3.set k (.lst (acc ++ [x]))) else .bad
    | _=>.bad
   | _=>.bad
  | .ok false st2=>.ok () st2
  | _=>.bad
 | _=>.bad
noncomputable def lcL (k : Nat) (tg : U → G) (tt : F Bool) (fe : F U) (env0 : VEnv) : List U → Store → R Unit
 | []=>fun st=>.ok () st
 | u :: us=>fun st=>match lcStep k tg tt fe env0 u st with
  | .ok _ st1=>lcL k tg tt fe env0 us st1
  | _=>.bad
noncomputable def lcC (k : Nat) (tg : U → G) (tt : F Bool) (fe : F U) (env0 : VEnv) (n : Nat) (f : Nat → U → Option U) : Nat → Nat → Store → R Unit
 | 0,_=>fun _=>.bad
 | j + 1,i=>fun st=>match st[n]? with
  | some (.lst us)=>match us[i]? with
   | none=>.ok () st
   | some u=>match f i u with
    | none=>.bad
    | some w=>match lcStep k tg tt fe env0 w st with
     | .ok _ st1=>lcC k tg tt fe env0 n f j (i + 1) st1
     | _=>.bad
  | _=>.bad
noncomputable def lcEnd (k : Nat) : R Unit → R U
 | .ok _ st=>match st[k]? with
  | some (.lst us)=>match pureL us,cutS k st with
   | some ds,some s=>.ok (.d (.lst ds)) s
   | _,_=>.bad
  | _=>.bad
 | _=>.bad
noncomputable def fLc (fi : F Itb) (tg : U → G) (tt : F Bool) (fe : F U) (vs : List Nat) : F U:=bnd fi fun t=>fun env st=>match t with
 | .lst us=>lcEnd st.length (lcL st.length tg tt fe (wipeE env vs) us (st ++ [.lst []]))
 | .cell n f=>match st[n]? with
  | some (.lst us)=>lcEnd st.length (lcC st.length tg tt fe (wipeE env vs) n f (us.length + 1) 0 (st ++ [.lst []]))
  | _=>.bad
noncomputable def tYesB : F Bool:=fPure true
section
variable {K : PySem.W.Frag} {m : List Addr} {H : Hp} {st : Store}
theorem RpEnv.wipe {env : VEnv} {σ : L2.St} (h : RpEnv K m H env σ) : ∀ vs : List Nat,RpEnv K m H (wipeE env vs) (wipe σ vs)
 | []=>h
 | v :: vs=>by
  have ih:=RpEnv.wipe h vs
  refine ⟨by show ((wipeE env vs).set v none).length = ((L2.wipe σ vs).set v none).length; rw [List.length_set,List.length_set]; exact ih.len,fun i u hi=>?_⟩
  have hi' : ((wipeE env vs).set v none)[i]? = some (some u):=hi
  by_cases e : v = i
  ·subst e
   by_cases hv : v < (wipeE env vs).length
   ·rw [List.getElem?_set_self hv] at hi'; cases hi'
   ·rw [List.getElem?_eq_none (by rw [List.length_set]; omega)] at hi'; cases hi'
  ·rw [List.getElem?_set_ne e] at hi'
   obtain ⟨x,h1,h2⟩:=ih.at' i u hi'
   exact ⟨x,by show ((L2.wipe σ vs).set v none)[i]? = _; rw [List.getElem?_set_ne e]; exact h1,h2⟩
theorem wipe_get {σ : L2.St} : ∀ {vs : List Nat} {i : Nat},(L2.wipe σ vs)[i]? = if i ∈ vs then (σ[i]?).map (fun _=>none) else σ[i]?
 | [],i=>by simp [L2.wipe]
 | v :: vs,i=>by
  show ((L2.wipe σ vs).set v none)[i]? = _
  by_cases e : v = i
  ·subst e
   rw [if_pos (List.mem_cons_self)]
   by_cases hv : v < σ.length
   ·rw [List.getElem?_set_self (by rw [wipe_length]; exact hv),List.getElem?_eq_getElem hv]; rfl
   ·rw [List.getElem?_eq_none (by rw [List.length_set,wipe_length]; omega),List.getElem?_eq_none (by omega)]; rfl
  ·rw [List.getElem?_set_ne e,wipe_get]
   have : (i ∈ v :: vs) ↔ i ∈ vs:=by simp [Ne.symm e]
   by_cases h : i ∈ vs
   ·rw [if_pos h,if_pos (this.mpr h)]
   ·rw [if_neg h,if_neg (fun z=>h (this.mp z))]
theorem wipe_out {is vs : List Nat} {σ σ' : L2.St} (h : ∀ i ∈ is,i ∈ vs) (o : Out is (L2.wipe σ vs) σ') : L2.wipe σ' vs = L2.wipe σ vs:=by
 apply List.ext_getElem?
 intro i
 rw [wipe_get]
 by_cases hi : i ∈ vs
 ·rw [if_pos hi,wipe_get,if_pos hi]
  have hl : σ'.length = σ.length:=by rw [o.1,wipe_length]
  by_cases h2 : i < σ.length
  ·rw [List.getElem?_eq_getElem h2,List.getElem?_eq_getElem (by omega)]; rfl
  ·rw [List.getElem?_eq_none (by omega),List.getElem?_eq_none (by omega)]
 ·rw [if_neg hi]
  exact o.2 i fun z=>hi (h i z)
end
/-- a clause's tests -/
structure DTs (X : Cx) (W : WX) (es : List Expr) (f : F Bool) : Prop where
 pts : PTs X es (tFB X.K W f)
section
variable {X : Cx} {W : WX} {c : Expr} {fc : F Bool}
theorem dts_nil : DTs X W [] tYesB:=⟨⟨fun pins s σ H Q I ⟨m,env,st,r,re,p⟩=>pts_nil.run pins s σ H Q I (p true m H rfl r (Ext.refl _ _))⟩⟩
theorem dts_one (h : DT X W c fc) : DTs X W [c] fc:=⟨pts_one h.pt⟩
end
noncomputable def W0 : WX:=fun _ _ _ _=>False
section
variable {X : Cx} {W : WX} {elt tg iter : Expr} {ifs : List Expr} {scope : Scope} {own : List (Str × Nat)} {pos : Pos} {is : List Nat} {g : U → G} {gt : F Bool} {fe : F U} {fi : F Itb}
theorem pre_get {α : Type} {m m' : List α} (p : m <+: m') {k : Nat} {a : α} (h : m[k]? = some a) : m'[k]? = some a:=by
 obtain ⟨t,rfl⟩:=p
 rw [List.getElem?_append_left (List.getElem?_eq_some_iff.mp h).1]; exact h
/-- what holds between two turns -/
structure LcI (K : PySem.W.Frag) (m1 : List Addr) (H1 : Hp) (k : Nat) (D0 : Addr) (m' : List Addr) (st' : Store) (H' : Hp) : Prop where
 rep : Rep K m' st' H'
 ext : Ext m1 H1 m' H'
 at' : m'[k]? = some D0
/-- one turn -/
theorem lc_turn {K : PySem.W.Frag} {σ : L2.St} {env : VEnv} {m1 m' : List Addr} {H1 H'' : Hp} {st' : Store} {u : U} {x : V} {k : Nat} {D0 : Addr} {Nx : Hp → Prop} {vs is : List Nat} {rest : Store → R Unit} {Q : VK} {E : XK}
  (hvs : ∀ i ∈ is,i ∈ vs) (I : LcI K m1 H1 k D0 m' st' H'') (hk : k = m1.length) (h0 : H1 D0 = none) (re : RpEnv K m' H'' (wipeE env vs) (L2.wipe σ vs)) (ru : RpU K m' H'' u x)
  (p : PU K m1 H1 Q E (lcEnd k (match lcStep k g gt fe (wipeE env vs) u st' with
   | .ok _ st1=>rest st1
   | _=>.bad)))
  (hN : ∀ m2 st2 H2,LcI K m1 H1 k D0 m2 st2 H2 → RpEnv K m2 H2 (wipeE env vs) (L2.wipe σ vs) → PU K m1 H1 Q E (lcEnd k (rest st2)) → Nx H2) :
  tTg K is g x (L2.wipe σ vs) H'' fun σ2 H2=>L2.wipe σ2 vs = L2.wipe σ vs ∧ tFB K W0 gt σ2 H2 fun b H3 =>
   if b = true then tF K W0 fe σ2 H3 fun y H4=>∃ acc,H4 D0 = some (.lst acc) ∧ acc.length < sizeLine ∧ Nx (upd H4 D0 (.lst (acc ++ [y]))) else Nx H3:=by
 refine ⟨m',_,st',u,I.rep,re,ru,?_⟩
 unfold lcStep at p
 split
 ·rename_i env1 st1 e1
  simp only [e1] at p
  intro σ2 m2 H2 re2 r2 x2 o2
  refine ⟨wipe_out hvs o2,m2,env1,st1,r2,re2,?_⟩
  cases e2 : gt env1 st1 with
  | bad=>simp only [e2] at p; exact p.elim
  | ex c fs st2=>simp only [e2] at p; exact p.elim
  | ok b st2 =>
   simp only [e2] at p
   intro b' m3 H3 hb r3 x3
   subst hb
   cases b' with
   | false =>
    refine iteF (hN m3 st2 H3 ⟨r3,I.ext.trans (x2.trans x3),pre_get (x2.trans x3).pre I.at'⟩ (re.ext (x2.trans x3)) p)
   | true =>
    refine iteT ⟨m3,env1,st2,r3,re2.ext x3,?_⟩
    cases e3 : fe env1 st2 with
    | bad=>simp only [e3] at p; exact p.elim
    | ex c fs st3=>simp only [e3] at p; exact p.elim
    | ok z st3 =>
     simp only [e3] at p
     intro y m4 H4 ry r4 x4
     have x24:=x2.trans (x3.trans x4)
     have hat:=pre_get x24.pre I.at'
     cases hacc : st3[k]? with
     | none=>simp only [hacc] at p; exact p.elim
     | some cell =>
     cases cell with
     | dct _=>simp only [hacc] at p; exact p.elim
     | tup _=>simp only [hacc] at p; exact p.elim
     | ins _ _=>simp only [hacc] at p; exact p.elim
     | lck _=>simp only [hacc] at p; exact p.elim
     | kdc _ _=>simp only [hacc] at p; exact p.elim
     | tbl _ _=>simp only [hacc] at p; exact p.elim
     | lst acc =>
      simp only [hacc] at p
      by_cases hlen : acc.length < sizeLine
      ·rw [if_pos hlen] at p
       obtain ⟨ho,g1,ws,g2,g3⟩:=r4.cell k _ D0 hacc hat
       subst g2
       refine ⟨ws,g1,by rw [g3.length]; exact hlen,?_⟩
       have hm : D0 ∈ m4:=List.mem_of_getElem? hat
       have rW : Rep K m4 (st3.set k (.lst (acc ++ [z]))) (upd H4 D0 (.lst (ws ++ [y]))) :=
        r4.write hat ⟨_,rfl,(g3.append (show RpUs K m4 H4 [z] [y] from ⟨y,_,rfl,ry,rfl⟩)).ext (ext_write hm _ (nf_l g1))⟩ (nf_l g1)
       have eW : Ext m1 H1 m4 (upd H4 D0 (.lst (ws ++ [y]))):=(I.ext.trans x24).trans (ext_write hm _ (nf_l g1))
       exact hN m4 _ _ ⟨rW,eW,hat⟩ ((re.ext x24).ext (ext_write hm _ (nf_l g1))) p
      ·rw [if_neg hlen] at p; exact p.elim
 ·rename_i hn
  split at p
  ·rename_i q
   split at q
   ·rename_i env1 st1 e1
    exact (hn env1 st1 e1).elim
   ·cases q
  ·exact p.elim
theorem lc_fin {K : PySem.W.Frag} {m1 m' : List Addr} {H1 H' : Hp} {st' : Store} {k : Nat} {D0 : Addr} {Q : VK} {E : XK} (I : LcI K m1 H1 k D0 m' st' H') (hk : k = m1.length) (p : PU K m1 H1 Q E (lcEnd k (.ok () st'))) : Q (.ref D0) H':=by
 unfold lcEnd at p
 simp only at p
 split at p
 ·rename_i us hus
  split at p
  ·rename_i ds s hd hs
   obtain ⟨ho,g1,ws,g2,g3⟩:=I.rep.cell k _ D0 hus I.at'
   subst g2
   have hnot : D0 ∉ m'.take k:=fun z=>by
    obtain ⟨j,hj,e⟩:=List.mem_iff_getElem.mp z
    rw [List.length_take] at hj
    rw [List.getElem_take] at e
    obtain ⟨hk',e'⟩:=List.getElem?_eq_some_iff.mp I.at'
    have:=(List.getElem_inj I.rep.nd).mp (e.trans e'.symm)
    omega
   refine p _ (m'.take k) H' ⟨D0,ws,rfl,⟨hnot,g1⟩,?_⟩ (I.rep.cut hs) (ext_cut I.ext (by omega))
   have:=pureL_rp g3 hd
   exact RpDs.stay ⟨fun a o n e _ _=>⟨e,fun z=>n (List.mem_of_mem_take z)⟩,fun a kvs n e=>⟨e,fun z=>n (List.mem_of_mem_take z)⟩,fun _ _ _ e=>e⟩ _ _ this
  ·exact p.elim
 ·exact p.elim
theorem t_lc {vs : List Nat} (hvs : ∀ i ∈ is,i ∈ vs) {σ : L2.St} {H : Hp} {Q : VK} (q : tF X.K W (fLc fi g gt fe vs) σ H Q) :
  tLc (tI X.K W fi) (tTg X.K is g) (tFB X.K W0 gt) (tF X.K W0 fe) vs σ H Q:=by
 obtain ⟨m,env,st,r,re,p⟩:=q
 refine ⟨m,env,st,r,re,?_⟩
 unfold fLc bnd at p
 cases e : fi env st with
 | bad=>rw [e] at p; exact p.elim
 | ex c fs st1=>rw [e] at p; exact p
 | ok t st1 =>
  rw [e] at p
  intro t' m0 H0 ht r0 e0 m1 st1' he r1 e1 J hJ D0 hD0
  subst ht
  cases he
  have re1:=re.ext e1
  have p1:=PO'.from e1 p
  have hpush:=push_lst r1 hD0 (us:=[]) (vs:=[]) rfl
  have start : LcI X.K m1 H0 m1.length D0 (m1 ++ [D0]) (st1 ++ [.lst []]) (upd H0 D0 (.lst [])):=⟨hpush.2,ext_push r1 hD0 _,by simp⟩
  have reS : RpEnv X.K (m1 ++ [D0]) (upd H0 D0 (.lst [])) (wipeE env vs) (L2.wipe σ vs):=(re1.ext (ext_push r1 hD0 _)).wipe vs
  have hlen:=r1.len
  cases t' with
  | lst us =>
   simp only [← hlen] at p1
   obtain ⟨go,stop,yld⟩:=hJ
   refine ⟨fun i n H=>∃ m' st',LcI X.K m1 H0 m1.length D0 m' st' H ∧ RpEnv X.K m' H (wipeE env vs) (L2.wipe σ vs) ∧ n = us.length - i ∧ i ≤ us.length ∧ PU X.K m1 H0 Q (fun c d H'=>W c d σ H') (lcEnd m1.length (lcL m1.length g gt fe (wipeE env vs) (us.drop i) st')),
    ⟨us.length,_,_,start,reS,by simp,Nat.zero_le _,p1⟩,?_⟩
   rintro i n H' ⟨m',st',I,re',rfl,hi,p'⟩
   by_cases hlt : i < us.length
   ·have hu : us[i]? = some us[i]:=List.getElem?_eq_getElem hlt
    rw [List.drop_eq_getElem_cons hlt] at p'
    refine .inr ⟨go i m' st' H' hlt I.rep I.ext,fun H2=>∃ m2 st2,LcI X.K m1 H0 m1.length D0 m2 st2 H2 ∧ RpEnv X.K m2 H2 (wipeE env vs) (L2.wipe σ vs) ∧ PU X.K m1 H0 Q (fun c d H'=>W c d σ H') (lcEnd m1.length (lcL m1.length g gt fe (wipeE env vs) (us.drop (i + 1)) st2)),?_,?_⟩
    ·rintro H2 ⟨m2,st2,I2,re2,p2⟩
     exact ⟨us.length - (i + 1),by omega,m2,st2,I2,re2,rfl,hlt,p2⟩
    ·intro x H'' hy
     obtain ⟨r2,e2,ru⟩:=yld i _ m' st' H' x H'' hu I.rep I.ext hy
     exact lc_turn hvs ⟨r2,I.ext.trans e2,I.at'⟩ rfl hD0 (re'.ext e2) ru p' fun m2 st2 H2 I2 re2 p2=>⟨m2,st2,I2,re2,p2⟩
   ·have : i = us.length:=by omega
    subst this
    rw [List.drop_length] at p'
    exact .inl ⟨stop m' st' H' I.rep I.ext,lc_fin I rfl p'⟩
  | cell n f =>
   simp only at p1
   split at p1
   ·rename_i us0 hs0
    simp only [← hlen] at p1
    refine ⟨fun i j H=>∃ m' st',LcI X.K m1 H0 m1.length D0 m' st' H ∧ RpEnv X.K m' H (wipeE env vs) (L2.wipe σ vs) ∧ PU X.K m1 H0 Q (fun c d H'=>W c d σ H') (lcEnd m1.length (lcC m1.length g gt fe (wipeE env vs) n f j i st')),
     ⟨us0.length + 1,_,_,start,reS,p1⟩,?_⟩
    rintro i j H' ⟨m',st',I,re',p'⟩
    cases j with
    | zero=>exact p'.elim
    | succ j =>
     unfold lcC at p'
     split at p'
     ·rename_i us hs
      obtain ⟨go,stop,yld⟩:=hJ us m' st' H' I.rep I.ext hs
      cases hu : us[i]? with
      | none =>
       simp only [hu] at p'
       exact .inl ⟨stop i (List.getElem?_eq_none_iff.mp hu),lc_fin I rfl p'⟩
      | some u =>
       simp only [hu] at p'
       cases hf : f i u with
       | none=>simp only [hf] at p'; exact p'.elim
       | some w =>
        simp only [hf] at p'
        refine .inr ⟨go i (List.getElem?_eq_some_iff.mp hu).1,fun H2=>∃ m2 st2,LcI X.K m1 H0 m1.length D0 m2 st2 H2 ∧ RpEnv X.K m2 H2 (wipeE env vs) (L2.wipe σ vs) ∧ PU X.K m1 H0 Q (fun c d H'=>W c d σ H') (lcEnd m1.length (lcC m1.length g gt fe (wipeE env vs) n f j (i + 1) st2)),?_,?_⟩
        ·rintro H2 ⟨m2,st2,I2,re2,p2⟩
         exact ⟨j,Nat.lt_succ_self j,m2,st2,I2,re2,p2⟩
        ·intro x H'' hy
         obtain ⟨r2,e2,ru⟩:=yld i u w x H'' hu hf hy
         exact lc_turn hvs ⟨r2,I.ext.trans e2,I.at'⟩ rfl hD0 (re'.ext e2) ru p' fun m2 st2 H2 I2 re2 p2=>⟨m2,st2,I2,re2,p2⟩
     ·exact p'.elim
   ·exact p1.elim
theorem d_lc (hc : X.calm = true) (hN : X.N.Nodup) (hi : DI X W tg iter fi) (ok : BlkOk X.N X.env.scope scope own)
  (hg : ∀ (s : Shared) (H : Hp) (C : Addr) (cl : List (Str × Addr)) (fp : List Addr),DG (X.blk s H scope (compEnvC scope cl C X.env) fp) tg is g)
  (ht : ∀ (s : Shared) (H : Hp) (C : Addr) (cl : List (Str × Addr)) (fp : List Addr),DTs (X.blk s H scope (compEnvC scope cl C X.env) fp) W0 ifs gt)
  (he : ∀ (s : Shared) (H : Hp) (C : Addr) (cl : List (Str × Addr)) (fp : List Addr),DE (X.blk s H scope (compEnvC scope cl C X.env) fp) W0 elt fe)
  (hvs : ∀ i ∈ is,i ∈ own.map (·.2):=by decide) (hs : ∀ x,foldedSetIterable iter X.env x = pure x:=by intro _; rfl) :
  DE X W (.ListComp elt [⟨tg,iter,ifs,0⟩] scope pos) (fLc fi g gt fe (own.map (·.2))) :=
 ⟨PE.imp (pe_lc hc hN hi.pi ok (fun s H C cl fp=>(hg s H C cl fp).pg) (fun s H C cl fp=>(ht s H C cl fp).pts) (fun s H C cl fp=>(he s H C cl fp).pe) hs) fun _ _ _ q=>t_lc hvs q⟩
/-- name = [..] -/
theorem ds_setLc (i : Nat) {y : Str} {py spos : Pos} (hc : X.calm = true) (hN : X.N.Nodup) (hsw : swapsWith (.ListComp elt [⟨tg,iter,ifs,0⟩] scope pos) (some (.Name y py)) spos.line X.env = pure true) (hi : DI X W tg iter fi) (ok : BlkOk X.N X.env.scope scope own)
  (hg : ∀ (s : Shared) (H : Hp) (C : Addr) (cl : List (Str × Addr)) (fp : List Addr),DG (X.blk s H scope (compEnvC scope cl C X.env) fp) tg is g)
  (ht : ∀ (s : Shared) (H : Hp) (C : Addr) (cl : List (Str × Addr)) (fp : List Addr),DTs (X.blk s H scope (compEnvC scope cl C X.env) fp) W0 ifs gt)
  (he : ∀ (s : Shared) (H : Hp) (C : Addr) (cl : List (Str × Addr)) (fp : List Addr),DE (X.blk s H scope (compEnvC scope cl C X.env) fp) W0 elt fe)
  (hvs : ∀ i ∈ is,i ∈ own.map (·.2):=by decide) (hy : X.N[i]? = some y:=by rfl) (hyl : X.env.scope.names.lookup y = some .local:=by rfl) (hs : ∀ x,foldedSetIterable iter X.env x = pure x:=by intro _; rfl) :
  DS X W (.Assign [.Name y py] (.ListComp elt [⟨tg,iter,ifs,0⟩] scope pos) spos) (sAsg (fLc fi g gt fe (own.map (·.2))) (tgN i)) :=
 ⟨PS.imp (ps_setLc (i:=i) hc hN hy hyl hsw hi.pi ok (fun s H C cl fp=>(hg s H C cl fp).pg) (fun s H C cl fp=>(ht s H C cl fp).pts) (fun s H C cl fp=>(he s H C cl fp).pe) hs) fun D σ H ⟨m,env,st,r,re,p⟩=>by
  have h2 : tF X.K W (fLc fi g gt fe (own.map (·.2))) σ H (fun x H1=>gName i x σ H1 D.nx):=sF_step r re p fun u st1 v m1 H1 h1 r1 re1 e1 p1=>p1 _ m1 H1 (re1.set i h1) r1 (Ext.refl _ _)
  exact t_lc hvs h2⟩
end
end VL
namespace VL
open PySem PySem.Spec PyProof.Rows L2
noncomputable def loopW (c : F Bool) (body : G) : Nat → G
 | 0=>sNo
 | n + 1=>bndS c fun k=>if k = true then fun env st=>match body env st with
   | .ok env2 .nx st2=>loopW c body n env2 st2
   | .ok env2 .ct st2=>loopW c body n env2 st2
   | .ok env2 .bk st2=>.ok env2 .nx st2
   | r=>r
  else sNil
section
variable {X : Cx} {W : WX} {c : Expr} {body : List Stmt} {bc : F Bool} {gb : G} {pos : Pos}
theorem ds_while (N : Nat) (hp : PassesOwn (model X.prog X.w) X.A X.env X.xe) (hc : DT X W c bc) (hb : DB X W body gb) : DS X W (.While c body [] pos) (loopW bc gb N):=⟨PS.imp (ps_while hp hc.pt hb.pss) fun D σ H ⟨m,env,st,r,re,p⟩=>by
 refine ⟨fun k σ' H'=>∃ m' env' st',Rep X.K m' st' H' ∧ RpEnv X.K m' H' env' σ' ∧ Ext m H m' H' ∧ PS' X.K m' H' D W (loopW bc gb k env' st'),⟨N,m,env,st,r,re,Ext.refl _ _,p⟩,?_⟩
 rintro k σ' H' ⟨m',env',st',r',re',e',p'⟩
 cases k with
 | zero=>exact p'.elim
 | succ k =>
  refine sFB_step r' re' p' fun b st1 m1 H1 r1 re1 e1 p1=>?_
  cases b with
  | false=>exact iteF (p1 σ' m1 H1 re1 r1 (Ext.refl _ _))
  | true =>
   refine iteT ⟨fun σ2 H2=>∃ m2 env2 st2,Rep X.K m2 st2 H2 ∧ RpEnv X.K m2 H2 env2 σ2 ∧ Ext m H m2 H2 ∧ PS' X.K m2 H2 D W (loopW bc gb k env2 st2),?_,m1,env',st1,r1,re1,?_⟩
   ·rintro σ2 H2 ⟨m2,env2,st2,h⟩
    exact ⟨k,Nat.lt_succ_self k,m2,env2,st2,h⟩
   ·simp only [if_true] at p1
    cases e2 : gb env' st1 with
    | bad=>simp only [e2] at p1; exact p1
    | ex c fs env2 st2=>simp only [e2] at p1; exact p1
    | ok env2 f st2 =>
     simp only [e2] at p1
     cases f with
     | nx=>exact fun σ2 m2 H2 k1 k2 k3=>⟨m2,env2,st2,k2,k1,e'.trans (e1.trans k3),p1.from k3⟩
     | ct=>exact fun σ2 m2 H2 k1 k2 k3=>⟨m2,env2,st2,k2,k1,e'.trans (e1.trans k3),p1.from k3⟩
     | bk=>exact p1
     | rt u=>exact p1⟩
end
noncomputable abbrev Wr:=Nat → U → Store → R U
noncomputable def wId : Wr:=fun _ u st=>.ok u st
noncomputable def wCut : Wr:=fun k u st=>match u with
 | .d x=>match cutS k st with
  | some s=>.ok (.d x) s
  | none=>.bad
 | .ref n=>if n < k then match cutS k st with
  | some s=>.ok (.ref n) s
  | none=>.bad
  else .bad
noncomputable def frz (st : Store) (k : Nat) : Nat → U → Option D
 | _,.d x=>some x
 | 0,.ref _=>none
 | f + 1,.ref n=>if n < k then none else match st[n]? with
  | some (.lst us)=>(allM (frz st k f) us).map .lst
  | some (.tup us)=>(allM (frz st k f) us).map .tup
  | some (.dct us)=>(allM (fun p=>(frz st k f p.2).map fun d=>(p.1,d)) us).map .dct
  | some (.ins C us)=>(allM (fun p=>(frz st k f p.2).map fun d=>(p.1,d)) us).map (.ins C)
  | some (.lck us)=>(allM (fun p=>(frz st k f p.2).map fun d=>(p.1,d)) us).map .dct
  | some (.kdc w us)=>(allM (fun p=>(frz st k f p.2).map fun d=>(p.1,d)) us).map (.kdc w)
  | some (.tbl _ _)=>none
  | none=>none
noncomputable def wFrz : Wr:=fun k u st=>match frz st k 4 u,cutS k st with
 | some x,some s=>.ok (.d x) s
 | _,_=>.bad
noncomputable def wKeep : Wr:=fun k u st=>match u with
 | .d _=>.bad
 | .ref n=>if n < k then .bad else match st[n]? with
  | some o=>if okO k o = true then match cutS k st with
   | some s=>if s.length = k then .ok (.ref k) (s ++ [o]) else .bad
   | none=>.bad
   else .bad
  | none=>.bad
structure WOk (w : Wr) : Prop where
 ok : ∀ (K : PySem.W.Frag) (k : Nat) (u : U) (st : Store) (m : List Addr) (H : Hp) (v : V),Rep K m st H → RpU K m H u v → k ≤ m.length → match w k u st with
  | .ok u' st'=>∃ m',Rep K m' st' H ∧ RpU K m' H u' v ∧ m.take k <+: m' ∧ ∀ a,a ∈ m' → a ∈ m
  | .ex _ _ _=>False
  | .bad=>True
theorem wId_ok : WOk wId:=⟨fun K k u st m H v r ru hk=>⟨m,r,ru,List.take_prefix _ _,fun _ h=>h⟩⟩
theorem wCut_ok : WOk wCut:=⟨fun K k u st m H v r ru hk=>by
 unfold wCut
 cases u with
 | d x =>
  simp only
  cases e : cutS k st with
  | none=>trivial
  | some s=>exact ⟨m.take k,r.cut e,okU_rp (u:=.d x) rfl ru,List.prefix_refl _,fun _ h=>List.mem_of_mem_take h⟩
 | ref n =>
  simp only
  by_cases hn : n < k
  ·rw [if_pos hn]
   cases e : cutS k st with
   | none=>trivial
   | some s=>exact ⟨m.take k,r.cut e,okU_rp (u:=.ref n) (decide_eq_true hn) ru,List.prefix_refl _,fun _ h=>List.mem_of_mem_take h⟩
  ·rw [if_neg hn]; trivial⟩
section
variable {K : PySem.W.Frag} {m : List Addr} {H : Hp} {st : Store} {k : Nat}
theorem not_take (r : Rep K m st H) {n : Nat} {a : Addr} (hn : ¬ n < k) (ha : m[n]? = some a) : a ∉ m.take k:=fun z=>by
 obtain ⟨j,hj,e⟩:=List.mem_iff_getElem.mp z
 rw [List.length_take] at hj
 rw [List.getElem_take] at e
 obtain ⟨hk',e'⟩:=List.getElem?_eq_some_iff.mp ha
 have:=(List.getElem_inj r.nd).mp (e.trans e'.symm)
 omega
theorem frz_rp (r : Rep K m st H) : ∀ (f : Nat) (u : U) (v : V) (d : D),RpU K m H u v → frz st k f u = some d → RpD K (m.take k) H d v:=by
 intro f
 induction f with
 | zero =>
  intro u v d h e
  cases u with
  | d x=>cases e; exact RpD.less (fun a n z=>n (List.mem_of_mem_take z)) h
  | ref n=>cases e
 | succ f ih =>
  intro u v d h e
  cases u with
  | d x=>cases e; exact RpD.less (fun a n z=>n (List.mem_of_mem_take z)) h
  | ref n =>
   obtain ⟨a,ha,rfl⟩:=h
   unfold frz at e
   by_cases hn : n < k
   ·rw [if_pos hn] at e; cases e
   ·rw [if_neg hn] at e
    have na:=not_take (k:=k) r hn ha
    have all1 : ∀ {us : List U} {vs : List V} {ds : List D},RpUs K m H us vs → allM (frz st k f) us = some ds → RpDs K (m.take k) H ds vs:=by
     intro us
     induction us with
     | nil=>intro vs ds h e; cases e; exact h
     | cons u us ih2 =>
      intro vs ds h e
      obtain ⟨v,t,rfl,h1,h2⟩:=h
      unfold allM at e
      cases q1 : frz st k f u with
      | none=>rw [q1] at e; cases e
      | some x =>
       cases q2 : allM (frz st k f) us with
       | none=>rw [q1,q2] at e; cases e
       | some xs=>rw [q1,q2] at e; cases e; exact ⟨v,t,rfl,ih u v x h1 q1,ih2 h2 q2⟩
    have all2 : ∀ {us : List (Key × U)} {vs : List (Key × V)} {ds : List (Key × D)},RpUK K m H us vs → allM (fun p=>(frz st k f p.2).map fun d=>(p.1,d)) us = some ds → RpK K (m.take k) H ds vs:=by
     intro us
     induction us with
     | nil=>intro vs ds h e; cases e; exact h
     | cons u us ih2 =>
      obtain ⟨kk,u⟩:=u
      intro vs ds h e
      obtain ⟨v,t,rfl,h1,h2⟩:=h
      unfold allM at e
      cases q1 : frz st k f u with
      | none=>simp only [q1] at e; cases e
      | some x =>
       cases q2 : allM (fun p : Key × U=>(frz st k f p.2).map fun d=>(p.1,d)) us with
       | none=>simp only [q1,q2] at e; cases e
       | some xs=>simp only [q1,q2] at e; cases e; exact ⟨v,t,rfl,ih u v x h1 q1,ih2 h2 q2⟩
    have all3 : ∀ {us : List (Str × U)} {vs : List (Str × V)} {ds : List (Str × D)},RpUF K m H us vs → allM (fun p=>(frz st k f p.2).map fun d=>(p.1,d)) us = some ds → RpF K (m.take k) H ds vs:=by
     intro us
     induction us with
     | nil=>intro vs ds h e; cases e; exact h
     | cons u us ih2 =>
      obtain ⟨kk,u⟩:=u
      intro vs ds h e
      obtain ⟨v,t,rfl,h1,h2⟩:=h
      unfold allM at e
      cases q1 : frz st k f u with
      | none=>simp only [q1] at e; cases e
      | some x =>
       cases q2 : allM (fun p : Str × U=>(frz st k f p.2).map fun d=>(p.1,d)) us with
       | none=>simp only [q1,q2] at e; cases e
       | some xs=>simp only [q1,q2] at e; cases e; exact ⟨v,t,rfl,ih u v x h1 q1,ih2 h2 q2⟩
    have all4 : ∀ {us : List (D × U)} {vs : List (NestedKey × Addr × V)} {ds : List (D × D)},RpUKd K m H us vs → allM (fun p=>(frz st k f p.2).map fun d=>(p.1,d)) us = some ds → RpKd K (m.take k) H ds vs:=by
     intro us
     induction us with
     | nil=>intro vs ds h e; cases e; exact h
     | cons u us ih2 =>
      obtain ⟨kk,u⟩:=u
      intro vs ds h e
      obtain ⟨n,b,v,t,rfl,q,h0,h1,h2⟩:=h
      unfold allM at e
      cases q1 : frz st k f u with
      | none=>simp only [q1] at e; cases e
      | some x =>
       cases q2 : allM (fun p : D × U=>(frz st k f p.2).map fun d=>(p.1,d)) us with
       | none=>simp only [q1,q2] at e; cases e
       | some xs=>simp only [q1,q2] at e; cases e; exact ⟨n,b,v,t,rfl,q,RpD.less (fun a n z=>n (List.mem_of_mem_take z)) h0,ih u v x h1 q1,ih2 h2 q2⟩
    split at e
    ·rename_i us hs
     obtain ⟨ho,g1,vs,g2,g3⟩:=r.cell n _ a hs ha
     subst g2
     cases q : allM (frz st k f) us with
     | none=>rw [q] at e; cases e
     | some ds=>rw [q] at e; cases e; exact ⟨a,vs,rfl,⟨na,g1⟩,all1 g3 q⟩
    ·rename_i us hs
     obtain ⟨ho,g1,vs,g2,g3⟩:=r.cell n _ a hs ha
     subst g2
     cases q : allM (frz st k f) us with
     | none=>rw [q] at e; cases e
     | some ds=>rw [q] at e; cases e; exact ⟨a,vs,rfl,.inl ⟨na,g1⟩,all1 g3 q⟩
    ·rename_i us hs
     obtain ⟨ho,g1,vs,g2,g3⟩:=r.cell n _ a hs ha
     subst g2
     cases q : allM (fun p : Key × U=>(frz st k f p.2).map fun d=>(p.1,d)) us with
     | none=>rw [q] at e; cases e
     | some ds=>rw [q] at e; cases e; exact ⟨a,vs,rfl,⟨na,.inl g1⟩,all2 g3 q⟩
    ·rename_i C us hs
     obtain ⟨ho,g1,dx,vs,g2,g3⟩:=r.cell n _ a hs ha
     subst g2
     cases q : allM (fun p : Str × U=>(frz st k f p.2).map fun d=>(p.1,d)) us with
     | none=>rw [q] at e; cases e
     | some ds=>rw [q] at e; cases e; exact ⟨a,dx,vs,rfl,⟨na,g1⟩,all3 g3 q⟩
    ·rename_i us hs
     obtain ⟨ho,g1,ob,vs,g2,g3⟩:=r.cell n _ a hs ha
     subst g2
     cases q : allM (fun p : Key × U=>(frz st k f p.2).map fun d=>(p.1,d)) us with
     | none=>rw [q] at e; cases e
     | some ds=>rw [q] at e; cases e; exact ⟨a,vs,rfl,⟨na,.inr ⟨ob,g1⟩⟩,all2 g3 q⟩
    ·rename_i ww us hs
     obtain ⟨ho,g1,ob,vs,g2,gk,g3⟩:=r.cell n _ a hs ha
     subst g2
     cases q : allM (fun p : D × U=>(frz st k f p.2).map fun d=>(p.1,d)) us with
     | none=>rw [q] at e; cases e
     | some ds=>rw [q] at e; cases e; exact ⟨a,ob,vs,rfl,⟨na,g1⟩,gk,all4 g3 q⟩
    ·cases e
    ·cases e
end
theorem wFrz_ok : WOk wFrz:=⟨fun K k u st m H v r ru hk=>by
 unfold wFrz
 cases e1 : frz st k 4 u with
 | none=>trivial
 | some x =>
  cases e : cutS k st with
  | none=>trivial
  | some s=>exact ⟨m.take k,r.cut e,frz_rp r 4 u v x ru e1,List.prefix_refl _,fun _ h=>List.mem_of_mem_take h⟩⟩
theorem wKeep_ok : WOk wKeep:=⟨fun K k u st m H v r ru hk=>by
 unfold wKeep
 cases u with
 | d x=>trivial
 | ref n =>
  simp only
  by_cases hn : n < k
  ·rw [if_pos hn]; trivial
  ·rw [if_neg hn]
   cases e0 : st[n]? with
   | none=>trivial
   | some o =>
    simp only
    by_cases ho : okO k o = true
    ·rw [if_pos ho]
     cases e : cutS k st with
     | none=>trivial
     | some s =>
      simp only
      by_cases hs : s.length = k
      ·rw [if_pos hs]
       obtain ⟨a,ha,rfl⟩:=ru
       have rc:=r.cut e
       have na:=not_take (k:=k) r hn ha
       have hl : (m.take k).length = k:=by rw [rc.len,hs]
       have less : ∀ b,b ∉ m.take k ++ [a] → b ∉ m.take k:=fun b h z=>h (List.mem_append_left _ z)
       refine ⟨m.take k ++ [a],⟨by rw [List.length_append,List.length_append,rc.len]; rfl,?_,fun j c b h1 h2=>?_⟩,⟨a,by rw [List.getElem?_append_right (by omega),hl,Nat.sub_self]; rfl,rfl⟩,List.prefix_append _ _,fun b hb=>?_⟩
       ·rw [List.nodup_append]
        refine ⟨rc.nd,by simp,fun x hx y hy=>?_⟩
        rw [List.mem_singleton] at hy
        subst hy
        exact fun e=>na (by rw [← e]; exact hx)
       ·-- the cells
        have st0 : Stay m H (m.take k ++ [a]) H:=⟨fun b o nb e _ _=>⟨e,fun z=>by
          rcases List.mem_append.mp z with z | z
          ·exact nb (List.mem_of_mem_take z)
          ·rw [List.mem_singleton] at z; subst z; exact nb (List.mem_of_getElem? ha)⟩,
         fun b kvs nb e=>⟨e,fun z=>by
          rcases List.mem_append.mp z with z | z
          ·exact nb (List.mem_of_mem_take z)
          ·rw [List.mem_singleton] at z; subst z; exact nb (List.mem_of_getElem? ha)⟩,fun _ _ _ e=>e⟩
        have upU : ∀ {u : U} {v : V},okU k u = true → RpU K m H u v → RpU K (m.take k ++ [a]) H u v:=fun {u v} h h2=>by
         cases u with
         | d x=>exact RpD.stay st0 _ _ h2
         | ref j =>
          obtain ⟨b,hb,e⟩:=h2
          have hj : j < k:=of_decide_eq_true h
          exact ⟨b,by rw [List.getElem?_append_left (by omega),List.getElem?_take_of_lt hj]; exact hb,e⟩
        have upO : ∀ {b : Addr} {c : O} {ho : HO},okO k c = true → RpO K m H b c ho → RpO K (m.take k ++ [a]) H b c ho:=fun {b c ho} h h2=>by
         cases c with
         | lst us =>
          obtain ⟨vs,e,q⟩:=h2
          refine ⟨vs,e,?_⟩
          clear e
          induction us generalizing vs with
          | nil=>exact q
          | cons u us ih =>
           obtain ⟨v,t,rfl,h1,h2⟩:=q
           have h' : okU k u = true ∧ us.all (okU k) = true:=by simpa [okO] using h
           exact ⟨v,t,rfl,upU h'.1 h1,ih h'.2 t h2⟩
         | tup us =>
          obtain ⟨vs,e,q⟩:=h2
          refine ⟨vs,e,?_⟩
          clear e
          induction us generalizing vs with
          | nil=>exact q
          | cons u us ih =>
           obtain ⟨v,t,rfl,h1,h2⟩:=q
           have h' : okU k u = true ∧ us.all (okU k) = true:=by simpa [okO] using h
           exact ⟨v,t,rfl,upU h'.1 h1,ih h'.2 t h2⟩
         | dct us =>
          obtain ⟨vs,e,q⟩:=h2
          refine ⟨vs,e,?_⟩
          clear e
          induction us generalizing vs with
          | nil=>exact q
          | cons u us ih =>
           obtain ⟨kk,u⟩:=u
           obtain ⟨v,t,rfl,h1,h2⟩:=q
           have h' : okU k u = true ∧ (us.all fun p=>okU k p.2) = true:=by simpa [okO] using h
           exact ⟨v,t,rfl,upU h'.1 h1,ih h'.2 t h2⟩
         | ins C us =>
          obtain ⟨dx,vs,e,q⟩:=h2
          refine ⟨dx,vs,e,?_⟩
          clear e
          induction us generalizing vs with
          | nil=>exact q
          | cons u us ih =>
           obtain ⟨kk,u⟩:=u
           obtain ⟨v,t,rfl,h1,h2⟩:=q
           have h' : okU k u = true ∧ (us.all fun p=>okU k p.2) = true:=by simpa [okO] using h
           exact ⟨v,t,rfl,upU h'.1 h1,ih h'.2 t h2⟩
         | lck us =>
          obtain ⟨ob,vs,e,q⟩:=h2
          refine ⟨ob,vs,e,?_⟩
          clear e
          induction us generalizing vs with
          | nil=>exact q
          | cons u us ih =>
           obtain ⟨kk,u⟩:=u
           obtain ⟨v,t,rfl,h1,h2⟩:=q
           have h' : okU k u = true ∧ (us.all fun p=>okU k p.2) = true:=by simpa [okO] using h
           exact ⟨v,t,rfl,upU h'.1 h1,ih h'.2 t h2⟩
         | kdc w us =>
          obtain ⟨ob,vs,e,z,q⟩:=h2
          refine ⟨ob,vs,e,z,?_⟩
          clear e z
          induction us generalizing vs with
          | nil=>exact q
          | cons u us ih =>
           obtain ⟨kk,u⟩:=u
           obtain ⟨n,b,v,t,rfl,q,h0,h1,h2⟩:=q
           have h' : okU k u = true ∧ (us.all fun p=>okU k p.2) = true:=by simpa [okO] using h
           exact ⟨n,b,v,t,rfl,q,RpD.stay st0 _ _ h0,upU h'.1 h1,ih h'.2 t h2⟩
         | tbl P q =>
          obtain ⟨e,ps,e1,e2,g⟩:=h2
          exact ⟨e,ps,e1,e2,fun pos cv hc=>let ⟨c,g1,g2,g3⟩:=g pos cv hc
           ⟨c,g1,fun z=>(List.mem_append.mp z).elim (fun z=>g2 (List.mem_of_mem_take z)) fun z=>g2 (by rw [List.mem_singleton.mp z]; exact List.mem_of_getElem? ha),g3⟩⟩
        by_cases hj : j < k
        ·rw [List.getElem?_append_left (by omega)] at h1 h2
         unfold cutS at e
         split at e
         ·rename_i hall
          cases e
          rw [List.getElem?_take_of_lt hj] at h1 h2
          obtain ⟨ho',e1,q⟩:=r.cell j c b h1 h2
          exact ⟨ho',e1,upO (List.all_eq_true.mp hall c (List.mem_of_getElem? (i:=j) (by rw [List.getElem?_take_of_lt hj]; exact h1))) q⟩
         ·cases e
        ·have hjk : j = k:=by
          have:=(List.getElem?_eq_some_iff.mp h1).1
          rw [List.length_append,hs] at this
          simp at this
          omega
         subst hjk
         rw [List.getElem?_append_right (by omega),hs,Nat.sub_self] at h1
         rw [List.getElem?_append_right (by omega),hl,Nat.sub_self] at h2
         cases h1; cases h2
         obtain ⟨ho',e1,q⟩:=r.cell n o a e0 ha
         exact ⟨ho',e1,upO ho q⟩
       ·rcases List.mem_append.mp hb with z | z
        ·exact List.mem_of_mem_take z
        ·rw [List.mem_singleton] at z; subst z; exact List.mem_of_getElem? ha
      ·rw [if_neg hs]; trivial
    ·rw [if_neg ho]; trivial⟩
/-- a def's mirror from its body's -/
noncomputable def fnM (n : Nat) (g : G) (w : Wr) : List U → M U:=fun us st=>match g (us.map some ++ List.replicate (n - us.length) none) st with
 | .ok _ (.rt u) st'=>w st.length u st'
 | .ok _ .nx st'=>w st.length (.d .non) st'
 | .ex c fs _ st'=>match cutS st.length st' with
  | some s=>.ex c fs s
  | none=>.bad
 | _=>.bad
noncomputable def spM (K : PySem.W.Frag) (n : Nat) (mf : List U → M U) : Sp:=fun vs H Q E=>vs.length = n ∧ ∃ m st us,Rep K m st H ∧ RpUs K m H us vs ∧ PU K m H Q E (mf us st)
theorem start_env {K : PySem.W.Frag} {m : List Addr} {H : Hp} {N : List Str} {us : List U} {vs : List V} (h : RpUs K m H us vs) : RpEnv K m H (us.map some ++ List.replicate (N.length - us.length) none) (L2.start N vs):=by
 have hl:=h.length
 refine ⟨by unfold L2.start; rw [List.length_append,List.length_append,List.length_map,List.length_map,List.length_replicate,List.length_replicate]; omega,fun i u hi=>?_⟩
 by_cases hlt : i < us.length
 ·rw [List.getElem?_append_left (by rw [List.length_map]; exact hlt),List.getElem?_map] at hi
  cases q : us[i]? with
  | none=>rw [q] at hi; cases hi
  | some w =>
   rw [q] at hi; cases hi
   obtain ⟨v,hv,rv⟩:=h.get q
   exact ⟨v,by unfold L2.start; rw [List.getElem?_append_left (by rw [List.length_map]; omega),List.getElem?_map,hv]; rfl,rv⟩
 ·rw [List.getElem?_append_right (by rw [List.length_map]; omega),List.getElem?_replicate] at hi
  split at hi <;> cases hi
end VL
namespace VL
open PySem PySem.Spec PyProof.Rows L2
/-- what an operation that may write cells gives -/
noncomputable def PV2 (K : PySem.W.Frag) (m : List Addr) (H : Hp) (Q : VK) : Option (U × Store) → Prop
 | some (u,st')=>∀ v m' H',RpU K m' H' u v → Rep K m' st' H' → Ext m H m' H' → Q v H'
 | none=>False
theorem PV2.of {K : PySem.W.Frag} {m : List Addr} {H : Hp} {Q : VK} {E : XK} : ∀ {o : Option (U × Store)},PU K m H Q E (R.of2 o) → PV2 K m H Q o
 | some (u,st'),h=>h
 | none,h=>h
noncomputable abbrev P3:=List U → Store → Option (U × Store)
noncomputable abbrev P4:=U → List U → Store → Option (U × Store)
/-- leaves the cells -/
noncomputable def pu (g : List U → Store → Option U) : P3:=fun us st=>(g us st).map fun u=>(u,st)
noncomputable def pu4 (g : U → List U → Store → Option U) : P4:=fun u us st=>(g u us st).map fun u=>(u,st)
noncomputable def rM (K : PySem.W.Frag) (g : P3) : List V → Hp → VK → Prop:=fun vs H Q=>∃ m st us,Rep K m st H ∧ RpUs K m H us vs ∧ PV2 K m H Q (g us st)
noncomputable def mM (K : PySem.W.Frag) (g : P4) : V → List V → Hp → VK → Prop:=fun x vs H Q=>∃ m st u us,Rep K m st H ∧ RpU K m H u x ∧ RpUs K m H us vs ∧ PV2 K m H Q (g u us st)
noncomputable def fB (g : P3) (fs : F (List U)) : F U:=bnd fs fun us=>fun _ st=>.of2 (g us st)
section
variable {K : PySem.W.Frag} {m : List Addr} {H : Hp} {st : Store} {Q : VK}
theorem PV2.here {u : U} {v : V} (r : Rep K m st H) (p : PV2 K m H Q (some (u,st))) (h : RpU K m H u v) : Q v H:=p v m H h r (Ext.refl _ _)
theorem PV2.pu {g : List U → Store → Option U} {us : List U} (p : PV2 K m H Q (VL.pu g us st)) : ∃ u,g us st = some u ∧ PV2 K m H Q (some (u,st)):=by
 unfold VL.pu at p
 cases e : g us st with
 | none=>rw [e] at p; exact p.elim
 | some u=>rw [e] at p; exact ⟨u,rfl,p⟩
theorem PV2.pu4 {g : U → List U → Store → Option U} {x : U} {us : List U} (p : PV2 K m H Q (VL.pu4 g x us st)) : ∃ u,g x us st = some u ∧ PV2 K m H Q (some (u,st)):=by
 unfold VL.pu4 at p
 cases e : g x us st with
 | none=>rw [e] at p; exact p.elim
 | some u=>rw [e] at p; exact ⟨u,rfl,p⟩
theorem RpUs.one {u : U} {vs : List V} (h : RpUs K m H [u] vs) : ∃ v,vs = [v] ∧ RpU K m H u v:=by
 obtain ⟨v,_,rfl,h1,rfl⟩:=h
 exact ⟨v,rfl,h1⟩
theorem RpUs.two {u w : U} {vs : List V} (h : RpUs K m H [u,w] vs) : ∃ v x,vs = [v,x] ∧ RpU K m H u v ∧ RpU K m H w x:=by
 obtain ⟨v,_,rfl,h1,x,_,rfl,h2,rfl⟩:=h
 exact ⟨v,x,rfl,h1,h2⟩
end
theorem CallR.imp {X : Cx} {f : Value} {r r' : List V → Hp → VK → Prop} (h : CallR X f r) (i : ∀ vs H Q,r' vs H Q → r vs H Q) : CallR X f r':=fun pins s σ H xs us Q I rv q=>h pins s σ H xs us Q I rv (i xs H Q q)
theorem MtR.imp {X : Cx} {id : String} {r r' : V → List V → Hp → VK → Prop} (h : MtR X id r) (i : ∀ x vs H Q,r' x vs H Q → r x vs H Q) : MtR X id r':=fun pins s σ H x xs v us Q I rx rv q=>h pins s σ H x xs v us Q I rx rv (i x xs H Q q)
section
variable {X : Cx} {W : WX} {x : Str} {p pos : Pos} {e : Expr} {es : List Expr} {fs : F (List U)} {g : P3}
theorem t_fB {σ : L2.St} {H : Hp} {Q : VK} (h : tF X.K W (fB g fs) σ H Q) : tCB (rM X.K g) (tFs X.K W fs) σ H Q:=by
 obtain ⟨m,env,st,r,re,p⟩:=h
 exact tFs_step r re p fun us st1 vs m1 H1 h1 r1 re1 e1 p1=>⟨m1,st1,us,r1,h1,PV2.of p1⟩
/-- len(e),.. -/
theorem d_bi {id : String} (h : CallR X (.builtin id) (rM X.K g)) (hm : X.mg x = none) (hb : bootBuiltins x = some (.builtin id)) (ha : DA X W (e :: es) fs) (hg : Gl X x:=by rfl) (hn : x ≠ "__name__":=by decide) (hd : (x == ("__debug__" : Str)) = false:=by decide)
  (he : starEach (e :: es) X.env = (false,eval e X.env) :: starEach es X.env:=by rfl) (hpl : (backTo pos (starEach es X.env)).any (·.1) = false:=by rfl) : DE X W (.Call (.Name x p) (e :: es) [] pos) (fB g fs) :=
 ⟨PE.imp (pe_callB h hg hm hb ha.pa hn hd he hpl) fun _ _ _ q=>t_fB q⟩
/-- int(e),.. -/
theorem d_bt {T : String} (h : CallR X (.type T) (rM X.K g)) (hm : X.mg x = none) (hb : bootBuiltins x = some (.type T)) (ha : DA X W (e :: es) fs) (hg : Gl X x:=by rfl) (hn : x ≠ "__name__":=by decide) (hd : (x == ("__debug__" : Str)) = false:=by decide)
  (he : starEach (e :: es) X.env = (false,eval e X.env) :: starEach es X.env:=by rfl) (hpl : (backTo pos (starEach es X.env)).any (·.1) = false:=by rfl) : DE X W (.Call (.Name x p) (e :: es) [] pos) (fB g fs) :=
 ⟨PE.imp (pe_callTy h hg hm hb ha.pa hn hd he hpl) fun _ _ _ q=>t_fB q⟩
end
noncomputable def lenN (st : Store) (u : U) : Option Nat:=match u with
 | .d (.str x)=>if x.length ≤ sizeLine then some x.length else none
 | .d (.tup ds)=>some ds.length
 | u=>match getL st u with
  | some us=>some us.length
  | none=>(getD st u).map (·.length)
noncomputable def oLen : List U → Store → Option U:=fun us st=>match us with
 | [u]=>(lenN st u).map fun n=>.d (.int n)
 | _=>none
noncomputable def oInt : List U → Store → Option U:=fun us _=>match us with
 | [.d (.int i)]=>some (.d (.int i))
 | [.d (.bl k)]=>some (.d (.int (if k = true then 1 else 0)))
 | [.d (.str a)]=>if a.length ≤ 640 then (intText? a).map fun n=>.d (.int n) else none
 | _=>none
noncomputable def oAbs : List U → Store → Option U:=fun us _=>match us with
 | [.d (.int i)]=>some (.d (.int (if i < 0 then -i else i)))
 | _=>none
noncomputable def oMin : List U → Store → Option U:=fun us _=>match us with
 | [.d (.int i),.d (.int j)]=>some (.d (.int (if j < i then j else i)))
 | _=>none
noncomputable def oMax : List U → Store → Option U:=fun us _=>match us with
 | [.d (.int i),.d (.int j)]=>some (.d (.int (if j > i then j else i)))
 | _=>none
noncomputable def oStr : List U → Store → Option U:=fun us _=>match us with
 | [.d (.int i)]=>if i.natAbs.log2 < 1920 then some (.d (.str (Str.ofString (toString i)))) else none
 | _=>none
noncomputable def itemsU (st : Store) (u : U) : Option (List U):=match getL st u with
 | some us=>some us
 | none=>(getT u).map fun ds=>ds.map .d
/-- list(x): data -/
noncomputable def oList : List U → Store → Option U:=fun us st=>match us with
 | [u]=>match itemsU st u with
  | some us=>(pureL us).map fun ds=>.d (.lst ds)
  | none=>none
 | _=>none
/-- list(x): a cell -/
noncomputable def oListC : P3:=fun us st=>match us with
 | [u]=>match itemsU st u with
  | some us=>some (.ref st.length,st ++ [.lst us])
  | none=>none
 | _=>none
noncomputable def oTuple : List U → Store → Option U:=fun us st=>match us with
 | [.d (.tup ds)]=>some (.d (.tup ds))
 | [u]=>match getL st u with
  | some us=>(pureL us).map fun ds=>.d (.tup ds)
  | none=>none
 | _=>none
noncomputable def blsU : List U → Option (List Bool):=allM fun u=>match u with
 | .d (.bl k)=>some k
 | _=>none
noncomputable def strsU : List U → Option (List Str):=allM fun u=>match u with
 | .d (.str k)=>some k
 | _=>none
noncomputable def oAll : List U → Store → Option U:=fun us st=>match us with
 | [u]=>match getL st u with
  | some us=>(blsU us).map fun ks=>.d (.bl (ks.all id))
  | none=>none
 | _=>none
noncomputable def oAny : List U → Store → Option U:=fun us st=>match us with
 | [u]=>match getL st u with
  | some us=>(blsU us).map fun ks=>.d (.bl (ks.any id))
  | none=>none
 | _=>none
/-- a value's class -/
noncomputable def tyN (cs : List Addr) (st : Store) : U → Option Value
 | .d .non=>some (.type "NoneType")
 | .d (.bl _)=>some (.type "bool")
 | .d (.int _)=>some (.type "int")
 | .d (.str _)=>some (.type "str")
 | .d (.tup _)=>some (.type "tuple")
 | .d (.lst _)=>some (.type "list")
 | .d (.scr _)=>some (.type "list")
 | .d (.dct _)=>some (.type "dict")
 | .d (.ins C _)=>if C ∈ cs then some (.ref C) else none
 | .ref n=>match st[n]? with
  | some (.lst _)=>some (.type "list")
  | some (.tup _)=>some (.type "tuple")
  | some (.dct _)=>some (.type "dict")
  | some (.ins C _)=>if C ∈ cs then some (.ref C) else none
  | some (.tbl _ _)=>none
  | some (.lck _)=>none
  | some (.kdc _ _)=>none
  | none=>none
 | _=>none
noncomputable def oIsi (K : PySem.W.Frag) (cs : List Addr) : List U → Store → Option U:=fun us st=>match us with
 | [u,.d (.ty n)]=>match tyN cs st u with
  | some t=>(PySem.W.kitOne K t (.type n)).map fun k=>.d (.bl k)
  | none=>none
 | [u,.d (.obj C)]=>match tyN cs st u with
  | some t=>(PySem.W.kitOne K t (.ref C)).map fun k=>.d (.bl k)
  | none=>none
 | _=>none
section
variable {K : PySem.W.Frag} {m : List Addr} {H : Hp} {st : Store}
theorem RpUK.length : ∀ {us : List (Key × U)} {vs : List (Key × V)},RpUK K m H us vs → vs.length = us.length
 | [],_,h=>by rw [show _ = [] from h]; rfl
 | (k,u) :: us,_,⟨v,r,e,h1,h2⟩=>by rw [e,List.length_cons,List.length_cons,RpUK.length h2]
theorem lenN_rp (r : Rep K m st H) {u : U} {v : V} {n : Nat} (h : RpU K m H u v) (e : lenN st u = some n) : LenV K v H n ∨ ∃ a kvs,v = .ref a ∧ Rd H a (.dK kvs) ∧ kvs.length = n:=by
 unfold lenN at e
 split at e
 ·rename_i x
  cases h
  split at e
  ·rename_i hz; cases e; exact .inl ⟨hz,rfl⟩
  ·cases e
 ·rename_i ds
  obtain ⟨a,vs,rfl,t,q⟩:=h
  cases e
  exact .inl (.inr ⟨vs,t.sq,q.length.symm⟩)
 ·split at e
  ·rename_i us hl
   obtain ⟨a,vs,rfl,t,q⟩:=getL_rp r h hl
   cases e
   exact .inl (.inl ⟨vs,t,q.length.symm⟩)
  ·cases q : getD st u with
   | none=>rw [q] at e; cases e
   | some kvs =>
    rw [q] at e; cases e
    obtain ⟨a,vs,rfl,t,q⟩:=getD_rp r h q
    refine .inr ⟨a,vs,rfl,t,?_⟩
    exact q.length
theorem strs_rp : ∀ {us : List U} {vs : List V} {ns : List Str},RpUs K m H us vs → strsU us = some ns → vs = ns.map V.str
 | [],vs,ns,h,e=>by cases e; exact h
 | u :: us,vs,ns,⟨v,r,ev,h1,h2⟩,e=>by
  subst ev
  unfold strsU allM at e
  split at e
  ·rename_i b bs q1 q2
   cases e
   rw [List.map_cons,← strs_rp h2 q2]
   split at q1
   ·cases q1; rw [show v = V.str b from h1]
   ·cases q1
  ·cases e
theorem RpDs.ints : ∀ (ns : List Int),RpDs K m H (ns.map .int) (ns.map V.int)
 | []=>rfl
 | n :: ns=>⟨.int n,_,rfl,rfl,RpDs.ints ns⟩
theorem RpDs.strs : ∀ (ns : List Str),RpDs K m H (ns.map .str) (ns.map V.str)
 | []=>rfl
 | n :: ns=>⟨.str n,_,rfl,rfl,RpDs.strs ns⟩
theorem itemsU_rp (r : Rep K m st H) {u : U} {v : V} {us : List U} (h : RpU K m H u v) (e : itemsU st u = some us) : ∃ a vs,v = .ref a ∧ (SqL K H a vs ∨ SqT K H a vs) ∧ RpUs K m H us vs:=by
 unfold itemsU at e
 split at e
 ·rename_i us' hl
  cases e
  obtain ⟨a,vs,e1,t,q⟩:=getL_rp r h hl
  exact ⟨a,vs,e1,.inl t,q⟩
 ·cases q : getT u with
  | none=>rw [q] at e; cases e
  | some ds =>
   rw [q] at e; cases e
   obtain ⟨a,vs,e1,t,q⟩:=getT_rp h q
   exact ⟨a,vs,e1,.inr t.sq,RpUs.ofD q⟩
/-- the class of an own class's instances,as the model asks it -/
structure ClsTy (K : PySem.W.Frag) (C : Addr) : Prop where
 cl : Cls K C
 f1 : PySem.W.findIn K (.ref C) "__class__" = some (some (.builtin "object.__class__"))
 f2 : PySem.W.specialIn K (.builtin "object.__class__") "__get__" = some (some (.builtin "getset_descriptor.__get__"))
 f3 : PySem.W.takesIn K (.builtin "object.__class__") = some true
 f4 : PySem.W.mroIn K C (.type "object") = some true
theorem ktup_ty {a : Addr} {vs : List V} (h : TpV K m H a vs) : TyX K H (.ref a) (.type "tuple"):=by
 rcases h with ⟨_,r⟩ | (r | ⟨_,r⟩) | ⟨o,its,n,h1,h2,_⟩
 ·exact .base (.tup r)
 ·cases r
 ·cases r
 ·exact .kTuple h1 h2
theorem scV_ty {a : Addr} {vs : List V} (h : ScV K m H a vs) : TyX K H (.ref a) (.type "list"):=by
 rcases h with ⟨_,ob,r⟩ | (r | ⟨_,r⟩) | ⟨o,its,n,h1,h2,_⟩
 ·exact .base (.frz r)
 ·cases r
 ·cases r
 ·exact .kList h1 h2
/-- the own classes whose instances are asked for their class -/
noncomputable def Own (K : PySem.W.Frag) (cs : List Addr) : Prop:=∀ C ∈ cs,ClsTy K C
theorem tyN_rp {cs : List Addr} (r : Rep K m st H) (hC : Own K cs) {u : U} {v : V} {t : Value} (h : RpU K m H u v) (e : tyN cs st u = some t) : TyX K H v t:=by
 cases u with
 | ref n =>
  obtain ⟨a,ha,rfl⟩:=h
  simp only [tyN] at e
  split at e
  ·rename_i us hs
   obtain ⟨ho,h1,vs,e2,h2⟩:=r.cell n _ a hs ha
   subst e2; cases e; exact .base (.lst h1)
  ·rename_i us hs
   obtain ⟨ho,h1,vs,e2,h2⟩:=r.cell n _ a hs ha
   subst e2; cases e; exact .base (.tup h1)
  ·rename_i us hs
   obtain ⟨ho,h1,vs,e2,h2⟩:=r.cell n _ a hs ha
   subst e2; cases e; exact .base (.dK h1)
  ·rename_i C us hs
   obtain ⟨ho,h1,dx,vs,e2,h2⟩:=r.cell n _ a hs ha
   split at e
   ·rename_i hc
    subst e2; cases e
    have c:=hC C hc
    exact .base (.ins h1 c.cl c.f1 c.f2 c.f3 c.f4)
   ·cases e
  ·cases e
  ·cases e
  ·cases e
  ·cases e
 | d x =>
  cases x with
  | non=>cases h; cases e; exact .base .non
  | bl b=>cases h; cases e; exact .base (.bl b)
  | int i=>cases h; cases e; exact .base (.int i)
  | str x=>cases h; cases e; exact .base (.str x)
  | tup ds =>
   obtain ⟨a,vs,rfl,t,q⟩:=h
   cases e
   exact ktup_ty t
  | lst ds =>
   obtain ⟨a,vs,rfl,t,q⟩:=h
   cases e
   exact .base (.lst t.2)
  | scr ns =>
   obtain ⟨a,rfl,t⟩:=h
   cases e
   exact scV_ty t
  | dct kvs =>
   obtain ⟨a,vs,rfl,t,q⟩:=h
   cases e
   rcases t.2 with t | ⟨o,t⟩
   ·exact .base (.dK t)
   ·exact .fDict t
  | ins C fs =>
   obtain ⟨a,dx,vs,rfl,t,q⟩:=h
   simp only [tyN] at e
   split at e
   ·rename_i hc
    cases e
    have c:=hC C hc
    exact .base (.ins t.2 c.cl c.f1 c.f2 c.f3 c.f4)
   ·cases e
  | _=>cases e
end
section
variable {X : Cx}
theorem cr_len : CallR X (.builtin "len") (rM X.K (pu oLen)):=by
 have h2 : CallR X (.builtin "len") (fun xs H Q=>∃ a kvs,xs = [V.ref a] ∧ Rd H a (.dK kvs) ∧ Q (.int (kvs.length : Nat)) H):=by
  intro pins s σ H xs us Q I r h
  obtain ⟨a,kvs,rfl,ha,q⟩:=h
  obtain ⟨u,rfl,ru⟩:=L2.vals1 r
  cases ru
  exact L2.d_len I ha fun t s' I'=>⟨.int (kvs.length : Nat),H,I',⟨t,rfl⟩,q⟩
 refine CallR.imp (call_len.or h2) fun vs H Q ⟨m,st,us,r,ru,p⟩=>?_
 obtain ⟨u,e,p⟩:=p.pu
 unfold oLen at e
 split at e
 ·rename_i x
  obtain ⟨v,rfl,hv⟩:=ru.one
  cases q : lenN st x with
  | none=>rw [q] at e; cases e
  | some n =>
   rw [q] at e; cases e
   rcases lenN_rp r hv q with h | ⟨a,kvs,rfl,h,rfl⟩
   ·exact .inl ⟨v,n,rfl,h,p.here r rfl⟩
   ·exact .inr ⟨a,kvs,rfl,h,p.here r rfl⟩
 ·cases e
theorem cr_int : CallR X (.type "int") (rM X.K (pu oInt)):=by
 refine CallR.imp (call_int1.or call_int_str) fun vs H Q ⟨m,st,us,r,ru,p⟩=>?_
 obtain ⟨u,e,p⟩:=p.pu
 unfold oInt at e
 split at e
 ·obtain ⟨v,rfl,hv⟩:=ru.one
  cases hv; cases e
  exact .inl (.inl ⟨_,rfl,p.here r rfl⟩)
 ·obtain ⟨v,rfl,hv⟩:=ru.one
  cases hv; cases e
  exact .inl (.inr ⟨_,rfl,p.here r rfl⟩)
 ·obtain ⟨v,rfl,hv⟩:=ru.one
  cases hv
  split at e
  ·rename_i hz
   cases q : intText? _ with
   | none=>rw [q] at e; cases e
   | some n=>rw [q] at e; cases e; exact .inr ⟨_,n,rfl,q,hz,p.here r rfl⟩
  ·cases e
 ·cases e
theorem cr_abs : CallR X (.builtin "abs") (rM X.K (pu oAbs)):=by
 refine CallR.imp call_abs fun vs H Q ⟨m,st,us,r,ru,p⟩=>?_
 obtain ⟨u,e,p⟩:=p.pu
 unfold oAbs at e
 split at e
 ·obtain ⟨v,rfl,hv⟩:=ru.one
  cases hv; cases e
  exact ⟨_,rfl,p.here r rfl⟩
 ·cases e
theorem cr_min (hc : X.calm = true) : CallR X (.builtin "min") (rM X.K (pu oMin)):=by
 refine CallR.imp (call_min2 hc) fun vs H Q ⟨m,st,us,r,ru,p⟩=>?_
 obtain ⟨u,e,p⟩:=p.pu
 unfold oMin at e
 split at e
 ·obtain ⟨v,x,rfl,hv,hx⟩:=ru.two
  cases hv; cases hx; cases e
  exact ⟨_,_,rfl,p.here r rfl⟩
 ·cases e
theorem cr_max (hc : X.calm = true) : CallR X (.builtin "max") (rM X.K (pu oMax)):=by
 refine CallR.imp (call_max2 hc) fun vs H Q ⟨m,st,us,r,ru,p⟩=>?_
 obtain ⟨u,e,p⟩:=p.pu
 unfold oMax at e
 split at e
 ·obtain ⟨v,x,rfl,hv,hx⟩:=ru.two
  cases hv; cases hx; cases e
  exact ⟨_,_,rfl,p.here r rfl⟩
 ·cases e
theorem cr_str : CallR X (.type "str") (rM X.K (pu oStr)):=by
 refine CallR.imp call_str_int fun vs H Q ⟨m,st,us,r,ru,p⟩=>?_
 obtain ⟨u,e,p⟩:=p.pu
 unfold oStr at e
 split at e
 ·obtain ⟨v,rfl,hv⟩:=ru.one
  cases hv
  split at e
  ·rename_i hz; cases e
   exact ⟨_,rfl,hz,p.here r rfl⟩
  ·cases e
 ·cases e
theorem cr_list : CallR X (.type "list") (rM X.K (pu oList)):=by
 refine CallR.imp call_list_of fun vs H Q ⟨m,st,us,r,ru,p⟩=>?_
 obtain ⟨u,e,p⟩:=p.pu
 unfold oList at e
 split at e
 ·obtain ⟨v,rfl,hv⟩:=ru.one
  split at e
  ·rename_i us hl
   obtain ⟨a,ws,rfl,t,q⟩:=itemsU_rp r hv hl
   cases q2 : pureL us with
   | none=>rw [q2] at e; cases e
   | some ds =>
    rw [q2] at e; cases e
    exact ⟨a,ws,rfl,t,fun l hl=>p _ m _ (new_lst r hl (pureL_rp q q2)) (r.new hl _) (ext_new r hl _)⟩
  ·cases e
 ·cases e
theorem cr_tuple : CallR X (.type "tuple") (rM X.K (pu oTuple)):=by
 refine CallR.imp call_tuple_of fun vs H Q ⟨m,st,us,r,ru,p⟩=>?_
 obtain ⟨u,e,p⟩:=p.pu
 unfold oTuple at e
 split at e
 ·obtain ⟨v,rfl,hv⟩:=ru.one
  have hv':=hv
  obtain ⟨a,ws,rfl,t,q⟩:=hv
  cases e
  exact ⟨a,ws,rfl,.inr ⟨t.sq,p.here r hv'⟩⟩
 ·obtain ⟨v,rfl,hv⟩:=ru.one
  split at e
  ·rename_i us hl
   obtain ⟨a,ws,rfl,t,q⟩:=getL_rp r hv hl
   cases q2 : pureL us with
   | none=>rw [q2] at e; cases e
   | some ds =>
    rw [q2] at e; cases e
    exact ⟨a,ws,rfl,.inl ⟨t,fun l hl=>p _ m _ (new_tup r hl (pureL_rp q q2)) (r.new hl _) (ext_new r hl _)⟩⟩
  ·cases e
 ·cases e
theorem cr_isi {cs : List Addr} (hC : Own X.K cs) : CallR X (.builtin "isinstance") (rM X.K (pu (oIsi X.K cs))):=by
 refine CallR.imp call_isi fun vs H Q ⟨m,st,us,r,ru,p⟩=>?_
 obtain ⟨u,e,p⟩:=p.pu
 unfold oIsi at e
 split at e
 ·obtain ⟨v,x,rfl,hv,hx⟩:=ru.two
  cases hx
  split at e
  ·rename_i t ht
   cases q : PySem.W.kitOne X.K t (.type _) with
   | none=>rw [q] at e; cases e
   | some k =>
    rw [q] at e; cases e
    exact ⟨v,_,t,_,k,rfl,.ty _,tyN_rp r hC hv ht,q,p.here r rfl⟩
  ·cases e
 ·obtain ⟨v,x,rfl,hv,hx⟩:=ru.two
  cases hx
  split at e
  ·rename_i t ht
   cases q : PySem.W.kitOne X.K t (.ref _) with
   | none=>rw [q] at e; cases e
   | some k =>
    rw [q] at e; cases e
    exact ⟨v,_,t,_,k,rfl,.own _,tyN_rp r hC hv ht,q,p.here r rfl⟩
  ·cases e
 ·cases e
end
end VL
namespace VL
open PySem PySem.Spec PyProof.Rows L2
noncomputable def tyB (T : String) (st : Store) (u : U) : Bool:=match u with
 | .d (.str _)=>decide (T = "str")
 | .ref n=>match st[n]? with
  | some (.lst _)=>decide (T = "list")
  | some (.dct _)=>decide (T = "dict")
  | _=>false
 | u=>decide (T = "list") && (getL st u).isSome
noncomputable def fM (T : String) (g : P4) (fo : F U) (fs : F (List U)) : F U:=bnd fo fun u=>fun env st=>if tyB T st u = true then bnd fs (fun us=>fun _ st=>.of2 (g u us st)) env st else .bad
section
variable {K : PySem.W.Frag} {m : List Addr} {H : Hp} {st : Store}
theorem tyB_rp {T : String} (r : Rep K m st H) {u : U} {v : V} (h : RpU K m H u v) (e : tyB T st u = true) : tyV K T v H:=by
 unfold tyB at e
 split at e
 ·cases h; exact (of_decide_eq_true e : T = "str")
 ·obtain ⟨a,ha,rfl⟩:=h
  split at e
  ·rename_i us hs
   obtain ⟨ho,h1,vs,e2,h2⟩:=r.cell _ _ a hs ha
   subst e2
   exact .inl ⟨of_decide_eq_true e,vs,.inl (.inl h1)⟩
  ·rename_i us hs
   obtain ⟨ho,h1,vs,e2,h2⟩:=r.cell _ _ a hs ha
   subst e2
   exact .inr (.inr (.inl ⟨of_decide_eq_true e,.inl ⟨vs,h1⟩⟩))
  ·cases e
 ·rw [Bool.and_eq_true] at e
  obtain ⟨e1,e2⟩:=e
  obtain ⟨us,hus⟩:=Option.isSome_iff_exists.mp e2
  obtain ⟨a,vs,rfl,t,q⟩:=getL_rp r h hus
  exact .inl ⟨of_decide_eq_true e1,vs,t⟩
end
section
variable {X : Cx} {W : WX} {pos apos cpos : Pos} {o e : Expr} {es : List Expr} {fo : F U} {fs : F (List U)} {g : P4} {T id : String} {name : Str}
theorem t_fM {σ : L2.St} {H : Hp} {Q : VK} (h : tF X.K W (fM T g fo fs) σ H Q) : tBM X.K T (mM X.K g) (tF X.K W fo) (tFs X.K W fs) σ H Q:=by
 obtain ⟨m,env,st,r,re,p⟩:=h
 refine tF_step r re p fun u st1 v m1 H1 h1 r1 re1 e1 p1=>?_
 by_cases ht : tyB T st1 u = true
 ·simp only [ht,if_true] at p1
  exact ⟨tyB_rp r1 h1 ht,tFs_step r1 re1 p1 fun us st2 vs m2 H2 h2 r2 re2 e2 p2=>⟨m2,st2,u,us,r2,h1.ext e2,h2,PV2.of p2⟩⟩
 ·rw [if_neg ht] at p1; exact p1.elim
theorem d_m (hp : PlainAttrs T) (hs : Slot T name id) (ht : typeOf (.builtin id) = pure (.type "method_descriptor")) (h : MtR X id (mM X.K g)) (ho : DE X W o fo) (ha : DA X W (e :: es) fs)
  (h1 : attributeBase o name X.env (eval o X.env) = eval o X.env:=by rfl)
  (h2 : (((backTo cpos (starEach (e :: es) X.env)).all (fun x=>!x.1) && (backToKw cpos (keywordEach [] X.env)).all (fun x=>x.1.isSome)) && decide ((e :: es).length + ([] : List Keyword).length + (if ([] : List Keyword).isEmpty = true then 0 else 1) < 30)) = true:=by rfl)
  (h3 : (apos.endLine == cpos.line) = true:=by rfl) (h4 : starEach (e :: es) X.env = (false,eval e X.env) :: starEach es X.env:=by rfl) (h5 : (backTo cpos (starEach es X.env)).any (fun x=>x.1) = false:=by rfl) :
  DE X W (.Call (.Attribute o name apos) (e :: es) [] cpos) (fM T g fo fs):=⟨PE.imp (pe_bm hp hs ht h ho.pe ha.pa h1 h2 h3 h4 h5) fun _ _ _ q=>t_fM q⟩
end
noncomputable def lstC (st : Store) : U → Option (Nat × List U)
 | .ref n=>match st[n]? with
  | some (.lst us)=>some (n,us)
  | _=>none
 | _=>none
noncomputable def mAppend : P4:=fun u us st=>match lstC st u,us with
 | some (n,xs),[y]=>if xs.length < sizeLine then some (.d .non,st.set n (.lst (xs ++ [y]))) else none
 | _,_=>none
noncomputable def mPop : P4:=fun u us st=>match lstC st u,us with
 | some (n,xs),[]=>(xs[xs.length - 1]?).map fun y=>(y,st.set n (.lst xs.dropLast))
 | some (n,xs),[.d (.int i)]=>if -2 ^ 63 ≤ i ∧ i < 2 ^ 63 then match seqIndex? i xs.length with
   | some k=>(xs[k]?).map fun y=>(y,st.set n (.lst (xs.eraseIdx k)))
   | none=>none
  else none
 | _,_=>none
noncomputable def mJoin : U → List U → Store → Option U:=fun u us st=>match u,us with
 | .d (.str a),[b]=>match itemsU st b with
  | some us=>match strsU us with
   | some ys=>if (ys.map fun x=>x.length).sum + ys.length * a.length ≤ 16777216 then some (.d (.str (Txt.join a ys))) else none
   | none=>none
  | none=>none
 | _,_=>none
section
variable {K : PySem.W.Frag} {m : List Addr} {H : Hp} {st : Store}
theorem lstC_rp (r : Rep K m st H) {u : U} {v : V} {n : Nat} {us : List U} (h : RpU K m H u v) (e : lstC st u = some (n,us)) :
  ∃ a vs,v = .ref a ∧ H a = some (.lst vs) ∧ RpUs K m H us vs ∧ (∀ us' vs',RpUs K m H us' vs' → Rep K m (st.set n (.lst us')) (upd H a (.lst vs')) ∧ Ext m H m (upd H a (.lst vs'))):=by
 cases u with
 | d x=>cases e
 | ref k =>
  obtain ⟨a,ha,rfl⟩:=h
  simp only [lstC] at e
  split at e
  ·rename_i zs hs
   cases e
   obtain ⟨ho,h1,vs,e2,h2⟩:=r.cell _ _ a hs ha
   subst e2
   have ma : a ∈ m:=List.mem_of_getElem? ha
   exact ⟨a,vs,rfl,h1,h2,fun us' vs' q=>⟨r.write ha ⟨vs',rfl,q.ext (ext_write ma _ (nf_l h1))⟩ (nf_l h1),ext_write ma _ (nf_l h1)⟩⟩
  ·cases e
theorem RpUs.snoc {us : List U} {vs : List V} {u : U} {v : V} (h : RpUs K m H us vs) (k : RpU K m H u v) : RpUs K m H (us ++ [u]) (vs ++ [v]):=h.append ⟨v,[],rfl,k,rfl⟩
theorem RpUs.erase : ∀ {us : List U} {vs : List V} (i : Nat),RpUs K m H us vs → RpUs K m H (us.eraseIdx i) (vs.eraseIdx i)
 | [],_,_,h=>by rw [show _ = [] from h]; rfl
 | u :: us,_,0,⟨x,r,e,h1,h2⟩=>by subst e; exact h2
 | u :: us,_,i + 1,⟨x,r,e,h1,h2⟩=>by subst e; exact ⟨x,r.eraseIdx i,rfl,h1,RpUs.erase i h2⟩
theorem RpUs.dropLast : ∀ {us : List U} {vs : List V},RpUs K m H us vs → RpUs K m H us.dropLast vs.dropLast
 | [],_,h=>by rw [show _ = [] from h]; rfl
 | [u],_,⟨x,r,e,h1,h2⟩=>by cases h2; subst e; rfl
 | u :: w :: us,_,⟨x,r,e,h1,⟨y,t,e2,h3,h4⟩⟩=>by subst e; subst e2; exact ⟨x,_,rfl,h1,RpUs.dropLast (us:=w :: us) ⟨y,t,rfl,h3,h4⟩⟩
theorem RpUs.reverse : ∀ {us : List U} {vs : List V},RpUs K m H us vs → RpUs K m H us.reverse vs.reverse
 | [],_,h=>by rw [show _ = [] from h]; rfl
 | u :: us,_,⟨x,r,e,h1,h2⟩=>by subst e; rw [List.reverse_cons,List.reverse_cons]; exact (RpUs.reverse h2).snoc h1
theorem RpUs.nil {vs : List V} (h : RpUs K m H [] vs) : vs = []:=h
end
section
variable {X : Cx}
theorem mt_append' : MtR X "list.append" (mM X.K mAppend):=by
 refine MtR.imp mt_append fun x vs H Q ⟨m,st,u,us,r,ru,rus,p⟩=>?_
 unfold mAppend at p
 split at p
 ·rename_i n xs y hl
  split at p
  ·rename_i hz
   obtain ⟨a,ws,rfl,h1,h2,h3⟩:=lstC_rp r ru hl
   obtain ⟨v,rfl,hv⟩:=rus.one
   obtain ⟨g1,g2⟩:=h3 _ _ (h2.snoc hv)
   exact ⟨a,ws,v,rfl,rfl,h1,by rw [h2.length]; exact hz,p _ m _ rfl g1 g2⟩
  ·exact p.elim
 ·exact p.elim
theorem mt_pop' : MtR X "list.pop" (mM X.K mPop):=by
 have hor : MtR X "list.pop" (fun x vs H Q=>rPop x vs H Q ∨ rPopAt x vs H Q):=fun pins s σ H x xs v us Q I rx rv q=>by
  rcases q with q | q
  ·exact mt_pop pins s σ H x xs v us Q I rx rv q
  ·exact mt_popAt pins s σ H x xs v us Q I rx rv q
 refine MtR.imp hor fun x vs H Q ⟨m,st,u,us,r,ru,rus,p⟩=>?_
 unfold mPop at p
 split at p
 ·rename_i n xs hl
  cases q : xs[xs.length - 1]? with
  | none=>rw [q] at p; exact p.elim
  | some y =>
   rw [q] at p
   obtain ⟨a,ws,rfl,h1,h2,h3⟩:=lstC_rp r ru hl
   obtain ⟨g1,g2⟩:=h3 _ _ h2.dropLast
   obtain ⟨z,hz,rz⟩:=h2.get q
   exact .inl ⟨a,ws,z,rfl,rus.nil,h1,by rw [h2.length]; exact hz,p _ m _ (rz.ext g2) g1 g2⟩
 ·rename_i n xs i hl
  split at p
  ·rename_i hi
   split at p
   ·rename_i k hk
    cases q : xs[k]? with
    | none=>rw [q] at p; exact p.elim
    | some y =>
     rw [q] at p
     obtain ⟨a,ws,rfl,h1,h2,h3⟩:=lstC_rp r ru hl
     obtain ⟨v,rfl,hv⟩:=rus.one
     obtain ⟨g1,g2⟩:=h3 _ _ (h2.erase k)
     obtain ⟨z,hz,rz⟩:=h2.get q
     cases hv
     exact .inr ⟨a,ws,i,k,z,rfl,rfl,h1,hi.1,hi.2,by rw [h2.length]; exact hk,hz,p _ m _ (rz.ext g2) g1 g2⟩
   ·exact p.elim
  ·exact p.elim
 ·exact p.elim
theorem mt_join' : MtR X "str.join" (mM X.K (pu4 mJoin)):=by
 refine MtR.imp mt_join fun x vs H Q ⟨m,st,u,us,r,ru,rus,p⟩=>?_
 obtain ⟨w,e,p⟩:=p.pu4
 unfold mJoin at e
 split at e
 ·rename_i a b
  obtain ⟨v,rfl,hv⟩:=rus.one
  cases ru
  split at e
  ·rename_i zs hz
   obtain ⟨l,ws,rfl,t,q⟩:=itemsU_rp r hv hz
   split at e
   ·rename_i ys hy
    have:=strs_rp q hy
    subst this
    split at e
    ·rename_i hs; cases e
     exact ⟨a,l,ys,rfl,rfl,t,hs,p.here r rfl⟩
    ·cases e
   ·cases e
  ·cases e
 ·cases e
end
noncomputable def putU (kvs : List (Key × U)) (k : Key) (v : U) : List (Key × U) :=
 if (kvs.any fun kv=>decide (kv.1 = k)) = true then kvs.map fun kv=>if kv.1 = k then (kv.1,v) else kv else kvs ++ [(k,v)]
noncomputable def setU (o i u : U) (st : Store) : Option Store:=match o with
 | .ref n=>match st[n]? with
  | some (.lst us)=>match i with
   | .d (.int j)=>(ixN us.length j).map fun k=>st.set n (.lst (us.set k u))
   | _=>none
  | some (.dct kvs)=>match keyD i with
   | some k=>if kvs.length < sizeLine then some (st.set n (.dct (putU kvs k u))) else none
   | none=>none
  | _=>none
 | _=>none
noncomputable def tgSub (fo fi : F U) : U → G:=fun u env st=>match fo env st with
 | .ok o st1=>match fi env st1 with
  | .ok i st2=>match setU o i u st2 with
   | some st'=>.ok env .nx st'
   | none=>.bad
  | _=>.bad
 | _=>.bad
section
variable {K : PySem.W.Frag} {m : List Addr} {H : Hp} {st : Store}
theorem RpUK.any {k : Key} : ∀ {us : List (Key × U)} {vs : List (Key × V)},RpUK K m H us vs → (us.any fun kv=>decide (kv.1 = k)) = (vs.any fun kv=>decide (kv.1 = k))
 | [],_,h=>by rw [show _ = [] from h]; rfl
 | (k',u) :: us,_,⟨v,r,e,h1,h2⟩=>by subst e; rw [List.any_cons,List.any_cons,RpUK.any h2]
theorem RpUK.mapP {k : Key} {w : U} {x : V} (hw : RpU K m H w x) : ∀ {us : List (Key × U)} {vs : List (Key × V)},RpUK K m H us vs → RpUK K m H (us.map fun kv=>if kv.1 = k then (kv.1,w) else kv) (vs.map fun kv=>if kv.1 = k then (kv.1,x) else kv)
 | [],_,h=>by rw [show _ = [] from h]; rfl
 | (k',u) :: us,_,⟨v,r,e,h1,h2⟩=>by
  subst e
  rw [List.map_cons,List.map_cons]
  by_cases hk : k' = k
  ·subst hk; simp only [if_true]; exact ⟨x,_,rfl,hw,RpUK.mapP hw h2⟩
  ·simp only [hk,if_false]; exact ⟨v,_,rfl,h1,RpUK.mapP hw h2⟩
theorem RpUK.snoc {k : Key} {w : U} {x : V} (hw : RpU K m H w x) : ∀ {us : List (Key × U)} {vs : List (Key × V)},RpUK K m H us vs → RpUK K m H (us ++ [(k,w)]) (vs ++ [(k,x)])
 | [],_,h=>by rw [show _ = [] from h]; exact ⟨x,[],rfl,hw,rfl⟩
 | (k',u) :: us,_,⟨v,r,e,h1,h2⟩=>by subst e; exact ⟨v,_,rfl,h1,RpUK.snoc hw h2⟩
theorem RpUK.put {us : List (Key × U)} {vs : List (Key × V)} (h : RpUK K m H us vs) (k : Key) {w : U} {x : V} (hw : RpU K m H w x) : RpUK K m H (putU us k w) (putK vs k x):=by
 unfold putU putK
 rw [h.any]
 split
 ·exact h.mapP hw
 ·exact h.snoc hw
noncomputable def dctC (st : Store) : U → Option (Nat × List (Key × U))
 | .ref n=>match st[n]? with
  | some (.dct us)=>some (n,us)
  | _=>none
 | _=>none
theorem dctC_rp (r : Rep K m st H) {u : U} {v : V} {n : Nat} {us : List (Key × U)} (h : RpU K m H u v) (e : dctC st u = some (n,us)) :
  ∃ a vs,v = .ref a ∧ H a = some (.dK vs) ∧ RpUK K m H us vs ∧ (∀ us' vs',RpUK K m H us' vs' → Rep K m (st.set n (.dct us')) (upd H a (.dK vs')) ∧ Ext m H m (upd H a (.dK vs'))):=by
 cases u with
 | d x=>cases e
 | ref k =>
  obtain ⟨a,ha,rfl⟩:=h
  simp only [dctC] at e
  split at e
  ·rename_i zs hs
   cases e
   obtain ⟨ho,h1,vs,e2,h2⟩:=r.cell _ _ a hs ha
   subst e2
   have ma : a ∈ m:=List.mem_of_getElem? ha
   exact ⟨a,vs,rfl,h1,h2,fun us' vs' q=>⟨r.write ha ⟨vs',rfl,q.ext (ext_write ma _ (nf_d h1))⟩ (nf_d h1),ext_write ma _ (nf_d h1)⟩⟩
  ·cases e
end
section
variable {X : Cx} {W : WX} {o i : Expr} {fo fi : F U} {pos : Pos}
noncomputable def tSetU (K : PySem.W.Frag) : TSet:=fun o i v H Q=>∃ m st a b u,Rep K m st H ∧ RpU K m H a o ∧ RpU K m H b i ∧ RpU K m H u v ∧ (match setU a b u st with
 | some st'=>∀ H',Rep K m st' H' → Ext m H m H' → Q H'
 | none=>False)
theorem set_ok (hu : X.A.units + 1 < cLine) : PSet X (tSetU X.K):=by
 intro pins s σ H o i v ov iv u Q I ro ri rv h
 obtain ⟨m,st,a,b,w,r,ha,hb,hw,p⟩:=h
 have run : (rSetL o i v H Q ∨ rSetD o i v H Q) → wpAny (model X.prog X.w) X.A (setItem ov iv u) (fun x s'=>∃ H',L2.Inv X pins σ H' s' ∧ Q H') X.xe s:=fun h=>by
  rcases h with h | h
  ·exact set_list pins s σ H o i v ov iv u Q I ro ri rv h
  ·exact set_dict hu pins s σ H o i v ov iv u Q I ro ri rv h
 refine run ?_
 cases e : setU a b w st with
 | none=>rw [e] at p; exact p.elim
 | some st' =>
  rw [e] at p
  unfold setU at e
  split at e
  ·rename_i n
   split at e
   ·rename_i us hs
    split at e
    ·rename_i j
     cases q : ixN us.length j with
     | none=>rw [q] at e; cases e
     | some k =>
      rw [q] at e; cases e
      obtain ⟨l,vs,rfl,h1,h2,h3⟩:=lstC_rp r ha (show lstC st (.ref n) = some (n,us) by simp only [lstC,hs])
      cases hb
      obtain ⟨g1,g2⟩:=h3 _ _ (h2.set k hw)
      exact .inl ⟨l,vs,j,k,rfl,rfl,h1,by rw [h2.length]; exact q,p _ g1 g2⟩
    ·cases e
   ·rename_i us hs
    split at e
    ·rename_i k hk
     split at e
     ·rename_i hz
      cases e
      obtain ⟨l,vs,rfl,h1,h2,h3⟩:=dctC_rp r ha (show dctC st (.ref n) = some (n,us) by simp only [dctC,hs])
      obtain ⟨g1,g2⟩:=h3 _ _ (h2.put k hw)
      have hy:=keyD_rp hb hk
      subst hy
      exact .inr ⟨l,_,rfl,.inl ⟨vs,k,h1,rfl,by rw [h2.length]; exact hz,rfl⟩,p _ g1 g2⟩
     ·cases e
    ·cases e
   ·cases e
  ·cases e
theorem dg_sub (hu : X.A.units + 1 < cLine) (ho : DE X W o fo) (hi : DE X W i fi)
  (ha : ∀ (v : Value),assign (Expr.Subscript o i pos) X.env v = (do
    let ov ← holding [v] (eval o X.env)
    let iv ← holding [v,ov] (eval i X.env)
    standAt pos
    holding [v,ov,iv] (setItem ov iv v)
    release [v,ov,iv] []):=by intro _; rfl) : DG X (.Subscript o i pos) [] (tgSub fo fi) :=
 ⟨PG.imp (pg_sub ho.pe hi.pe (set_ok hu) ha) fun v σ H Q ⟨m,env,st,u,r,re,ru,p⟩=>by
  cases e1 : fo env st with
  | bad=>simp only [tgSub,e1] at p
  | ex c fs st1=>simp only [tgSub,e1] at p
  | ok a st1 =>
   simp only [tgSub,e1] at p
   refine ⟨m,env,st,r,re,?_⟩
   rw [e1]
   intro ov m1 H1 h1 r1 x1
   refine ⟨m1,env,st1,r1,re.ext x1,?_⟩
   cases e2 : fi env st1 with
   | bad=>simp only [e2] at p
   | ex c fs st1=>simp only [e2] at p
   | ok b st2 =>
    simp only [e2] at p
    intro iv m2 H2 h2 r2 x2
    refine ⟨m2,st2,a,b,u,r2,h1.ext x2,h2,(ru.ext x1).ext x2,?_⟩
    cases e3 : setU a b u st2 with
    | none=>simp only [e3] at p
    | some st3 =>
     simp only [e3] at p
     exact fun H' r3 x3=>p σ m2 H' (re.ext (x1.trans (x2.trans x3))) r3 (x1.trans (x2.trans x3)) (Out.refl _ _)⟩
theorem nx_sub : TgNx (tgSub fo fi):=fun u env st=>by
 unfold tgSub
 cases fo env st with
 | bad=>trivial
 | ex c fs st1=>trivial
 | ok a st1 =>
  simp only
  cases fi env st1 with
  | bad=>trivial
  | ex c fs st1=>trivial
  | ok b st2 =>
   simp only
   cases setU a b u st2 with
   | none=>trivial
   | some st3=>trivial
end
end VL
namespace VL
open PySem PySem.Spec PyProof.Rows L2
structure RoomG (k : Nat) (A : Around) : Prop where
 rm : Room k A
 gd : A.guards = some []
theorem RoomG.deeper {k : Nat} {A : Around} (r : RoomG (k + 1) A) (env : Env) : RoomG k (A.deeper env):=⟨r.rm.deeper env,r.gd⟩
theorem RoomG.mono {j k : Nat} {A : Around} (r : RoomG k A) (h : j ≤ k) : RoomG j A:=⟨r.rm.mono h,r.gd⟩
theorem RoomG.make {k : Nat} {A : Around} (r : RoomG (k + 1) A) (C : Addr) (us : List Value) (kw : List (Str × Value)) : RoomG k (A.under (.builtin "type.__call__" { pos:=Value.ref C :: us,kw:=kw })) :=
 ⟨r.rm.make C us kw,r.gd⟩
structure FnG (P : Program) (w : World) (K : PySem.W.Frag) (mg : Str → Option Value) (base : Heap) (k : Nat) (f : Addr) (fd : FuncData) (ps : List Str) (sp : Sp) : Prop where
 len : ∀ (vs : List V) (H : Hp) (Q : VK) (E : XK),sp vs H Q E → vs.length = ps.length
 run : ∀ (A : Around) (outer : List Env) (s : Shared) (H : Hp) (args : Args) (us : List Value) (vs : List V) (Q : VK) (E : XK),RoomG k A → Env0 P w K mg base A outer s H → BindsTo s fd args (ps.zip us) → Vals vs us → sp vs H Q E →
  codeAny (model P w) A (.call (.ref f) args) (CR (L2.CX P w) outer P w H s Q E) s
section
variable {P : Program} {w : World} {K : PySem.W.Frag} {mg : Str → Option Value} {base : Heap}
theorem FnG.mono {j k : Nat} {f : Addr} {fd : FuncData} {ps : List Str} {sp : Sp} (F : FnG P w K mg base j f fd ps sp) (h : j ≤ k) : FnG P w K mg base k f fd ps sp :=
 ⟨F.len,fun A outer s H args us vs Q E r=>F.run A outer s H args us vs Q E (r.mono h)⟩
theorem fn_ofG {k : Nat} {f : Addr} {name qual : Str} {params : Arguments} {body : List Stmt} {scope : Scope} {dV kV doc pm cdv ct oc : Value} {an od : Option Addr} {osl : Array (Option Value)} {N ps : List Str} {sp : Sp}
  (lk : K.lookup f = some { cls:=oc,dict:=od,data:=.func (PySem.W.fnOf name qual params body scope dV kV doc pm an cdv ct),slots:=osl }) (hcd : PySem.W.codeIn K cdv qual = true) (S : FnScope N ps scope)
  (len : ∀ (vs : List V) (H : Hp) (Q : VK) (E : XK),sp vs H Q E → vs.length = ps.length)
  (hbody : ∀ (A : Around) (outer : List Env) (s : Shared) (H : Hp) (vs : List V) (Q : VK) (E : XK),RoomG k (A.deeper (envOfC qual scope s.heap.objs.size f cdv)) → sp vs H Q E →
   ∃ t,PSs (cxOf (L2.CX P w) P w K mg base N qual scope f cdv A outer s H E) body t ∧ t { nx:=fun _ H'=>Q .non H',rt:=Q } (L2.start N vs) H) :
  FnG P w K mg base (k + 1) f (PySem.W.fnOf name qual params body scope dV kV doc pm an cdv ct) ps sp:=⟨len,fun A outer s H args us vs Q E hr e0 hb r hsp=>by
 have hl:=len vs H Q E hsp
 have KX : PySem.W.Frag.In K s.heap:=PySem.W.Frag.In.keeps e0.mod.kin fun b o e=>(e0.bs b o e).1
 have lim:=Heap.NoLimit.keeps e0.mod.nolimit fun b o e=>(e0.bs b o e).1
 have hkind : ∀ x ∈ ps.zip us,scope.names.lookup x.1 = some .local ∨ scope.names.lookup x.1 = some .cell ∧ ((cellsFrom (s.heap.objs.size + 1) scope.names []).lookup x.1).isSome = true:=fun x hy=>by
  obtain ⟨n,v⟩:=x
  rcases S.par n (List.of_mem_zip hy).1 with q | q
  ·exact .inl q
  ·exact .inr ⟨q,PySem.W.cellsFrom_some scope.names (s.heap.objs.size + 1) [] (.inl q)⟩
 refine codeAny_call_function hr.rm.depth (KX f _ lk) rfl S.co S.gen rfl (PySem.W.codeRec_of KX hcd) (hb (model P w) A.in1 _ _ ?_)
 refine wpAny_newFunctionEnv_cells S.kind hkind fun env he s1 x=>?_
 subst he
 refine ⟨Heap.NoLimit.keeps lim x.toInCall.keep,codeAny_func ?_⟩
 obtain ⟨t,ht,hq⟩:=hbody A outer s H vs Q E (hr.deeper _) hsp
 have I:=inv_start (CX:=L2.CX P w) (mg:=mg) (E:=E) S hr.rm.hd e0 hl r x
 refine wpAny_mono (ht.run [] s1 (L2.start N vs) H { nx:=fun _ H'=>Q .non H',rt:=Q } I hq) (fun fl s' hs=>?_) fun e s' hs=>hs
 cases fl with
 | next =>
  obtain ⟨σ',H',J,q⟩:=hs
  exact ⟨.non,H',J.os,J.bare,J.base,J.hok,rfl,q⟩
 | brk=>obtain ⟨_,_,_,q⟩:=hs; exact q.elim
 | cont=>obtain ⟨_,_,_,q⟩:=hs; exact q.elim
 | ret u =>
  obtain ⟨v,σ',H',J,rv,q⟩:=hs
  exact ⟨v,H',J.os,J.bare,J.base,J.hok,rv,q⟩⟩
theorem law_callG {mb : Str → Option Value} {k : Nat} {fa a : Addr} {fd : FuncData} {x : Str} {sp : Sp} {s₁ : Shared} {vs : List Value} {ns : List Int} (KX : PySem.W.Frag.In K s₁.heap) (hns : s₁.heap.Ns mainGlobals mg) (hb : s₁.heap.Ns builtinsNs mb)
  (hbb : ∀ x : Str,x ≠ "__name__" → mb x = bootBuiltins x) (hlim : s₁.heap.NoLimit) (hg : s₁.gens = #[]) (ha : s₁.heap.get? a = some { cls:=.type "list",data:=.seq vs.toArray }) (hi : IntsAre vs ns) (hl : ns.length ≤ sizeLine)
  (hr : RoomG k callerA) (F : ∀ base : Heap,PySem.W.Frag.In K base → base.Ns mainGlobals mg → FnG P w K mg base k fa fd [x] sp) (hbind : ∀ (s : Shared) (u : Value),BindsTo s fd { pos:=[u] } [(x,u)])
  (hsp : ∀ H : Hp,Only H → SqL K H a (ns.map V.int) → sp [.ref a] H (fun v _=>v = .bl true) fun _ _ _=>False) :
  codeAny (model P w) callerA (.call (.ref fa) { pos:=[.ref a] }) (fun r s'=>r = .ok (.ret (.bool true)) ∧ OldK s₁.heap s'.heap ∧ s'.os = s₁.os ∧ AllBare s'.gens) s₁:=by
 have rv:=vals_ints hi
 have lenV:=hi.length
 have core : ∀ H : Hp,Only H → SqL K H a (ns.map V.int) → HOk P w H s₁.heap → (∀ b,H b ≠ none → b = a) → (H a ≠ none → K.lookup a = none) →
   codeAny (model P w) callerA (.call (.ref fa) { pos:=[.ref a] }) (fun r s'=>r = .ok (.ret (.bool true)) ∧ OldK s₁.heap s'.heap ∧ s'.os = s₁.os ∧ AllBare s'.gens) s₁:=fun H hO hS hok hA hK=>by
  have noA : ∀ {b : Addr} {o : Obj} {es : _} {ep : _},s₁.heap.get? b = some o → o.data = .dict es ep → H b = none:=fun {b o es ep} e d=>by
   cases q : H b with
   | none=>rfl
   | some u =>
    have e':=hA b (by rw [q]; exact fun z=>nomatch z)
    subst e'
    rw [ha] at e
    cases e
    cases d
  have nsK : ∀ {b : Addr} {m : Str → Option Value},s₁.heap.Ns b m → (hidT s₁.heap H).Ns b m:=fun {b m} x=>by
   obtain ⟨o,es,ep,e,d,r⟩:=x
   exact ⟨o,es,ep,hidT_get e (noA e d),d,r⟩
  have hKb : PySem.W.Frag.In K (hidT s₁.heap H):=fun b o e=>hidT_get (KX b o e) (by
   cases q : H b with
   | none=>rfl
   | some u =>
    have e':=hA b (by rw [q]; exact fun z=>nomatch z)
    subst e'
    rw [hK (by rw [q]; exact fun z=>nomatch z)] at e
    cases e)
  have hM : L2.Mod K mg (hidT s₁.heap H):=⟨hKb,nsK hns,⟨mb,nsK hb,hbb⟩,by
   obtain ⟨mc,h1,h2⟩:=hlim
   exact ⟨mc,nsK h1,h2⟩⟩
  have e0 : Env0 P w K mg (hidT s₁.heap H) callerA [] s₁ H :=
   { frames:=rfl,mod:=hM,bs:=fun b o e=>of_hidT e,bsz:=Nat.le_of_eq (hidT_size s₁.heap H),funs:=trivial,frf:=fun b hb=>absurd hb List.not_mem_nil,hok:=hok,bare:=AllBare.of_eq hg }
  refine codeAny_mono ((F (hidT s₁.heap H) hKb (nsK hns)).run callerA [] s₁ H { pos:=[.ref a] } [.ref a] [.ref a] (fun v _=>v = .bl true) (fun _ _ _=>False) hr e0 (hbind s₁ (.ref a)) (.cons rfl .nil) (hsp H hO hS)) fun r s' h=>?_
  cases r with
  | error e =>
   obtain ⟨_,_,_,_,_,_,_,_,_,_,_,_,h⟩:=h
   exact h.elim
  | ok fl =>
   cases fl with
   | next=>exact False.elim h
   | brk=>exact False.elim h
   | cont=>exact False.elim h
   | ret u =>
    obtain ⟨v,H',os,bare,un,hok',r',q⟩:=h
    have q' : v = .bl true:=q
    subst q'
    have r2 : u = .bool true:=r'
    subst r2
    refine ⟨rfl,OldK.of_keep fun b o e=>?_,os,bare⟩
    cases q : H b with
    | none=>exact un.keep b o e q List.not_mem_nil List.not_mem_nil
    | some u =>
     rcases hO b with z | ⟨ob,xs,z⟩
     ·rw [q] at z; cases z
     ·have z2:=un.frzs b ob _ z
      have h1:=hok b _ z
      have h2:=hok' b _ z2
      obtain ⟨e1,_⟩:=h1
      obtain ⟨e2,_⟩:=h2
      rw [e] at e1
      cases e1
      exact e2
 cases hk : K.lookup a with
 | none =>
  refine core (fun b=>if b = a then some (.frz { cls:=.type "list",data:=.seq vs.toArray } (.lst (ns.map V.int))) else none) (fun b=>?_) (.inl (.inr ⟨_,if_pos rfl⟩)) (fun b u z=>?_) (fun b z=>?_) fun _=>hk
  ·by_cases hb : b = a
   ·exact .inr ⟨_,_,if_pos hb⟩
   ·exact .inl (if_neg hb)
  ·by_cases hb : b = a
   ·subst hb
    have z':=(if_pos rfl).symm.trans z
    cases z'
    exact ⟨ha,by rw [List.length_map]; exact hl,vs,0,rv,ha⟩
   ·have z':=(if_neg hb).symm.trans z
    cases z'
  ·by_cases hb : b = a
   ·exact hb
   ·exact absurd (if_neg hb) z
 | some o =>
  have e:=KX a o hk
  rw [ha] at e
  cases e
  refine core (fun _=>none) (fun _=>.inl rfl) (.inr ⟨_,vs.toArray,0,hk,rfl,rfl,rfl,?_,rv⟩) (fun b u z=>by cases z) (fun b z=>absurd rfl z) fun z=>absurd rfl z
  rw [List.size_toArray,lenV]; exact hl
end
end VL
namespace VL
open PySem PySem.Spec PyProof.Rows L2
section
variable {P : Program} {w : World} {K : PySem.W.Frag} {mg : Str → Option Value} {base : Heap}
theorem okG {x qual : Str} {st : Stmt} {f : Addr} {fd : FuncData} {N ps : List Str} {k : Nat} {sp : Sp} (Fn : Fun K x qual st f fd) (S : FnScope N ps (defScope st)) (len : ∀ (vs : List V) (H : Hp) (Q : VK) (E : XK),sp vs H Q E → vs.length = ps.length)
  (hbody : ∀ (cdv : Value),fd.code = cdv → ∀ (A : Around) (outer : List Env) (s : Shared) (H : Hp) (vs : List V) (Q : VK) (E : XK),RoomG k (A.deeper (envOfC qual (defScope st) s.heap.objs.size f cdv)) → sp vs H Q E →
   ∃ t,PSs (cxOf (L2.CX P w) P w K mg base N qual (defScope st) f cdv A outer s H E) (defBody st) t ∧ t { nx:=fun _ H'=>Q .non H',rt:=Q } (L2.start N vs) H) : FnG P w K mg base (k + 1) f fd ps sp:=by
 obtain ⟨oc,od,kV,doc,pm,an,cdv,ct,osl,rfl,lk,hcd⟩:=Fn.ex
 exact fn_ofG lk hcd S len fun A outer s H vs Q E hr hsp=>hbody cdv rfl A outer s H vs Q E hr hsp
/-- THE RULE for a def -/
theorem fn_okC {x qual : Str} {st : Stmt} {f : Addr} {fd : FuncData} {N ps : List Str} {k : Nat} {g : G} {wr : Wr} (Fn : Fun K x qual st f fd) (S : FnScope N ps (defScope st)) (hw : WOk wr)
  (hbody : ∀ (cdv : Value),fd.code = cdv → ∀ (A : Around) (outer : List Env) (s : Shared) (H : Hp) (E : XK),RoomG k (A.deeper (envOfC qual (defScope st) s.heap.objs.size f cdv)) →
   DB (cxOf (L2.CX P w) P w K mg base N qual (defScope st) f cdv A outer s H E) (fun c d _ H'=>E c d H') (defBody st) g) : FnG P w K mg base (k + 1) f fd ps (spM K ps.length (fnM N.length g wr)):=by
 refine okG Fn S (fun vs H Q E h=>h.1) fun cdv hcv A outer s H vs Q E hr h=>?_
 obtain ⟨hl,m,st,us,r,ru,p⟩:=h
 refine ⟨tG K (fun c d _ H'=>E c d H') g,(hbody cdv hcv A outer s H E hr).pss,m,_,st,r,start_env ru,?_⟩
 unfold fnM at p
 have fin : ∀ {u : U} {st' : Store},PU K m H Q E (wr st.length u st') → ∀ v m' H',RpU K m' H' u v → Rep K m' st' H' → Ext m H m' H' → Q v H':=fun {u st'} p v m' H' h1 h2 h3=>by
  have hk : st.length ≤ m'.length:=by rw [← r.len]; exact h3.pre.length_le
  have:=hw.ok K st.length u st' m' H' v h2 h1 hk
  cases e : wr st.length u st' with
  | bad=>rw [e] at p; exact p.elim
  | ex c fs s=>rw [e] at this; exact this.elim
  | ok u' s =>
   rw [e] at p this
   obtain ⟨m2,g1,g2,g3,g4⟩:=this
   refine p v m2 H' g2 g1 ⟨?_,h3.toStay.less g4⟩
   obtain ⟨t,ht⟩:=h3.pre
   have : m'.take st.length = m:=by rw [← ht,← r.len]; simp
   rw [this] at g3
   exact g3
 cases e : g (us.map some ++ List.replicate (N.length - us.length) none) st with
 | bad=>rw [e] at p; exact p
 | ex c fs env2 st2 =>
  rw [e] at p
  simp only at p
  intro d σ' m' H' h0 h1 h2 h3
  cases q : cutS st.length st2 with
  | none=>simp only [q] at p; exact p.elim
  | some s2 =>
   simp only [q] at p
   refine p d (m'.take st.length) H' (h1.cut q) (ext_cut h2 (by rw [r.len]; exact Nat.le_refl _)) ?_
   cases fs with
   | none=>cases d with
    | none=>trivial
    | some d=>exact h3.elim
   | some fs=>cases d with
    | none=>exact h3.elim
    | some d =>
     obtain ⟨vs,g1,g2,g3⟩:=h3
     exact ⟨vs,g1,fun z=>g2 (List.mem_of_mem_take z),RpF.stay ⟨fun a o n e _ _=>⟨e,fun z=>n (List.mem_of_mem_take z)⟩,fun a kvs n e=>⟨e,fun z=>n (List.mem_of_mem_take z)⟩,fun _ _ _ e=>e⟩ _ _ g3⟩
 | ok env2 fl st2 =>
  rw [e] at p
  cases fl with
  | nx=>exact fun σ' m' H' h0 h1 h2=>fin p .non m' H' rfl h1 h2
  | rt u=>exact fun v m' H' h0 h1 h2=>fin p v m' H' h0 h1 h2
  | bk=>exact p.elim
  | ct=>exact p.elim
end
section
variable {P : Program} {w : World} {K : PySem.W.Frag} {mg : Str → Option Value} {base : Heap}
theorem fn_ok {x qual : Str} {st : Stmt} {f : Addr} {fd : FuncData} {N ps : List Str} {k : Nat} {g : G} {wr : Wr} (Fn : Fun K x qual st f fd) (S : FnScope N ps (defScope st)) (hw : WOk wr)
  (hbody : ∀ (cdv : Value) (A : Around) (outer : List Env) (s : Shared) (H : Hp) (E : XK),RoomG k (A.deeper (envOfC qual (defScope st) s.heap.objs.size f cdv)) →
   DB (cxOf (L2.CX P w) P w K mg base N qual (defScope st) f cdv A outer s H E) (fun c d _ H'=>E c d H') (defBody st) g) : FnG P w K mg base (k + 1) f fd ps (spM K ps.length (fnM N.length g wr)) :=
 fn_okC Fn S hw fun cdv _ A outer s H E hr=>hbody cdv A outer s H E hr
end
structure DK (X : Cx) (W : WX) (kws : List Keyword) (f : F (List U)) : Prop where
 pk : PK X kws (tFs X.K W f)
theorem PK.imp {X : Cx} {e : List Keyword} {t t' : TA} (h : PK X e t) (i : ∀ σ H Q,t' σ H Q → t σ H Q) : PK X e t':=⟨fun pos pins s σ H Q I q=>h.run pos pins s σ H Q I (i σ H Q q)⟩
theorem dk_nil {X : Cx} {W : WX} : DK X W [] fNil:=⟨PK.imp pk_nil fun σ H Q ⟨m,env,st,r,re,p⟩=>p [] m H rfl r (Ext.refl _ _)⟩
theorem dk_cons {X : Cx} {W : WX} {nm : Option Str} {e : Expr} {kpos : Pos} {kws : List Keyword} {fe : F U} {fs : F (List U)} (he : DE X W e fe) (hs : DK X W kws fs) : DK X W ({ arg:=nm,value:=e,pos:=kpos } :: kws) (fCons fe fs) :=
 ⟨PK.imp (pk_cons he.pe hs.pk) fun σ H Q ⟨m,env,st,r,re,p⟩=>tF_step r re p fun u st1 v m1 H1 h1 r1 re1 e1 p1=>tFs_step r1 re1 p1 fun us st2 vs m2 H2 h2 r2 re2 e2 p2 =>
  p2 (v :: vs) m2 H2 ⟨v,vs,rfl,h1.ext e2,h2⟩ r2 (Ext.refl _ _)⟩
noncomputable def fCW (f g : F (List U)) : F (List U × List U):=bnd f fun us=>bnd g fun ws=>fPure (us,ws)
noncomputable def rel2 (K : PySem.W.Frag) (m : List Addr) (H : Hp) (a : List U × List U) (b : List V × List V) : Prop:=RpUs K m H a.1 b.1 ∧ RpUs K m H a.2 b.2
noncomputable def tFs2 (K : PySem.W.Frag) (W : WX) (f : F (List U × List U)) (σ : L2.St) (H : Hp) (Z : List V × List V → Hp → Prop) : Prop:=∃ m env st,Rep K m st H ∧ RpEnv K m H env σ ∧ PO' K m H (rel2 K) Z (fun c d H'=>W c d σ H') (f env st)
theorem tFs2_step {K : PySem.W.Frag} {W : WX} {m : List Addr} {env : VEnv} {st : Store} {H : Hp} {σ : L2.St} {γ δ : Type} {rel : List Addr → Hp → γ → δ → Prop} {Q : δ → Hp → Prop} {f : F (List U × List U)} {g : List U × List U → F γ} {Z : List V × List V → Hp → Prop}
  (r : Rep K m st H) (re : RpEnv K m H env σ) (p : PO' K m H rel Q (fun c d H'=>W c d σ H') (bnd f g env st))
  (h : ∀ a st1 v m1 H1,rel2 K m1 H1 a v → Rep K m1 st1 H1 → RpEnv K m1 H1 env σ → Ext m H m1 H1 → PO' K m1 H1 rel Q (fun c d H'=>W c d σ H') (g a env st1) → Z v H1) : tFs2 K W f σ H Z :=
 ⟨m,env,st,r,re,by
  unfold bnd at p
  cases e : f env st with
  | ok a st1=>rw [e] at p; exact fun v m1 H1 h1 h2 h3=>h a st1 v m1 H1 h1 h2 (re.ext h3) h3 (p.from h3)
  | ex c fs st1=>rw [e] at p; exact p
  | bad=>rw [e] at p; exact p.elim⟩
/-- a call's arguments,by place and by name -/
structure DCW (X : Cx) (W : WX) (pos : Pos) (args : List Expr) (kws : List Keyword) (ks : List Str) (f : F (List U × List U)) : Prop where
 run : ∀ (pins : List (Addr × Obj)) (s : Shared) (σ : L2.St) (H : Hp) (c : Value) (first : List Value) (Q : Value → Shared → Prop) (Z : List V × List V → Hp → Prop),Inv X pins σ H s → PySem.W.keepIn X.K c = true → tFs2 X.K W f σ H Z →
  (∀ (vs zs : List V) (us ws : List Value) (H' : Hp) (s' : Shared),Inv X pins σ H' s' → Vals vs us → Vals zs ws → Z (vs,zs) H' → wpAny (model X.prog X.w) X.A (call c (first ++ us) (ks.zip ws)) Q X.xe s') →
  wpAny (model X.prog X.w) X.A (callWith pos c first (backTo pos (starEach args X.env)) (backToKw pos (keywordEach kws X.env))) Q X.xe s
section
variable {X : Cx} {W : WX} {e : Expr} {es : List Expr} {kws : List Keyword} {ks : List Str} {fs fk : F (List U)} {pos : Pos}
theorem split2 {σ : L2.St} {H : Hp} {Z : List V × List V → Hp → Prop} (h : tFs2 X.K W (fCW fs fk) σ H Z) : tFs X.K W fs σ H fun vs H1=>tFs X.K W fk σ H1 fun zs H2=>Z (vs,zs) H2:=by
 obtain ⟨m,env,st,r,re,p⟩:=h
 exact tFs_step r re p fun us st1 vs m1 H1 h1 r1 re1 e1 p1=>tFs_step r1 re1 p1 fun ws st2 zs m2 H2 h2 r2 re2 e2 p2=>p2 (vs,zs) m2 H2 ⟨h1.ext e2,h2⟩ r2 (Ext.refl _ _)
theorem tNilF {σ : L2.St} {H : Hp} {Z : List V → Hp → Prop} (h : tFs X.K W fNil σ H Z) : Z [] H:=by
 obtain ⟨m,env,st,r,re,p⟩:=h
 exact p [] m H rfl r (Ext.refl _ _)
theorem cw_pos (ha : DA X W (e :: es) fs) (he : starEach (e :: es) X.env = (false,eval e X.env) :: starEach es X.env:=by rfl) (hpl : (backTo pos (starEach es X.env)).any (·.1) = false:=by rfl) : DCW X W pos (e :: es) [] [] (fCW fs fNil) :=
 ⟨fun pins s σ H c first Q Z I hk t k=>PySem.W.callWith_K (Mod.kin I.ok.mod) hk (thn (ha.pa.run pos pins s σ H _ I (split2 t)) fun us s1 ⟨vs,H1,I1,rv,q⟩=>⟨I1.kIn,k vs [] us [] H1 s1 I1 rv .nil (tNilF q)⟩) he hpl⟩
theorem cw_kw (ha : DA X W (e :: es) fs) (hk : DK X W kws fk) (h1 : (backToKw pos (keywordEach kws X.env)).all (fun x=>x.1.isSome) = true:=by rfl) (h2 : (backToKw pos (keywordEach kws X.env)).filterMap (·.1) = ks:=by rfl)
  (h3 : ((backTo pos (starEach (e :: es) X.env)).any (·.1) || (backToKw pos (keywordEach kws X.env)).any (fun x=>x.1.isNone)) = false:=by rfl) (he : starEach (e :: es) X.env = (false,eval e X.env) :: starEach es X.env:=by rfl) : DCW X W pos (e :: es) kws ks (fCW fs fk) :=
 ⟨fun pins s σ H c first Q Z I hkp t k=>PySem.W.callWith_KW (Mod.kin I.ok.mod) hkp h1 (thn (ha.pa.run pos pins s σ H _ I (split2 t)) fun us s1 ⟨vs,H1,I1,rv,q⟩ =>
  thn (hk.pk.run pos pins s1 σ H1 _ I1 q) fun ws s2 ⟨zs,H2,I2,rz,q2⟩=>⟨I2.kIn,by rw [h2]; exact k vs zs us ws H2 s2 I2 rv rz q2⟩) h3 he⟩
end
structure Bd (K : PySem.W.Frag) (fd : FuncData) (ps : List Str) (n : Nat) (ks : List Str) (g : List Value → List Value → List Value) (gV : List V → List V → List V) (gU : List U → List U → List U) : Prop where
 to : ∀ (s : Shared) (us ws : List Value),PySem.W.Frag.In K s.heap → us.length = n → ws.length = ks.length → BindsTo s fd { pos:=us,kw:=ks.zip ws } (ps.zip (g us ws))
 relV : ∀ {vs : List V} {us : List Value} {zs : List V} {ws : List Value},vs.length = n → zs.length = ks.length → Vals vs us → Vals zs ws → Vals (gV vs zs) (g us ws)
 relU : ∀ {m : List Addr} {H : Hp} {us ws : List U} {vs zs : List V},us.length = n → ws.length = ks.length → RpUs K m H us vs → RpUs K m H ws zs → RpUs K m H (gU us ws) (gV vs zs)
 len : ∀ {us ws : List U},us.length = n → ws.length = ks.length → (gU us ws).length = ps.length
noncomputable def gPos {α : Type} (us _ws : List α) : List α:=us
theorem bd_pos {K : PySem.W.Frag} {fd : FuncData} {ps : List Str} (b : Binds K fd ps []) : Bd K fd ps ps.length [] gPos gPos gPos :=
 ⟨fun s us ws KX h1 h2=>by
  have:=b s us KX (by rw [List.append_nil]; exact h1)
  rw [List.append_nil] at this
  exact this,fun _ _ r _=>r,fun _ _ r _=>r,fun h _=>h⟩
/-- a def as its callers see it -/
structure Fd (P : Program) (w : World) (K : PySem.W.Frag) (mg : Str → Option Value) (base : Heap) (f : Addr) (k n : Nat) (ks : List Str) (gU : List U → List U → List U) (mf : List U → M U) : Prop where
 run : ∀ (A : Around) (outer : List Env) (s : Shared) (H : Hp) (us ws : List Value) (vs zs : List V) (m : List Addr) (st : Store) (as bs : List U) (Q : VK) (E : XK),RoomG k A → Env0 P w K mg base A outer s H → Vals vs us → Vals zs ws →
  Rep K m st H → RpUs K m H as vs → RpUs K m H bs zs → as.length = n → bs.length = ks.length → PU K m H Q E (mf (gU as bs) st) →
  codeAny (model P w) A (.call (.ref f) { pos:=us,kw:=ks.zip ws }) (CR (L2.CX P w) outer P w H s Q E) s
theorem env0_in {P : Program} {w : World} {K : PySem.W.Frag} {mg : Str → Option Value} {base : Heap} {A : Around} {outer : List Env} {s : Shared} {H : Hp} (e0 : Env0 P w K mg base A outer s H) : PySem.W.Frag.In K s.heap :=
 PySem.W.Frag.In.keeps e0.mod.kin fun b o e=>(e0.bs b o e).1
theorem Fd.of {P : Program} {w : World} {K : PySem.W.Frag} {mg : Str → Option Value} {base : Heap} {f : Addr} {k n : Nat} {ks : List Str} {gU : List U → List U → List U} {mf : List U → M U} {fd : FuncData} {ps : List Str} {g : List Value → List Value → List Value} {gV : List V → List V → List V}
  (F : FnG P w K mg base k f fd ps (spM K ps.length mf)) (b : Bd K fd ps n ks g gV gU) : Fd P w K mg base f k n ks gU mf:=⟨fun A outer s H us ws vs zs m st as bs Q E hr e0 rv rz r ra rb la lb h=>by
 have l1 : vs.length = n:=ra.length.trans la
 have l2 : zs.length = ks.length:=rb.length.trans lb
 have rg:=b.relU la lb ra rb
 exact F.run A outer s H { pos:=us,kw:=ks.zip ws } (g us ws) (gV vs zs) Q E hr e0 (b.to s us ws (env0_in e0) (by rw [← l1]; exact (Vals.length rv).symm) (by rw [← l2]; exact (Vals.length rz).symm)) (b.relV l1 l2 rv rz)
  ⟨rg.length.trans (b.len la lb),m,st,gU as bs,r,rg,h⟩⟩
theorem Fd.mono {P : Program} {w : World} {K : PySem.W.Frag} {mg : Str → Option Value} {base : Heap} {f : Addr} {j k n : Nat} {ks : List Str} {gU : List U → List U → List U} {mf : List U → M U} (h : Fd P w K mg base f j n ks gU mf) (hk : j ≤ k) : Fd P w K mg base f k n ks gU mf :=
 ⟨fun A outer s H us ws vs zs m st as bs Q E hr=>h.run A outer s H us ws vs zs m st as bs Q E (hr.mono hk)⟩
section
variable {X : Cx} {W : WX}
theorem run_g {k n : Nat} {f : Addr} {ks : List Str} {gU : List U → List U → List U} {mf : List U → M U} {pins : List (Addr × Obj)} {σ : L2.St} {H : Hp} {s : Shared} {Q : VK} {us ws : List Value} {vs zs : List V} {m : List Addr} {st : Store} {as bs : List U} (F : Fd X.prog X.w X.K X.mg X.base f k n ks gU mf) (hr : RoomG k X.A) (tk : Takes X W) (I : Inv X pins σ H s)
  (rv : Vals vs us) (rz : Vals zs ws) (r : Rep X.K m st H) (ra : RpUs X.K m H as vs) (rb : RpUs X.K m H bs zs) (la : as.length = n) (lb : bs.length = ks.length) (h : PU X.K m H Q (fun c d H'=>W c d σ H') (mf (gU as bs) st)) :
  wpAny (model X.prog X.w) X.A (call (.ref f) us (ks.zip ws)) (EP X pins σ Q) X.xe s:=by
 refine wpAny_call (codeAny_mono (F.run X.A X.stack s H us ws vs zs m st as bs Q (fun c d H'=>W c d σ H') hr I.env0 rv rz r ra rb la lb h) fun r s' hq=>?_)
 cases r with
 | error e=>exact passAt tk σ pins H s e s' I hq
 | ok fl =>
  cases fl with
  | next=>exact False.elim hq
  | brk=>exact False.elim hq
  | cont=>exact False.elim hq
  | ret u=>exact Inv.after I hq
noncomputable def fCall (n m : Nat) (gU : List U → List U → List U) (mf : List U → M U) (f : F (List U × List U)) : F U:=bnd f fun p=>fun _ st=>if p.1.length = n ∧ p.2.length = m then mf (gU p.1 p.2) st else .bad
/-- f(..) -/
theorem d_call {x : Str} {p pos : Pos} {args : List Expr} {kws : List Keyword} {ks : List Str} {k n : Nat} {f : Addr} {gU : List U → List U → List U} {mf : List U → M U} {fc : F (List U × List U)} (Fn : Fd X.prog X.w X.K X.mg X.base f k n ks gU mf) (hm : X.mg x = some (.ref f)) (hk : PySem.W.keepIn X.K (.ref f) = true) (hr : RoomG k X.A) (tk : Takes X W) (ha : DCW X W pos args kws ks fc)
  (hg : Gl X x:=by rfl) (hdb : (x == ("__debug__" : Str)) = false:=by decide) : DE X W (.Call (.Name x p) args kws pos) (fCall n ks.length gU mf fc) :=
 ⟨⟨fun pins s σ H Q I q=>wpAny_Call_Name_kw (ld_glob I hg hm (by
  obtain ⟨m,env,st,r,re,p⟩:=q
  refine ha.run pins s σ H (.ref f) [] _ (fun v H1=>∃ m1 st1 as bs,Rep X.K m1 st1 H1 ∧ RpUs X.K m1 H1 as v.1 ∧ RpUs X.K m1 H1 bs v.2 ∧ as.length = n ∧ bs.length = ks.length ∧ PU X.K m1 H1 Q (fun c d H'=>W c d σ H') (mf (gU as bs) st1)) I hk (tFs2_step r re p fun a st1 v m1 H1 h1 r1 re1 e1 p1=>?_) ?_
  ·by_cases hl : a.1.length = n ∧ a.2.length = ks.length
   ·rw [if_pos hl] at p1
    exact ⟨m1,st1,a.1,a.2,r1,h1.1,h1.2,hl.1,hl.2,p1⟩
   ·rw [if_neg hl] at p1; exact p1.elim
  ·rintro vs zs us ws H' s' I' rv rz ⟨m1,st1,as,bs,r1,h1,h2,la,lb,p1⟩
   exact run_g Fn hr tk I' rv rz r1 h1 h2 la lb p1) hdb)⟩⟩
theorem run_makeG {k n : Nat} {f C : Addr} {ks : List Str} {gU : List U → List U → List U} {mf : List U → M U} {pins : List (Addr × Obj)} {σ : L2.St} {H : Hp} {s : Shared} {Q : VK} {us ws : List Value} {vs zs : List V} {m : List Addr} {st : Store} {as bs : List U} (Mc : Mk X.K C f) (F : Fd X.prog X.w X.K X.mg X.base f k (n + 1) ks gU mf) (hr : RoomG (k + 1) X.A) (tk : Takes X W) (I : Inv X pins σ H s)
  (rv : Vals vs us) (rz : Vals zs ws) (r : Rep X.K m st H) (ra : RpUs X.K m H as vs) (rb : RpUs X.K m H bs zs) (la : as.length = n) (lb : bs.length = ks.length)
  (h : PU X.K m H Q (fun c d H'=>W c d σ H') (match mf (gU (.ref st.length :: as) bs) (st ++ [.ins C []]) with
   | .ok (.d .non) st'=>.ok (.ref st.length) st'
   | .ok _ _=>.bad
   | .ex c fs st'=>.ex c fs st'
   | .bad=>.bad)) :
  wpAny (model X.prog X.w) X.A (call (.ref C) us (ks.zip ws)) (EP X pins σ Q) X.xe s:=by
 have nx : H (s.heap.objs.size + 1) = none:=HOk.fresh I.hok (Nat.le_succ _)
 have nd : H s.heap.objs.size = none:=HOk.fresh I.hok (Nat.le_refl _)
 have ne : s.heap.objs.size ≠ s.heap.objs.size + 1:=Nat.ne_of_lt (Nat.lt_succ_self _)
 have I2:=Inv.made (C:=C) I
 have e1:=ext_new r nd (.own (s.heap.objs.size + 1))
 have r1:=r.new nd (.own (s.heap.objs.size + 1))
 have nx1 : (upd H s.heap.objs.size (.own (s.heap.objs.size + 1))) (s.heap.objs.size + 1) = none:=by rw [upd_ne ne.symm]; exact nx
 have e2:=ext_push r1 nx1 (.ins C s.heap.objs.size [])
 have r2:=r1.push nx1 (c:=.ins C []) (o:=.ins C s.heap.objs.size []) ⟨_,[],rfl,rfl⟩
 have e12:=e1.trans e2
 have l1 : vs.length = n:=ra.length.trans la
 have l2 : zs.length = ks.length:=rb.length.trans lb
 have rx : RpUs X.K (m ++ [s.heap.objs.size + 1]) (upd (upd H s.heap.objs.size (.own (s.heap.objs.size + 1))) (s.heap.objs.size + 1) (.ins C s.heap.objs.size [])) (.ref st.length :: as) (.ref (s.heap.objs.size + 1) :: vs):=⟨_,_,rfl,⟨_,by rw [← r.len]; simp,rfl⟩,ra.ext e12⟩
 refine wpAny_call (make_map I.kIn Mc.makes Mc.init (beq_iff_eq.mp Mc.fn) (codeAny_mono (F.run _ X.stack _ _ (.ref (s.heap.objs.size + 1) :: us) ws (.ref (s.heap.objs.size + 1) :: vs) zs _ _ (.ref st.length :: as) bs (fun v H2=>v = .non ∧ Q (.ref (s.heap.objs.size + 1)) H2) (fun c d H'=>W c d σ H')
  (hr.make C us _) (Env0.make I2.env0 C us _) (.cons rfl rv) rz r2 rx (rb.ext e12) (by rw [List.length_cons,la]) lb ?_) fun r s' hq=>?_))
 ·cases e : mf (gU (.ref st.length :: as) bs) (st ++ [.ins C []]) with
  | bad=>rw [e] at h; exact h.elim
  | ex c fs st'=>rw [e] at h; exact fun d m' H' g1 g2 g3=>h d m' H' g1 (e12.trans g2) g3
  | ok u st' =>
   rw [e] at h
   intro v m' H' g1 g2 g3
   split at h
   ·rename_i st'' he
    cases he
    cases g1
    refine ⟨rfl,h (.ref (s.heap.objs.size + 1)) m' H' ⟨_,pre_get g3.pre ?_,rfl⟩ g2 (e12.trans g3)⟩
    rw [← r.len]; simp
   ·exact h.elim
   ·rename_i he; cases he
   ·rename_i he; cases he
 ·cases r with
  | error e=>exact passAt tk σ pins _ _ e s' I2 hq
  | ok fl =>
   cases fl with
   | next=>exact False.elim hq
   | brk=>exact False.elim hq
   | cont=>exact False.elim hq
   | ret u =>
    obtain ⟨v,H',I3,rv,ev,q3⟩:=Inv.after I2 hq
    subst ev
    exact ⟨rv,.ref (s.heap.objs.size + 1),H',I3,rfl,q3⟩
noncomputable def fMake (C : Addr) (n m : Nat) (gU : List U → List U → List U) (mf : List U → M U) (f : F (List U × List U)) : F U:=bnd f fun p=>fun _ st=>if p.1.length = n ∧ p.2.length = m then (match mf (gU (.ref st.length :: p.1) p.2) (st ++ [.ins C []]) with
   | .ok (.d .non) st'=>.ok (.ref st.length) st'
   | .ok _ _=>.bad
   | .ex c fs st'=>.ex c fs st'
   | .bad=>.bad) else .bad
theorem d_make {x : Str} {p pos : Pos} {args : List Expr} {kws : List Keyword} {ks : List Str} {k n : Nat} {f C : Addr} {gU : List U → List U → List U} {mf : List U → M U} {fc : F (List U × List U)} (Mc : Mk X.K C f) (Fn : Fd X.prog X.w X.K X.mg X.base f k (n + 1) ks gU mf) (hm : X.mg x = some (.ref C)) (hr : RoomG (k + 1) X.A) (tk : Takes X W) (ha : DCW X W pos args kws ks fc)
  (hg : Gl X x:=by rfl) (hdb : (x == ("__debug__" : Str)) = false:=by decide) : DE X W (.Call (.Name x p) args kws pos) (fMake C n ks.length gU mf fc) :=
 ⟨⟨fun pins s σ H Q I q=>wpAny_Call_Name_kw (ld_glob I hg hm (by
  obtain ⟨m,env,st,r,re,p⟩:=q
  refine ha.run pins s σ H (.ref C) [] _ (fun v H1=>∃ m1 st1 as bs,Rep X.K m1 st1 H1 ∧ RpUs X.K m1 H1 as v.1 ∧ RpUs X.K m1 H1 bs v.2 ∧ as.length = n ∧ bs.length = ks.length ∧ PU X.K m1 H1 Q (fun c d H'=>W c d σ H') (match mf (gU (.ref st1.length :: as) bs) (st1 ++ [.ins C []]) with
   | .ok (.d .non) st'=>.ok (.ref st1.length) st'
   | .ok _ _=>.bad
   | .ex c fs st'=>.ex c fs st'
   | .bad=>.bad)) I Mc.kp (tFs2_step r re p fun a st1 v m1 H1 h1 r1 re1 e1 p1=>?_) ?_
  ·by_cases hl : a.1.length = n ∧ a.2.length = ks.length
   ·rw [if_pos hl] at p1
    exact ⟨m1,st1,a.1,a.2,r1,h1.1,h1.2,hl.1,hl.2,p1⟩
   ·rw [if_neg hl] at p1; exact p1.elim
  ·rintro vs zs us ws H' s' I' rv rz ⟨m1,st1,as,bs,r1,h1,h2,la,lb,p1⟩
   exact run_makeG Mc Fn hr tk I' rv rz r1 h1 h2 la lb p1) hdb)⟩⟩
/-- an instance's class and fields -/
noncomputable def insU (st : Store) : U → Option (Addr × List (Str × U))
 | .d (.ins C fs)=>some (C,fs.map fun p=>(p.1,.d p.2))
 | .ref n=>match st[n]? with
  | some (.ins C us)=>some (C,us)
  | _=>none
 | _=>none
end
section
variable {K : PySem.W.Frag} {m : List Addr} {H : Hp} {st : Store}
theorem RpUF.ofD : ∀ {ds : List (Str × D)} {vs : List (Str × V)},RpF K m H ds vs → RpUF K m H (ds.map fun p=>(p.1,.d p.2)) vs
 | [],_,h=>h
 | (k,d) :: ds,_,⟨v,r,e,h1,h2⟩=>⟨v,r,e,h1,RpUF.ofD h2⟩
theorem RpUF.lookup {f : Str} : ∀ {us : List (Str × U)} {vs : List (Str × V)},RpUF K m H us vs → match us.lookup f with | some u=>∃ v,vs.lookup f = some v ∧ RpU K m H u v | none=>vs.lookup f = none
 | [],_,h=>by cases h; exact rfl
 | (k,u) :: us,_,⟨v,r,e,h1,h2⟩=>by
  subst e
  have ih:=RpUF.lookup (f:=f) h2
  rw [List.lookup_cons,List.lookup_cons]
  by_cases e : (f == k) = true
  ·rw [e]; exact ⟨v,rfl,h1⟩
  ·rw [Bool.not_eq_true] at e; rw [e]; exact ih
theorem insU_rp (r : Rep K m st H) {u : U} {v : V} {C : Addr} {us : List (Str × U)} (h : RpU K m H u v) (e : insU st u = some (C,us)) : ∃ a dx vs,v = .ref a ∧ H a = some (.ins C dx vs) ∧ RpUF K m H us vs:=by
 cases u with
 | ref n =>
  obtain ⟨a,ha,rfl⟩:=h
  simp only [insU] at e
  split at e
  ·rename_i C' us' hs
   cases e
   obtain ⟨ho,h1,dx,vs,e2,h2⟩:=r.cell n _ a hs ha
   subst e2
   exact ⟨a,dx,vs,rfl,h1,h2⟩
  ·cases e
 | d x =>
  cases x with
  | ins C' fs =>
   obtain ⟨a,dx,vs,rfl,t,q⟩:=h
   cases e
   exact ⟨a,dx,vs,rfl,t.2,RpUF.ofD q⟩
  | _=>cases e
end
section
variable {X : Cx} {W : WX} {o e : Expr} {fo fe : F U} {pos apos cpos : Pos} {f : Str}
noncomputable def fMeth (C : Addr) (nm : Str) (n m : Nat) (gU : List U → List U → List U) (mf : List U → M U) (fo : F U) (fc : F (List U × List U)) : F U:=bnd fo fun u=>fun env st=>match insU st u with
 | some (C',us)=>if C' = C ∧ us.lookup nm = none then bnd fc (fun p=>fun _ st=>if p.1.length = n ∧ p.2.length = m then mf (gU (u :: p.1) p.2) st else .bad) env st else .bad
 | none=>.bad
/-- o.m(..) -/
theorem d_meth {nm : Str} {args : List Expr} {kws : List Keyword} {ks : List Str} {k n : Nat} {g C : Addr} {gU : List U → List U → List U} {mf : List U → M U} {fc : F (List U × List U)} {pl : Sem Bool} (ho : DE X W o fo) (hC : Cls X.K C) (hM : Meth X.K C nm g) (Fn : Fd X.prog X.w X.K X.mg X.base g k (n + 1) ks gU mf) (hr : RoomG k X.A) (tk : Takes X W) (ha : DCW X W cpos args kws ks fc)
  (hev : eval (.Call (.Attribute o nm apos) args kws cpos) X.env = (do
     let ov ← eval o X.env
     standAt (Pos.atName apos)
     let __x ← holding [ov] (getMethod ov nm pl)
     match __x with
      | (f,first)=>callWith cpos f first (backTo cpos (starEach args X.env)) (backToKw cpos (keywordEach kws X.env))):=by rfl) :
  DE X W (.Call (.Attribute o nm apos) args kws cpos) (fMeth C nm n ks.length gU mf fo fc) :=
 ⟨⟨fun pins s σ H Q I q=>PySem.W.methodCall_KW (by
  obtain ⟨m,env,st,r,re,p⟩:=q
  refine thn (ho.pe.run pins s σ H (fun x H1=>∃ a dx vs,x = .ref a ∧ H1 a = some (.ins C dx vs) ∧ vs.lookup nm = none ∧ tFs2 X.K W fc σ H1 fun v H2=>∃ m2 st2 u as bs,Rep X.K m2 st2 H2 ∧ RpU X.K m2 H2 u x ∧ RpUs X.K m2 H2 as v.1 ∧ RpUs X.K m2 H2 bs v.2 ∧ as.length = n ∧ bs.length = ks.length ∧ PU X.K m2 H2 Q (fun c d H'=>W c d σ H') (mf (gU (u :: as) bs) st2)) I (tF_step r re p fun u st1 v m1 H1 h1 r1 re1 e1 p1=>?_)) ?_
  ·split at p1
   ·rename_i C' us hi
    split at p1
    ·rename_i hc
     obtain ⟨a,dx,vs,rfl,ha,rf⟩:=insU_rp r1 h1 hi
     have hlk:=rf.lookup (f:=nm)
     rw [hc.2] at hlk
     rw [hc.1] at ha
     refine ⟨a,dx,vs,rfl,ha,hlk,tFs2_step r1 re1 p1 fun b st2 w m2 H2 h2 r2 re2 e2 p2=>?_⟩
     by_cases hl : b.1.length = n ∧ b.2.length = ks.length
     ·rw [if_pos hl] at p2
      exact ⟨m2,st2,u,b.1,b.2,r2,h1.ext e2,h2.1,h2.2,hl.1,hl.2,p2⟩
     ·rw [if_neg hl] at p2; exact p2.elim
    ·exact p1.elim
   ·exact p1.elim
  ·rintro ov s1 ⟨x,H1,I1,rx,a,dx,vs,rfl,hins,hlk,ht⟩
   cases rx
   refine getmeth_ok I1 hins hC hM hlk ?_
   refine ha.run pins s1 σ H1 (.ref g) [.ref a] _ _ I1 hM.kp ht ?_
   rintro vs' zs us ws H' s' I' rv rz ⟨m2,st2,u,as,bs,r2,ru,h1,h2,la,lb,p2⟩
   exact run_g (vs:=.ref a :: vs') (as:=u :: as) Fn hr tk I' (.cons rfl rv) rz r2 ⟨_,_,rfl,ru,h1⟩ h2 (by rw [List.length_cons,la]) lb p2) hev⟩⟩
noncomputable def Flds (K : PySem.W.Frag) (cs : List Addr) (f : Str) : Prop:=∀ C ∈ cs,Cls K C ∧ NoAttr K C f
noncomputable def oFld (cs : List Addr) (f : Str) (u : U) (st : Store) : Option U:=match insU st u with
 | some (C,us)=>if C ∈ cs then us.lookup f else none
 | none=>none
noncomputable def fFld (cs : List Addr) (f : Str) (fo : F U) : F U:=f1 (oFld cs f) fo
theorem d_fld {cs : List Addr} (ho : DE X W o fo) (hc : Flds X.K cs f) (hb : attributeBase o f X.env (eval o X.env) = eval o X.env:=by rfl) : DE X W (.Attribute o f pos) (fFld cs f fo) :=
 ⟨PE.imp (pe_fld ho.pe hb) fun σ H Q ⟨m,env,st,r,re,p⟩=>tF_step (f:=fo) (g:=fun a=>fun _ st=>.of st (oFld cs f a st)) (rel:=RpU X.K) (Q:=Q) r re p fun u st1 v m1 H1 h1 r1 re1 e1 p1=>by
  cases e : oFld cs f u st1 with
  | none=>rw [e] at p1; exact False.elim p1
  | some w =>
   rw [e] at p1
   unfold oFld at e
   split at e
   ·rename_i C us hi
    split at e
    ·rename_i hC
     obtain ⟨a,dx,vs,rfl,ha,rf⟩:=insU_rp r1 h1 hi
     have hlk:=rf.lookup (f:=f)
     rw [e] at hlk
     obtain ⟨x,hx,rx⟩:=hlk
     exact ⟨a,C,dx,vs,x,rfl,ha,(hc C hC).1,(hc C hC).2,hx,p1 x m1 H1 rx r1 (Ext.refl _ _)⟩
    ·cases e
   ·cases e⟩
noncomputable def putFU (f : Str) (u : U) : List (Str × U) → List (Str × U)
 | []=>[(f,u)]
 | (k,w) :: r=>if k = f then (k,u) :: r else (k,w) :: putFU f u r
theorem RpUF.put {K : PySem.W.Frag} {m : List Addr} {H : Hp} {f : Str} {w : U} {x : V} (hw : RpU K m H w x) : ∀ {us : List (Str × U)} {vs : List (Str × V)},RpUF K m H us vs → RpUF K m H (putFU f w us) (putF f x vs)
 | [],_,h=>by rw [show _ = [] from h]; exact ⟨x,[],rfl,hw,rfl⟩
 | (k,u) :: us,_,⟨v,r,e,h1,h2⟩=>by
  subst e
  unfold putFU putF
  by_cases hk : k = f
  ·rw [if_pos hk,if_pos hk]; exact ⟨x,r,rfl,hw,h2⟩
  ·rw [if_neg hk,if_neg hk]; exact ⟨v,_,rfl,h1,RpUF.put hw h2⟩
theorem RpUF.length {K : PySem.W.Frag} {m : List Addr} {H : Hp} : ∀ {us : List (Str × U)} {vs : List (Str × V)},RpUF K m H us vs → vs.length = us.length
 | [],_,h=>by rw [show _ = [] from h]; rfl
 | (k,u) :: us,_,⟨v,r,e,h1,h2⟩=>by rw [e,List.length_cons,List.length_cons,RpUF.length h2]
noncomputable def setFld (cs : List Addr) (f : Str) (u o : U) (st : Store) : Option Store:=match o with
 | .ref n=>match st[n]? with
  | some (.ins C us)=>if C ∈ cs ∧ us.length < 1000 then some (st.set n (.ins C (putFU f u us))) else none
  | _=>none
 | _=>none
noncomputable def sFldS (cs : List Addr) (f : Str) (fo fe : F U) : G:=bndS fe fun u=>bndS fo fun o=>fun env st=>match setFld cs f u o st with
 | some st'=>.ok env .nx st'
 | none=>.bad
theorem ds_fld {cs : List Addr} {pos' : Pos} (ho : DE X W o fo) (he : DE X W e fe) (hc : Flds X.K cs f) (hs : swapsWith e (some (.Attribute o f pos')) pos.line X.env = pure false:=by rfl) : DS X W (.Assign [.Attribute o f pos'] e pos) (sFldS cs f fo fe) :=
 ⟨PS.imp (ps_fld ho.pe he.pe hs) fun D σ H ⟨m,env,st,r,re,p⟩=>sF_step r re p fun u st1 v m1 H1 h1 r1 re1 e1 p1=>sF_step r1 re1 p1 fun w st2 x m2 H2 h2 r2 re2 e2 p2=>by
  cases q : setFld cs f u w st2 with
  | none=>rw [q] at p2; exact False.elim p2
  | some st3 =>
   rw [q] at p2
   unfold setFld at q
   split at q
   ·rename_i n
    split at q
    ·rename_i C us hs
     split at q
     ·rename_i hC
      cases q
      obtain ⟨a,ha,rfl⟩:=h2
      obtain ⟨ho,g1,dx,vs,g2,g3⟩:=r2.cell n _ a hs ha
      subst g2
      have ma : a ∈ m2:=List.mem_of_getElem? ha
      have ew:=ext_write (H:=H2) ma (.ins C dx (putF f v vs)) (nf_i g1)
      exact ⟨a,C,dx,vs,rfl,g1,(hc C hC.1).1,(hc C hC.1).2,by rw [g3.length]; exact hC.2,p2 σ m2 _ (re2.ext ew) (r2.write ha ⟨dx,_,rfl,(g3.put (h1.ext e2)).ext ew⟩ (nf_i g1)) ew⟩
     ·cases q
    ·cases q
   ·cases q⟩
noncomputable def fWr (w : Wr) (f : F U) : F U:=fun env st=>match f env st with
 | .ok u st'=>w st.length u st'
 | r=>r
theorem d_wr {w : Wr} (hw : WOk w) (he : DE X W e fe) : DE X W e (fWr w fe):=⟨PE.imp he.pe fun σ H Q ⟨m,env,st,r,re,p⟩=>⟨m,env,st,r,re,by
 unfold fWr at p
 cases e : fe env st with
 | bad=>rw [e] at p; exact p
 | ex c fs st'=>rw [e] at p; exact p
 | ok u st' =>
  rw [e] at p
  simp only at p
  intro v m' H' h1 h2 h3
  have hk : st.length ≤ m'.length:=by rw [← r.len]; exact h3.pre.length_le
  have:=hw.ok X.K st.length u st' m' H' v h2 h1 hk
  cases q : w st.length u st' with
  | bad=>rw [q] at p; exact p.elim
  | ex c fs s=>rw [q] at this; exact this.elim
  | ok u' s =>
   rw [q] at p this
   obtain ⟨m2,g1,g2,g3,g4⟩:=this
   refine p v m2 H' g2 g1 ⟨?_,h3.toStay.less g4⟩
   obtain ⟨t,ht⟩:=h3.pre
   have : m'.take st.length = m:=by rw [← ht,← r.len]; simp
   rw [this] at g3
   exact g3⟩⟩
end
end VL
namespace VL
open PySem PySem.Spec PyProof.Rows L2
noncomputable def putD (kvs : List (Key × D)) (k : Key) (v : D) : List (Key × D) :=
 if (kvs.any fun kv=>decide (kv.1 = k)) = true then kvs.map fun kv=>if kv.1 = k then (kv.1,v) else kv else kvs ++ [(k,v)]
section
variable {K : PySem.W.Frag} {m : List Addr} {H : Hp} {st : Store}
theorem RpK.any {k : Key} : ∀ {us : List (Key × D)} {vs : List (Key × V)},RpK K m H us vs → (us.any fun kv=>decide (kv.1 = k)) = (vs.any fun kv=>decide (kv.1 = k))
 | [],_,h=>by rw [show _ = [] from h]; rfl
 | (k',u) :: us,_,⟨v,r,e,h1,h2⟩=>by subst e; rw [List.any_cons,List.any_cons,RpK.any h2]
theorem RpK.mapP {k : Key} {w : D} {x : V} (hw : RpD K m H w x) : ∀ {us : List (Key × D)} {vs : List (Key × V)},RpK K m H us vs → RpK K m H (us.map fun kv=>if kv.1 = k then (kv.1,w) else kv) (vs.map fun kv=>if kv.1 = k then (kv.1,x) else kv)
 | [],_,h=>by rw [show _ = [] from h]; rfl
 | (k',u) :: us,_,⟨v,r,e,h1,h2⟩=>by
  subst e
  rw [List.map_cons,List.map_cons]
  by_cases hk : k' = k
  ·subst hk; simp only [if_true]; exact ⟨x,_,rfl,hw,RpK.mapP hw h2⟩
  ·simp only [hk,if_false]; exact ⟨v,_,rfl,h1,RpK.mapP hw h2⟩
theorem RpK.snoc {k : Key} {w : D} {x : V} (hw : RpD K m H w x) : ∀ {us : List (Key × D)} {vs : List (Key × V)},RpK K m H us vs → RpK K m H (us ++ [(k,w)]) (vs ++ [(k,x)])
 | [],_,h=>by rw [show _ = [] from h]; exact ⟨x,[],rfl,hw,rfl⟩
 | (k',u) :: us,_,⟨v,r,e,h1,h2⟩=>by subst e; exact ⟨v,_,rfl,h1,RpK.snoc hw h2⟩
theorem RpK.put {us : List (Key × D)} {vs : List (Key × V)} (h : RpK K m H us vs) (k : Key) {w : D} {x : V} (hw : RpD K m H w x) : RpK K m H (putD us k w) (putK vs k x):=by
 unfold putD putK
 rw [h.any]
 split
 ·exact h.mapP hw
 ·exact h.snoc hw
end
section
variable {X : Cx} {W : WX}
noncomputable def fDnew : F U:=fun _ st=>.ok (.ref st.length) (st ++ [.dct []])
end
noncomputable def dGet (def_ : Option U) (kvs : List (Key × U)) (k : Key) : U:=match lookK kvs k with
 | some u=>u
 | none=>def_.getD (.d .non)
noncomputable def fGet1 (fo fk : F U) : F U:=bnd fo fun o=>fun env st=>if (VL.getD st o).isSome = true then bnd fk (fun k=>fun _ st=>match VL.getD st o,keyD k with
 | some kvs,some k=>.ok (dGet none kvs k) st
 | _,_=>.bad) env st else .bad
noncomputable def fGet2 (fo fk fx : F U) : F U:=bnd fo fun o=>fun env st=>if (VL.getD st o).isSome = true then bnd fk (fun k=>bnd fx fun x=>fun _ st=>match VL.getD st o,keyD k with
 | some kvs,some k=>.ok (dGet (some x) kvs k) st
 | _,_=>.bad) env st else .bad
noncomputable def fSetd (fo fk fx : F U) : F U:=bnd fo fun o=>fun env st=>if (VL.getD st o).isSome = true then bnd fk (fun k=>bnd fx fun x=>fun _ st=>match dctC st o,keyD k with
 | some (n,kvs),some k=>if kvs.length < sizeLine then (match lookK kvs k with
  | some u=>.ok u st
  | none=>.ok x (st.set n (.dct (putU kvs k x)))) else .bad
 | _,_=>.bad) env st else .bad
section
variable {X : Cx} {W : WX} {o e f : Expr} {fo fk fx : F U} {apos cpos : Pos}
end
noncomputable def oFmt : P1:=fun u _=>match u with
 | .d (.str y)=>if y.length ≤ sizeLine then some (.d (.str y)) else none
 | .d (.int i)=>if i.natAbs.log2 < 1920 then some (.d (.str (Str.ofString (toString i)))) else none
 | _=>none
noncomputable def fJs : List (F U) → Str → F U
 | [],acc=>fun _ st=>.ok (.d (.str acc)) st
 | f :: fs,acc=>bnd f fun u=>match u with
  | .d (.str y)=>if (acc ++ y).length ≤ sizeLine then fJs fs (acc ++ y) else fun _ _=>.bad
  | _=>fun _ _=>.bad
structure DJ (X : Cx) (W : WX) (es : List Expr) (fs : List (F U)) : Prop where
 pj : PJ X es (fs.map (tF X.K W))
section
variable {X : Cx} {W : WX} {e e2 : Expr} {es : List Expr} {fe : F U} {fs : List (F U)} {pos : Pos}
theorem d_fmt (he : DE X W e fe) : DE X W (.FormattedValue e (-1) none pos) (f1 oFmt fe):=⟨PE.imp (pe_fmt he.pe) fun σ H Q ⟨m,env,st,r,re,p⟩ =>
 tF_step (f:=fe) (g:=fun a=>fun _ st=>.of st (oFmt a st)) (rel:=RpU X.K) (Q:=Q) r re p fun u st1 v m1 H1 h1 r1 re1 e1 p1=>by
  cases q : oFmt u st1 with
  | none=>rw [q] at p1; exact False.elim p1
  | some w =>
   rw [q] at p1
   unfold oFmt at q
   split at q
   ·split at q
    ·rename_i hz; cases q; cases h1; exact .inl ⟨_,rfl,hz,p1 _ m1 H1 rfl r1 (Ext.refl _ _)⟩
    ·cases q
   ·split at q
    ·rename_i hz; cases q; cases h1; exact .inr ⟨_,rfl,hz,p1 _ m1 H1 rfl r1 (Ext.refl _ _)⟩
    ·cases q
   ·cases q⟩
theorem dj_nil : DJ X W [] []:=⟨.nil⟩
theorem dj_cons (he : DE X W e fe) (hs : DJ X W es fs) : DJ X W (e :: es) (fe :: fs):=⟨.cons he.pe hs.pj⟩
theorem t_js : ∀ (fs : List (F U)) (acc : Str) {σ : L2.St} {H : Hp} {Q : VK},tF X.K W (fJs fs acc) σ H Q → tJs (fs.map (tF X.K W)) acc σ H fun out H1=>Q (.str out) H1
 | [],acc,σ,H,Q,⟨m,env,st,r,re,p⟩=>p _ m H rfl r (Ext.refl _ _)
 | f :: fs,acc,σ,H,Q,⟨m,env,st,r,re,p⟩=>tF_step r re p fun u st1 v m1 H1 h1 r1 re1 e1 p1=>by
  split at p1
  ·rename_i y
   cases h1
   split at p1
   ·rename_i hz
    exact ⟨y,rfl,hz,t_js fs _ ⟨m1,env,st1,r1,re1,p1⟩⟩
   ·exact p1.elim
  ·exact p1.elim
theorem d_joined (h : DJ X W (e :: e2 :: es) fs) : DE X W (.JoinedStr (e :: e2 :: es) pos) (fJs fs Str.empty):=⟨PE.imp (pe_joined h.pj) fun σ H Q q=>t_js fs _ q⟩
end
noncomputable def augK (i : Nat) (g : P2) (x y : U) : G:=fun env st=>match g x y st with
 | some u=>.ok (env.set i (some u)) .nx st
 | none=>.bad
noncomputable def sAug (i : Nat) (g : P2) (f : F U) : G:=bndS (vVar i) fun x=>bndS f (augK i g x)
noncomputable def oIadd : P2:=fun a b _=>match a,b with
 | .d (.int i),.d (.int j)=>some (.d (.int (i + j)))
 | _,_=>none
end VL
namespace VL
open PySem PySem.Spec PyProof.Rows L2
theorem bt_len : bootBuiltins "len" = some (.builtin "len"):=by decide +kernel
theorem bt_abs : bootBuiltins "abs" = some (.builtin "abs"):=by decide +kernel
theorem bt_min : bootBuiltins "min" = some (.builtin "min"):=by decide +kernel
theorem bt_max : bootBuiltins "max" = some (.builtin "max"):=by decide +kernel
theorem bt_isinstance : bootBuiltins "isinstance" = some (.builtin "isinstance"):=by decide +kernel
theorem bt_sorted : bootBuiltins "sorted" = some (.builtin "sorted"):=by decide +kernel
theorem bt_repr : bootBuiltins "repr" = some (.builtin "repr"):=by decide +kernel
theorem bt_int : bootBuiltins "int" = some (.type "int"):=by decide +kernel
theorem bt_str : bootBuiltins "str" = some (.type "str"):=by decide +kernel
theorem bt_list : bootBuiltins "list" = some (.type "list"):=by decide +kernel
theorem bt_tuple : bootBuiltins "tuple" = some (.type "tuple"):=by decide +kernel
theorem bt_dict : bootBuiltins "dict" = some (.type "dict"):=by decide +kernel
theorem RoomG.u1 {k : Nat} {A : Around} (h : RoomG k A) : A.units + 1 < cLine:=by have:=h.rm.un; omega
theorem RoomG.u64 {k : Nat} {A : Around} (h : RoomG k A) : A.units + 64 < cLine:=by have:=h.rm.un; omega
theorem RoomG.u65 {k : Nat} {A : Around} (h : RoomG k A) : A.units + 65 < cLine:=by have:=h.rm.un; omega
section
variable {X : Cx} {W : WX}
/-- a module's text,number -/
noncomputable def GStr (mg : Str → Option Value) (x y : Str) : Prop:=∃ u,mg x = some u ∧ RelV (.str y) u
theorem d_gstr {x y : Str} {pos : Pos} (h : GStr X.mg x y) (hg : Gl X x:=by rfl) (hd : (x == ("__debug__" : Str)) = false:=by decide) : DE X W (.Name x pos) (vC (.str y)):=by
 obtain ⟨u,h1,h2⟩:=h
 exact d_glob (v:=.str y) h1 h2 (fun _ _=>rfl) hg hd
theorem d_gobj {x : Str} {a : Addr} {pos : Pos} (h : X.mg x = some (.ref a)) (hg : Gl X x:=by rfl) (hd : (x == ("__debug__" : Str)) = false:=by decide) : DE X W (.Name x pos) (vC (.obj a)) :=
 d_glob (v:=.ref a) h rfl (fun _ _=>rfl) hg hd
noncomputable def TgsNx (gs : List U → G) : Prop:=∀ us env st,match gs us env st with
 | .ok _ .nx _=>True
 | .bad=>True
 | _=>False
theorem nxs_nil : TgsNx tgNil:=fun us env st=>by cases us <;> trivial
theorem nxs_cons {g : U → G} {gs : List U → G} (h : TgNx g) (h2 : TgsNx gs) : TgsNx (tgCons g gs):=fun us env st=>by
 cases us with
 | nil=>trivial
 | cons u us =>
  show match sSeq (g u) (gs us) env st with
   | .ok _ .nx _=>True
   | .bad=>True
   | _=>False
  unfold sSeq
  have:=h u env st
  cases e : g u env st with
  | bad=>trivial
  | ex c fs env1 st1=>rw [e] at this; exact this.elim
  | ok env1 f st1 =>
   rw [e] at this
   cases f with
   | nx=>exact h2 us env1 st1
   | rt u=>exact this.elim
   | bk=>exact this.elim
   | ct=>exact this.elim
theorem nx_tup {n : Nat} {gs : List U → G} (h : TgsNx gs) : TgNx (tgT n gs):=fun u env st=>by
 unfold tgT
 cases unp st u with
 | none=>trivial
 | some us =>
  simp only
  by_cases hz : us.length = n
  ·rw [if_pos hz]; exact h us env st
  ·rw [if_neg hz]; trivial
/-- a,b,c = x,y,z -/
noncomputable def sPar3 (i j l : Nat) (fs : F (List U)) : G:=bndS fs fun us=>fun env st=>match us with
 | [u,w,z]=>.ok (((env.set i (some u)).set j (some w)).set l (some z)) .nx st
 | _=>.bad
theorem ds_par3 (i j l : Nat) {x y z : Str} {a b c : Expr} {fs : F (List U)} {px py pz pt pos : Pos} {kt k2 : Nat} {pt2 : Pos} (hc : X.calm = true) (hN : X.N.Nodup) (ha : DA X W [a,b,c] fs) (hij : i ≠ j) (hil : i ≠ l) (hjl : j ≠ l)
  (hw : swappedStores [.Tuple [.Name x px,.Name y py,.Name z pz] kt pt] (.Tuple [a,b,c] k2 pt2) X.env = pure (some [x,y,z])) (hi : X.N[i]? = some x:=by rfl) (hj : X.N[j]? = some y:=by rfl) (hl : X.N[l]? = some z:=by rfl)
  (hx : X.env.scope.names.lookup x = some .local:=by rfl) (hy : X.env.scope.names.lookup y = some .local:=by rfl) (hz : X.env.scope.names.lookup z = some .local:=by rfl)
  (hs : swapsWithSole [.Tuple [.Name x px,.Name y py,.Name z pz] kt pt] (.Tuple [a,b,c] k2 pt2) pos.line X.env = pure false:=by rfl) :
  DS X W (.Assign [.Tuple [.Name x px,.Name y py,.Name z pz] kt pt] (.Tuple [a,b,c] k2 pt2) pos) (sPar3 i j l fs):=⟨PS.imp (ps_par3 hc hN hi hj hl hij hil hjl hx hy hz ha.pa hw hs) fun D σ H ⟨m,env,st,r,re,p⟩=>sFs_step r re p fun us st1 vs m1 H1 h1 r1 re1 e1 p1=>by
 match us,h1,p1 with
 | [],_,p1=>exact p1.elim
 | [_],_,p1=>exact p1.elim
 | [_,_],_,p1=>exact p1.elim
 | _ :: _ :: _ :: _ :: _,_,p1=>exact p1.elim
 | [u,w,z],h1,p1 =>
  obtain ⟨v,_,rfl,g1,w',_,rfl,g2,z',_,rfl,g3,rfl⟩:=h1
  exact ⟨v,w',z',rfl,p1 _ m1 H1 (((re1.set i g1).set j g2).set l g3) r1 (Ext.refl _ _)⟩⟩
end
section
variable {X : Cx} {W : WX} {elt tg iter : Expr} {ifs : List Expr} {scope : Scope} {own : List (Str × Nat)} {pos : Pos} {is : List Nat} {g : U → G} {gt : F Bool} {fe : F U} {fi : F Itb}
theorem d_lcV {vs : List Nat} (hc : X.calm = true) (hN : X.N.Nodup) (hi : DI X W tg iter fi) (ok : BlkOk X.N X.env.scope scope own)
  (hg : ∀ (s : Shared) (H : Hp) (C : Addr) (cl : List (Str × Addr)) (fp : List Addr),DG (X.blk s H scope (compEnvC scope cl C X.env) fp) tg is g)
  (ht : ∀ (s : Shared) (H : Hp) (C : Addr) (cl : List (Str × Addr)) (fp : List Addr),DTs (X.blk s H scope (compEnvC scope cl C X.env) fp) W0 ifs gt)
  (he : ∀ (s : Shared) (H : Hp) (C : Addr) (cl : List (Str × Addr)) (fp : List Addr),DE (X.blk s H scope (compEnvC scope cl C X.env) fp) W0 elt fe)
  (hvv : own.map (·.2) = vs:=by rfl) (hvs : ∀ i ∈ is,i ∈ own.map (·.2):=by decide) (hs : ∀ x,foldedSetIterable iter X.env x = pure x:=by intro _; rfl) :
  DE X W (.ListComp elt [⟨tg,iter,ifs,0⟩] scope pos) (fLc fi g gt fe vs):=by
 subst hvv; exact d_lc hc hN hi ok hg ht he hvs hs
/-- name = [..] -/
theorem ds_setLcV {vs : List Nat} (i : Nat) {y : Str} {py spos : Pos} (hc : X.calm = true) (hN : X.N.Nodup) (hsw : swapsWith (.ListComp elt [⟨tg,iter,ifs,0⟩] scope pos) (some (.Name y py)) spos.line X.env = pure true) (hi : DI X W tg iter fi) (ok : BlkOk X.N X.env.scope scope own)
  (hg : ∀ (s : Shared) (H : Hp) (C : Addr) (cl : List (Str × Addr)) (fp : List Addr),DG (X.blk s H scope (compEnvC scope cl C X.env) fp) tg is g)
  (ht : ∀ (s : Shared) (H : Hp) (C : Addr) (cl : List (Str × Addr)) (fp : List Addr),DTs (X.blk s H scope (compEnvC scope cl C X.env) fp) W0 ifs gt)
  (he : ∀ (s : Shared) (H : Hp) (C : Addr) (cl : List (Str × Addr)) (fp : List Addr),DE (X.blk s H scope (compEnvC scope cl C X.env) fp) W0 elt fe)
  (hvv : own.map (·.2) = vs:=by rfl) (hvs : ∀ i ∈ is,i ∈ own.map (·.2):=by decide) (hy : X.N[i]? = some y:=by rfl) (hyl : X.env.scope.names.lookup y = some .local:=by rfl) (hs : ∀ x,foldedSetIterable iter X.env x = pure x:=by intro _; rfl) :
  DS X W (.Assign [.Name y py] (.ListComp elt [⟨tg,iter,ifs,0⟩] scope pos) spos) (sAsg (fLc fi g gt fe vs) (tgN i)):=by
 subst hvv; exact ds_setLc i hc hN hsw hi ok hg ht he hvs hy hyl hs
end
/-- by place and by name,in order -/
noncomputable def gApp {α : Type} (us ws : List α) : List α:=us ++ ws
theorem FnG.imp {P : Program} {w : World} {K : PySem.W.Frag} {mg : Str → Option Value} {base : Heap} {k : Nat} {f : Addr} {fd : FuncData} {ps : List Str} {sp sp' : Sp} (F : FnG P w K mg base k f fd ps sp) (h : ∀ vs H Q E,sp' vs H Q E → sp vs H Q E) : FnG P w K mg base k f fd ps sp' :=
 ⟨fun vs H Q E q=>F.len vs H Q E (h vs H Q E q),fun A outer s H args us vs Q E r e0 b rv q=>F.run A outer s H args us vs Q E r e0 b rv (h vs H Q E q)⟩
/-- the law at a script -/
theorem law_sp {K : PySem.W.Frag} {mf : List U → M U} {ns : List Int} {H : Hp} {a : Addr} (h : ∃ st,mf [.d (.scr ns)] [] = .ok (.d (.bl true)) st) (hO : Only H) (hS : SqL K H a (ns.map V.int)) : spM K 1 mf [.ref a] H (fun v _=>v = .bl true) fun _ _ _=>False:=by
 have hv : ScV K [] H a (ns.map V.int):=by
  rcases hS with (q | ⟨o,q⟩) | q
  ·rcases hO a with z | ⟨o,xs,z⟩
   ·rw [q] at z; cases z
   ·rw [q] at z; cases z
  ·exact .inl ⟨List.not_mem_nil,o,q⟩
  ·exact .inr (.inr q)
 refine ⟨rfl,[],[],[.d (.scr ns)],⟨rfl,List.nodup_nil,fun n o b h=>by simp at h⟩,⟨_,_,rfl,⟨a,rfl,hv⟩,rfl⟩,?_⟩
 obtain ⟨st,e⟩:=h
 rw [e]
 exact fun v m' H' h1 _ _=>h1
end VL
namespace VL
open PySem PySem.Spec PyProof.Rows L2
theorem okU_mono {j k : Nat} (h : j ≤ k) {u : U} (q : okU j u = true) : okU k u = true:=by
 cases u with
 | d x=>rfl
 | ref n=>exact decide_eq_true (Nat.lt_of_lt_of_le (of_decide_eq_true q) h)
theorem okO_mono {j k : Nat} (h : j ≤ k) {o : O} (q : okO j o = true) : okO k o = true:=by
 cases o with
 | lst us=>exact List.all_eq_true.mpr fun u hu=>okU_mono h (List.all_eq_true.mp q u hu)
 | tup us=>exact List.all_eq_true.mpr fun u hu=>okU_mono h (List.all_eq_true.mp q u hu)
 | dct us=>exact List.all_eq_true.mpr fun u hu=>okU_mono h (List.all_eq_true.mp q u hu)
 | ins C us=>exact List.all_eq_true.mpr fun u hu=>okU_mono h (List.all_eq_true.mp q u hu)
 | tbl P q=>rfl
 | lck us=>exact List.all_eq_true.mpr fun u hu=>okU_mono h (List.all_eq_true.mp q u hu)
 | kdc w us=>exact List.all_eq_true.mpr fun u hu=>okU_mono h (List.all_eq_true.mp q u hu)
noncomputable def WF (st : Store) : Prop:=wfB st = true
theorem WF.cut {st : Store} (h : WF st) : cutS st.length st = some st:=by
 unfold cutS
 rw [List.take_length]
 exact if_pos h
theorem WF.push {st : Store} (h : WF st) {o : O} (q : okO (st.length + 1) o = true) : WF (st ++ [o]):=by
 unfold WF wfB at *
 rw [List.all_append,Bool.and_eq_true,List.length_append]
 exact ⟨List.all_eq_true.mpr fun x hx=>okO_mono (Nat.le_add_right _ _) (List.all_eq_true.mp h x hx),by simpa using q⟩
theorem WF.set {st : Store} (h : WF st) {n : Nat} {o : O} (q : okO st.length o = true) : WF (st.set n o):=by
 unfold WF wfB at *
 rw [List.length_set]
 refine List.all_eq_true.mpr fun x hx=>?_
 rcases List.mem_or_eq_of_mem_set hx with hx | hx
 ·exact List.all_eq_true.mp h x hx
 ·subst hx; exact q
theorem WF.nil : WF []:=rfl
theorem okO_pure (k : Nat) (ds : List D) : okO k (.lst (ds.map .d)) = true:=by
 show ((ds.map U.d).all (okU k)) = true
 rw [List.all_map]
 exact List.all_eq_true.mpr fun _ _=>rfl
theorem WF.pushL {st : Store} (h : WF st) (ds : List D) : WF (st ++ [.lst (ds.map .d)]):=h.push (okO_pure _ _)
theorem WF.setL {st : Store} (h : WF st) (n : Nat) (ds : List D) : WF (st.set n (.lst (ds.map .d))):=h.set (okO_pure _ _)
/-- what is above is cut off -/
theorem WF.cutA {st : Store} (h : WF st) (st' : Store) : cutS st.length (st ++ st') = some st:=by
 unfold cutS
 rw [List.take_left']
 ·exact if_pos h
 ·rfl
theorem wCut_d {st : Store} (h : WF st) (x : D) : wCut st.length (.d x) st = .ok (.d x) st:=by
 unfold wCut
 simp only [h.cut]
section
variable {fi : F Itb} {tg : U → G} {tt : F Bool} {fe : F U} {vs : List Nat} {env : VEnv} {st st0 : Store} {us : List U}
theorem lcL_pure {k : Nat} {env0 : VEnv} (P : U → Bool) (q : U → D) (hk : k = st.length) (hw : WF st) : ∀ (us : List U) (acc : List D),acc.length + us.length ≤ sizeLine →
  (∀ u ∈ us,∀ st' : Store,WF st' → ∃ env1,tg u env0 st' = .ok env1 .nx st' ∧ tt env1 st' = .ok (P u) st' ∧ (P u = true → fe env1 st' = .ok (.d (q u)) st')) →
  lcL k tg tt fe env0 us (st ++ [.lst (acc.map .d)]) = .ok () (st ++ [.lst ((acc ++ (us.filter P).map q).map .d)])
 | [],acc,_,_=>by simp [lcL]
 | u :: us,acc,hl,h=>by
  obtain ⟨env1,h1,h2,h3⟩:=h u (List.mem_cons_self ..) _ (hw.pushL acc)
  unfold lcL lcStep
  rw [h1]
  simp only
  rw [h2]
  rw [List.length_cons] at hl
  cases e : P u with
  | false =>
   simp only
   have:=lcL_pure (env0:=env0) P q hk hw us acc (by omega) (fun w hw=>h w (List.mem_cons_of_mem _ hw))
   rw [this,List.filter_cons_of_neg (by rw [e]; exact Bool.false_ne_true)]
  | true =>
   simp only
   rw [h3 e]
   subst hk
   simp only [List.getElem?_append_right (Nat.le_refl _),Nat.sub_self,List.getElem?_cons_zero]
   rw [if_pos (by rw [List.length_map]; omega)]
   simp only
   have hs : (st ++ [O.lst (acc.map .d)]).set st.length (.lst (acc.map .d ++ [.d (q u)])) = st ++ [.lst ((acc ++ [q u]).map .d)]:=by
    rw [List.set_append_right _ _ (Nat.le_refl _),Nat.sub_self,List.set_cons_zero,List.map_append,List.map_singleton]
   rw [hs,lcL_pure (env0:=env0) P q rfl hw us (acc ++ [q u]) (by rw [List.length_append,List.length_singleton]; omega) (fun w hw=>h w (List.mem_cons_of_mem _ hw)),
    List.filter_cons_of_pos e,List.map_cons,List.append_assoc]
   rfl
end
section
variable {fi : F Itb} {tg : U → G} {tt : F Bool} {fe : F U} {vs : List Nat} {env : VEnv} {st st0 : Store} {us : List U}
end
/-- one turn of a loop -/
noncomputable def turn (tg : U → G) (body : G) (u : U) : G:=fun env st=>match tg u env st with
 | .ok env1 .nx st1=>match body env1 st1 with
  | .ok env2 .ct st2=>.ok env2 .nx st2
  | r=>r
 | _=>.bad
theorem fItN_ok {g : List U → Option Itb} {f : F (List U)} {env : VEnv} {st st1 : Store} {us : List U} {t : Itb} (h : f env st = .ok us st1) (hg : g us = some t) : fItN g f env st = .ok t st1:=by
 unfold fItN bnd
 rw [h]
 show R.of st1 (g us) = _
 rw [hg]
 rfl
theorem sFor_lst {fi : F Itb} {tg : U → G} {body : G} {env : VEnv} {st st1 : Store} {us : List U} (h : fi env st = .ok (.lst us) st1) : sFor fi tg body env st = loopL tg body us env st1:=by
 unfold sFor bndS
 rw [h]
theorem sz0 : (0 ≤ sizeLine) = True:=eq_true (by decide)
theorem szl0 : (0 < sizeLine) = True:=eq_true (by decide)
theorem sz1 : (1 ≤ sizeLine) = True:=eq_true (by decide)
theorem szl1 : (1 < sizeLine) = True:=eq_true (by decide)
theorem sz2 : (2 ≤ sizeLine) = True:=eq_true (by decide)
theorem szl2 : (2 < sizeLine) = True:=eq_true (by decide)
theorem sz3 : (3 ≤ sizeLine) = True:=eq_true (by decide)
theorem szl3 : (3 < sizeLine) = True:=eq_true (by decide)
theorem sz4 : (4 ≤ sizeLine) = True:=eq_true (by decide)
theorem szl4 : (4 < sizeLine) = True:=eq_true (by decide)
theorem sz5 : (5 ≤ sizeLine) = True:=eq_true (by decide)
theorem szl5 : (5 < sizeLine) = True:=eq_true (by decide)
theorem sz6 : (6 ≤ sizeLine) = True:=eq_true (by decide)
theorem szl6 : (6 < sizeLine) = True:=eq_true (by decide)
theorem sz7 : (7 ≤ sizeLine) = True:=eq_true (by decide)
theorem szl7 : (7 < sizeLine) = True:=eq_true (by decide)
theorem sz8 : (8 ≤ sizeLine) = True:=eq_true (by decide)
theorem szl8 : (8 < sizeLine) = True:=eq_true (by decide)
theorem sz9 : (9 ≤ sizeLine) = True:=eq_true (by decide)
theorem szl9 : (9 < sizeLine) = True:=eq_true (by decide)
theorem sz10 : (10 ≤ sizeLine) = True:=eq_true (by decide)
theorem szl10 : (10 < sizeLine) = True:=eq_true (by decide)
theorem sz11 : (11 ≤ sizeLine) = True:=eq_true (by decide)
theorem szl11 : (11 < sizeLine) = True:=eq_true (by decide)
theorem sz12 : (12 ≤ sizeLine) = True:=eq_true (by decide)
theorem szl12 : (12 < sizeLine) = True:=eq_true (by decide)
theorem sz13 : (13 ≤ sizeLine) = True:=eq_true (by decide)
theorem szl13 : (13 < sizeLine) = True:=eq_true (by decide)
theorem sz14 : (14 ≤ sizeLine) = True:=eq_true (by decide)
theorem szl14 : (14 < sizeLine) = True:=eq_true (by decide)
theorem sz15 : (15 ≤ sizeLine) = True:=eq_true (by decide)
theorem szl15 : (15 < sizeLine) = True:=eq_true (by decide)
end VL
namespace VL
open PySem PySem.Spec PyProof.Rows L2
noncomputable def oRepr : List U → Store → Option U:=fun us st=>match us with
 | [.d .non]=>some (.d (.str "None"))
 | [.d (.bl b)]=>some (.d (.str (if b = true then "True" else "False")))
 | [.d (.int i)]=>if i.natAbs.log2 < 1920 then some (.d (.str (Str.ofString (toString i)))) else none
 | [.d (.str x)]=>if (reprText x).length ≤ sizeLine then some (.d (.str (reprText x))) else none
 | [u]=>match asP st u with
  | some p=>if PyData.showable p = true ∧ PyData.hasDict p = false ∧ PyData.depth p ≤ 64 ∧ (PyData.shown p).length ≤ sizeLine then some (.d (.str (PyData.shown p))) else none
  | none=>none
 | _=>none
theorem asP_ref' {K : PySem.W.Frag} {m : List Addr} {H : Hp} {st : Store} {u : U} {v : V} {p : PyData} (h : RpU K m H u v) (e : asP st u = some p) : (∃ x,u = .d .non ∧ x = v) ∨ (∃ b,u = .d (.bl b)) ∨ (∃ i,u = .d (.int i)) ∨ (∃ x,u = .d (.str x)) ∨ ∃ a,v = .ref a:=by
 cases u with
 | ref n=>obtain ⟨a,_,e⟩:=h; exact .inr (.inr (.inr (.inr ⟨a,e⟩)))
 | d x =>
  cases x with
  | non=>exact .inl ⟨_,rfl,rfl⟩
  | bl b=>exact .inr (.inl ⟨b,rfl⟩)
  | int i=>exact .inr (.inr (.inl ⟨i,rfl⟩))
  | str x=>exact .inr (.inr (.inr (.inl ⟨x,rfl⟩)))
  | tup ds=>obtain ⟨a,_,e,_⟩:=h; exact .inr (.inr (.inr (.inr ⟨a,e⟩)))
  | lst ds=>obtain ⟨a,_,e,_⟩:=h; exact .inr (.inr (.inr (.inr ⟨a,e⟩)))
  | scr ds=>obtain ⟨a,e,_⟩:=h; exact .inr (.inr (.inr (.inr ⟨a,e⟩)))
  | _=>cases e
theorem cr_repr {X : Cx} (hg : X.A.guards = some []) (hu : X.A.units + 65 < cLine) : CallR X (.builtin "repr") (rM X.K (pu oRepr)):=by
 intro pins s σ H vs us Q I rv h
 obtain ⟨m,st,xs,r,ru,p⟩:=h
 obtain ⟨u,e,p⟩:=p.pu
 unfold oRepr at e
 split at e
 ·obtain ⟨v,rfl,hv⟩:=ru.one
  cases hv; cases e
  obtain ⟨w,rfl,rw'⟩:=L2.vals1 rv
  cases rw'
  exact PySem.P.repr_of_none ⟨.str "None",H,I.tok _,⟨_,rfl⟩,p.here r rfl⟩
 ·obtain ⟨v,rfl,hv⟩:=ru.one
  cases hv; cases e
  obtain ⟨w,rfl,rw'⟩:=L2.vals1 rv
  cases rw'
  exact PySem.P.repr_of_bool ⟨.str (if _ = true then "True" else "False"),H,I.tok _,⟨_,rfl⟩,p.here r rfl⟩
 ·obtain ⟨v,rfl,hv⟩:=ru.one
  cases hv
  split at e
  ·rename_i hz; cases e
   obtain ⟨w,rfl,t,rfl⟩:=L2.vals1 rv
   exact PySem.P.repr_of_int hz ⟨.str (Str.ofString (toString _)),H,I.tok _,⟨_,rfl⟩,p.here r rfl⟩
  ·cases e
 ·obtain ⟨v,rfl,hv⟩:=ru.one
  cases hv
  split at e
  ·rename_i hz; cases e
   obtain ⟨w,rfl,t,rfl⟩:=L2.vals1 rv
   exact PySem.P.repr_of_str ⟨.str (reprText _),H,I.tok _,⟨_,rfl⟩,p.here r rfl⟩ hz
  ·cases e
 ·rename_i x n1 n2 n3 n4
  obtain ⟨v,rfl,hv⟩:=ru.one
  split at e
  ·rename_i d hd
   split at e
   ·rename_i hz
    cases e
    have hp:=asP_dp r hv hd
    rcases asP_ref' hv hd with ⟨_,e,_⟩ | ⟨b,e⟩ | ⟨i,e⟩ | ⟨y,e⟩ | ⟨a,rfl⟩
    ·exact (n1 e).elim
    ·exact (n2 b e).elim
    ·exact (n3 i e).elim
    ·exact (n4 y e).elim
    ·obtain ⟨w,rfl,rw'⟩:=L2.vals1 rv
     obtain ⟨as,hr⟩:=Dp.reads I d _ _ hp rw'
     cases rw'
     exact repr_of_reads' hr hz.1 (fun q=>by rw [hz.2.1] at q; cases q) hg (by have:=hz.2.2.1; omega) (fun _ _ e=>e) (fun h' u tk hk=>⟨.str (PyData.shown d),H,I.kept hk,⟨_,rfl⟩,p.here r rfl⟩) hz.2.2.2
   ·cases e
  ·cases e
 ·cases e
end VL
namespace VL
open PySem PySem.Spec PyProof.Rows L2
variable {K : PySem.W.Frag} {st : Store}
theorem isi_str : PySem.W.kitOne K (.type "str") (.type "str") = some true:=rfl
theorem eqv_int (a b : Int) : PyData.eqv (.int a) (.int b) = (a == b):=rfl
theorem at_1 {α : Type} (x y : α) (r : List α) : atI (x :: y :: r) 1 = some y:=by
 unfold atI ixN; simp only [List.length_cons]; rw [if_pos (by decide),if_pos (by omega)]; rfl
theorem at_0 {α : Type} (x : α) (r : List α) : atI (x :: r) 0 = some x:=by unfold atI ixN; simp
theorem allM_dd {st : Store} (k : Nat) (ds : List D) : allM (deep k st) (ds.map U.d) = some ds:=allM_d ds
theorem asP_d (st : Store) (x : D) : asP st (.d x) = toP x:=rfl
theorem asP_ref {st : Store} {i : Nat} {ds : List D} (h : st[i]? = some (.lst (ds.map U.d))) : asP st (.ref i) = (toPs ds).map .list:=by
 unfold asP deep
 simp only [h,allM_dd]
 rfl
theorem wCut_len {n : Nat} {st : Store} (h : WF st) (hl : st.length = n) (x : D) : wCut n (.d x) st = .ok (.d x) st:=by
 subst hl; exact wCut_d h x
theorem set_at {st : Store} {r : Nat} {o o' : O} (h : st[r]? = some o) : (st.set r o')[r]? = some o':=List.getElem?_set_self (List.getElem?_eq_some_iff.mp h).1
theorem app_at {st : Store} {r : Nat} {o o' : O} (h : st[r]? = some o) : (st ++ [o'])[r]? = some o:=by
 rw [List.getElem?_append_left (List.getElem?_eq_some_iff.mp h).1]; exact h
theorem new_at {st : Store} {o : O} : (st ++ [o])[st.length]? = some o:=by
 rw [List.getElem?_append_right (Nat.le_refl _),Nat.sub_self]; rfl
theorem take_same {st st' : Store} {k : Nat} (hk : k = st.length) (h : ∀ n,n < k → st'[n]? = st[n]?) : st'.take k = st:=by
 apply List.ext_getElem?
 intro n
 by_cases hn : n < k
 ·rw [List.getElem?_take_of_lt hn]; exact h n hn
 ·rw [List.getElem?_eq_none (by rw [List.length_take]; omega),List.getElem?_eq_none (by omega)]
theorem cut_same {st st' : Store} (w : WF st) (h : ∀ n,n < st.length → st'[n]? = st[n]?) : cutS st.length st' = some st:=by
 unfold cutS
 rw [take_same rfl h]
 exact if_pos w
theorem allM_frz {st : Store} (k f : Nat) (ds : List D) : allM (frz st k f) (ds.map U.d) = some ds:=by
 induction ds with
 | nil=>rfl
 | cons d ds ih =>
  rw [List.map_cons,allM,ih]
  cases f <;> rfl
theorem wKeep_of {st st' : Store} (w : WF st) {n : Nat} {ds : List D} (h : st'[n]? = some (.lst (ds.map U.d))) (hn : st.length ≤ n) (hf : ∀ m,m < st.length → st'[m]? = st[m]?) : wKeep st.length (.ref n) st' = .ok (.ref st.length) (st ++ [.lst (ds.map U.d)]):=by
 unfold wKeep
 simp only [h,okO_pure,cut_same w hf,if_true]
 rw [if_neg (by omega)]
noncomputable def Bag (st : Store) (b : Nat) : Prop:=∃ n x : Int,st[b]? = some (.lst [.d (.int n),.d (.int x)])
structure Fb (st st' : Store) (b : Nat) : Prop where
 wf : WF st'
 len : st'.length = st.length
 bag : Bag st' b
 fr : ∀ n,n ≠ b → st'[n]? = st[n]?
theorem Fb.trans {s0 s1 s2 : Store} {b : Nat} (x : Fb s0 s1 b) (y : Fb s1 s2 b) : Fb s0 s2 b:=⟨y.wf,y.len.trans x.len,y.bag,fun n h=>(y.fr n h).trans (x.fr n h)⟩
theorem Fb.refl {b : Nat} (h : WF st) (hb : Bag st b) : Fb st st b:=⟨h,rfl,hb,fun _ _=>rfl⟩
theorem ixn0 : ixN 2 0 = some 0:=rfl
theorem ixn1 : ixN 2 1 = some 1:=rfl
theorem fb_set {b : Nat} (h : WF st) {o : O} (hb : st[b]? = some o) (n x : Int) : Fb st (st.set b (.lst [.d (.int n),.d (.int x)])) b :=
 ⟨h.setL b [.int n,.int x],List.length_set,⟨n,x,set_at hb⟩,fun m hm=>List.getElem?_set_ne (Ne.symm hm)⟩
theorem at_lt {α : Type} {xs : List α} {d : Nat} (h : d < xs.length) : atI xs (d : Int) = some xs[d]:=by
 unfold atI ixN
 rw [if_pos (by omega),if_pos (by omega)]
 simp [List.getElem?_eq_getElem h]
theorem pure_ints (ns : List Int) : pureL (ns.map fun i=>U.d (.int i)) = some (ns.map .int):=by
 have:=pureL_map (ns.map D.int)
 rw [List.map_map] at this
 exact this
noncomputable def sD (ss : List Str) : List D:=ss.map D.str
theorem toPs_strs (ss : List Str) : toPs (sD ss) = some (ss.map .str):=by
 induction ss with
 | nil=>rfl
 | cons s ss ih =>
  show (match toP (.str s),toPs (sD ss) with
   | some p,some ps=>some (p :: ps)
   | _,_=>none) = _
  rw [ih]
  rfl
theorem lay_strs (ss : List Str) (h : ∀ s ∈ ss,PyData.strOk s = true) : PyData.canLayAll0 (ss.map .str) = true:=by
 induction ss with
 | nil=>rfl
 | cons s ss ih=>simp [PyData.canLayAll0,PyData.canLay0,h s (List.mem_cons_self ..),ih fun x hx=>h x (List.mem_cons_of_mem _ hx)]
theorem depth_strs (ss : List Str) : PyData.depthAll (ss.map .str) ≤ 1:=by
 induction ss with
 | nil=>simp [PyData.depthAll]
 | cons s ss ih=>simp [PyData.depthAll,PyData.depth]; omega
theorem eqv_nil (qs : List PyData) : PyData.eqv (.list qs) (.list []) = qs.isEmpty:=by
 cases qs <;> simp [PyData.eqv,PyData.eqvAll]
theorem er_map {α β : Type} (f : α → β) : ∀ (l : List α) (d : Nat),(l.map f).eraseIdx d = (l.eraseIdx d).map f
 | [],_=>rfl
 | x :: l,0=>rfl
 | x :: l,d + 1=>by rw [List.map_cons,List.eraseIdx_cons_succ,er_map f l d]; rfl
theorem seq_nat {d n : Nat} (h : d < n) : seqIndex? (d : Int) n = some d:=by
 have h1 : ¬ ((d : Int) < 0):=by omega
 simp only [seqIndex?,if_neg h1]
 rw [if_pos (by simp; omega)]
 simp
theorem cut_fb {st st' : Store} {b : Nat} (h : WF st) (hB : Bag st' b) (hb : b < st.length) (hl : st.length ≤ st'.length) (hf : ∀ n,n < st.length → n ≠ b → st'[n]? = st[n]?) : cutS st.length st' = some (st'.take st.length) ∧ Fb st (st'.take st.length) b:=by
 have hall : (st'.take st.length).all (okO st.length) = true:=by
  refine List.all_eq_true.mpr fun o ho=>?_
  obtain ⟨n,hn,e⟩:=List.mem_iff_getElem.mp ho
  rw [List.length_take] at hn
  have hn' : n < st.length:=by omega
  rw [List.getElem_take] at e
  by_cases hnb : n = b
  ·subst hnb
   obtain ⟨p,x,q⟩:=hB
   rw [List.getElem?_eq_getElem (by omega)] at q
   have:=Option.some.inj q
   rw [← e,this]
   rfl
  ·have q:=hf n hn' hnb
   rw [List.getElem?_eq_getElem (by omega),List.getElem?_eq_getElem hn'] at q
   have:=Option.some.inj q
   rw [← e,this]
   exact List.all_eq_true.mp h _ (List.getElem_mem hn')
 have hlen : (st'.take st.length).length = st.length:=by rw [List.length_take]; omega
 refine ⟨if_pos hall,⟨?_,hlen,?_,fun n hn=>?_⟩⟩
 ·show wfB _ = true
  unfold wfB
  rw [hlen]; exact hall
 ·obtain ⟨p,x,q⟩:=hB
  exact ⟨p,x,by rw [List.getElem?_take_of_lt hb]; exact q⟩
 ·by_cases hn' : n < st.length
  ·rw [List.getElem?_take_of_lt hn']; exact hf n hn' hn
  ·rw [List.getElem?_eq_none (by omega),List.getElem?_eq_none (by omega)]
theorem Bag.lt {b : Nat} (h : Bag st b) : b < st.length:=by
 obtain ⟨n,x,q⟩:=h
 exact (List.getElem?_eq_some_iff.mp q).1
theorem frz_lst {st : Store} {k n f : Nat} {ds : List D} (hn : ¬ n < k) (h : st[n]? = some (.lst (ds.map U.d))) : frz st k (f + 1) (.ref n) = some (.lst ds):=by
 unfold frz
 rw [if_neg hn]
 simp only [h,allM_frz,Option.map_some]
theorem Bag.set {b i : Nat} (h : Bag st b) (hb : b ≠ i) (o : O) : Bag (st.set i o) b:=by
 obtain ⟨n,x,q⟩:=h
 exact ⟨n,x,by rw [List.getElem?_set_ne hb.symm]; exact q⟩
theorem rng_ok {w : Nat} (h : w < 1000) : -(2 ^ 62) ≤ ((w : Nat) : Int) ∧ ((w : Nat) : Int) < 2 ^ 62:=by
 have e : (2 : Int) ^ 62 = 4611686018427387904:=by decide
 rw [e]; omega
theorem eqv_tup (a b : List PyData) : PyData.eqv (.tuple a) (.tuple b) = PyData.eqvAll a b:=by simp [PyData.eqv]
theorem eqv_cons (a b : List PyData) (x y : PyData) : PyData.eqvAll (x :: a) (y :: b) = (PyData.eqv x y && PyData.eqvAll a b):=by simp [PyData.eqvAll]
theorem toP_strs (ss : List Str) : toP (.lst (sD ss)) = some (.list (ss.map .str)):=by
 show (toPs (sD ss)).map PyData.list = _
 rw [toPs_strs]; rfl
noncomputable def llD (sss : List (List Str)) : List D:=sss.map fun ss=>.lst (sD ss)
theorem toPs_ll : ∀ sss : List (List Str),toPs (llD sss) = some (sss.map fun ss=>.list (ss.map .str))
 | []=>rfl
 | ss :: sss=>by
  show (match toP (.lst (sD ss)),toPs (llD sss) with
   | some p,some ps=>some (p :: ps)
   | _,_=>none) = _
  rw [toP_strs,toPs_ll sss]
  rfl
theorem lay_ll : ∀ sss : List (List Str),(∀ ss ∈ sss,∀ s ∈ ss,PyData.strOk s = true) → PyData.canLayAll0 (sss.map fun ss=>.list (ss.map .str)) = true
 | [],_=>rfl
 | ss :: sss,h=>by
  rw [List.map_cons]
  simp [PyData.canLayAll0,PyData.canLay0,lay_strs ss (h ss (List.mem_cons_self ..)),lay_ll sss fun x hx=>h x (List.mem_cons_of_mem _ hx)]
theorem depth_ll : ∀ sss : List (List Str),PyData.depthAll (sss.map fun ss=>.list (ss.map .str)) ≤ 2
 | []=>by simp [PyData.depthAll]
 | ss :: sss=>by
  have:=depth_strs ss
  have:=depth_ll sss
  rw [List.map_cons]
  simp [PyData.depthAll,PyData.depth]
  omega
theorem shaped_ll {sss : List (List Str)} (h : ∀ ss ∈ sss,∀ s ∈ ss,PyData.strOk s = true) : SeqAt.shaped (.list (sss.map fun ss=>.list (ss.map .str))) = true:=by
 unfold SeqAt.shaped
 have:=depth_ll sss
 simp [PyData.canLay0,PyData.depth,lay_ll sss h]
 omega
theorem eqB_ll {sss : List (List Str)} (h : ∀ ss ∈ sss,∀ s ∈ ss,PyData.strOk s = true) : eqB st (.d (.lst (llD sss))) (.d (.lst (llD sss))) = some true:=by
 have e : toP (.lst (llD sss)) = some (.list (sss.map fun ss=>.list (ss.map .str))):=by
  show (toPs (llD sss)).map PyData.list = _
  rw [toPs_ll]; rfl
 have hs:=shaped_ll h
 unfold eqB
 simp only [asP_d,e,hs,and_self,if_true]
 rw [SeqAt.eqv_refl _ (by unfold SeqAt.shaped at hs; rw [Bool.and_eq_true] at hs; exact hs.1)]
theorem itR_eq {w : Nat} (h : w < 1000) : itR [.d (.int ((w : Nat) : Int))] = some (.lst ((List.range w).map fun i=>.d (.int (0 + (i : Nat))))):=by
 have hr:=rng_ok h
 unfold itR
 simp only [hr,and_self,if_true,Int.toNat_natCast]
theorem Bag.push {b : Nat} (h : Bag st b) (o : O) : Bag (st ++ [o]) b:=by
 obtain ⟨n,x,q⟩:=h
 exact ⟨n,x,app_at q⟩
noncomputable def AllR {α β : Type} (P : α → β → Prop) : List α → List β → Prop
 | [],[]=>True
 | a :: as,b :: bs=>P a b ∧ AllR P as bs
 | _,_=>False
theorem AllR.length {α β : Type} {P : α → β → Prop} : ∀ {as : List α} {bs : List β},AllR P as bs → bs.length = as.length
 | [],[],_=>rfl
 | a :: as,b :: bs,h=>by rw [List.length_cons,List.length_cons,AllR.length h.2]
 | [],_ :: _,h=>h.elim
 | _ :: _,[],h=>h.elim
theorem AllR.right {α β : Type} {P : α → β → Prop} {Q : β → Prop} (hq : ∀ a b,P a b → Q b) : ∀ {as : List α} {bs : List β},AllR P as bs → ∀ b ∈ bs,Q b
 | [],[],_,b,hb=>by cases hb
 | a :: as,b :: bs,h,c,hc=>by
  rcases List.mem_cons.mp hc with rfl | hc
  ·exact hq _ _ h.1
  ·exact AllR.right hq h.2 c hc
 | [],_ :: _,h,_,_=>h.elim
 | _ :: _,[],h,_,_=>h.elim
section
variable {fi : F Itb} {tg : U → G} {tt : F Bool} {fe : F U} {vs : List Nat} {env env0 : VEnv} {us : List U}
theorem lcL_fb {b : Nat} (Pd : U → D → Prop) : ∀ (us : List U) (acc : List D) (st : Store),WF st → Bag st b → acc.length + us.length ≤ sizeLine →
  (∀ u ∈ us,∀ st' : Store,WF st' → Bag st' b → ∃ env1 x st'',tg u env0 st' = .ok env1 .nx st' ∧ tt env1 st' = .ok true st' ∧ fe env1 st' = .ok (.d x) st'' ∧ Pd u x ∧ Fb st' st'' b) →
  ∃ ds st2,lcL st.length tg tt fe env0 us (st ++ [.lst (acc.map .d)]) = .ok () (st2 ++ [.lst ((acc ++ ds).map .d)]) ∧ Fb st st2 b ∧ AllR Pd us ds
 | [],acc,st,hw,hb,_,_=>⟨[],st,by simp [lcL],Fb.refl hw hb,trivial⟩
 | u :: us,acc,st,hw,hb,hl,h=>by
  rw [List.length_cons] at hl
  have hb1 : Bag (st ++ [.lst (acc.map .d)]) b:=by
   obtain ⟨n,x,q⟩:=hb
   exact ⟨n,x,app_at q⟩
  obtain ⟨env1,x,st'',h1,h2,h3,hp,f⟩:=h u (List.mem_cons_self ..) _ (hw.pushL acc) hb1
  have hlen : st''.length = st.length + 1:=by rw [f.len,List.length_append,List.length_singleton]
  obtain ⟨c1,c2⟩:=cut_fb hw f.bag hb.lt (by omega) fun n hn hnb=>by rw [f.fr n hnb,List.getElem?_append_left hn]
  have hk : st''[st.length]? = some (.lst (acc.map U.d)):=by
   rw [f.fr _ (by have:=hb.lt; omega)]; exact new_at
  have hst : st''.set st.length (.lst (acc.map U.d ++ [.d x])) = st''.take st.length ++ [.lst ((acc ++ [x]).map .d)]:=by
   have e : st'' = st''.take st.length ++ [.lst (acc.map U.d)]:=by
    apply List.ext_getElem?
    intro n
    by_cases hn : n < st.length
    ·rw [List.getElem?_append_left (by rw [List.length_take]; omega),List.getElem?_take_of_lt hn]
    ·by_cases hn2 : n = st.length
     ·subst hn2
      rw [hk,List.getElem?_append_right (by rw [List.length_take]; omega),List.length_take,Nat.min_eq_left (by omega),Nat.sub_self]; rfl
     ·rw [List.getElem?_eq_none (by omega),List.getElem?_eq_none (by rw [List.length_append,List.length_take,List.length_singleton]; omega)]
   have hl2 : (st''.take st.length).length = st.length:=by rw [List.length_take]; omega
   rw [e,List.set_append_right _ _ (by omega),hl2,Nat.sub_self,List.set_cons_zero,List.map_append,List.map_singleton,List.take_left' hl2]
  obtain ⟨ds,st2,e2,f2,r2⟩:=lcL_fb Pd us (acc ++ [x]) (st''.take st.length) c2.wf c2.bag (by rw [List.length_append,List.length_singleton]; omega) (fun w hw=>h w (List.mem_cons_of_mem _ hw))
  have hl2 : (st''.take st.length).length = st.length:=by rw [List.length_take]; omega
  rw [hl2] at e2
  refine ⟨x :: ds,st2,?_,c2.trans f2,hp,r2⟩
  unfold lcL lcStep
  rw [h1]
  simp only
  rw [h2]
  simp only
  rw [h3]
  simp only [hk]
  rw [if_pos (by rw [List.length_map]; omega)]
  simp only
  rw [hst,e2,List.append_assoc]
  rfl
/-- [.. for .. in ..],each part of which draws -/
theorem fLc_fb {b : Nat} {st0 : Store} (Pd : U → D → Prop) (hw : WF st) (hb : Bag st b) (hi : fi env st0 = .ok (.lst us) st) (hl : us.length ≤ sizeLine)
  (h : ∀ u ∈ us,∀ st' : Store,WF st' → Bag st' b → ∃ env1 x st'',tg u (wipeE env vs) st' = .ok env1 .nx st' ∧ tt env1 st' = .ok true st' ∧ fe env1 st' = .ok (.d x) st'' ∧ Pd u x ∧ Fb st' st'' b) :
  ∃ ds st2,fLc fi tg tt fe vs env st0 = .ok (.d (.lst ds)) st2 ∧ Fb st st2 b ∧ AllR Pd us ds:=by
 obtain ⟨ds,st2,e,f,r⟩:=lcL_fb (env0:=wipeE env vs) Pd us [] st hw hb (by simpa using hl) h
 refine ⟨ds,st2,?_,f,r⟩
 unfold fLc bnd
 rw [hi]
 simp only
 rw [show ([] : List D).map U.d = [] from rfl] at e
 rw [e]
 unfold lcEnd
 have hl2:=f.len
 rw [← hl2]
 simp only [List.getElem?_append_right (Nat.le_refl _),Nat.sub_self,List.getElem?_cons_zero,List.nil_append,pureL_map,f.wf.cutA]
end
end VL
namespace VL
open PySem PySem.Spec PyProof.Rows
section
open PySem.W PySem.Calls PySem.HandSPX Builtin Builtin.ObjectAttr
/-- a class right below a built-in error class,as the frag has it -/
structure Below (K : Frag) (C : Addr) (cd : ClassData) (B : String) (bm : List Value) : Prop where
 sf : StoreFacts B bm "object.__setattr__" "object"
 mro : cd.mro = .ref C :: bm
 cin : clsIn K C = some cd
 hd : cd.hasDict = true
variable {prog : Program} {w : World} {A : Around} {E : Value → Shared → Prop} {R : Result → Shared → Prop} {hp : Heap} {g : Array GenState} {d : Drawn} {t : Nat} {os : OsState}
theorem Below.obj {K : Frag} {C : Addr} {cd : ClassData} {B : String} {bm : List Value} (b : Below K C cd B bm) : mroIn K C (.type "object") = some true:=by
 have q : cd.mro.contains (.type "object") = true:=by
  rw [b.mro,List.contains_cons,b.sf.hasOwner,Bool.or_true]
 have e : cd.mro.isEmpty = false:=by rw [b.mro]; rfl
 unfold mroIn
 rw [b.cin,Option.bind_some,if_neg (by rw [e]; exact Bool.false_ne_true),q]
/-- object.__setattr__ on such an error,up to the writing itself -/
theorem osaG {K : Frag} {name : Str} {tk : Tok} {v : Value} {x C : Addr} {ox : Obj} {od : Option Obj} {cd : ClassData} {B : String} {bm : List Value} (X : K.In hp) (b : Below K C cd B bm) (I : InstAt hp x ox C od) (ha : findIn K (.ref C) name = some none)
  (hq : ∀ A',wpAny (model prog w) A' (storeInOwnDict (.ref x) (.ref C) (.str name tk) name v false) (fun f s=>∃ r,f = .done r ∧ R (.ok r) s) (fun _ _=>False) ⟨hp,g,d,t,os⟩) :
  codeAny (model prog w) A (.call (.builtin "object.__setattr__") ⟨[.ref x,.str name tk,v],[]⟩) R ⟨hp,g,d,t,os⟩:=by
 have SF:=F.store_object
 have sub : Looks (model prog w) hp (isInstance (.ref x) (.type "object")) true:=I.type.andThen (looks_mroIn X b.obj)
 have hm : Looks (model prog w) hp (mroOf (.ref C)) cd.mro:=(looks_clsIn X b.cin).andThen .now
 have L3 : Looks (model prog w) hp (storeTaker? none) none:=.now
 refine codeAny_call_builtin SF.slot.plain SF.entry (@check_slot (model prog w) _ _ ⟨hp,g,d,t,os⟩ "object.__setattr__" "object" "__setattr__" (.ref x) [.str name tk,v] [] _ SF.kind SF.split sub (SF.args (.ref x) (.str name tk) v) ?_)
 rw [osa_eq,refuse_eq]
 refine wpAny_bind (wpAny_bind (I.type.at (wpAny_bind (hm.at ?_))))
 rw [b.mro,refuseLoop_ref,b.sf.passes]
 refine wpAny_pure (wpAny_bind (I.type.at (wpAny_bind ((looks_findIn X ha).at (wpAny_bind (L3.at ?_))))))
 exact wpAny_mono (hq _) (fun f s h=>by obtain ⟨r,rfl,k⟩:=h; exact k) (fun _ _ z=>z.elim)
/-- the first field: the dict is made -/
theorem osaN {K : Frag} {name : Str} {tk : Tok} {v : Value} {x C : Addr} {fv : Array Value} {cd : ClassData} {B : String} {bm : List Value} (X : K.In hp) (b : Below K C cd B bm) (hx : hp.get? x = some { cls:=.ref C,data:=.fields fv })
  (ha : findIn K (.ref C) name = some none)
  (hq : ∀ h' tk' dx,(∀ b o,b ≠ x → hp.get? b = some o → h'.get? b = some o) → hp.objs.size ≤ dx → dx ≠ x → h'.get? x = some { cls:=.ref C,dict:=some dx,data:=.fields fv } → h'.Ns1 dx (fun y=>if y = name then some v else none) →
   R (.ok (.ret .none)) ⟨h',g,d,tk',os⟩) : codeAny (model prog w) A (.call (.builtin "object.__setattr__") ⟨[.ref x,.str name tk,v],[]⟩) R ⟨hp,g,d,t,os⟩:=by
 have lt : x ≠ hp.objs.size:=Nat.ne_of_lt (Heap.lt_size hx)
 have lc : Looks (model prog w) hp (classData C) cd:=looks_clsIn X b.cin
 refine osaG X b (ox:={ cls:=.ref C,data:=.fields fv }) (od:=none) ⟨hx,rfl,rfl,trivial⟩ ha fun A'=>?_
 have hd:=b.hd
 obtain ⟨c1,c2,c3,c4,c5,c6,c7,c8,c9,c10,c11⟩:=cd
 dsimp only at hd
 subst hd
 unfold storeInOwnDict ownDictForStores
 repeat (first | with_reducible refine store_in_new ?_ ?_ | with_reducible refine wpAny_loadPart_at hx ?_ | with_reducible refine lc.at ?_ | wp_step)
 ·refine ⟨_,#[],_,(Heap.get?_update_ne _ _ _ _ lt.symm).trans (Heap.get?_push_at rfl rfl),rfl,fun e z=>?_,fun _=>rfl⟩
  exact absurd z (by simp)
 ·intro h' t' n' sb
  have hx1 : (hp.push { cls:=.type "dict",data:=.dict #[] }).get? x = some { cls:=.ref C,data:=.fields fv }:=Heap.get?_push_of_some _ hx
  refine ⟨_,rfl,hq h' t' hp.objs.size (fun c o hc ho=>?_) (Nat.le_refl _) lt.symm ?_ n'⟩
  ·rw [sb.2 c (Nat.ne_of_lt (Heap.lt_size ho)),Heap.get?_update_ne _ _ _ _ hc]
   exact Heap.get?_push_of_some _ ho
  ·rw [sb.2 x lt]
   exact Heap.get?_update_self _ hx1 rfl
/-- a further field -/
theorem osaO {K : Frag} {name : Str} {tk : Tok} {v : Value} {x C dx : Addr} {fv : Array Value} {cd : ClassData} {B : String} {bm : List Value} {m0 : Str → Option Value} {nl : List Str} (X : K.In hp) (b : Below K C cd B bm)
  (hx : hp.get? x = some { cls:=.ref C,dict:=some dx,data:=.fields fv }) (hn : hp.Ns1 dx m0) (hw : Within m0 nl) (hz : nl.length ≤ 1000) (ha : findIn K (.ref C) name = some none)
  (hq : ∀ h' tk',(∀ b o,b ≠ dx → hp.get? b = some o → h'.get? b = some o) → h'.Ns1 dx (fun y=>if y = name then some v else m0 y) → R (.ok (.ret .none)) ⟨h',g,d,tk',os⟩) :
  codeAny (model prog w) A (.call (.builtin "object.__setattr__") ⟨[.ref x,.str name tk,v],[]⟩) R ⟨hp,g,d,t,os⟩:=by
 obtain ⟨oD,_,_,hoD,_,_⟩:=hn.count hw
 have lc : Looks (model prog w) hp (classData C) cd:=looks_clsIn X b.cin
 refine osaG X b (ox:={ cls:=.ref C,dict:=some dx,data:=.fields fv }) (od:=some oD) ⟨hx,rfl,rfl,hoD⟩ ha fun A'=>?_
 have hd:=b.hd
 obtain ⟨c1,c2,c3,c4,c5,c6,c7,c8,c9,c10,c11⟩:=cd
 dsimp only at hd
 subst hd
 unfold storeInOwnDict ownDictForStores
 repeat (first | with_reducible refine PySem.OEX.store_in_old hn hw hz ?_ | with_reducible refine wpAny_loadPart_at hx ?_ | with_reducible refine lc.at ?_ | wp_step)
 intro h' t' n' sb
 exact ⟨_,rfl,hq h' t' (fun c o hc ho=>(sb.2 c hc).trans ho) n'⟩
end
open L2
/-- what the written part says of an own error class -/
structure OexB (K : PySem.W.Frag) (C : Addr) : Prop where
 cls : ∃ B nw ini bm nm q N bs sn sub ab col dd k0 k1 k2 k3 k5,PySem.ExcBaseFacts B nw ini bm ∧ PySem.StoreFacts B bm "object.__setattr__" "object" ∧ K.lookup C = some (excClassObj nm q C N bs bm true sn sub ab col dd k0 k1 k2 k3 k5 nw)
 sa : PySem.W.findIn K (.ref C) "__setattr__" = some (some (.builtin "object.__setattr__"))
 exC : PySem.W.subIn K (.ref C) (.type "BaseException") = some true
 tyC : PySem.W.typeIn K (.ref C) = some (.type "type")
 kC : PySem.W.keepIn K (.ref C) = true
theorem OexB.below {K : PySem.W.Frag} {C : Addr} (T : OexB K C) : ∃ cd B bm,Below K C cd B bm:=by
 obtain ⟨B,nw,ini,bm,nm,q,N,bs,sn,sub,ab,col,dd,k0,k1,k2,k3,k5,eb,sf,hC⟩:=T.cls
 exact ⟨_,B,bm,sf,rfl,by unfold PySem.W.clsIn; rw [hC] <;> rfl,rfl⟩
section
variable {X : Cx} {pins : List (Addr × Obj)} {σ : L2.St} {H : Hp} {s : Shared} {a C dx : Addr} {f : Str} {y : V} {u : Value} {fs : List (Str × V)} {Q : Unit → Shared → Prop} {E : Value → Shared → Prop} {A : Around}
theorem obj_new (T : OexB X.K C) (I : L2.Inv X pins σ H s) (e : H a = some (exo a C none)) (hno : PySem.W.findIn X.K (.ref C) f = some none) (ry : L2.RelV y u)
  (h : ∀ dx s',H dx = none → dx ≠ a → L2.Inv X pins σ (upd (upd H dx (exd dx [(f,y)])) a (exo a C (some dx))) s' → Q () s') : wpAny (model X.prog X.w) A (setAttr (.ref a) f u) Q E s:=by
 obtain ⟨cd,B,bm,bl⟩:=T.below
 obtain ⟨t1,ho⟩:=exo_at I.hok e
 obtain ⟨hp,g,d,t,os⟩:=s
 refine PySem.W.set_plain I.kIn (od:=none) ⟨ho,rfl,rfl,trivial⟩ T.sa (osaN I.kIn bl ho hno fun h' tk' dx k dn dne hx hn=>?_)
 have hnd : H dx = none:=I.hok.fresh dn
 have old : ∀ {b : Addr} {o : Obj},hp.get? b = some o → b ≠ dx:=fun {b o} z=>Nat.ne_of_lt (Nat.lt_of_lt_of_le (Heap.lt_size z) dn)
 have noa : ∀ {b : Addr},H b = none → b ≠ a:=fun {b} n z=>by
  rw [z,e] at n; cases n
 have back : ∀ b : Addr,b ≠ a → b ≠ dx → (upd (upd H dx (exd dx [(f,y)])) a (exo a C (some dx))) b = H b:=fun b h1 h2=>(upd_ne h1).trans (upd_ne h2)
 have live : ∀ {b : Addr} {o : HO},H b = some o → b ≠ dx:=fun {b o} z=>ne_of_none z hnd
 have U : L2.Un X.fs [] H (upd (upd H dx (exd dx [(f,y)])) a (exo a C (some dx))) hp h' :=
  {
   keep:=fun b o z n _ _=>k b o (noa n) z
   slot:=fun b o z n _ _=>⟨o.slots,k b o (noa n) z⟩
   free:=fun b o z n _=>(back b (noa n) (old z)).trans n
   there:=fun b o z _=>if hb : b = a then ⟨_,hb ▸ hx⟩ else ⟨o,k b o hb z⟩
   tups:=fun b xs z=>(back b (at_ne e z exo_tup) (live z)).trans z
   frzs:=fun b o v z=>(back b (at_ne e z exo_frz) (live z)).trans z
   tbls:=fun b ps z=>⟨#[],by rw [back b (at_ne e z exo_tbl) (live z),z]; simp⟩ }
 refine h dx _ hnd dne (I.un (t':=tk') U fun b o z=>?_)
 by_cases hb : b = a
 ·subst hb
  cases (upd_same.symm.trans z)
  exact exo_ok hx
 ·by_cases hd : b = dx
  ·subst hd
   cases ((upd_same.symm.trans (upd_ne hb).symm).trans z)
   exact exd_ok hn (relO_put (fs:=[]) ry fun _=>True.intro)
  ·rw [back b hb hd] at z
   refine (I.hok b o z).stay (fun c v hc w'=>k c v ?_ w') (fun c hc=>(back c (at_ne e hc exo_own) (live hc)).trans hc) (fun c xs hc=>(back c (at_ne e hc exo_tup) (live hc)).trans hc)
   rcases hc with hc | hc
   ·exact fun zz=>hb (hc.symm.trans zz)
   ·exact at_ne e hc exo_own
theorem obj_old (T : OexB X.K C) (I : L2.Inv X pins σ H s) (e : H a = some (exo a C (some dx))) (ed : H dx = some (exd dx fs)) (hl : fs.length ≤ 900) (hno : PySem.W.findIn X.K (.ref C) f = some none) (ry : L2.RelV y u)
  (h : ∀ s',L2.Inv X pins σ (upd H dx (exd dx ((f,y) :: fs))) s' → Q () s') : wpAny (model X.prog X.w) A (setAttr (.ref a) f u) Q E s:=by
 obtain ⟨cd,B,bm,bl⟩:=T.below
 obtain ⟨t1,ho⟩:=exo_at I.hok e
 obtain ⟨mA,hns,rel⟩:=exd_at I.hok ed
 obtain ⟨hp,g,d,t,os⟩:=s
 obtain ⟨oD,_,_,hoD,_,_⟩:=hns.count (within_of rel)
 refine PySem.W.set_plain I.kIn (od:=some oD) ⟨ho,rfl,rfl,hoD⟩ T.sa (osaO I.kIn bl ho hns (within_of rel) (by rw [List.length_map]; omega) hno fun h' tk' k hn=>?_)
 refine h _ (I.write (t':=tk') (x:=dx) (e:=dx) (o:=exd dx ((f,y) :: fs)) (by rw [ed]; exact True.intro) (.inl rfl) k ?_ (exd_ok hn (relO_put ry rel)))
 obtain ⟨o,_,_,e',_⟩:=hn
 exact ⟨o,e'⟩
end
/-- self.f = e of an error that is being made -/
noncomputable def tOb (K : PySem.W.Frag) (f : Str) (to te : TE) : TS:=fun D σ H=>te σ H fun y H1=>to σ H1 fun x H2=>∃ a C : Addr,x = .ref a ∧ OexB K C ∧ PySem.W.findIn K (.ref C) f = some none ∧
 ((H2 a = some (exo a C none) ∧ ∀ dx,H2 dx = none → dx ≠ a → D.nx σ (upd (upd H2 dx (exd dx [(f,y)])) a (exo a C (some dx)))) ∨
  ∃ (dx : Addr) (fs : List (Str × V)),H2 a = some (exo a C (some dx)) ∧ H2 dx = some (exd dx fs) ∧ fs.length ≤ 900 ∧ D.nx σ (upd H2 dx (exd dx ((f,y) :: fs))))
section
variable {X : Cx} {o e : Expr} {es : List Expr} {to te : TE} {ta : TA} {f : Str} {p p' pos : Pos}
theorem ps_ob (ho : PE X o to) (he : PE X e te) (hs : swapsWith e (some (.Attribute o f p')) pos.line X.env = pure false:=by rfl) : PS X (.Assign [.Attribute o f p'] e pos) (tOb X.K f to te) :=
 ⟨fun pins s σ H D I h=>plainObj_wpAny_Assign_Attribute (thn (he.run pins s σ H _ I h) fun v s1 ⟨y,H1,I1,r1,q1⟩=>thn (ho.run pins s1 σ H1 _ I1 q1) fun u s2 ⟨x,H2,I2,r2,a,C,ex,T,hno,q⟩=>by
  cases ex
  cases (show u = Value.ref a from r2)
  rcases q with ⟨ea,q⟩ | ⟨dx,fs,ea,ed,hl,q⟩
  ·exact obj_new T I2 ea hno r1 fun dx s' n ne J=>⟨σ,_,J,q dx n ne⟩
  ·exact obj_old T I2 ea ed hl hno r1 fun s' J=>⟨σ,_,J,q⟩) hs⟩
/-- C(e,..) of such a class -/
theorem pmk_ob {CX : CXT} {x : Str} {C fI : Addr} {k : Nat} {fd : FuncData} {ps : List Str} {sp : Sp} {ds : List Value} {dvs : List V} (T : OexB X.K C) (iC : PySem.W.findIn X.K (.ref C) "__init__" = some (some (.ref fI))) (tI : PySem.W.typeIn X.K (.ref fI) = some (.type "function"))
  (F1 : FnOk X.prog X.w X.K X.mg X.base CX k fI fd ps sp) (hr : Room (k + 1) X.A) (hb : Binds X.K fd ps ds) (hd : Vals dvs ds) (hx : Passes CX X (fun _ _ _=>False)) (hg : Gl X x) (hm : X.mg x = some (.ref C)) (ha : PA X (e :: es) ta)
  (hdb : (x == ("__debug__" : Str)) = false:=by decide) (he : starEach (e :: es) X.env = (false,eval e X.env) :: starEach es X.env:=by rfl) (hpl : (backTo pos (starEach es X.env)).any (·.1) = false:=by rfl) :
  PMk X (.Call (.Name x p) (e :: es) [] pos) (tMkO C sp dvs ta):=by
 intro pins s σ H Q I h
 obtain ⟨B,nw,ini,bm,nm,q,N,bs,sn,sub,ab,col,dd,k0,k1,k2,k3,k5,eb,sf,hC⟩:=T.cls
 refine wpAny_Call_Name_kw (ld_glob I hg hm (PySem.W.callWith_K (h₀:=X.base) I.ok.mod.kin T.kC (thn (ha.run pos pins s σ H _ I h) fun us s1 ⟨vs,H1,I1,r1,hz,q1⟩=>⟨I1.kIn,?_⟩) he hpl) hdb)
 show wpAny _ _ (call (.ref C) us) _ _ _
 obtain ⟨hp,g,dr,tk,os⟩:=s1
 let z:=hp.objs.size + 1
 have zz : hp.objs.size ≤ z:=Nat.le_succ _
 have hq:=q1 z (I1.hok.fresh zz)
 have up : ∀ b o,hp.get? b = some o → ((hp.push (PySem.W.kdv_tup us)).push (PySem.HandSPX.excO C hp.objs.size)).get? b = some o:=fun b o w'=>Heap.get?_push_of_some _ (Heap.get?_push_of_some _ w')
 have at_ : ((hp.push (PySem.W.kdv_tup us)).push (PySem.HandSPX.excO C hp.objs.size)).get? (hp.objs.size + 1) = some (PySem.HandSPX.excO C hp.objs.size):=by heap_get
 have I2 : L2.Inv X pins σ (upd H1 z (exo z C none)) ⟨(hp.push (PySem.W.kdv_tup us)).push (PySem.HandSPX.excO C hp.objs.size),g,dr,tk,os⟩:=I1.laid (t':=tk) (a:=z) (o:=exo z C none) (h':=(hp.push (PySem.W.kdv_tup us)).push (PySem.HandSPX.excO C hp.objs.size)) up zz (exo_ok at_)
 have r2 : Vals (V.ref z :: (vs ++ dvs)) (Value.ref z :: (us ++ ds)):=.cons rfl (r1.append hd)
 have hl : (Value.ref z :: us ++ ds).length = ps.length:=r2.length.symm.trans (F1.len _ _ _ _ hq)
 have hus : us.length ≤ sizeLine:=by
  have:=r1.length
  have:=sizeLine_eq
  omega
 refine wpAny_call (PySem.HandSPX.call_own eb (fun _=>rfl) (I1.kIn _ _ hC) (PySem.W.looks_findIn I1.kIn iC) (fun self=>PySem.W.bind_fn I1.kIn self tI) hus ?_)
 refine codeAny_mono (F1.run _ X.stack _ _ ⟨Value.ref z :: us,[]⟩ (Value.ref z :: (us ++ ds)) _ _ (fun _ _ _=>False) (hr.make C us []) (I2.env0.make C us []) (hb _ (Value.ref z :: us) I2.kIn hl) r2 hq) fun r s' hq'=>?_
 match r,hq' with
 | .error er,hq'=>exact hx pins σ _ _ er s' I2 hq'
 | .ok (.ret u),hq' =>
  obtain ⟨v,H2,os2,bare2,un2,hok2,rv,ev,d,fs,ea,ed,hd1,q2⟩:=hq'
  cases ev
  obtain ⟨h2,g2,d2,t2,os'⟩:=s'
  exact ⟨rv,mk_end (raises_own T.exC T.tyC) I1 zz up un2 hok2 os2 bare2 ea ed hd1 q2⟩
 | .ok .next,hq'=>exact False.elim hq'
 | .ok .brk,hq'=>exact False.elim hq'
 | .ok .cont,hq'=>exact False.elim hq'
end
end VL
namespace VL
open PySem PySem.Spec PyProof.Rows L2
/-- what an own __init__(self,n,..) promises that keeps its arguments -/
noncomputable def spI (C : Addr) (ns : List Str) : Sp:=fun vs H Q _=>∃ a ws,vs = .ref a :: ws ∧ ws.length = ns.length ∧ H a = some (exo a C none) ∧
 ∀ d H2,H d = none → d ≠ a → H2 a = some (exo a C (some d)) → H2 d = some (exd d (ns.zip ws).reverse) → (∀ b,b ≠ a → b ≠ d → H2 b = H b) → Q .non H2
section
variable {P : Program} {w : World} {K : PySem.W.Frag} {mg : Str → Option Value} {base : Heap}
theorem init1_ok {qual n1 : Str} {st : Stmt} {f C : Addr} {fd : FuncData} (F : Fun K "__init__" qual st f fd) (S : FnScope ["self",n1] ["self",n1] (defScope st)) (T : OexB K C) (h1 : PySem.W.findIn K (.ref C) n1 = some none)
  (hb : ∀ (cdv : Value) (A : Around) (outer : List Env) (s : Shared) (H : Hp) (E : XK),PSs (cxOf CX0 P w K mg base ["self",n1] qual (defScope st) f cdv A outer s H E).nox (defBody st) (tOb K n1 (tVar 0) (tVar 1))) :
  FnOk P w K mg base CX0 1 f fd ["self",n1] (spI C [n1]) :=
 F.ok (k:=0) S (fun vs H Q E h=>by obtain ⟨a,ws,rfl,hl,_⟩:=h; simpa using hl) fun cdv A outer s H vs Q E hr h=>⟨_,hb cdv A outer s H E,by
  obtain ⟨a,ws,rfl,hl,ha,q⟩:=h
  match ws,hl with
  | [y1],_ =>
   refine ⟨y1,rfl,.ref a,rfl,a,C,rfl,T,h1,.inl ⟨ha,fun d hd hne=>?_⟩⟩
   exact q d _ hd hne upd_same ((upd_ne hne).trans upd_same) fun b hba hbd=>(upd_ne hba).trans (upd_ne hbd)⟩
end
/-- an own exception class with fields -/
structure Exs (P : Program) (w : World) (K : PySem.W.Frag) (mg : Str → Option Value) (base : Heap) (C : Addr) (ns : List Str) : Prop where
 oex : OexB K C
 xf : XfC K C
 ini : ∃ (fI : Addr) (fd : FuncData),PySem.W.findIn K (.ref C) "__init__" = some (some (.ref fI)) ∧ PySem.W.typeIn K (.ref fI) = some (.type "function") ∧ FnOk P w K mg base CX0 1 fI fd ("self" :: ns) (spI C ns) ∧ Binds K fd ("self" :: ns) []
noncomputable def sRaise (C : Addr) (ns : List Str) (fa : F (List U)) : G:=bndS fa fun us=>fun env st=>match pureL us with
 | some ds=>if ds.length = ns.length ∧ ds.length ≤ 1000 then .ex (.ref C) (some (ns.zip ds).reverse) env st else .bad
 | none=>.bad
theorem RpF.app {K : PySem.W.Frag} {m : List Addr} {H : Hp} : ∀ {xs ys : List (Str × D)} {vs ws : List (Str × V)},RpF K m H xs vs → RpF K m H ys ws → RpF K m H (xs ++ ys) (vs ++ ws)
 | [],_,_,_,h,k=>by rw [show _ = [] from h]; exact k
 | (n,d) :: xs,_,_,_,⟨v,r,e,h1,h2⟩,k=>by subst e; exact ⟨v,_,rfl,h1,RpF.app h2 k⟩
theorem RpF.rev {K : PySem.W.Frag} {m : List Addr} {H : Hp} : ∀ {xs : List (Str × D)} {vs : List (Str × V)},RpF K m H xs vs → RpF K m H xs.reverse vs.reverse
 | [],_,h=>by rw [show _ = [] from h]; rfl
 | (n,d) :: xs,_,⟨v,r,e,h1,h2⟩=>by
  subst e
  rw [List.reverse_cons,List.reverse_cons]
  exact RpF.app (RpF.rev h2) ⟨v,[],rfl,h1,rfl⟩
theorem RpF.zip {K : PySem.W.Frag} {m : List Addr} {H : Hp} : ∀ {ns : List Str} {ds : List D} {vs : List V},RpDs K m H ds vs → RpF K m H (ns.zip ds) (ns.zip vs)
 | [],_,_,_=>rfl
 | n :: ns,[],_,h=>by rw [show _ = [] from h]; rfl
 | n :: ns,d :: ds,_,⟨v,r,e,h1,h2⟩=>by subst e; exact ⟨v,_,rfl,h1,RpF.zip h2⟩
section
variable {X : Cx} {W : WX} {e : Expr} {es : List Expr} {fa : F (List U)} {C : Addr} {ns : List Str} {x : Str} {p pos pos' : Pos}
theorem ds_raise (hc : X.calm = true) (tk : Takes X W) (E : Exs X.prog X.w X.K X.mg X.base C ns) {k : Nat} (hr : RoomG (k + 2) X.A) (hm : X.mg x = some (.ref C)) (ha : DA X W (e :: es) fa) (hg : Gl X x:=by rfl) (hdb : (x == ("__debug__" : Str)) = false:=by decide)
  (he : starEach (e :: es) X.env = (false,eval e X.env) :: starEach es X.env:=by rfl) (hpl : (backTo pos (starEach es X.env)).any (·.1) = false:=by rfl) :
  DS X W (.Raise (some (.Call (.Name x p) (e :: es) [] pos)) none pos') (sRaise C ns fa):=by
 obtain ⟨fI,fd,i1,i2,i3,i4⟩:=E.ini
 refine ⟨PS.imp (ps_raise hc tk (pmk_ob E.oex i1 i2 i3 ((hr.mono (show 2 ≤ k + 2 by omega)).rm) i4 .nil pass0 hg hm ha.pa hdb he hpl)) fun D σ H ⟨m,env,st,r,re,q⟩=>?_⟩
 refine sFs_step r re q fun us st1 vs m1 H1 h1 r1 re1 e1 p1=>?_
 split at p1
 ·rename_i ds hd
  split at p1
  ·rename_i hz
   have hds:=pureL_rp h1 hd
   have hl:=hds.length
   refine ⟨by omega,fun a hna=>⟨a,vs ++ [],rfl,by rw [List.append_nil]; omega,upd_same,fun d H2 hnd hne h2a h2d hk=>⟨rfl,d,_,h2a,h2d,(upd_ne hne).symm.trans hnd,?_⟩⟩⟩
   have hd1 : H1 d = none:=(upd_ne hne).symm.trans hnd
   have eH : upd (del H2 a) d (.xd (ns.zip (vs ++ [])).reverse) = upd H1 d (.xd (ns.zip vs).reverse):=by
    rw [List.append_nil]
    funext b
    by_cases hb : b = d
    ·rw [hb,upd_same,upd_same]
    ·rw [upd_ne hb,upd_ne hb]
     by_cases hba : b = a
     ·rw [hba,del_same,hna]
     ·rw [del_ne hba,hk b hba hb,upd_ne hba]
   rw [eH]
   exact p1 (some d) σ m1 _ (re1.ext (ext_new r1 hd1 _)) (r1.new hd1 _) (ext_new r1 hd1 _) ⟨_,upd_same,r1.fresh hd1,(RpF.rev (RpF.zip hds)).ext (ext_new r1 hd1 _)⟩
  ·exact p1.elim
 ·exact p1.elim
end
structure ExI (K : PySem.W.Frag) (C : Addr) : Prop where
 xf : XfC K C
 ca : PySem.W.findIn K (.ref C) "__class__" = some (some (.builtin "object.__class__"))
 cn : PySem.W.specialIn K (.builtin "object.__class__") "__get__" = some (some (.builtin "getset_descriptor.__get__"))
 ct : PySem.W.takesIn K (.builtin "object.__class__") = some true
 cm : PySem.W.mroIn K C (.type "object") = some true
section
variable {X : Cx} {W : WX} {x n : Str} {c : Value} {body suite : List Stmt} {b₀ : Stmt} {np pos pos' : Pos} {gb gs : G}
end
section
variable {X : Cx} {W : WX} {x n A1 A2 A3 n1 n2 : Str} {C a1 a2 a3 : Addr} {tn : String} {i : Nat} {body : List Stmt} {gb : G} {z : Str} {k1 k2 k3 : Nat} {np p1 p2 p3 p4 p5 p6 p7 p8 p9 p10 p11 p12 p13 p14 p15 p16 p17 p18 p19 p20 p21 p22 pos pos' : Pos}
end
theorem bt_ValueError : bootBuiltins "ValueError" = some (.type "ValueError"):=by decide +kernel
theorem bt_TypeError : bootBuiltins "TypeError" = some (.type "TypeError"):=by decide +kernel
end VL
namespace VL
open PySem PySem.Spec PyProof.Rows L2
noncomputable abbrev P2S:=U → U → Store → R U
noncomputable def f2s (g : P2S) (fa fb : F U) : F U:=bnd fa fun a=>bnd fb fun b=>fun _ st=>g a b st
noncomputable def rGS (K : PySem.W.Frag) (g : P2S) : R2:=fun x y H Q=>∃ m st a b,Rep K m st H ∧ RpU K m H a x ∧ RpU K m H b y ∧ PU K m H Q (fun _ _ _=>False) (g a b st)
theorem PO'.noex {α β : Type} {K : PySem.W.Frag} {m : List Addr} {H : Hp} {rel : List Addr → Hp → α → β → Prop} {Q : β → Hp → Prop} {E : XK} {r : R α} (h : PO' K m H rel Q E r) (hn : ∀ c fs st,r ≠ .ex c fs st) : PO' K m H rel Q (fun _ _ _=>False) r:=by
 cases r with
 | ok a st=>exact h
 | ex c fs st=>exact (hn c fs st rfl).elim
 | bad=>exact h
section
variable {X : Cx} {W : WX} {a b : Expr} {fa fb : F U} {pos : Pos} {g : P2S}
/-- a slice of a list,as a cell -/
noncomputable def oSlC (a : U) (lo hi : Option Int) (st : Store) : R U:=match getL st a with
 | some us=>.ok (.ref st.length) (st ++ [.lst (cutG us lo hi)])
 | none=>.bad
noncomputable def fSlC (f : F U) (l h : F (Option Int)) : F U:=bnd f fun a=>bnd l fun lo=>bnd h fun hi=>fun _ st=>oSlC a lo hi st
end
end VL
namespace VL
open PySem PySem.Spec PyProof.Rows L2 GenW
section
variable {X : Cx} {pos : Pos}
/-- what is done with an exception that leaves the loop's code -/
noncomputable abbrev leaves (env : Env) (x : Value) : Sem PySem.Fin:=(do noteFrame x env; theTreesLotGoes x : Sem Unit).wrap (fun _=>.raise x) .raise id id
end
end VL
namespace VL
open PySem PySem.Spec PyProof.Rows L2 GenW
inductive RY where
 | ok (env : VEnv) (f : Fl) (st : Store) (ys : List U)
 | bad
noncomputable abbrev Y:=VEnv → Store → List U → RY
noncomputable def PY (K : PySem.W.Frag) (m : List Addr) (H : Hp) (D : GEnds) : RY → Prop
 | .ok env .nx st' ys=>∀ σ' m' H' zs,RpEnv K m' H' env σ' → Rep K m' st' H' → Ext m H m' H' → RpUs K m' H' ys zs → D.nx zs σ' H'
 | .ok env (.rt u) st' ys=>∀ v m' H' zs,RpU K m' H' u v → Rep K m' st' H' → Ext m H m' H' → RpUs K m' H' ys zs → D.rt zs v H'
 | .ok env .bk st' ys=>∀ σ' m' H' zs,RpEnv K m' H' env σ' → Rep K m' st' H' → Ext m H m' H' → RpUs K m' H' ys zs → D.bk zs σ' H'
 | .ok env .ct st' ys=>∀ σ' m' H' zs,RpEnv K m' H' env σ' → Rep K m' st' H' → Ext m H m' H' → RpUs K m' H' ys zs → D.ct zs σ' H'
 | .bad=>False
theorem PY.from {K : PySem.W.Frag} {m m1 : List Addr} {H H1 : Hp} {D : GEnds} (e : Ext m H m1 H1) : ∀ {r : RY},PY K m H D r → PY K m1 H1 D r
 | .ok _ .nx _ _,h=>fun v m' H' zs a b c=>h v m' H' zs a b (e.trans c)
 | .ok _ (.rt _) _ _,h=>fun v m' H' zs a b c=>h v m' H' zs a b (e.trans c)
 | .ok _ .bk _ _,h=>fun v m' H' zs a b c=>h v m' H' zs a b (e.trans c)
 | .ok _ .ct _ _,h=>fun v m' H' zs a b c=>h v m' H' zs a b (e.trans c)
 | .bad,h=>h
theorem GS.imp {X : Cx} {s : Stmt} {t t' : TGn} (h : GS X s t) (i : ∀ D ys σ H,t' D ys σ H → t D ys σ H) : GS X s t' :=
 ⟨fun A S ip R n ys s₀ c fs K J gd lv s σ H D a b k d e=>h.run A S ip R n ys s₀ c fs K J gd lv s σ H D a b k d (i _ _ _ _ e)⟩
theorem GSs.imp {X : Cx} {s : List Stmt} {t t' : TGn} (h : GSs X s t) (i : ∀ D ys σ H,t' D ys σ H → t D ys σ H) : GSs X s t' :=
 ⟨fun A S ip R n ys s₀ c fs K J gd lv s σ H D a b k d e=>h.run A S ip R n ys s₀ c fs K J gd lv s σ H D a b k d (i _ _ _ _ e)⟩
section
variable {X : Cx} {W : WX} {s : Stmt} {ss a b : List Stmt} {g h ga gb : Y} {e c : Expr} {fe : F U} {bc : F Bool} {pos : Pos}
end
section
variable {X : Cx} {W : WX} {tg iter : Expr} {body : List Stmt} {is : List Nat} {g : U → G} {gb : Y} {fi : F Itb} {pos : Pos}
end
section
variable {X : Cx} {W : WX} {o : Expr} {fo : F U} {C f : Addr} {nm x : Str} {k : Nat} {mY : List U → Store → Option (Store × List U)} {p pos pos' apos : Pos} {pl : Sem Bool}
end
end VL
namespace VL
open PySem PySem.Spec PyProof.Rows L2
section
variable {X : Cx} {pins : List (Addr × Obj)} {σ : L2.St} {H : Hp} {s : Shared}
theorem fr_of (I : L2.Inv X pins σ H s) : ∃ m,Fr X.base X.env.locals s.heap m:=by
 obtain ⟨m,n,_⟩:=I.loc
 exact ⟨m,n,fun b o e=>(I.bs b o e).1,Nat.le_trans I.ok.bsz I.ok.above⟩
theorem inst_of (I : L2.Inv X pins σ H s) {a dx C : Addr} {fs : List (Str × V)} (e : H a = some (.ins C dx fs)) : ∃ od,PySem.W.InstAt s.heap a (PySem.W.instObj C dx) C (some od):=by
 obtain ⟨mA,O,_⟩:=ins_get I.hok e
 obtain ⟨od,h1,_⟩:=lookIn_ns O.ns
 exact ⟨od,O.obj,rfl,rfl,h1⟩
end
/-- a method of an own class that raises nothing,run where it is asked for by a builtin -/
theorem run_own {X : Cx} {pins : List (Addr × Obj)} {σ : L2.St} {H : Hp} {s : Shared} {Q : VK} {k n : Nat} {f : Addr} {gU : List U → List U → List U} {mf : List U → M U} {us : List Value} {vs : List V} {m : List Addr} {st : Store} {as : List U} {A' : Around} {E' : Value → Shared → Prop}
  (F : Fd X.prog X.w X.K X.mg X.base f k n [] gU mf) (hr : RoomG k A') (hf : A'.frames = X.A.frames) (I : L2.Inv X pins σ H s)
  (rv : Vals vs us) (r : Rep X.K m st H) (ra : RpUs X.K m H as vs) (la : as.length = n) (h : PU X.K m H Q (fun _ _ _=>False) (mf (gU as []) st)) :
  wpAny (model X.prog X.w) A' (call (.ref f) us) (EP X pins σ Q) E' s:=by
 have e0:=I.env0
 refine wpAny_call (codeAny_mono (F.run A' X.stack s H us [] vs [] m st as [] Q (fun _ _ _=>False) hr ⟨hf.trans e0.frames,e0.mod,e0.bs,e0.bsz,e0.funs,e0.frf,e0.hok,e0.bare⟩ rv .nil r ra rfl la rfl h) fun r' s' hq=>?_)
 cases r' with
 | error e =>
  obtain ⟨_,_,_,_,_,_,_,_,_,_,_,_,hW⟩:=hq
  exact hW.elim
 | ok fl =>
  cases fl with
  | next=>exact False.elim hq
  | brk=>exact False.elim hq
  | cont=>exact False.elim hq
  | ret u=>exact L2.Inv.after I hq
section
variable {X : Cx} {C f : Addr} {k : Nat} {gU : List U → List U → List U} {mf : List U → M U}
end
section
variable {X : Cx} {C f : Addr} {k : Nat} {gU : List U → List U → List U} {mf : List U → M U}
end
section
variable {X : Cx} {W : WX} {a b : Expr} {fa fb : F U} {pos : Pos} {g : P2S}
theorem d_cmpS {op : CmpOp} (ho : OpR X (compareOp op) (rGS X.K g)) (hn : ∀ a b st c fs st',g a b st ≠ .ex c fs st') (ha : DE X W a fa) (hb : DE X W b fb) (hm : behindInMarks op b = false:=by first | exact nomark _ | rfl) : DE X W (.Compare a [op] [b] pos) (f2s g fa fb) :=
 ⟨PE.imp (pe_cmpR ho ha.pe hb.pe hm) fun σ H Q ⟨m,env,st,r,re,p⟩=>tF_step r re p fun a st1 v m1 H1 h1 r1 re1 e1 p1=>tF_step r1 re1 p1 fun b st2 w m2 H2 h2 r2 re2 e2 p2 =>
  ⟨m2,st2,a,b,r2,h1.ext e2,h2,p2.noex fun c fs st'=>hn a b st2 c fs st'⟩⟩
theorem dt_cmpS {op : CmpOp} (ho : OpR X (compareOp op) (rGS X.K g)) (hn : ∀ a b st c fs st',g a b st ≠ .ex c fs st') (ha : DE X W a fa) (hb : DE X W b fb) (hm : behindInMarks op b = false:=by first | exact nomark _ | rfl) : DT X W (.Compare a [op] [b] pos) (asB (f2s g fa fb)) :=
 ⟨PT.imp (pt_cmpR ho ha.pe hb.pe hm) fun σ H Q h=>by
  have h2:=t_asB h
  obtain ⟨m,env,st,r,re,p⟩:=h2
  exact tF_step r re p fun a st1 v m1 H1 h1 r1 re1 e1 p1=>tF_step r1 re1 p1 fun b st2 w m2 H2 h2 r2 re2 e2 p2=>⟨m2,st2,a,b,r2,h1.ext e2,h2,p2.noex fun c fs st'=>hn a b st2 c fs st'⟩⟩
end
noncomputable def inDct (st : Store) (a b : U) : Option Bool:=match VL.getD st b with
 | some kvs=>match keyD a with
  | some k=>some (lookK kvs k).isSome
  | none=>none
 | none=>none
noncomputable def oInD : P2:=fun a b st=>(inDct st a b).map fun k=>.d (.bl k)
noncomputable def oNotInD : P2:=fun a b st=>(inDct st a b).map fun k=>.d (.bl (!k))
section
variable {X : Cx}
end
end VL
namespace VL
open PySem PySem.Spec PyProof.Rows L2
noncomputable def fProp (C : Addr) (mf : List U → M U) (fo : F U) : F U:=bnd fo fun u=>fun _ st=>match insU st u with
 | some (C',_)=>if C' = C then match mf [u] st with
  | .ok v st'=>.ok v st'
  | _=>.bad
  else .bad
 | none=>.bad
section
variable {X : Cx} {W : WX} {e : Expr} {fo : F U} {C p g : Addr} {f : Str} {k : Nat} {mf : List U → M U} {pos : Pos}
end
section
variable {X : Cx} {pins : List (Addr × Obj)} {σ : L2.St} {H : Hp} {s : Shared} {a dx C f : Addr} {fs : List (Str × V)} {A' : Around} {E' : Value → Shared → Prop}
end
section
variable {X : Cx} {W : WX} {C f : Addr} {k : Nat} {mf : List U → M U}
theorem room_in {A A' : Around} {d : Nat} (hr : RoomG (k + 1) A) (h1 : A'.handled = A.handled) (h2 : A'.depth = A.depth) (h3 : A'.units = A.units + d) (h4 : A'.guards = A.guards) (hd : d ≤ 16) : RoomG k A' :=
 ⟨⟨h1.trans hr.rm.hd,by have:=hr.rm.dp; omega,by have:=hr.rm.un; omega⟩,h4.trans hr.gd⟩
end
end VL
namespace VL
open PySem PySem.Spec PyProof.Rows L2
noncomputable def lcEndC (k : Nat) : R Unit → R U
 | .ok _ st=>match st[k]? with
  | some (.lst _)=>match cutS (k + 1) st with
   | some s=>.ok (.ref k) s
   | none=>.bad
  | _=>.bad
 | _=>.bad
noncomputable def fLcC (fi : F Itb) (tg : U → G) (tt : F Bool) (fe : F U) (vs : List Nat) : F U:=bnd fi fun t=>fun env st=>match t with
 | .lst us=>lcEndC st.length (lcL st.length tg tt fe (wipeE env vs) us (st ++ [.lst []]))
 | .cell n f=>match st[n]? with
  | some (.lst us)=>lcEndC st.length (lcC st.length tg tt fe (wipeE env vs) n f (us.length + 1) 0 (st ++ [.lst []]))
  | _=>.bad
section
variable {X : Cx} {W : WX} {elt tg iter : Expr} {ifs : List Expr} {scope : Scope} {own : List (Str × Nat)} {pos : Pos} {is : List Nat} {g : U → G} {gt : F Bool} {fe : F U} {fi : F Itb}
/-- one turn -/
theorem lc_turnC {K : PySem.W.Frag} {σ : L2.St} {env : VEnv} {m1 m' : List Addr} {H1 H'' : Hp} {st' : Store} {u : U} {x : V} {k : Nat} {D0 : Addr} {Nx : Hp → Prop} {vs is : List Nat} {rest : Store → R Unit} {Q : VK} {E : XK}
  (hvs : ∀ i ∈ is,i ∈ vs) (I : LcI K m1 H1 k D0 m' st' H'') (hk : k = m1.length) (h0 : H1 D0 = none) (re : RpEnv K m' H'' (wipeE env vs) (L2.wipe σ vs)) (ru : RpU K m' H'' u x)
  (p : PU K m1 H1 Q E (lcEndC k (match lcStep k g gt fe (wipeE env vs) u st' with
   | .ok _ st1=>rest st1
   | _=>.bad)))
  (hN : ∀ m2 st2 H2,LcI K m1 H1 k D0 m2 st2 H2 → RpEnv K m2 H2 (wipeE env vs) (L2.wipe σ vs) → PU K m1 H1 Q E (lcEndC k (rest st2)) → Nx H2) :
  tTg K is g x (L2.wipe σ vs) H'' fun σ2 H2=>L2.wipe σ2 vs = L2.wipe σ vs ∧ tFB K W0 gt σ2 H2 fun b H3 =>
   if b = true then tF K W0 fe σ2 H3 fun y H4=>∃ acc,H4 D0 = some (.lst acc) ∧ acc.length < sizeLine ∧ Nx (upd H4 D0 (.lst (acc ++ [y]))) else Nx H3:=by
 refine ⟨m',_,st',u,I.rep,re,ru,?_⟩
 unfold lcStep at p
 split
 ·rename_i env1 st1 e1
  simp only [e1] at p
  intro σ2 m2 H2 re2 r2 x2 o2
  refine ⟨wipe_out hvs o2,m2,env1,st1,r2,re2,?_⟩
  cases e2 : gt env1 st1 with
  | bad=>simp only [e2] at p; exact p.elim
  | ex c fs st2=>simp only [e2] at p; exact p.elim
  | ok b st2 =>
   simp only [e2] at p
   intro b' m3 H3 hb r3 x3
   subst hb
   cases b' with
   | false =>
    refine iteF (hN m3 st2 H3 ⟨r3,I.ext.trans (x2.trans x3),pre_get (x2.trans x3).pre I.at'⟩ (re.ext (x2.trans x3)) p)
   | true =>
    refine iteT ⟨m3,env1,st2,r3,re2.ext x3,?_⟩
    cases e3 : fe env1 st2 with
    | bad=>simp only [e3] at p; exact p.elim
    | ex c fs st3=>simp only [e3] at p; exact p.elim
    | ok z st3 =>
     simp only [e3] at p
     intro y m4 H4 ry r4 x4
     have x24:=x2.trans (x3.trans x4)
     have hat:=pre_get x24.pre I.at'
     cases hacc : st3[k]? with
     | none=>simp only [hacc] at p; exact p.elim
     | some cell =>
     cases cell with
     | dct _=>simp only [hacc] at p; exact p.elim
     | tup _=>simp only [hacc] at p; exact p.elim
     | ins _ _=>simp only [hacc] at p; exact p.elim
     | lck _=>simp only [hacc] at p; exact p.elim
     | kdc _ _=>simp only [hacc] at p; exact p.elim
     | tbl _ _=>simp only [hacc] at p; exact p.elim
     | lst acc =>
      simp only [hacc] at p
      by_cases hlen : acc.length < sizeLine
      ·rw [if_pos hlen] at p
       obtain ⟨ho,g1,ws,g2,g3⟩:=r4.cell k _ D0 hacc hat
       subst g2
       refine ⟨ws,g1,by rw [g3.length]; exact hlen,?_⟩
       have hm : D0 ∈ m4:=List.mem_of_getElem? hat
       have rW : Rep K m4 (st3.set k (.lst (acc ++ [z]))) (upd H4 D0 (.lst (ws ++ [y]))) :=
        r4.write hat ⟨_,rfl,(g3.append (show RpUs K m4 H4 [z] [y] from ⟨y,_,rfl,ry,rfl⟩)).ext (ext_write hm _ (nf_l g1))⟩ (nf_l g1)
       have eW : Ext m1 H1 m4 (upd H4 D0 (.lst (ws ++ [y]))):=(I.ext.trans x24).trans (ext_write hm _ (nf_l g1))
       exact hN m4 _ _ ⟨rW,eW,hat⟩ ((re.ext x24).ext (ext_write hm _ (nf_l g1))) p
      ·rw [if_neg hlen] at p; exact p.elim
 ·rename_i hn
  split at p
  ·rename_i q
   split at q
   ·rename_i env1 st1 e1
    exact (hn env1 st1 e1).elim
   ·cases q
  ·exact p.elim
theorem lc_finC {K : PySem.W.Frag} {m1 m' : List Addr} {H1 H' : Hp} {st' : Store} {k : Nat} {D0 : Addr} {Q : VK} {E : XK} (I : LcI K m1 H1 k D0 m' st' H') (hk : k = m1.length) (p : PU K m1 H1 Q E (lcEndC k (.ok () st'))) : Q (.ref D0) H':=by
 unfold lcEndC at p
 simp only at p
 split at p
 ·split at p
  ·rename_i s hs
   have hlt:=(List.getElem?_eq_some_iff.mp I.at').1
   refine p _ (m'.take (k + 1)) H' ⟨D0,?_,rfl⟩ (I.rep.cut hs) (ext_cut I.ext (by omega))
   rw [List.getElem?_take,if_pos (Nat.lt_succ_self k)]
   exact I.at'
  ·exact p.elim
 ·exact p.elim
theorem t_lcC {vs : List Nat} (hvs : ∀ i ∈ is,i ∈ vs) {σ : L2.St} {H : Hp} {Q : VK} (q : tF X.K W (fLcC fi g gt fe vs) σ H Q) :
  tLc (tI X.K W fi) (tTg X.K is g) (tFB X.K W0 gt) (tF X.K W0 fe) vs σ H Q:=by
 obtain ⟨m,env,st,r,re,p⟩:=q
 refine ⟨m,env,st,r,re,?_⟩
 unfold fLcC bnd at p
 cases e : fi env st with
 | bad=>rw [e] at p; exact p.elim
 | ex c fs st1=>rw [e] at p; exact p
 | ok t st1 =>
  rw [e] at p
  intro t' m0 H0 ht r0 e0 m1 st1' he r1 e1 J hJ D0 hD0
  subst ht
  cases he
  have re1:=re.ext e1
  have p1:=PO'.from e1 p
  have hpush:=push_lst r1 hD0 (us:=[]) (vs:=[]) rfl
  have start : LcI X.K m1 H0 m1.length D0 (m1 ++ [D0]) (st1 ++ [.lst []]) (upd H0 D0 (.lst [])):=⟨hpush.2,ext_push r1 hD0 _,by simp⟩
  have reS : RpEnv X.K (m1 ++ [D0]) (upd H0 D0 (.lst [])) (wipeE env vs) (L2.wipe σ vs):=(re1.ext (ext_push r1 hD0 _)).wipe vs
  have hlen:=r1.len
  cases t' with
  | lst us =>
   simp only [← hlen] at p1
   obtain ⟨go,stop,yld⟩:=hJ
   refine ⟨fun i n H=>∃ m' st',LcI X.K m1 H0 m1.length D0 m' st' H ∧ RpEnv X.K m' H (wipeE env vs) (L2.wipe σ vs) ∧ n = us.length - i ∧ i ≤ us.length ∧ PU X.K m1 H0 Q (fun c d H'=>W c d σ H') (lcEndC m1.length (lcL m1.length g gt fe (wipeE env vs) (us.drop i) st')),
    ⟨us.length,_,_,start,reS,by simp,Nat.zero_le _,p1⟩,?_⟩
   rintro i n H' ⟨m',st',I,re',rfl,hi,p'⟩
   by_cases hlt : i < us.length
   ·have hu : us[i]? = some us[i]:=List.getElem?_eq_getElem hlt
    rw [List.drop_eq_getElem_cons hlt] at p'
    refine .inr ⟨go i m' st' H' hlt I.rep I.ext,fun H2=>∃ m2 st2,LcI X.K m1 H0 m1.length D0 m2 st2 H2 ∧ RpEnv X.K m2 H2 (wipeE env vs) (L2.wipe σ vs) ∧ PU X.K m1 H0 Q (fun c d H'=>W c d σ H') (lcEndC m1.length (lcL m1.length g gt fe (wipeE env vs) (us.drop (i + 1)) st2)),?_,?_⟩
    ·rintro H2 ⟨m2,st2,I2,re2,p2⟩
     exact ⟨us.length - (i + 1),by omega,m2,st2,I2,re2,rfl,hlt,p2⟩
    ·intro x H'' hy
     obtain ⟨r2,e2,ru⟩:=yld i _ m' st' H' x H'' hu I.rep I.ext hy
     exact lc_turnC hvs ⟨r2,I.ext.trans e2,I.at'⟩ rfl hD0 (re'.ext e2) ru p' fun m2 st2 H2 I2 re2 p2=>⟨m2,st2,I2,re2,p2⟩
   ·have : i = us.length:=by omega
    subst this
    rw [List.drop_length] at p'
    exact .inl ⟨stop m' st' H' I.rep I.ext,lc_finC I rfl p'⟩
  | cell n f =>
   simp only at p1
   split at p1
   ·rename_i us0 hs0
    simp only [← hlen] at p1
    refine ⟨fun i j H=>∃ m' st',LcI X.K m1 H0 m1.length D0 m' st' H ∧ RpEnv X.K m' H (wipeE env vs) (L2.wipe σ vs) ∧ PU X.K m1 H0 Q (fun c d H'=>W c d σ H') (lcEndC m1.length (lcC m1.length g gt fe (wipeE env vs) n f j i st')),
     ⟨us0.length + 1,_,_,start,reS,p1⟩,?_⟩
    rintro i j H' ⟨m',st',I,re',p'⟩
    cases j with
    | zero=>exact p'.elim
    | succ j =>
     unfold lcC at p'
     split at p'
     ·rename_i us hs
      obtain ⟨go,stop,yld⟩:=hJ us m' st' H' I.rep I.ext hs
      cases hu : us[i]? with
      | none =>
       simp only [hu] at p'
       exact .inl ⟨stop i (List.getElem?_eq_none_iff.mp hu),lc_finC I rfl p'⟩
      | some u =>
       simp only [hu] at p'
       cases hf : f i u with
       | none=>simp only [hf] at p'; exact p'.elim
       | some w =>
        simp only [hf] at p'
        refine .inr ⟨go i (List.getElem?_eq_some_iff.mp hu).1,fun H2=>∃ m2 st2,LcI X.K m1 H0 m1.length D0 m2 st2 H2 ∧ RpEnv X.K m2 H2 (wipeE env vs) (L2.wipe σ vs) ∧ PU X.K m1 H0 Q (fun c d H'=>W c d σ H') (lcEndC m1.length (lcC m1.length g gt fe (wipeE env vs) n f j (i + 1) st2)),?_,?_⟩
        ·rintro H2 ⟨m2,st2,I2,re2,p2⟩
         exact ⟨j,Nat.lt_succ_self j,m2,st2,I2,re2,p2⟩
        ·intro x H'' hy
         obtain ⟨r2,e2,ru⟩:=yld i u w x H'' hu hf hy
         exact lc_turnC hvs ⟨r2,I.ext.trans e2,I.at'⟩ rfl hD0 (re'.ext e2) ru p' fun m2 st2 H2 I2 re2 p2=>⟨m2,st2,I2,re2,p2⟩
     ·exact p'.elim
   ·exact p1.elim
/-- name = [..] -/
theorem ds_setLcC (i : Nat) {y : Str} {py spos : Pos} (hc : X.calm = true) (hN : X.N.Nodup) (hsw : swapsWith (.ListComp elt [⟨tg,iter,ifs,0⟩] scope pos) (some (.Name y py)) spos.line X.env = pure true) (hi : DI X W tg iter fi) (ok : BlkOk X.N X.env.scope scope own)
  (hg : ∀ (s : Shared) (H : Hp) (C : Addr) (cl : List (Str × Addr)) (fp : List Addr),DG (X.blk s H scope (compEnvC scope cl C X.env) fp) tg is g)
  (ht : ∀ (s : Shared) (H : Hp) (C : Addr) (cl : List (Str × Addr)) (fp : List Addr),DTs (X.blk s H scope (compEnvC scope cl C X.env) fp) W0 ifs gt)
  (he : ∀ (s : Shared) (H : Hp) (C : Addr) (cl : List (Str × Addr)) (fp : List Addr),DE (X.blk s H scope (compEnvC scope cl C X.env) fp) W0 elt fe)
  (hvs : ∀ i ∈ is,i ∈ own.map (·.2):=by decide) (hy : X.N[i]? = some y:=by rfl) (hyl : X.env.scope.names.lookup y = some .local:=by rfl) (hs : ∀ x,foldedSetIterable iter X.env x = pure x:=by intro _; rfl) :
  DS X W (.Assign [.Name y py] (.ListComp elt [⟨tg,iter,ifs,0⟩] scope pos) spos) (sAsg (fLcC fi g gt fe (own.map (·.2))) (tgN i)) :=
 ⟨PS.imp (ps_setLc (i:=i) hc hN hy hyl hsw hi.pi ok (fun s H C cl fp=>(hg s H C cl fp).pg) (fun s H C cl fp=>(ht s H C cl fp).pts) (fun s H C cl fp=>(he s H C cl fp).pe) hs) fun D σ H ⟨m,env,st,r,re,p⟩=>by
  have h2 : tF X.K W (fLcC fi g gt fe (own.map (·.2))) σ H (fun x H1=>gName i x σ H1 D.nx):=sF_step r re p fun u st1 v m1 H1 h1 r1 re1 e1 p1=>p1 _ m1 H1 (re1.set i h1) r1 (Ext.refl _ _)
  exact t_lcC hvs h2⟩
end
theorem _root_.L2.Room.u1 {k : Nat} {A : Around} (h : L2.Room k A) : A.units + 1 < cLine:=by have:=h.un; omega
theorem _root_.L2.Room.u64 {k : Nat} {A : Around} (h : L2.Room k A) : A.units + 64 < cLine:=by have:=h.un; omega
theorem _root_.L2.Room.u65 {k : Nat} {A : Around} (h : L2.Room k A) : A.units + 65 < cLine:=by have:=h.un; omega
end VL
namespace VL
open PySem PySem.Spec PyProof.Rows L2
section
variable {X : Cx} {C f : Addr} {k : Nat} {mf : List U → M U}
end
noncomputable def okTy (C : Addr) (ns : List String) (st : Store) (b : U) : Bool:=(match insU st b with
 | some (C2,_)=>decide (C2 = C)
 | none=>false) || (match tyN [] st b with
 | some (.type n)=>ns.contains n
 | _=>false)
noncomputable def eqOA (C : Addr) (ns : List String) (mf : List U → M U) : P2S:=fun a b st=>match insU st a with
 | some (C',_)=>if C' = C ∧ okTy C ns st b = true then match mf [a,b] st with
  | .ok (.d (.bl k)) st'=>.ok (.d (.bl k)) st'
  | _=>.bad
  else .bad
 | none=>.bad
theorem eqOA_no (C : Addr) (ns : List String) (mf : List U → M U) : ∀ a b st c fs st',eqOA C ns mf a b st ≠ .ex c fs st':=fun a b st c fs st'=>by
 unfold eqOA
 split
 ·split
  ·split <;> intro z <;> cases z
  ·intro z; cases z
 ·intro z; cases z
section
variable {X : Cx} {C f : Addr} {k : Nat} {mf : List U → M U} {ns : List String}
theorem okTy_looks {pins : List (Addr × Obj)} {σ : L2.St} {H : Hp} {s : Shared} {m : List Addr} {st : Store} {b : U} {y : V} {u : Value} (hT : ∀ n ∈ ns,PySem.W.subIn X.K (.type n) (.ref C) = some false) (I : L2.Inv X pins σ H s) (r : Rep X.K m st H) (hb : RpU X.K m H b y) (ry : RelV y u) (h : okTy C ns st b = true) :
  ∃ tb,PySem.W.Looks (model X.prog X.w) s.heap (typeOf u) tb ∧ PySem.W.notFirst X.K C tb = true:=by
 unfold okTy at h
 rcases Bool.or_eq_true_iff.mp h with h | h
 ·split at h
  ·rename_i C2 ws hi
   obtain ⟨q2,dx2,vs2,rfl,hq2,_⟩:=insU_rp r hb hi
   cases ry
   obtain ⟨od2,Ib⟩:=inst_of I hq2
   have : C2 = C:=of_decide_eq_true h
   subst this
   exact ⟨.ref C2,Ib.type,by simp [PySem.W.notFirst]⟩
  ·cases h
 ·split at h
  ·rename_i n ht
   obtain ⟨P,kx,hP,_⟩:=L2.kit_of I ry (tyN_rp (cs:=[]) r (fun _ h=>nomatch h) hb ht)
   refine ⟨.type n,kx.ty _ _ I.kIn hP,?_⟩
   have:=hT n (List.contains_iff_mem.mp h)
   simp [PySem.W.notFirst,this]
  ·cases h
theorem op_eqOA (hT : ∀ n ∈ ns,PySem.W.subIn X.K (.type n) (.ref C) = some false) (hM : Meth X.K C "__eq__" f) (F : Fd X.prog X.w X.K X.mg X.base f k 2 [] gPos mf) (hr : RoomG k X.A) : OpR X (compareOp .Eq) (rGS X.K (eqOA C ns mf)):=by
 intro pins s σ H x y v u Q I rx ry h
 obtain ⟨m,st,a,b,r,ha,hb,p⟩:=h
 unfold eqOA at p
 split at p
 ·rename_i C' ws hi
  split at p
  ·rename_i hc
   obtain ⟨c1,c2⟩:=hc
   subst c1
   split at p
   ·rename_i kk st' hm
    obtain ⟨tb,lk,nf⟩:=okTy_looks hT I r hb ry c2
    obtain ⟨q,dx,vs,rfl,hq,_⟩:=insU_rp r ha hi
    cases rx
    obtain ⟨mA,Fm⟩:=fr_of I
    obtain ⟨od,Ia⟩:=inst_of I hq
    show wpAny _ _ (richCompare .Eq (.ref q) u) _ _ _
    refine PySem.W.cmp_K (op:=.Eq) (tb:=tb) (by have:=hr.rm.un; omega) Fm I.ok.mod.kin Ia lk nf hM.at_ hM.fn ?_
    refine wpAny_mono (run_own (Q:=fun v H'=>v = .bl kk ∧ Q (.bl kk) H') F hr rfl I (vs:=[.ref q,y]) (us:=[.ref q,u]) (as:=[a,b]) (.cons rfl (.cons ry .nil)) r ⟨_,_,rfl,ha,_,_,rfl,hb,rfl⟩ rfl ?_) (fun w s' hv=>?_) fun _ _ e=>e
    ·show PU X.K m H _ _ (mf [a,b] st)
     rw [hm]
     intro v' m' H' h1 h2 h3
     cases (show v' = .bl kk from h1)
     exact ⟨rfl,p _ m' H' rfl h2 h3⟩
    ·obtain ⟨w',H',I',rw',ey,qq⟩:=hv
     subst ey
     cases (show w = Value.bool kk from rw')
     exact ⟨.bl kk,H',I',rfl,qq⟩
   ·exact p.elim
  ·exact p.elim
 ·exact p.elim
end
section
variable {prog : Program} {w : World} {A : Around} {E : Value → Shared → Prop} {s : Shared} {K : PySem.W.Frag} {x C f : Addr} {ox : Obj} {od : Option Obj} {b tb : Value}
theorem ne_body {Q : Fin → Shared → Prop} (hu : A.units < cLine) (ki : K.In s.heap) (io : PySem.W.InstAt s.heap x ox C od) (fe : PySem.W.findIn K (.ref C) "__eq__" = some (some (.ref f))) (ff : PySem.W.isFn K (.ref f) = true)
  (h : wpAny (model prog w) A (call (.ref f) [.ref x,b]) (fun v s'=>∃ k,v = .bool k ∧ Q (.done (.ret (.bool (!k)))) s') E s) :
  wpAny (model prog w) A (Builtin.«object.__ne__» ⟨[.ref x,b],[]⟩) Q E s:=by
 unfold Builtin.«object.__ne__»
 repeat (first
  | with_reducible refine wpAny_cRoomFor hu ?_
  | (refine wpAny_bind (m:=callSpecialIfBound? (.ref x) (Str.ofString "__eq__") [b]) (PySem.W.ifBound_K ki io fe ff (wpAny_mono h (fun v s' z=>by
    obtain ⟨k,rfl,z⟩:=z
    repeat (first | exact z | exact wpAny_pure z | exact wpAny_truthy_bool z | (refine wpAny_bind (m:=truthy (.bool _)) (wpAny_truthy_bool ?_)) | wp_step)) fun _ _ z=>z)))
  | wp_step)
theorem ne_call {Q : Value → Shared → Prop} (hu : A.units + 1 < cLine) (ki : K.In s.heap) (io : PySem.W.InstAt s.heap x ox C od) (fe : PySem.W.findIn K (.ref C) "__eq__" = some (some (.ref f))) (ff : PySem.W.isFn K (.ref f) = true) (mo : PySem.W.mroIn K C (.type "object") = some true)
  (h : wpAny (model prog w) A.in1 (call (.ref f) [.ref x,b]) (fun v s'=>∃ k,v = .bool k ∧ Q (.bool (!k)) s') E s) :
  wpAny (model prog w) A (call (.builtin "object.__ne__") [.ref x,b]) Q E s:=by
 refine wpAny_call (codeAny_call_builtin F.cmp_object.ne.plain F.cmpEntry_ne ?_)
 refine PySem.W.check_slot F.cmpKind_ne F.cmpSplit_ne (io.type.andThen (PySem.W.looks_mroIn ki mo)) (F.cmpArgs_ne _ _) ?_
 refine ne_body (A:=A.in1) hu ki io fe ff (wpAny_mono h (fun v s' z=>?_) fun _ _ z=>z)
 obtain ⟨k,rfl,z⟩:=z
 exact ⟨k,rfl,z⟩
theorem ne_bound {M : Model} {args : List Value} {Q : Option Value → Shared → Prop} (ki : K.In s.heap) (io : PySem.W.InstAt s.heap x ox C od) (nn : PySem.W.findIn K (.ref C) "__ne__" = some (some (.builtin "object.__ne__")))
  (h : wpAny M A (call (.builtin "object.__ne__") (.ref x :: args)) (fun v=>Q (some v)) E s) : wpAny M A (callSpecialIfBound? (.ref x) "__ne__" args) Q E s:=by
 have last : wpAny M A (call (.builtin "object.__ne__") ([.ref x] ++ args) >>= fun v=>pure (some v)) Q E s :=
  wpAny_bind (wpAny_mono h (fun _ _ z=>wpAny_pure z) fun _ _ z=>z)
 have bn:=F.cmp_object.ne.bind (.ref x)
 simp only [callSpecialIfBound?,bindSpecialIfBound?]
 refine wpAny_holding (wpAny_bind (wpAny_bind (wpAny_bind ?_)))
 refine io.type.here ((PySem.W.looks_findIn ki nn).here (wpAny_bind (wpAny_askSetting (wpAny_ite ?_))))
 split
 ·exact wpAny_bind (wpAny_of_eq bn (wpAny_pure (by exact last)))
 ·exact wpAny_tryCatch (wpAny_bind (wpAny_of_eq bn (wpAny_pure (by exact last))))
theorem rich_ne {h₀ : Heap} {L : Addr} {mL : Str → Option Value} {Q : Value → Shared → Prop} (hu : A.units + 1 < cLine) (fr : Fr h₀ L s.heap mL) (k0 : K.In h₀) (io : PySem.W.InstAt s.heap x ox C od) (lk : PySem.W.Looks (model prog w) s.heap (typeOf b) tb) (nf : PySem.W.notFirst K C tb = true)
  (fe : PySem.W.findIn K (.ref C) "__eq__" = some (some (.ref f))) (ff : PySem.W.isFn K (.ref f) = true) (nn : PySem.W.findIn K (.ref C) "__ne__" = some (some (.builtin "object.__ne__"))) (mo : PySem.W.mroIn K C (.type "object") = some true)
  (h : wpAny (model prog w) A.in1 (call (.ref f) [.ref x,b]) (fun v s'=>∃ k,v = .bool k ∧ Q (.bool (!k)) s') E s) : wpAny (model prog w) A (richCompare .NotEq (.ref x) b) Q E s:=by
 have ki:=k0.keeps fr.keep
 have try1 : wpAny (model prog w) A (tryCompare (.ref x) "__ne__" b) (fun r s'=>∃ v,r = some v ∧ Q v s') E s:=by
  unfold tryCompare
  refine wpAny_bind (ne_bound ki io nn (ne_call hu ki io fe ff mo (wpAny_mono h (fun v s' z=>?_) fun _ _ z=>z)))
  obtain ⟨k,rfl,z⟩:=z
  exact ⟨k,rfl,wpAny_pure ⟨_,rfl,z⟩⟩
 unfold richCompare
 simp only [oneThing_ref]
 refine wpAny_holding (wpAny_bind (wpAny_cRoomFor (Nat.lt_of_succ_lt hu) ?_))
 rw [cmpInfo_NotEq]
 dsimp only
 refine wpAny_bind (io.type.here (wpAny_bind (lk.here ?_)))
 have tail : wpAny (model prog w) A (tryCompare (.ref x) "__ne__" b) (fun r s'=>∃ v,r = some v ∧ Q v s') E s:=try1
 by_cases q : (Value.ref C != tb) = true
 ·have sb : PySem.W.subIn K tb (.ref C) = some false:=by
   unfold PySem.W.notFirst at nf
   rcases Bool.or_eq_true_iff.mp nf with z | z
   ·rw [beq_iff_eq.mp z] at q; simp at q
   ·exact beq_iff_eq.mp z
  rw [if_pos q]
  refine wpAny_bind ((PySem.W.looks_subIn ki sb).here ?_)
  simp only [Bool.false_eq_true,if_false]
  refine wpAny_bind (wpAny_mono tail (fun r s' z=>?_) fun _ _ z=>z)
  obtain ⟨v,rfl,z⟩:=z
  exact wpAny_pure z
 ·rw [if_neg q]
  refine wpAny_bind (wpAny_pure ?_)
  simp only [Bool.false_eq_true,if_false]
  refine wpAny_bind (wpAny_mono tail (fun r s' z=>?_) fun _ _ z=>z)
  obtain ⟨v,rfl,z⟩:=z
  exact wpAny_pure z
end
noncomputable def neOA (C : Addr) (ns : List String) (mf : List U → M U) : P2S:=fun a b st=>match insU st a with
 | some (C',_)=>if C' = C ∧ okTy C ns st b = true then match mf [a,b] st with
  | .ok (.d (.bl k)) st'=>.ok (.d (.bl (!k))) st'
  | _=>.bad
  else .bad
 | none=>.bad
theorem neOA_no (C : Addr) (ns : List String) (mf : List U → M U) : ∀ a b st c fs st',neOA C ns mf a b st ≠ .ex c fs st':=fun a b st c fs st'=>by
 unfold neOA
 split
 ·split
  ·split <;> intro z <;> cases z
  ·intro z; cases z
 ·intro z; cases z
section
variable {X : Cx} {C f : Addr} {k : Nat} {mf : List U → M U} {ns : List String}
theorem op_neOA (hT : ∀ n ∈ ns,PySem.W.subIn X.K (.type n) (.ref C) = some false) (hM : Meth X.K C "__eq__" f) (hN : PySem.W.findIn X.K (.ref C) "__ne__" = some (some (.builtin "object.__ne__"))) (hO : PySem.W.mroIn X.K C (.type "object") = some true) (F : Fd X.prog X.w X.K X.mg X.base f k 2 [] gPos mf) (hr : RoomG (k + 1) X.A) : OpR X (compareOp .NotEq) (rGS X.K (neOA C ns mf)):=by
 intro pins s σ H x y v u Q I rx ry h
 obtain ⟨m,st,a,b,r,ha,hb,p⟩:=h
 unfold neOA at p
 split at p
 ·rename_i C' ws hi
  split at p
  ·rename_i hc
   obtain ⟨c1,c2⟩:=hc
   subst c1
   split at p
   ·rename_i kk st' hm
    obtain ⟨tb,lk,nf⟩:=okTy_looks hT I r hb ry c2
    obtain ⟨q,dx,vs,rfl,hq,_⟩:=insU_rp r ha hi
    cases rx
    obtain ⟨mA,Fm⟩:=fr_of I
    obtain ⟨od,Ia⟩:=inst_of I hq
    have hr1 : RoomG k X.A.in1:=⟨⟨hr.rm.hd,by have:=hr.rm.dp; show X.A.depth + 3 * k + 5 < _; omega,by have:=hr.rm.un; show X.A.units + 1 + 16 * k + 200 < _; omega⟩,hr.gd⟩
    show wpAny _ _ (richCompare .NotEq (.ref q) u) _ _ _
    refine rich_ne (tb:=tb) (by have:=hr.rm.un; omega) Fm I.ok.mod.kin Ia lk nf hM.at_ hM.fn hN hO ?_
    refine wpAny_mono (run_own (Q:=fun v H'=>v = .bl kk ∧ Q (.bl (!kk)) H') F hr1 rfl I (vs:=[.ref q,y]) (us:=[.ref q,u]) (as:=[a,b]) (.cons rfl (.cons ry .nil)) r ⟨_,_,rfl,ha,_,_,rfl,hb,rfl⟩ rfl ?_) (fun w s' hv=>?_) fun _ _ e=>e
    ·show PU X.K m H _ _ (mf [a,b] st)
     rw [hm]
     intro v' m' H' h1 h2 h3
     cases (show v' = .bl kk from h1)
     exact ⟨rfl,p _ m' H' rfl h2 h3⟩
    ·obtain ⟨w',H',I',rw',ey,qq⟩:=hv
     subst ey
     cases (show w = Value.bool kk from rw')
     exact ⟨kk,rfl,.bl (!kk),H',I',rfl,qq⟩
   ·exact p.elim
  ·exact p.elim
 ·exact p.elim
end
section
variable {prog : Program} {w : World} {A : Around} {E : Value → Shared → Prop} {s : Shared} {K : PySem.W.Frag} {x C f : Addr} {ox : Obj} {od : Option Obj} {v tv : Value}
theorem rich_back {h₀ : Heap} {L : Addr} {mL : Str → Option Value} {Q : Value → Shared → Prop} (hu : A.units < cLine) (fr : Fr h₀ L s.heap mL) (k0 : K.In h₀) (io : PySem.W.InstAt s.heap x ox C od) (lk : PySem.W.Looks (model prog w) s.heap (typeOf v) tv) (sb : PySem.W.subIn K (.ref C) tv = some false)
  (one : oneThing? .Eq v (.ref x) = none) (dec : wpAny (model prog w) A (tryCompare v "__eq__" (.ref x)) (fun r s'=>r = none ∧ s' = s) E s)
  (fe : PySem.W.findIn K (.ref C) "__eq__" = some (some (.ref f))) (ff : PySem.W.isFn K (.ref f) = true)
  (h : wpAny (model prog w) A (call (.ref f) [.ref x,v]) (PySem.W.CmpBack Q) E s) : wpAny (model prog w) A (richCompare .Eq v (.ref x)) Q E s:=by
 have ki:=k0.keeps fr.keep
 have back : wpAny (model prog w) A (tryCompare (.ref x) "__eq__" v) (fun r s'=>∃ v,r = some v ∧ Q v s') E s:=by
  unfold tryCompare
  refine wpAny_bind (PySem.W.ifBound_K ki io fe ff (wpAny_mono h (fun v s' z=>?_) fun _ _ z=>z))
  cases v <;> first | exact z.elim | exact wpAny_pure ⟨_,rfl,z⟩
 unfold richCompare
 simp only [one]
 refine wpAny_holding (wpAny_bind (wpAny_cRoomFor hu ?_))
 rw [cmpInfo_Eq]
 dsimp only
 refine wpAny_bind (lk.here (wpAny_bind (io.type.here ?_)))
 have both : wpAny (model prog w) A (tryCompare v "__eq__" (.ref x)) (fun r s'=>r = none ∧ s' = s) E s:=dec
 split
 ·refine wpAny_bind ((PySem.W.looks_subIn ki sb).here ?_)
  simp only [Bool.false_eq_true,if_false,Bool.not_false,if_true]
  refine wpAny_bind (wpAny_mono both (fun r s1 z=>?_) fun _ _ z=>z)
  obtain ⟨z1,z2⟩:=z
  subst z1
  subst z2
  refine wpAny_bind (wpAny_mono back (fun r s1 z=>?_) fun _ _ z=>z)
  obtain ⟨v,rfl,z⟩:=z
  exact wpAny_pure z
 ·refine wpAny_bind (wpAny_pure ?_)
  simp only [Bool.false_eq_true,if_false,Bool.not_false,if_true]
  refine wpAny_bind (wpAny_mono both (fun r s1 z=>?_) fun _ _ z=>z)
  obtain ⟨z1,z2⟩:=z
  subst z1
  subst z2
  refine wpAny_bind (wpAny_mono back (fun r s1 z=>?_) fun _ _ z=>z)
  obtain ⟨v,rfl,z⟩:=z
  exact wpAny_pure z
end
section
variable {prog : Program} {w : World} {A : Around} {E : Value → Shared → Prop} {s : Shared} {x C dx : Addr}
theorem str_declines {z : Str} {t : Tok} (h : s.heap.get? x = some (PySem.W.instObj C dx)) : wpAny (model prog w) A (tryCompare (.str z t) "__eq__" (.ref x)) (fun r s'=>r = none ∧ s' = s) E s:=by
 refine wpAny_tryCompare_declines (T:="str") rfl F.slot_str_eq (GQ.call_here F.slot_str_eq rfl F.entry_str_eq (F.args_str_eq_2 _ _) ?_)
 obtain ⟨hp,g,d,tk,os⟩:=s
 wp_walk using wpAny_loadPart' h
 all_goals exact ⟨rfl,rfl,rfl⟩
theorem int_declines {z : Int} {t : Tok} (h : s.heap.get? x = some (PySem.W.instObj C dx)) : wpAny (model prog w) A (tryCompare (.int z t) "__eq__" (.ref x)) (fun r s'=>r = none ∧ s' = s) E s:=by
 refine wpAny_tryCompare_declines (T:="int") rfl F.slot_int_eq (GQ.call_here F.slot_int_eq rfl F.entry_int_eq (F.args_int_eq_2 _ _) ?_)
 obtain ⟨hp,g,d,tk,os⟩:=s
 wp_walk using wpAny_loadPart' h
 all_goals exact ⟨rfl,rfl,rfl⟩
theorem bool_declines {z : Bool} (h : s.heap.get? x = some (PySem.W.instObj C dx)) : wpAny (model prog w) A (tryCompare (.bool z) "__eq__" (.ref x)) (fun r s'=>r = none ∧ s' = s) E s:=by
 refine wpAny_tryCompare_declines (T:="bool") rfl F.slot_bool_eq (GQ.call_here F.slot_bool_eq rfl F.entry_int_eq (F.args_int_eq_2 _ _) ?_)
 obtain ⟨hp,g,d,tk,os⟩:=s
 wp_walk using wpAny_loadPart' h
 all_goals exact ⟨rfl,rfl,rfl⟩
theorem none_declines (h : s.heap.get? x = some (PySem.W.instObj C dx)) : wpAny (model prog w) A (tryCompare .none "__eq__" (.ref x)) (fun r s'=>r = none ∧ s' = s) E s:=by
 refine wpAny_tryCompare_declines (T:="NoneType") rfl F.slot_NoneType_eq (GQ.call_here F.slot_NoneType_eq rfl F.entry_NoneType_eq (F.args_NoneType_eq_2 _ _) ?_)
 obtain ⟨hp,g,d,tk,os⟩:=s
 wp_walk using wpAny_loadPart' h
 all_goals exact ⟨rfl,rfl,rfl⟩
end
noncomputable def sclU : U → Bool
 | .d .non=>true
 | .d (.bl _)=>true
 | .d (.int _)=>true
 | .d (.str _)=>true
 | _=>false
/-- a text,number,truth value or None at the left,an own object at the right -/
noncomputable def eqOR (C : Addr) (mf : List U → M U) : P2S:=fun a b st=>match insU st b with
 | some (C',_)=>if C' = C ∧ sclU a = true then match mf [b,a] st with
  | .ok (.d (.bl k)) st'=>.ok (.d (.bl k)) st'
  | _=>.bad
  else .bad
 | none=>.bad
section
variable {X : Cx} {C f : Addr} {k : Nat} {mf : List U → M U}
theorem op_eqOR (hT : ∀ n ∈ ["NoneType","bool","int","str"],PySem.W.subIn X.K (.ref C) (.type n) = some false) (hM : Meth X.K C "__eq__" f) (F : Fd X.prog X.w X.K X.mg X.base f k 2 [] gPos mf) (hr : RoomG k X.A) : OpR X (compareOp .Eq) (rGS X.K (eqOR C mf)):=by
 intro pins s σ H x y v u Q I rx ry h
 obtain ⟨m,st,a,b,r,ha,hb,p⟩:=h
 unfold eqOR at p
 split at p
 ·rename_i C' ws hi
  split at p
  ·rename_i hc
   obtain ⟨c1,c2⟩:=hc
   subst c1
   split at p
   ·rename_i kk st' hm
    obtain ⟨q,dx,vs,rfl,hq,_⟩:=insU_rp r hb hi
    cases ry
    obtain ⟨mA,Fm⟩:=fr_of I
    obtain ⟨od,Ia⟩:=inst_of I hq
    have low : ∀ T : String,PySem.W.subIn X.K (.ref C') (.type T) = some false → PySem.W.Looks (model X.prog X.w) s.heap (typeOf v) (.type T) → oneThing? .Eq v (.ref q) = none → (∀ E : Value → Shared → Prop,wpAny (model X.prog X.w) X.A (tryCompare v "__eq__" (.ref q)) (fun r s'=>r = none ∧ s' = s) E s) → wpAny (model X.prog X.w) X.A (compareOp .Eq v (.ref q)) (EP X pins σ Q) X.xe s:=fun T h1 h2 h3 h4=>by
     show wpAny _ _ (richCompare .Eq v (.ref q)) _ _ _
     refine rich_back (by have:=hr.rm.un; omega) Fm I.ok.mod.kin Ia h2 h1 h3 (h4 _) hM.at_ hM.fn ?_
     refine wpAny_mono (run_own (Q:=fun v H'=>v = .bl kk ∧ Q (.bl kk) H') F hr rfl I (vs:=[.ref q,x]) (us:=[.ref q,v]) (as:=[b,a]) (.cons rfl (.cons rx .nil)) r ⟨_,_,rfl,hb,_,_,rfl,ha,rfl⟩ rfl ?_) (fun w s' hv=>?_) fun _ _ e=>e
     ·show PU X.K m H _ _ (mf [b,a] st)
      rw [hm]
      intro v' m' H' h1 h2 h3
      cases (show v' = .bl kk from h1)
      exact ⟨rfl,p _ m' H' rfl h2 h3⟩
     ·obtain ⟨w',H',I',rw',ey,qq⟩:=hv
      subst ey
      cases (show w = Value.bool kk from rw')
      exact ⟨.bl kk,H',I',rfl,qq⟩
    unfold sclU at c2
    split at c2
    ·cases (show x = .non from ha)
     cases (show v = Value.none from rx)
     exact low "NoneType" (hT _ (by simp)) (PySem.W.Looks.of_pure rfl) rfl fun E=>none_declines Ia.at_
    ·rename_i kb
     cases (show x = .bl kb from ha)
     cases (show v = Value.bool kb from rx)
     exact low "bool" (hT _ (by simp)) (PySem.W.Looks.of_pure rfl) rfl fun E=>bool_declines Ia.at_
    ·rename_i i
     cases (show x = .int i from ha)
     obtain ⟨t,e⟩:=(show ∃ t,v = Value.int i t from rx)
     cases e
     exact low "int" (hT _ (by simp)) (PySem.W.Looks.of_pure rfl) rfl fun E=>int_declines Ia.at_
    ·rename_i z
     cases (show x = .str z from ha)
     obtain ⟨t,e⟩:=(show ∃ t,v = Value.str z t from rx)
     cases e
     exact low "str" (hT _ (by simp)) (PySem.W.Looks.of_pure rfl) rfl fun E=>str_declines Ia.at_
    ·cases c2
   ·exact p.elim
  ·exact p.elim
 ·exact p.elim
end
end VL
namespace VL
open PySem PySem.Spec PyProof.Rows L2
section
variable {prog : Program} {w : World} {A : Around} {E : Value → Shared → Prop} {s : Shared} {K : PySem.W.Frag} {x l C : Addr} {ox : Obj} {od : Option Obj}
theorem list_declines (hl : s.TypeIs (.ref l) "list") (ki : K.In s.heap) (io : PySem.W.InstAt s.heap x ox C od) (sb : PySem.W.subIn K (.ref C) (.type "list") = some false) : wpAny (model prog w) A (tryCompare (.ref l) "__eq__" (.ref x)) (fun r s'=>r = none ∧ s' = s) E s:=by
 refine wpAny_tryCompare_declines (T:="list") hl F.slot_list_eq (GQ.call_here F.slot_list_eq hl F.entry_list_eq (F.args_list_eq_2 _ _) ?_)
 have lk : PySem.W.Looks (model prog w) s.heap (isInstance (.ref x) (.type "list")) false:=io.type.andThen (PySem.W.looks_subIn ki sb)
 obtain ⟨hp,g,d,tk,os⟩:=s
 unfold Builtin.«list.__eq__»
 repeat (first | with_reducible refine lk.at ?_ | (refine wpAny_bind (lk.here ?_)) | wp_step)
 all_goals exact ⟨rfl,rfl,rfl⟩
theorem tuple_declines (hl : s.TypeIs (.ref l) "tuple") (ki : K.In s.heap) (io : PySem.W.InstAt s.heap x ox C od) (sb : PySem.W.subIn K (.ref C) (.type "tuple") = some false) : wpAny (model prog w) A (tryCompare (.ref l) "__eq__" (.ref x)) (fun r s'=>r = none ∧ s' = s) E s:=by
 refine wpAny_tryCompare_declines (T:="tuple") hl F.slot_tuple_eq (GQ.call_here F.slot_tuple_eq hl F.entry_tuple_eq (F.args_tuple_eq_2 _ _) ?_)
 have lk : PySem.W.Looks (model prog w) s.heap (isInstance (.ref x) (.type "tuple")) false:=io.type.andThen (PySem.W.looks_subIn ki sb)
 obtain ⟨hp,g,d,tk,os⟩:=s
 unfold Builtin.«tuple.__eq__»
 repeat (first | with_reducible refine lk.at ?_ | (refine wpAny_bind (lk.here ?_)) | wp_step)
 all_goals exact ⟨rfl,rfl,rfl⟩
end
noncomputable def seqU (st : Store) : U → Option String
 | .d (.lst _)=>some "list"
 | .d (.tup _)=>some "tuple"
 | .ref n=>match st[n]? with
  | some (.lst _)=>some "list"
  | _=>none
 | _=>none
theorem seqU_ty {X : Cx} {pins : List (Addr × Obj)} {σ : L2.St} {H : Hp} {s : Shared} {m : List Addr} {st : Store} {a : U} {x : V} {v : Value} {T : String} (I : L2.Inv X pins σ H s) (r : Rep X.K m st H) (ha : RpU X.K m H a x) (rx : RelV x v) (h : seqU st a = some T) :
  ∃ l,v = .ref l ∧ s.TypeIs (.ref l) T ∧ (T = "list" ∨ T = "tuple"):=by
 have lists : ∀ (l : Addr) (vs : List V),H l = some (.lst vs) → s.TypeIs (.ref l) "list":=fun l vs e=>by
  obtain ⟨_,_,n,_,h1⟩:=(show ObjOk X.prog X.w H s.heap l (.lst vs) from I.hok l _ e)
  exact ⟨_,h1,rfl⟩
 cases a with
 | ref n =>
  simp only [seqU] at h
  split at h
  ·rename_i us hs
   cases h
   obtain ⟨l,hl,rfl⟩:=ha
   obtain ⟨ho,h1,vs,rfl,_⟩:=r.cell n _ l hs hl
   cases rx
   exact ⟨l,rfl,lists l vs h1,.inl rfl⟩
  ·cases h
 | d x' =>
  cases x' with
  | lst ds =>
   cases h
   obtain ⟨l,vs,rfl,t,_⟩:=ha
   cases rx
   exact ⟨l,rfl,lists l vs t.2,.inl rfl⟩
  | tup ds =>
   cases h
   obtain ⟨l,vs,rfl,t,_⟩:=ha
   cases rx
   refine ⟨l,rfl,?_,.inr rfl⟩
   rcases t.sq with (e | ⟨o,e⟩) | ⟨o,its,n,hk,h1,_⟩
   ·obtain ⟨_,_,_,ob,g1,g2,_⟩:=(show ObjOk X.prog X.w H s.heap l (.tup vs) from I.hok l _ e)
    exact ⟨ob,g1,g2⟩
   ·obtain ⟨_,hx⟩:=(show ObjOk X.prog X.w H s.heap l (.frz o (.tup vs)) from I.hok l _ e)
    obtain ⟨_,_,_,ob,g1,g2,_⟩:=hx
    exact ⟨ob,g1,g2⟩
   ·exact ⟨o,I.kIn _ _ hk,h1⟩
  | _=>cases h
/-- anything but an own object at the left,an own object at the right -/
noncomputable def eqOR2 (C : Addr) (mf : List U → M U) : P2S:=fun a b st=>match insU st b with
 | some (C',_)=>if C' = C ∧ (sclU a || (seqU st a).isSome) = true then match mf [b,a] st with
  | .ok (.d (.bl k)) st'=>.ok (.d (.bl k)) st'
  | _=>.bad
  else .bad
 | none=>.bad
theorem eqOR2_no (C : Addr) (mf : List U → M U) : ∀ a b st c fs st',eqOR2 C mf a b st ≠ .ex c fs st':=fun a b st c fs st'=>by
 unfold eqOR2
 split
 ·split
  ·split <;> intro z <;> cases z
  ·intro z; cases z
 ·intro z; cases z
section
variable {X : Cx} {C f : Addr} {k : Nat} {mf : List U → M U}
theorem op_eqOR2 (hT : ∀ n ∈ ["NoneType","bool","int","str","list","tuple"],PySem.W.subIn X.K (.ref C) (.type n) = some false) (hM : Meth X.K C "__eq__" f) (F : Fd X.prog X.w X.K X.mg X.base f k 2 [] gPos mf) (hr : RoomG k X.A) : OpR X (compareOp .Eq) (rGS X.K (eqOR2 C mf)):=by
 intro pins s σ H x y v u Q I rx ry h
 obtain ⟨m,st,a,b,r,ha,hb,p⟩:=h
 by_cases hs : sclU a = true
 ·refine op_eqOR (fun n hn=>hT n (by simp only [List.mem_cons,List.not_mem_nil,or_false] at hn ⊢; rcases hn with e | e | e | e <;> simp [e])) hM F hr pins s σ H x y v u Q I rx ry ⟨m,st,a,b,r,ha,hb,?_⟩
  unfold eqOR2 at p
  unfold eqOR
  rw [hs,Bool.true_or] at p
  rw [hs]
  exact p
 ·unfold eqOR2 at p
  split at p
  ·rename_i C' ws hi
   split at p
   ·rename_i hc
    obtain ⟨c1,c2⟩:=hc
    subst c1
    split at p
    ·rename_i kk st' hm
     obtain ⟨q,dx,vs,rfl,hq,_⟩:=insU_rp r hb hi
     cases ry
     obtain ⟨mA,Fm⟩:=fr_of I
     obtain ⟨od,Ia⟩:=inst_of I hq
     have low : ∀ T : String,PySem.W.subIn X.K (.ref C') (.type T) = some false → PySem.W.Looks (model X.prog X.w) s.heap (typeOf v) (.type T) → oneThing? .Eq v (.ref q) = none → (∀ E : Value → Shared → Prop,wpAny (model X.prog X.w) X.A (tryCompare v "__eq__" (.ref q)) (fun r s'=>r = none ∧ s' = s) E s) → wpAny (model X.prog X.w) X.A (compareOp .Eq v (.ref q)) (EP X pins σ Q) X.xe s:=fun T h1 h2 h3 h4=>by
      show wpAny _ _ (richCompare .Eq v (.ref q)) _ _ _
      refine rich_back (by have:=hr.rm.un; omega) Fm I.ok.mod.kin Ia h2 h1 h3 (h4 _) hM.at_ hM.fn ?_
      refine wpAny_mono (run_own (Q:=fun v H'=>v = .bl kk ∧ Q (.bl kk) H') F hr rfl I (vs:=[.ref q,x]) (us:=[.ref q,v]) (as:=[b,a]) (.cons rfl (.cons rx .nil)) r ⟨_,_,rfl,hb,_,_,rfl,ha,rfl⟩ rfl ?_) (fun w s' hv=>?_) fun _ _ e=>e
      ·show PU X.K m H _ _ (mf [b,a] st)
       rw [hm]
       intro v' m' H' h1 h2 h3
       cases (show v' = .bl kk from h1)
       exact ⟨rfl,p _ m' H' rfl h2 h3⟩
      ·obtain ⟨w',H',I',rw',ey,qq⟩:=hv
       subst ey
       cases (show w = Value.bool kk from rw')
       exact ⟨.bl kk,H',I',rfl,qq⟩
     cases hq2 : seqU st a with
     | none=>rw [hq2] at c2; simp [hs] at c2
     | some T =>
      obtain ⟨l,rfl,tl,hT2⟩:=seqU_ty I r ha rx hq2
      have lk : PySem.W.Looks (model X.prog X.w) s.heap (typeOf (.ref l)) (.type T):=by
       obtain ⟨o,h1,h2⟩:=tl
       exact fun A Q E s k q=>wpAny_typeOf_ref (k _ _ h1) (by rw [h2]; exact q)
      rcases hT2 with rfl | rfl
      ·exact low "list" (hT _ (by simp)) lk rfl fun E=>list_declines tl I.kIn Ia (hT _ (by simp))
      ·exact low "tuple" (hT _ (by simp)) lk rfl fun E=>tuple_declines tl I.kIn Ia (hT _ (by simp))
    ·exact p.elim
   ·exact p.elim
  ·exact p.elim
/-- == of any two -/
noncomputable def eqM (C : Addr) (ns : List String) (mf : List U → M U) : P2S:=fun a b st=>match insU st a with
 | some _=>eqOA C ns mf a b st
 | none=>match insU st b with
  | some _=>eqOR2 C mf a b st
  | none=>.of st (oEq a b st)
theorem R_of_no {α : Type} {st : Store} {o : Option α} {c : Value} {fs : Option (List (Str × D))} {st' : Store} : R.of st o ≠ .ex c fs st':=by
 cases o <;> intro z <;> cases z
theorem eqM_no (C : Addr) (ns : List String) (mf : List U → M U) : ∀ a b st c fs st',eqM C ns mf a b st ≠ .ex c fs st':=fun a b st c fs st'=>by
 unfold eqM
 split
 ·exact eqOA_no C ns mf a b st c fs st'
 ·split
  ·exact eqOR2_no C mf a b st c fs st'
  ·exact R_of_no
/-- != of any two,an own one at the left -/
noncomputable def neM (C : Addr) (ns : List String) (mf : List U → M U) : P2S:=fun a b st=>match insU st a with
 | some _=>neOA C ns mf a b st
 | none=>.of st (oNe a b st)
theorem neM_no (C : Addr) (ns : List String) (mf : List U → M U) : ∀ a b st c fs st',neM C ns mf a b st ≠ .ex c fs st':=fun a b st c fs st'=>by
 unfold neM
 split
 ·exact neOA_no C ns mf a b st c fs st'
 ·exact R_of_no
/-- what the written part says of a class with == alone -/
structure EqC (K : PySem.W.Frag) (C f : Addr) (ns : List String) : Prop where
 me : Meth K C "__eq__" f
 up : ∀ n ∈ ns,PySem.W.subIn K (.type n) (.ref C) = some false
 dn : ∀ n ∈ ["NoneType","bool","int","str","list","tuple"],PySem.W.subIn K (.ref C) (.type n) = some false
 ne : PySem.W.findIn K (.ref C) "__ne__" = some (some (.builtin "object.__ne__"))
 mo : PySem.W.mroIn K C (.type "object") = some true
variable {ns : List String}
theorem op_eqM (T : EqC X.K C f ns) (F : Fd X.prog X.w X.K X.mg X.base f k 2 [] gPos mf) (hr : RoomG k X.A) (hu : X.A.units + 64 < cLine) : OpR X (compareOp .Eq) (rGS X.K (eqM C ns mf)):=by
 intro pins s σ H x y v u Q I rx ry h
 obtain ⟨m,st,a,b,r,ha,hb,p⟩:=h
 unfold eqM at p
 split at p
 ·exact op_eqOA T.up T.me F hr pins s σ H x y v u Q I rx ry ⟨m,st,a,b,r,ha,hb,p⟩
 ·split at p
  ·exact op_eqOR2 T.dn T.me F hr pins s σ H x y v u Q I rx ry ⟨m,st,a,b,r,ha,hb,p⟩
  ·exact op_eq' hu pins s σ H x y v u Q I rx ry ⟨m,st,a,b,r,ha,hb,PV.of p⟩
theorem op_neM (T : EqC X.K C f ns) (F : Fd X.prog X.w X.K X.mg X.base f k 2 [] gPos mf) (hr : RoomG (k + 1) X.A) (hu : X.A.units + 64 < cLine) : OpR X (compareOp .NotEq) (rGS X.K (neM C ns mf)):=by
 intro pins s σ H x y v u Q I rx ry h
 obtain ⟨m,st,a,b,r,ha,hb,p⟩:=h
 unfold neM at p
 split at p
 ·exact op_neOA T.up T.me T.ne T.mo F hr pins s σ H x y v u Q I rx ry ⟨m,st,a,b,r,ha,hb,p⟩
 ·exact op_ne' hu pins s σ H x y v u Q I rx ry ⟨m,st,a,b,r,ha,hb,PV.of p⟩
end
end VL
namespace VL
open PySem PySem.Spec PyProof.Rows L2
open Classical in
/-- the answer,where it does not hang on the addresses -/
noncomputable def common {α : Type} (bad : α) (f : Addr → Option Addr → α) : α:=if ∀ a d,f a d = f 0 none then f 0 none else bad
theorem common_c {α : Type} (bad r : α) : common bad (fun _ _=>r) = r:=by
 unfold common
 rw [if_pos fun _ _=>rfl]
theorem common_ok {α : Type} {bad r : α} {f : Addr → Option Addr → α} (h : common bad f = r) (hb : r ≠ bad) (a : Addr) (d : Option Addr) : f a d = r:=by
 unfold common at h
 split at h
 ·rename_i q
  rw [q a d]; exact h
 ·exact (hb h.symm).elim
/-- behind the suite the name is gone -/
noncomputable def dropE (i : Nat) : RS → RS
 | .ok _ (.rt u) st=>.ok [] (.rt u) st
 | .ok env .nx st=>.ok (env.set i none) .nx st
 | .ok env .bk st=>.ok (env.set i none) .bk st
 | .ok env .ct st=>.ok (env.set i none) .ct st
 | _=>.bad
noncomputable def sTryAs (K : PySem.W.Frag) (c : Value) (i : Nat) (gb : G) (gs : Addr → Option Addr → Value → G) : G:=fun env st=>match gb env st with
 | .ex cls fs env1 st1=>match PySem.W.exmOne K cls c with
  | some true=>if i < env1.length then common .bad (fun a d=>dropE i (gs a d cls (env1.set i (some (.d (.exc a d cls (fs.getD []))))) st1)) else .bad
  | some false=>.ex cls fs env1 st1
  | none=>.bad
 | r=>r
theorem rpX_exc {K : PySem.W.Frag} {m : List Addr} {H : Hp} {fs : Option (List (Str × D))} {d : Option Addr} {a : Addr} {cls : Value} (h : RpX K m H fs d) : RpU K m H (.d (.exc a d cls (fs.getD []))) (.ref a):=by
 cases fs with
 | none=>exact ⟨rfl,.inl rfl⟩
 | some l=>cases d with
  | none=>exact h.elim
  | some dd =>
   obtain ⟨vs,h1,h2,h3⟩:=h
   exact ⟨rfl,.inr ⟨dd,vs,rfl,⟨h2,h1⟩,h3⟩⟩
theorem ds_try_as {X : Cx} {W : WX} {x n : Str} {c : Value} {i : Nat} {body suite : List Stmt} {b₀ : Stmt} {np pos pos' : Pos} {gb : G} {gs : Addr → Option Addr → Value → G} (i : Nat) (hs : X.stack = X.env :: X.outer) (hf : X.env.frame = some X.env.locals) (hNd : X.N.Nodup) (hc : Names X x c) (tk : Takes X W)
  (hb : ∀ (W' : WX) (pn : List (Addr × Obj)) (xe : Value → Shared → Prop),Takes (X.tr pn xe) W' → PassesOwn (model X.prog X.w) X.A X.env xe → DB (X.tr pn xe) W' body gb)
  (hsu : ∀ (a : Addr) (oe : Obj) (cls : Value) (d : Option Addr) (pn : List (Addr × Obj)),Zc cls d oe → (∃ vs,oe.data = .fields vs) → DB (X.suite a ((a,oe) :: pn)) W0 (b₀ :: suite) (gs a d cls))
  (hN : X.N[i]? = some n:=by rfl) (hln : X.env.kindOf n = some .local:=by rfl) :
  DS X W (.Try body [.ExceptHandler (some (.Name x np)) (some n) (b₀ :: suite) pos'] [] [] pos) (sTryAs X.K c i gb gs) :=
 ⟨PS.imp (ps_try_as (tb:=fun W'=>tG X.K W' gb) (ts:=fun a cls d=>tG X.K W0 (gs a d cls)) (Wout:=W) hs hf hNd hN hln hc tk (fun W' pn xe t q=>(hb W' pn xe t q).pss)
  fun a oe cls d pn hz hfl=>(hsu a oe cls d pn hz hfl).pss) fun D σ H ⟨m,env,st,r,re,p⟩=>by
  refine ⟨m,env,st,r,re,?_⟩
  unfold sTryAs at p
  cases e : gb env st with
  | bad=>rw [e] at p; exact p.elim
  | ok env1 f st1=>rw [e] at p; cases f <;> exact p
  | ex cls fs env1 st1 =>
   rw [e] at p
   simp only at p
   intro d σ' m' H' h1 h2 h3 h4
   cases q : PySem.W.exmOne X.K cls c with
   | none=>simp only [q] at p; exact p.elim
   | some b =>
    simp only [q] at p
    cases b with
    | false=>exact ⟨false,q,(fun z=>nomatch z),fun _=>p d σ' m' H' h1 h2 h3 h4⟩
    | true =>
     simp only at p
     split at p
     ·rename_i hlt
      refine ⟨true,q,fun _ a _=>⟨m',_,st1,h2,h1.set i (rpX_exc (a:=a) (cls:=cls) h4),?_⟩,fun z=>nomatch z⟩
      have p2:=p.from h3
      generalize hr : common RS.bad _ = rr at p2
      have hbad : rr ≠ .bad:=fun z=>by rw [z] at p2; exact p2
      have hk:=common_ok hr hbad a d
      generalize gs a d cls (env1.set i (some (.d (.exc a d cls (fs.getD []))))) st1 = z at hk
      subst hk
      cases z with
      | bad=>exact p2.elim
      | ex c2 fs2 env2 st2=>exact p2.elim
      | ok env2 fl st2 =>
       have drop : ∀ {σ2 : L2.St} {m2 : List Addr} {H2 : Hp},RpEnv X.K m2 H2 env2 σ2 → RpEnv X.K m2 H2 (env2.set i none) (σ2.set i none):=fun {σ2 m2 H2} k=>by
        refine ⟨by rw [List.length_set,List.length_set]; exact k.len,fun j u hj=>?_⟩
        by_cases e : i = j
        ·subst e
         by_cases hi : i < env2.length
         ·rw [List.getElem?_set_self hi] at hj; cases hj
         ·rw [List.getElem?_eq_none (by rw [List.length_set]; omega)] at hj; cases hj
        ·rw [List.getElem?_set_ne e] at hj
         obtain ⟨x,g1,g2⟩:=k.at' j u hj
         exact ⟨x,by rw [List.getElem?_set_ne e]; exact g1,g2⟩
       cases fl with
       | nx=>exact fun σ2 m2 H2 k1 k2 k3=>p2 _ m2 H2 (drop k1) k2 k3
       | rt u=>exact fun v m2 H2 k1 k2 k3=>p2 v m2 H2 k1 k2 k3
       | bk=>exact fun σ2 m2 H2 k1 k2 k3=>p2 _ m2 H2 (drop k1) k2 k3
       | ct=>exact fun σ2 m2 H2 k1 k2 k3=>p2 _ m2 H2 (drop k1) k2 k3
     ·exact p.elim⟩
noncomputable def xFld (a : Addr) (d : Option Addr) (cls : Value) (C : Addr) (f : Str) (i : Nat) : F U:=fun env st=>match env[i]? with
 | some (some (.d (.exc a' d' cls' fs)))=>if a' = a ∧ d' = d ∧ cls' = cls ∧ cls = .ref C then match fs.lookup f with
  | some x=>.ok (.d x) st
  | none=>.bad
  else .bad
 | _=>.bad
theorem RpF.look {K : PySem.W.Frag} {m : List Addr} {H : Hp} {f : Str} : ∀ {fs : List (Str × D)} {vs : List (Str × V)} {x : D},RpF K m H fs vs → fs.lookup f = some x → ∃ v,vs.lookup f = some v ∧ RpD K m H x v
 | [],_,_,_,e=>by cases e
 | (n,d) :: fs,_,x,⟨v,r,e,h1,h2⟩,q=>by
  subst e
  unfold List.lookup at q ⊢
  split at q
  ·cases q
   exact ⟨v,rfl,h1⟩
  ·exact RpF.look h2 q
section
variable {X : Cx} {W : WX} {a C : Addr} {oe : Obj} {cls : Value} {d : Option Addr} {pn : List (Addr × Obj)} {x : Str} {p1 pos : Pos} {n : Str}
theorem d_xf {K : PySem.W.Frag} (i : Nat) (T : XfC K C) (hno : PySem.W.findIn K (.ref C) n = some none) (hz : Zc cls d oe) (hf : ∃ vs,oe.data = .fields vs) (hN : X.N[i]? = some x:=by rfl) (hv : Vis X.env.scope x:=by first | exact Or.inl rfl | exact Or.inr (Or.inl rfl) | exact Or.inr (Or.inr rfl)) (hd : (x == ("__debug__" : Str)) = false:=by decide)
  (hcd : (x == ("__classdict__" : Str)) = false:=by decide) (hb : attributeBase (.Name x p1) n X.env (eval (.Name x p1) X.env) = eval (.Name x p1) X.env:=by rfl) (hK : X.K = K:=by rfl) :
  DE (X.suite a ((a,oe) :: pn)) W (.Attribute (.Name x p1) n pos) (xFld a d cls C n i):=by
 subst hK
 refine ⟨PE.imp (pe_xf T hno hz hf (pv (X:=X.suite a ((a,oe) :: pn)) i hN hv hd hcd) hb) fun σ H Q ⟨m,env,st,r,re,p⟩=>?_⟩
 unfold xFld at p
 split at p
 ·rename_i a' d' cls' fs hi
  split at p
  ·rename_i hc
   obtain ⟨rfl,rfl,rfl,hC⟩:=hc
   split at p
   ·rename_i y hl
    obtain ⟨v,h1,rfl,h⟩:=re.at' i _ hi
    rcases h with rfl | ⟨dd,vs,rfl,⟨h2,h3⟩,h4⟩
    ·cases hl
    ·obtain ⟨w,g1,g2⟩:=h4.look hl
     exact ⟨_,h1,rfl,hC,dd,vs,w,rfl,h3,g1,p w m H g2 r (Ext.refl _ _)⟩
   ·exact p.elim
  ·exact p.elim
 ·exact p.elim
end
/-- a class as isinstance's second -/
noncomputable def clsD : D → Option Value
 | .ty n=>some (.type n)
 | .obj b=>some (.ref b)
 | _=>none
noncomputable def clsU : U → Option (Sum Value (List Value))
 | .d (.tup ds)=>(ds.mapM clsD).map .inr
 | .d x=>(clsD x).map .inl
 | _=>none
noncomputable def oIsX (K : PySem.W.Frag) (a : Addr) (d : Option Addr) (cls : Value) (C : Addr) : List U → Store → Option U:=fun us _=>match us with
 | [.d (.exc a' d' cls' (_ :: _)),c]=>if a' = a ∧ d' = d ∧ cls' = cls ∧ cls = .ref C then match clsU c with
  | some (.inl w)=>(PySem.W.kitOne K (.ref C) w).map fun b=>.d (.bl b)
  | some (.inr ws)=>(PySem.W.kitAny K (.ref C) ws).map fun b=>.d (.bl b)
  | none=>none
  else none
 | _=>none
theorem clsD_rp {K : PySem.W.Frag} {m : List Addr} {H : Hp} {x : D} {v : V} {u : Value} (h : RpD K m H x v) (e : clsD x = some u) : ClsV v u:=by
 cases x with
 | ty n=>cases e; cases h; exact .ty n
 | obj b=>cases e; cases h; exact .own b
 | _=>cases e
theorem clsDs_rp {K : PySem.W.Frag} {m : List Addr} {H : Hp} : ∀ {xs : List D} {vs : List V} {us : List Value},RpDs K m H xs vs → xs.mapM clsD = some us → Paired ClsV vs us
 | [],_,_,h,e=>by
  rw [show _ = [] from h]
  cases e
  exact .nil
 | x :: xs,_,us,⟨v,r,e0,h1,h2⟩,e=>by
  subst e0
  rw [List.mapM_cons] at e
  cases hx : clsD x with
  | none=>rw [hx] at e; cases e
  | some w =>
   rw [hx] at e
   cases hs : xs.mapM clsD with
   | none=>rw [hs] at e; cases e
   | some ws =>
    rw [hs] at e
    cases e
    exact .cons (clsD_rp h1 hx) (clsDs_rp h2 hs)
theorem clsU_one {K : PySem.W.Frag} {m : List Addr} {H : Hp} {c : U} {y : V} {w : Value} (h : RpU K m H c y) (e : clsU c = some (.inl w)) : ClsV y w:=by
 cases c with
 | ref n=>cases e
 | d z =>
  cases z with
  | ty n=>cases e; exact clsD_rp (K:=K) (m:=m) (H:=H) (x:=.ty n) h rfl
  | obj b=>cases e; exact clsD_rp (K:=K) (m:=m) (H:=H) (x:=.obj b) h rfl
  | tup ds =>
   simp only [clsU] at e
   cases hm : ds.mapM clsD with
   | none=>rw [hm] at e; cases e
   | some us=>rw [hm] at e; cases e
  | _=>cases e
theorem clsU_tup {c : U} {ws : List Value} (e : clsU c = some (.inr ws)) : ∃ ds,c = .d (.tup ds) ∧ ds.mapM clsD = some ws:=by
 cases c with
 | ref n=>cases e
 | d z =>
  cases z with
  | tup ds =>
   simp only [clsU] at e
   cases hm : ds.mapM clsD with
   | none=>rw [hm] at e; cases e
   | some us'=>rw [hm] at e; cases e; exact ⟨ds,rfl,hm⟩
  | ty n=>cases e
  | obj b=>cases e
  | _=>cases e
theorem cr_isX {X : Cx} {a C : Addr} {oe : Obj} {cls : Value} {d : Option Addr} {pn : List (Addr × Obj)} {K : PySem.W.Frag} (T : ExI K C) (hz : Zc cls d oe) (hf : ∃ vs,oe.data = .fields vs) (hK : X.K = K:=by rfl) :
  CallR (X.suite a ((a,oe) :: pn)) (.builtin "isinstance") (rM X.K (pu (oIsX X.K a d cls C))):=by
 subst hK
 intro pins s σ H xs us Q I r h
 obtain ⟨m,st,as,rp,ru,p⟩:=h
 obtain ⟨z,e,p⟩:=p.pu
 unfold oIsX at e
 split at e
 ·rename_i a' d' cls' q qs c
  split at e
  ·rename_i hcc
   obtain ⟨rfl,rfl,rfl,hcls⟩:=hcc
   subst hcls
   obtain ⟨x1,y,rfl,hv,hy⟩:=ru.two
   obtain ⟨rfl,hv⟩:=hv
   obtain ⟨u1,u2,rfl,r1,r2⟩:=vals2 r
   cases (show u1 = Value.ref a' from r1)
   rcases hv with hv | ⟨dd,vs,rfl,⟨h2,h3⟩,h4⟩
   ·cases hv
   obtain ⟨ha,_⟩:=I.pin (a',oe) (List.mem_append_left _ List.mem_cons_self)
   obtain ⟨fvs,hd⟩:=hf
   obtain ⟨mA,hns,_⟩:=(show ObjOk X.prog X.w H s.heap dd (.xd vs) from I.hok dd _ h3)
   obtain ⟨od,ho,_⟩:=lookIn_ns hns
   have J : PySem.W.InstAt s.heap a' oe C (some od):=⟨ha,hz.1,by unfold PySem.W.notCls; rw [hd] <;> rfl,by rw [hz.2]; exact ho⟩
   have hcl : (PySem.W.clsIn X.K C).isSome = true:=by
    obtain ⟨cd,e,_⟩:=PySem.W.any_some T.xf.hdC
    rw [e]; rfl
   have Z:=PySem.W.kitx_exc (x:=a') (ox:=oe) (od:=some od) hcl T.xf.ga T.xf.gg T.xf.exC T.ca T.cn T.ct T.cm
   have fin : ∀ (b : Bool) (t : Nat),z = .d (.bl b) → EP (X.suite a' ((a',oe) :: pn)) pins σ Q (.bool b) { s with toks:=t }:=fun b t ez=>by
    subst ez
    exact ⟨.bl b,H,I.tok t,rfl,p.here rp rfl⟩
   split at e
   ·rename_i w hu
    cases hk : PySem.W.kitOne X.K (.ref C) w with
    | none=>rw [hk] at e; cases e
    | some b =>
     rw [hk] at e
     have e2:=(clsU_one hy hu).eq r2
     subst e2
     exact PySem.W.kia_one Z I.kIn J hk (fun z=>nomatch z) fun tk=>fin b _ (Option.some.inj e).symm
   ·rename_i ws hu
    cases hk : PySem.W.kitAny X.K (.ref C) ws with
    | none=>rw [hk] at e; cases e
    | some b =>
     rw [hk] at e
     obtain ⟨ds,rfl,hm⟩:=clsU_tup hu
     obtain ⟨tp,cs,rfl,t1,t2⟩:=hy
     cases (show u2 = Value.ref tp from r2)
     have cc:=clsDs_rp t2 hm
     have obj : ∃ (dd : Option Addr) (its : List Value) (n : Nat) (sl : Array (Option Value)),s.heap.get? tp = some ⟨.type "tuple",dd,.seq its.toArray n,sl⟩ ∧ Vals cs its:=by
      rcases t1.sq with (t | ⟨o,t⟩) | ⟨o,its,n,k1,k2,k3,_,k5⟩
      ·obtain ⟨_,its,rv,o,g1,g2,n,g3⟩:=(show ObjOk X.prog X.w H s.heap tp (.tup cs) from I.hok tp _ t)
       obtain ⟨oc,od2,dt,sl⟩:=o
       simp only at g2 g3
       subst g2 g3
       exact ⟨_,_,_,_,g1,rv⟩
      ·obtain ⟨_,hx⟩:=(show ObjOk X.prog X.w H s.heap tp (.frz o (.tup cs)) from I.hok tp _ t)
       obtain ⟨_,its,rv,o,g1,g2,n,g3⟩:=hx
       obtain ⟨oc,od2,dt,sl⟩:=o
       simp only at g2 g3
       subst g2 g3
       exact ⟨_,_,_,_,g1,rv⟩
      ·obtain ⟨oc,od2,dt,sl⟩:=o
       simp only at k2 k3
       subst k2 k3
       exact ⟨_,its.toList,n,_,by rw [I.kIn _ _ k1],k5⟩
     obtain ⟨dd2,its,n,sl,g1,rv⟩:=obj
     have e3:=ClsV.all cc rv
     subst e3
     exact PySem.W.kia_tup Z I.kIn J g1 hk (fun z=>nomatch z) fun tk=>fin b _ (Option.some.inj e).symm
   ·cases e
  ·cases e
 ·cases e
end VL
namespace VL
open PySem PySem.Spec PyProof.Rows L2 LamX
section
variable {X : Cx}
end
end VL
namespace VL
open PySem PySem.Spec PyProof.Rows L2 LamX
section
variable {P : Program} {w : World} {K : PySem.W.Frag} {mg : Str → Option Value}
end
end VL
namespace VL
open PySem PySem.Spec PyProof.Rows L2 LamX
noncomputable def eqTys : List String:=["NoneType","bool","int","str","list","tuple"]
noncomputable def tbls (T : List (Addr × Str)) : Store:=T.map fun p=>.tbl p.1 p.2
end VL
namespace VL
open PySem PySem.Spec PyProof.Rows L2
/-- where a parameter's value comes from: a positional one,a keyword's,a default -/
inductive Src where
 | p (i : Nat) | k (j : Nat) | e (i : Nat)
noncomputable def Src.get {α : Type} (x : α) (ds us ws : List α) : Src → α
 | .p i=>us.getD i x
 | .k j=>ws.getD j x
 | .e i=>ds.getD i x
noncomputable def gPl {α : Type} (x : α) (pl : List Src) (ds us ws : List α) : List α:=pl.map (Src.get x ds us ws)
theorem vals_getD : ∀ {vs : List V} {us : List Value} (i : Nat),Vals vs us → RelV (vs.getD i .non) (us.getD i .none)
 | [],_,i,h=>by cases h; rfl
 | v :: vs,_,0,.cons a r=>a
 | v :: vs,_,i + 1,.cons a r=>vals_getD i r
theorem src_vals {ds vs zs : List V} {mv us ws : List Value} (h1 : Vals ds mv) (h2 : Vals vs us) (h3 : Vals zs ws) : ∀ s : Src,RelV (s.get .non ds vs zs) (s.get .none mv us ws)
 | .p i=>vals_getD i h2
 | .k i=>vals_getD i h3
 | .e i=>vals_getD i h1
theorem gPl_vals {ds vs zs : List V} {mv us ws : List Value} (h1 : Vals ds mv) (h2 : Vals vs us) (h3 : Vals zs ws) : ∀ pl : List Src,Vals (gPl .non pl ds vs zs) (gPl .none pl mv us ws)
 | []=>.nil
 | s :: pl=>.cons (src_vals h1 h2 h3 s) (gPl_vals h1 h2 h3 pl)
section
variable {K : PySem.W.Frag} {m : List Addr} {H : Hp}
theorem rpus_getD : ∀ {us : List U} {vs : List V} (i : Nat),RpUs K m H us vs → RpU K m H (us.getD i (.d .non)) (vs.getD i .non)
 | [],_,i,h=>by rw [show _ = [] from h]; rfl
 | u :: us,_,0,⟨v,r,e,h1,h2⟩=>by subst e; exact h1
 | u :: us,_,i + 1,⟨v,r,e,h1,h2⟩=>by subst e; exact rpus_getD i h2
theorem src_rp {dU us ws : List U} {ds vs zs : List V} (h1 : RpUs K m H dU ds) (h2 : RpUs K m H us vs) (h3 : RpUs K m H ws zs) : ∀ s : Src,RpU K m H (s.get (.d .non) dU us ws) (s.get .non ds vs zs)
 | .p i=>rpus_getD i h2
 | .k i=>rpus_getD i h3
 | .e i=>rpus_getD i h1
theorem gPl_rp {dU us ws : List U} {ds vs zs : List V} (h1 : RpUs K m H dU ds) (h2 : RpUs K m H us vs) (h3 : RpUs K m H ws zs) : ∀ pl : List Src,RpUs K m H (gPl (.d .non) pl dU us ws) (gPl .non pl ds vs zs)
 | []=>rfl
 | s :: pl=>⟨_,_,rfl,src_rp h1 h2 h3 s,gPl_rp h1 h2 h3 pl⟩
end
structure FunK (K : PySem.W.Frag) (x qual : Str) (st : Stmt) (f : Addr) (kws : List (Str × V)) (fd : FuncData) : Prop where
 ex : ∃ (oc : Value) (od : Option Addr) (D : Addr) (doc pm : Value) (an : Option Addr) (cdv ct : Value) (osl : Array (Option Value)),
  fd = PySem.W.fnOf x qual (defArgs st) (defBody st) (defScope st) .none (.ref D) doc pm an cdv ct ∧ K.lookup f = some ⟨oc,od,.func fd,osl⟩ ∧ PySem.W.codeIn K cdv qual = true ∧ ∀ q ∈ kws,∃ u,PySem.W.nsIn K D q.1 = some (some u) ∧ RelV q.2 u
 kp : PySem.W.keepIn K (.ref f) = true
theorem FunK.fun {K : PySem.W.Frag} {x qual : Str} {st : Stmt} {f : Addr} {kws : List (Str × V)} {fd : FuncData} (F : FunK K x qual st f kws fd) : Fun K x qual st f fd:=by
 obtain ⟨oc,od,D,doc,pm,an,cdv,ct,osl,e,lk,hc,hq⟩:=F.ex
 exact ⟨⟨oc,od,.ref D,doc,pm,an,cdv,ct,osl,e,lk,hc⟩,F.kp⟩
theorem funk_mk {K : PySem.W.Frag} {x qual : Str} {st : Stmt} {f : Addr} {oc : Value} {od an : Option Addr} {osl : Array (Option Value)} {D : Addr} {doc pm cdv ct : Value} {kws : List (Str × V)} (l : K.lookup f = some ⟨oc,od,.func (PySem.W.fnOf x qual (defArgs st) (defBody st) (defScope st) .none (.ref D) doc pm an cdv ct),osl⟩)
  (c : PySem.W.codeIn K cdv qual = true) (k : PySem.W.keepIn K (.ref f) = true) (h : ∀ q ∈ kws,∃ u,PySem.W.nsIn K D q.1 = some (some u) ∧ RelV q.2 u) : FunK K x qual st f kws (PySem.W.fnOf x qual (defArgs st) (defBody st) (defScope st) .none (.ref D) doc pm an cdv ct) :=
 ⟨⟨oc,od,D,doc,pm,an,cdv,ct,osl,rfl,l,c,h⟩,k⟩
/-- an empty tuple among the things of the top -/
noncomputable def Tup0 (K : PySem.W.Frag) (E : Addr) : Prop:=∃ (o : Obj) (n : Nat),K.lookup E = some o ∧ o.cls = .type "tuple" ∧ o.data = .seq #[] n
theorem Tup0.rp {K : PySem.W.Frag} {m : List Addr} {H : Hp} {E : Addr} (h : Tup0 K E) : RpU K m H (.d (.tup [])) (.ref E):=by
 obtain ⟨o,n,h1,h2,h3⟩:=h
 exact ⟨E,[],rfl,.inr (.inr ⟨o,#[],n,h1,h2,h3,Nat.zero_le _,.nil⟩),rfl⟩
/-- what t looks up in the dict at D,one behind another; then it goes on as r -/
noncomputable def KwC {α : Type} (D : Addr) : List (Str × Value) → Sem α → Sem α → Prop
 | [],t,r=>t = r
 | q :: l,t,r=>∃ (β γ : Type) (k1 : Option Value → Sem β) (k2 : β → Sem γ) (k3 : γ → Sem α) (a : β),t = ((nsGet D q.1 >>= k1) >>= k2) >>= k3 ∧ k1 (some q.2) = pure a ∧ KwC D l (k2 a >>= k3) r
theorem KwC.run {α : Type} {K : PySem.W.Frag} {M : Model} {A : Around} {D : Addr} {s : Shared} {Q : α → Shared → Prop} {E : Value → Shared → Prop} (X : K.In s.heap) : ∀ {l : List (Str × Value)} {t r : Sem α},(∀ q ∈ l,PySem.W.nsIn K D q.1 = some (some q.2)) → KwC D l t r → wpAny M A r Q E s → wpAny M A t Q E s
 | [],t,r,_,e,h=>by rw [show t = r from e]; exact h
 | q :: l,t,r,hl,e,h=>by
  obtain ⟨β,γ,k1,k2,k3,a,e1,e2,e3⟩:=e
  have h2:=KwC.run (l:=l) X (fun p hp=>hl p (List.mem_cons_of_mem _ hp)) e3 h
  rw [e1,bind_assoc]
  refine wpAny_bind (wpAny_bind ?_)
  refine (PySem.W.looks_nsIn X (hl q (List.mem_cons_self ..))).here ?_
  rw [e2]
  exact wpAny_pure (by simpa using h2)
section
variable {K : PySem.W.Frag} {x qual : Str} {st : Stmt} {f : Addr} {kws : List (Str × V)} {fd : FuncData} {ps : List Str}
/-- f(e,..,k = v,..) where keyword-only parameters ms lack -/
theorem bd_pl (F : FunK K x qual st f kws fd) (n : Nat) (ks : List Str) (ms : List (Str × V)) (dU : List U) (pl : List Src) (hms : ∀ q ∈ ms,q ∈ kws) (hl : pl.length = ps.length) (hU : ∀ (m : List Addr) (H : Hp),RpUs K m H dU (ms.map (·.2)))
  (h : ∀ (D : Addr) (doc pm : Value) (an : Option Addr) (cdv ct : Value) (us mv ws : List Value),us.length = n → mv.length = ms.length → ws.length = ks.length →
   KwC D ((ms.map (·.1)).zip mv) (bindArgs (PySem.W.fnOf x qual (defArgs st) (defBody st) (defScope st) .none (.ref D) doc pm an cdv ct) { pos:=us,kw:=ks.zip ws }) (pure (ps.zip (gPl .none pl mv us ws)))) :
  ∃ g gV,Bd K fd ps n ks g gV (gPl (.d .non) pl dU):=by
 obtain ⟨oc,od,D,doc,pm,an,cdv,ct,osl,rfl,lk,hcd,hq⟩:=F.ex
 obtain ⟨mv,hlm,rk,hks⟩:=kwd_vals (ms:=ms) fun q hm=>hq q (hms q hm)
 exact ⟨gPl .none pl mv,gPl .non pl (ms.map (·.2)),fun s us ws X l1 l2=>fun M A Q E q=>KwC.run X hks (h D doc pm an cdv ct us mv ws l1 hlm l2) (wpAny_pure q),fun _ _ r1 r2=>gPl_vals rk r1 r2 pl,
  fun _ _ r1 r2=>gPl_rp (hU _ _) r1 r2 pl,fun _ _=>by unfold gPl; rw [List.length_map,hl]⟩
end
section
variable {P : Program} {w : World} {K : PySem.W.Frag} {mg : Str → Option Value} {base : Heap}
end
end VL
namespace VL
open PySem PySem.Spec PyProof.Rows L2
section
variable {K : PySem.W.Frag} {m : List Addr} {H : Hp} {st : Store}
theorem RpK.length : ∀ {ds : List (Key × D)} {vs : List (Key × V)},RpK K m H ds vs → vs.length = ds.length
 | [],vs,h=>by rw [show vs = [] from h]; rfl
 | (k,d) :: ds,_,⟨v,r,e,h1,h2⟩=>by subst e; rw [List.length_cons,List.length_cons,RpK.length h2]
theorem RpK.get : ∀ {ds : List (Key × D)} {vs : List (Key × V)},RpK K m H ds vs → ∀ {i : Nat} {kd : Key × D},ds[i]? = some kd → ∃ v,vs[i]? = some (kd.1,v) ∧ RpD K m H kd.2 v
 | [],_,h,i,kd,e=>by cases e
 | (k,d) :: ds,_,⟨v,r,e,h1,h2⟩,0,kd,q=>by subst e; cases q; exact ⟨v,rfl,h1⟩
 | (k,d) :: ds,_,⟨v,r,e,h1,h2⟩,i + 1,kd,q=>by subst e; exact RpK.get h2 (i:=i) q
end
noncomputable def fDk (g : List (Key × D) → Itb) (f : F U) : F Itb:=bnd f fun u=>fun _ st=>match u with
 | .d (.dct ds)=>.ok (g ds) st
 | _=>.bad
section
variable {X : Cx} {W : WX} {tg e : Expr} {fe : F U} {apos cpos : Pos}
end
end VL
namespace VL
open PySem PySem.Spec PyProof.Rows L2
section
variable {K : PySem.W.Frag} {m : List Addr} {H : Hp} {st : Store}
end
section
variable {X : Cx} {W : WX} {e o : Expr} {fe fo : F U} {p pos apos cpos tpos : Pos}
noncomputable def isC (C : Addr) (o : U) (st : Store) : Bool:=match insU st o with
 | some (C',_)=>decide (C' = C)
 | none=>false
noncomputable def augF (cs : List Addr) (f : Str) (g : P2) (C : Addr) (o x : U) : U → G:=fun y=>fun env st=>match g x y st with
 | some z=>if isC C o st = true then match setFld cs f z o st with
  | some st'=>.ok env .nx st'
  | none=>.bad
  else .bad
 | none=>.bad
noncomputable def sFldAugM (cs : List Addr) (f : Str) (g : P2) (fo fe : F U) : G:=bndS fo fun o=>fun env st=>match insU st o with
 | some (C,us)=>if C ∈ cs then match us.lookup f with
  | some x=>bndS fe (augF cs f g C o x) env st
  | none=>.bad
  else .bad
 | none=>.bad
end
end VL
namespace VL
open PySem PySem.Spec PyProof.Rows L2
section
variable {prog : Program} {w : World} {A : Around} {E : Value → Shared → Prop} {s : Shared}
end
end VL
namespace VL
open PySem PySem.Spec PyProof.Rows L2
section
variable {K : PySem.W.Frag} {m : List Addr} {H : Hp}
theorem RpDs.app : ∀ {xs ys : List D} {vs ws : List V},RpDs K m H xs vs → RpDs K m H ys ws → RpDs K m H (xs ++ ys) (vs ++ ws)
 | [],_,vs,_,h,k=>by rw [show vs = [] from h]; exact k
 | d :: xs,_,_,_,⟨v,r,e,h1,h2⟩,k=>by subst e; exact ⟨v,_,rfl,h1,RpDs.app h2 k⟩
theorem RpDs.rep {xs : List D} {vs : List V} (h : RpDs K m H xs vs) : ∀ n : Nat,RpDs K m H (List.replicate n xs).flatten (List.replicate n vs).flatten
 | 0=>rfl
 | n + 1=>by rw [List.replicate_succ,List.replicate_succ,List.flatten_cons,List.flatten_cons]; exact h.app (RpDs.rep h n)
end
end VL
namespace VL
open PySem PySem.Spec PyProof.Rows L2
noncomputable def fnX (n : Nat) (g : G) (w : Wr) : List U → M U:=fun us st=>match g (us.map some ++ List.replicate (n - us.length) none) st with
 | .ok _ (.rt u) st'=>w st.length u st'
 | .ok _ .nx st'=>w st.length (.d .non) st'
 | .ex c fs _ st'=>.ex c fs st'
 | _=>.bad
section
variable {P : Program} {w : World} {K : PySem.W.Frag} {mg : Str → Option Value} {base : Heap}
end
end VL
namespace VL
open PySem PySem.Spec PyProof.Rows L2
noncomputable abbrev XF:=Option (List (Str × D))
noncomputable def noR : Value → XF → Store → Prop:=fun _ _ _=>False
noncomputable def noE : Value → XF → VEnv → Store → Prop:=fun _ _ _ _=>False
noncomputable def noN : VEnv → Store → Prop:=fun _ _=>False
noncomputable def noT : U → Store → Prop:=fun _ _=>False
namespace Q0
noncomputable def wpR {α : Type} (r : R α) (Q : α → Store → Prop) (E : Value → XF → Store → Prop) : Prop:=match r with
 | .ok a st=>Q a st
 | .ex c fs st=>E c fs st
 | .bad=>False
noncomputable def wpS (r : RS) (N : VEnv → Store → Prop) (T : U → Store → Prop) (B C : VEnv → Store → Prop) (E : Value → XF → VEnv → Store → Prop) : Prop:=match r with
 | .ok env .nx st=>N env st
 | .ok _ (.rt u) st=>T u st
 | .ok env .bk st=>B env st
 | .ok env .ct st=>C env st
 | .ex c fs env st=>E c fs env st
 | .bad=>False
/-- a state that is made plain ahead of going on -/
noncomputable def wpQ {α : Type} (Q : α → Store → Prop) (a : α) (st : Store) : Prop:=Q a st
noncomputable def wpI (k : Bool) (P Q : Prop) : Prop:=if k = true then P else Q
section
variable {α β : Type} {Q : α → Store → Prop} {E : Value → XF → Store → Prop} {N B C : VEnv → Store → Prop} {T : U → Store → Prop} {X : Value → XF → VEnv → Store → Prop} {env : VEnv} {st : Store}
theorem wp_Q {a : α} : wpQ Q a st = Q a st:=rfl
theorem wp_I1 {P R : Prop} : wpI true P R = P:=if_pos rfl
theorem wp_I0 {P R : Prop} : wpI false P R = R:=if_neg Bool.false_ne_true
theorem wp_ok {a : α} : wpR (.ok a st) Q E = wpQ Q a st:=rfl
theorem wp_ex {c : Value} {fs : XF} : wpR (.ex c fs st) Q E = E c fs st:=rfl
theorem wp_bad : wpR (.bad : R α) Q E = False:=rfl
theorem wps_nx : wpS (.ok env .nx st) N T B C X = wpQ N env st:=rfl
theorem wps_rt {u : U} : wpS (.ok env (.rt u) st) N T B C X = wpQ T u st:=rfl
theorem wps_bk : wpS (.ok env .bk st) N T B C X = wpQ B env st:=rfl
theorem wps_ct : wpS (.ok env .ct st) N T B C X = wpQ C env st:=rfl
theorem wps_ex {c : Value} {fs : XF} : wpS (.ex c fs env st) N T B C X = X c fs env st:=rfl
theorem wps_bad : wpS .bad N T B C X = False:=rfl
theorem of_some {a : α} : R.of st (some a) = .ok a st:=rfl
theorem of2_some {a : α} {s : Store} : R.of2 (some (a,s)) = .ok a s:=rfl
theorem of_ite {c : Prop} [Decidable c] {a : α} : wpR (R.of st (if c then some a else none)) Q E = (c ∧ wpQ Q a st):=by
 by_cases h : c
 ·rw [if_pos h]; exact propext ⟨fun x=>⟨h,x⟩,fun x=>x.2⟩
 ·rw [if_neg h]; exact propext ⟨fun x=>x.elim,fun x=>h x.1⟩
theorem of2_ite {c : Prop} [Decidable c] {a : α} {s : Store} : wpR (R.of2 (if c then some (a,s) else none)) Q E = (c ∧ wpQ Q a s):=by
 by_cases h : c
 ·rw [if_pos h]; exact propext ⟨fun x=>⟨h,x⟩,fun x=>x.2⟩
 ·rw [if_neg h]; exact propext ⟨fun x=>x.elim,fun x=>h x.1⟩
theorem ite_bad {c : Prop} [Decidable c] {r : R α} : wpR (if c then r else .bad) Q E = (c ∧ wpR r Q E):=by
 by_cases h : c
 ·rw [if_pos h]; exact propext ⟨fun x=>⟨h,x⟩,fun x=>x.2⟩
 ·rw [if_neg h]; exact propext ⟨fun x=>x.elim,fun x=>h x.1⟩
theorem ites_bad {c : Prop} [Decidable c] {r : RS} : wpS (if c then r else .bad) N T B C X = (c ∧ wpS r N T B C X):=by
 by_cases h : c
 ·rw [if_pos h]; exact propext ⟨fun x=>⟨h,x⟩,fun x=>x.2⟩
 ·rw [if_neg h]; exact propext ⟨fun x=>x.elim,fun x=>h x.1⟩
theorem wp_bnd {f : F β} {g : β → F α} : wpR (bnd f g env st) Q E = wpR (f env st) (fun a s=>wpR (g a env s) Q E) E:=by
 unfold bnd; cases f env st <;> rfl
theorem wp_bndS {f : F β} {g : β → G} : wpS (bndS f g env st) N T B C X = wpR (f env st) (fun a s=>wpS (g a env s) N T B C X) (fun c fs s=>X c fs env s):=by
 unfold bndS; cases f env st <;> rfl
theorem wp_fPure {a : α} : wpR (fPure a env st) Q E = wpQ Q a st:=rfl
end
section
variable {Q : U → Store → Prop} {QB : Bool → Store → Prop} {QL : List U → Store → Prop} {Q2 : List U × List U → Store → Prop} {QI : Itb → Store → Prop} {QO : Option Int → Store → Prop} {E : Value → XF → Store → Prop} {N B C : VEnv → Store → Prop} {T : U → Store → Prop} {X : Value → XF → VEnv → Store → Prop} {env : VEnv} {st : Store}
theorem wp_vC {x : D} : wpR (vC x env st) Q E = wpQ Q (.d x) st:=rfl
theorem wp_f2 {g : P2} {fa fb : F U} : wpR (f2 g fa fb env st) Q E = wpR (fa env st) (fun a s=>wpR (fb env s) (fun b s2=>wpR (R.of s2 (g a b s2)) Q E) E) E:=by
 unfold f2; rw [wp_bnd]; congr 1; funext a s; rw [wp_bnd]
theorem wp_f2s {g : P2S} {fa fb : F U} : wpR (f2s g fa fb env st) Q E = wpR (fa env st) (fun a s=>wpR (fb env s) (fun b s2=>wpR (g a b s2) Q E) E) E:=by
 unfold f2s; rw [wp_bnd]; congr 1; funext a s; rw [wp_bnd]
theorem wp_f1 {g : P1} {fa : F U} : wpR (f1 g fa env st) Q E = wpR (fa env st) (fun a s=>wpR (R.of s (g a s)) Q E) E:=wp_bnd
theorem wp_fFld {cs : List Addr} {f : Str} {fo : F U} : wpR (fFld cs f fo env st) Q E = wpR (fo env st) (fun a s=>wpR (R.of s (oFld cs f a s)) Q E) E:=wp_f1
theorem wp_asB {f : F U} : wpR (asB f env st) QB E = wpR (f env st) (fun u s=>wpR (match u with
 | .d (.bl k)=>R.ok k s
 | _=>.bad) QB E) E:=wp_bnd
theorem wp_asT {f : F U} : wpR (asT f env st) QB E = wpR (f env st) (fun u s=>wpR (R.of s (truB s u)) QB E) E:=wp_bnd
theorem wp_fNot {f : F U} : wpR (fNot f env st) Q E = wpR (f env st) (fun u s=>wpR (R.of s ((truB s u).map fun k=>U.d (.bl (!k)))) Q E) E:=wp_bnd
theorem wp_fIf {c : F Bool} {x y : F U} : wpR (fIf c x y env st) Q E = wpR (c env st) (fun k s=>wpI k (wpR (x env s) Q E) (wpR (y env s) Q E)) E:=by
 unfold fIf; rw [wp_bnd]; congr 1; funext k s; cases k <;> rfl
theorem wp_bAnd {x y : F Bool} : wpR (bAnd x y env st) QB E = wpR (x env st) (fun k s=>wpI k (wpR (y env s) QB E) (wpQ QB false s)) E:=by
 unfold bAnd; rw [wp_bnd]; congr 1; funext k s; cases k <;> rfl
theorem wp_bOr {x y : F Bool} : wpR (bOr x y env st) QB E = wpR (x env st) (fun k s=>wpI k (wpQ QB true s) (wpR (y env s) QB E)) E:=by
 unfold bOr; rw [wp_bnd]; congr 1; funext k s; cases k <;> rfl
theorem wp_bNot {x : F Bool} : wpR (bNot x env st) QB E = wpR (x env st) (fun k s=>wpQ QB (!k) s) E:=wp_bnd
theorem wp_fAnd {x y : F U} : wpR (fAnd x y env st) Q E = wpR (x env st) (fun u s=>wpR (match u with
 | .d (.bl k)=>R.ok k s
 | _=>.bad) (fun k s=>wpI k (wpR (y env s) Q E) (wpQ Q (.d (.bl false)) s)) E) E:=by
 unfold fAnd; rw [wp_bnd]; congr 1; funext u s
 cases u with
 | ref n=>rfl
 | d x=>cases x with
  | bl k=>cases k <;> rfl
  | _=>rfl
theorem wp_fOr {x y : F U} : wpR (fOr x y env st) Q E = wpR (x env st) (fun u s=>wpR (match u with
 | .d (.bl k)=>R.ok k s
 | _=>.bad) (fun k s=>wpI k (wpQ Q (.d (.bl true)) s) (wpR (y env s) Q E)) E) E:=by
 unfold fOr; rw [wp_bnd]; congr 1; funext u s
 cases u with
 | ref n=>rfl
 | d x=>cases x with
  | bl k=>cases k <;> rfl
  | _=>rfl
theorem wp_fChain {g g' : P2} {fa fb fc : F U} : wpR (fChain g g' fa fb fc env st) Q E = wpR (fa env st) (fun a s=>wpR (fb env s) (fun b s=>wpR (R.of s (g a b s)) (fun u s=>wpR (match u with
 | .d (.bl k)=>R.ok k s
 | _=>.bad) (fun k s=>wpI k (wpR (fc env s) (fun c s=>wpR (R.of s (g' b c s)) Q E) E) (wpQ Q (.d (.bl false)) s)) E) E) E) E:=by
 unfold fChain; rw [wp_bnd]; congr 1; funext a s; rw [wp_bnd]; congr 1; funext b s
 cases g a b s with
 | none=>rfl
 | some u=>cases u with
  | ref n=>rfl
  | d x=>cases x with
   | bl k=>cases k with
    | true =>
     show wpR (bnd fc _ env s) Q E = _
     rw [wp_bnd]; rfl
    | false=>rfl
   | _=>rfl
theorem wp_fNil : wpR (fNil env st) QL E = wpQ QL [] st:=rfl
theorem wp_fCons {f : F U} {g : F (List U)} : wpR (fCons f g env st) QL E = wpR (f env st) (fun u s=>wpR (g env s) (fun us s2=>wpQ QL (u :: us) s2) E) E:=by
 unfold fCons; rw [wp_bnd]; congr 1; funext u s; rw [wp_bnd]; rfl
theorem wp_fN {g : List U → Store → Option U} {f : F (List U)} : wpR (fN g f env st) Q E = wpR (f env st) (fun us s=>wpR (R.of s (g us s)) Q E) E:=wp_bnd
theorem wp_fB {g : P3} {f : F (List U)} : wpR (fB g f env st) Q E = wpR (f env st) (fun us s=>wpR (R.of2 (g us s)) Q E) E:=wp_bnd
theorem wp_fLstC {f : F (List U)} : wpR (fLstC f env st) Q E = wpR (f env st) (fun us s=>wpR (if us.length ≤ sizeLine then .ok (.ref s.length) (s ++ [.lst us]) else .bad) Q E) E:=wp_bnd
theorem wp_fTup {f : F (List U)} : wpR (fTup f env st) Q E = wpR (f env st) (fun us s=>wpR (match pureL us with
 | some ds=>if ds.length ≤ sizeLine then .ok (.d (.tup ds)) s else .bad
 | none=>if us.length ≤ sizeLine then .ok (.ref s.length) (s ++ [.tup us]) else .bad) Q E) E:=wp_bnd
theorem wp_fCW {f g : F (List U)} : wpR (fCW f g env st) Q2 E = wpR (f env st) (fun us s=>wpR (g env s) (fun ws s2=>wpQ Q2 (us,ws) s2) E) E:=by
 unfold fCW; rw [wp_bnd]; congr 1; funext u s; rw [wp_bnd]; rfl
theorem wp_fCall {n m : Nat} {gU : List U → List U → List U} {mf : List U → M U} {f : F (List U × List U)} : wpR (fCall n m gU mf f env st) Q E = wpR (f env st) (fun p s=>wpR (if p.1.length = n ∧ p.2.length = m then mf (gU p.1 p.2) s else .bad) Q E) E:=wp_bnd
theorem wp_fMeth {C0 : Addr} {nm : Str} {n m : Nat} {gU : List U → List U → List U} {mf : List U → M U} {fo : F U} {fc : F (List U × List U)} : wpR (fMeth C0 nm n m gU mf fo fc env st) Q E = wpR (fo env st) (fun u s=>wpR (match insU s u with
 | some (C',us)=>if C' = C0 ∧ us.lookup nm = none then R.ok () s else .bad
 | none=>.bad) (fun _ s=>wpR (fc env s) (fun p s=>wpR (if p.1.length = n ∧ p.2.length = m then mf (gU (u :: p.1) p.2) s else .bad) Q E) E) E) E:=by
 unfold fMeth; rw [wp_bnd]; congr 1; funext u s
 show wpR (match insU s u with
  | some (C',us)=>if C' = C0 ∧ us.lookup nm = none then bnd fc (fun p=>fun _ st=>if p.1.length = n ∧ p.2.length = m then mf (gU (u :: p.1) p.2) st else .bad) env s else .bad
  | none=>.bad) Q E = _
 cases insU s u with
 | none=>rfl
 | some q =>
  simp only
  by_cases h : q.1 = C0 ∧ q.2.lookup nm = none
  ·rw [if_pos h,if_pos h,wp_bnd]; rfl
  ·rw [if_neg h,if_neg h]; rfl
theorem wp_fM {t : String} {g : P4} {fo : F U} {fs : F (List U)} : wpR (fM t g fo fs env st) Q E = wpR (fo env st) (fun u s=>wpR (if tyB t s u = true then R.ok () s else .bad) (fun _ s=>wpR (fs env s) (fun us s=>wpR (R.of2 (g u us s)) Q E) E) E) E:=by
 unfold fM; rw [wp_bnd]; congr 1; funext u s
 show wpR (if tyB t s u = true then bnd fs (fun us=>fun _ st=>.of2 (g u us st)) env s else .bad) Q E = _
 by_cases h : tyB t s u = true
 ·rw [if_pos h,if_pos h,wp_bnd]; rfl
 ·rw [if_neg h,if_neg h]; rfl
theorem wp_oNone : wpR (oNone env st) QO E = wpQ QO none st:=rfl
theorem wp_oSome {f : F U} : wpR (oSome f env st) QO E = wpR (f env st) (fun u s=>wpR (match u with
 | .d (.int i)=>R.ok (some i) s
 | _=>.bad) QO E) E:=wp_bnd
theorem wp_fSl {f : F U} {l h : F (Option Int)} : wpR (fSl f l h env st) Q E = wpR (f env st) (fun a s=>wpR (l env s) (fun lo s=>wpR (h env s) (fun hi s=>wpR (R.of s (oSl a lo hi s)) Q E) E) E) E:=by
 unfold fSl; rw [wp_bnd]; congr 1; funext a s; rw [wp_bnd]; congr 1; funext lo s; rw [wp_bnd]
theorem wp_fSlC {f : F U} {l h : F (Option Int)} : wpR (fSlC f l h env st) Q E = wpR (f env st) (fun a s=>wpR (l env s) (fun lo s=>wpR (h env s) (fun hi s=>wpR (oSlC a lo hi s) Q E) E) E) E:=by
 unfold fSlC; rw [wp_bnd]; congr 1; funext a s; rw [wp_bnd]; congr 1; funext lo s; rw [wp_bnd]
theorem wp_fIter {f : F U} : wpR (fIter f env st) QI E = wpR (f env st) (fun u s=>wpR (R.of s (itV s u)) QI E) E:=wp_bnd
theorem wp_fItN {g : List U → Option Itb} {f : F (List U)} : wpR (fItN g f env st) QI E = wpR (f env st) (fun us s=>wpR (R.of s (g us)) QI E) E:=wp_bnd
theorem wp_fItS {g : Store → List U → Option Itb} {f : F (List U)} : wpR (fItS g f env st) QI E = wpR (f env st) (fun us s=>wpR (R.of s (g s us)) QI E) E:=wp_bnd
theorem wp_fDk {g : List (Key × D) → Itb} {f : F U} : wpR (fDk g f env st) QI E = wpR (f env st) (fun u s=>wpR (match u with
 | .d (.dct ds)=>R.ok (g ds) s
 | _=>.bad) QI E) E:=wp_bnd
theorem wp_fDnew : wpR (fDnew env st) Q E = wpQ Q (.ref st.length) (st ++ [.dct []]):=rfl
theorem wp_fGet1 {fo fk : F U} : wpR (fGet1 fo fk env st) Q E = wpR (fo env st) (fun o s=>wpR (if (VL.getD s o).isSome = true then R.ok () s else .bad) (fun _ s=>wpR (fk env s) (fun k s=>wpR (match VL.getD s o,keyD k with
 | some kvs,some k=>R.ok (dGet none kvs k) s
 | _,_=>.bad) Q E) E) E) E:=by
 unfold fGet1; rw [wp_bnd]; congr 1; funext u s
 show wpR (if _ then bnd fk _ env s else .bad) Q E = _
 by_cases h : (VL.getD s u).isSome = true
 ·rw [if_pos h,if_pos h,wp_bnd]; rfl
 ·rw [if_neg h,if_neg h]; rfl
theorem wp_fGet2 {fo fk fx : F U} : wpR (fGet2 fo fk fx env st) Q E = wpR (fo env st) (fun o s=>wpR (if (VL.getD s o).isSome = true then R.ok () s else .bad) (fun _ s=>wpR (fk env s) (fun k s=>wpR (fx env s) (fun x s=>wpR (match VL.getD s o,keyD k with
 | some kvs,some k=>R.ok (dGet (some x) kvs k) s
 | _,_=>.bad) Q E) E) E) E) E:=by
 unfold fGet2; rw [wp_bnd]; congr 1; funext u s
 show wpR (if _ then bnd fk _ env s else .bad) Q E = _
 by_cases h : (VL.getD s u).isSome = true
 ·rw [if_pos h,if_pos h,wp_bnd]; show wpR (fk env s) _ E = wpR (fk env s) _ E; congr 1; funext k s; rw [wp_bnd]; try rfl
 ·rw [if_neg h,if_neg h]; rfl
theorem wp_fSetd {fo fk fx : F U} : wpR (fSetd fo fk fx env st) Q E = wpR (fo env st) (fun o s=>wpR (if (VL.getD s o).isSome = true then R.ok () s else .bad) (fun _ s=>wpR (fk env s) (fun k s=>wpR (fx env s) (fun x s=>wpR (match dctC s o,keyD k with
 | some (n,kvs),some k=>if kvs.length < sizeLine then (match lookK kvs k with
  | some u=>R.ok u s
  | none=>.ok x (s.set n (.dct (putU kvs k x)))) else .bad
 | _,_=>.bad) Q E) E) E) E) E:=by
 unfold fSetd; rw [wp_bnd]; congr 1; funext u s
 show wpR (if _ then bnd fk _ env s else .bad) Q E = _
 by_cases h : (VL.getD s u).isSome = true
 ·rw [if_pos h,if_pos h,wp_bnd]; show wpR (fk env s) _ E = wpR (fk env s) _ E; congr 1; funext k s; rw [wp_bnd]; try rfl
 ·rw [if_neg h,if_neg h]; rfl
theorem wp_fJs0 {acc : Str} : wpR (fJs [] acc env st) Q E = wpQ Q (.d (.str acc)) st:=rfl
theorem wp_fJs {f : F U} {fs : List (F U)} {acc : Str} : wpR (fJs (f :: fs) acc env st) Q E = wpR (f env st) (fun u s=>wpR (match u with
 | .d (.str y)=>if (acc ++ y).length ≤ sizeLine then R.ok (acc ++ y) s else .bad
 | _=>.bad) (fun y s=>wpR (fJs fs y env s) Q E) E) E:=by
 show wpR (bnd f _ env st) Q E = _
 rw [wp_bnd]; congr 1; funext u s
 cases u with
 | ref n=>rfl
 | d x=>cases x with
  | str y =>
   simp only
   by_cases h : (acc ++ y).length ≤ sizeLine
   ·rw [if_pos h,if_pos h]; rfl
   ·rw [if_neg h,if_neg h]; rfl
  | _=>rfl
theorem wp_fProp {C0 : Addr} {mf : List U → M U} {fo : F U} : wpR (fProp C0 mf fo env st) Q E = wpR (fo env st) (fun u s=>wpR (match insU s u with
 | some (C',_)=>if C' = C0 then R.ok () s else .bad
 | none=>.bad) (fun _ s=>wpR (mf [u] s) Q noR) E) E:=by
 unfold fProp; rw [wp_bnd]; congr 1; funext u s
 cases insU s u with
 | none=>rfl
 | some q =>
  obtain ⟨C',us⟩:=q
  simp only
  by_cases h : C' = C0
  ·rw [if_pos h,if_pos h]; show _ = wpR (mf [u] s) Q noR
   cases mf [u] s <;> rfl
  ·rw [if_neg h,if_neg h]; rfl
theorem wps_nil : wpS (sNil env st) N T B C X = wpQ N env st:=rfl
theorem wps_seq {g h : G} : wpS (sSeq g h env st) N T B C X = wpS (g env st) (fun env s=>wpS (h env s) N T B C X) T B C X:=by
 unfold sSeq
 cases g env st with
 | ok e f s=>cases f <;> rfl
 | ex c fs e s=>rfl
 | bad=>rfl
theorem wps_ret {f : F U} : wpS (sRet f env st) N T B C X = wpR (f env st) (fun u s=>wpQ T u s) (fun c fs s=>X c fs env s):=wp_bndS
theorem wps_retN : wpS (sRetN env st) N T B C X = wpQ T (.d .non) st:=rfl
theorem wps_expr {f : F U} : wpS (sExpr f env st) N T B C X = wpR (f env st) (fun _ s=>wpQ N env s) (fun c fs s=>X c fs env s):=wp_bndS
theorem wps_if {c : F Bool} {g h : G} : wpS (sIf c g h env st) N T B C X = wpR (c env st) (fun k s=>wpI k (wpS (g env s) N T B C X) (wpS (h env s) N T B C X)) (fun c fs s=>X c fs env s):=by
 unfold sIf; rw [wp_bndS]; congr 1; funext k s; cases k <;> rfl
theorem wps_sbk : wpS (sBk env st) N T B C X = wpQ B env st:=rfl
theorem wps_sct : wpS (sCt env st) N T B C X = wpQ C env st:=rfl
theorem wps_asg {f : F U} {tg : U → G} : wpS (sAsg f tg env st) N T B C X = wpR (f env st) (fun a s=>wpS (tg a env s) N T B C X) (fun c fs s=>X c fs env s):=wp_bndS
theorem wps_tgN {i : Nat} {u : U} : wpS (tgN i u env st) N T B C X = wpQ N (env.set i (some u)) st:=rfl
theorem wps_tgNil : wpS (tgNil [] env st) N T B C X = wpQ N env st:=rfl
theorem wps_tgCons {g : U → G} {h : List U → G} {u : U} {us : List U} : wpS (tgCons g h (u :: us) env st) N T B C X = wpS (g u env st) (fun env s=>wpS (h us env s) N T B C X) T B C X:=wps_seq
theorem wps_tgT {n : Nat} {g : List U → G} {u : U} : wpS (tgT n g u env st) N T B C X = wpR (match unp st u with
 | some us=>if us.length = n then R.ok us st else .bad
 | none=>.bad) (fun us s=>wpS (g us env s) N T B C X) noR:=by
 unfold tgT
 cases unp st u with
 | none=>rfl
 | some us =>
  simp only
  by_cases h : us.length = n
  ·rw [if_pos h,if_pos h]; rfl
  ·rw [if_neg h,if_neg h]; rfl
theorem wps_tgSub {fo fi : F U} {u : U} : wpS (tgSub fo fi u env st) N T B C X = wpR (fo env st) (fun o s=>wpR (fi env s) (fun i s=>wpR (match setU o i u s with
 | some s'=>R.ok () s'
 | none=>.bad) (fun _ s=>wpQ N env s) noR) noR) noR:=by
 unfold tgSub
 cases fo env st with
 | ok o s =>
  show wpS (match fi env s with
   | .ok i st2=>match setU o i u st2 with
    | some st'=>.ok env .nx st'
    | none=>.bad
   | _=>.bad) N T B C X = wpR (fi env s) _ noR
  cases fi env s with
  | ok i s2 =>
    show wpS (match setU o i u s2 with
    | some st'=>.ok env .nx st'
    | none=>.bad) N T B C X = wpR (match setU o i u s2 with
    | some s'=>R.ok () s'
    | none=>.bad) _ noR
    cases setU o i u s2 <;> rfl
  | ex=>rfl
  | bad=>rfl
 | ex=>rfl
 | bad=>rfl
theorem wps_sPar {i j : Nat} {fs : F (List U)} : wpS (sPar i j fs env st) N T B C X = wpR (fs env st) (fun us s=>wpS (match us with
 | [u,w]=>.ok ((env.set i (some u)).set j (some w)) .nx s
 | _=>.bad) N T B C X) (fun c fs s=>X c fs env s):=wp_bndS
theorem wps_sPar3 {i j l : Nat} {fs : F (List U)} : wpS (sPar3 i j l fs env st) N T B C X = wpR (fs env st) (fun us s=>wpS (match us with
 | [u,w,z]=>.ok (((env.set i (some u)).set j (some w)).set l (some z)) .nx s
 | _=>.bad) N T B C X) (fun c fs s=>X c fs env s):=wp_bndS
theorem wps_sFldS {cs : List Addr} {f : Str} {fo fe : F U} : wpS (sFldS cs f fo fe env st) N T B C X = wpR (fe env st) (fun u s=>wpR (fo env s) (fun o s=>wpR (match setFld cs f u o s with
 | some s'=>R.ok () s'
 | none=>.bad) (fun _ s=>wpQ N env s) noR) (fun c fs s=>X c fs env s)) (fun c fs s=>X c fs env s):=by
 unfold sFldS; rw [wp_bndS]; congr 1; funext u s; rw [wp_bndS]; congr 1; funext o s
 cases setFld cs f u o s <;> rfl
theorem wps_sFldAugM {cs : List Addr} {f : Str} {g : P2} {fo fe : F U} : wpS (sFldAugM cs f g fo fe env st) N T B C X = wpR (fo env st) (fun o s=>wpR (match insU s o with
 | some (C0,us)=>if C0 ∈ cs then (match us.lookup f with
  | some x=>R.ok (C0,x) s
  | none=>.bad) else .bad
 | none=>.bad) (fun p s=>wpR (fe env s) (fun y s=>wpS (augF cs f g p.1 o p.2 y env s) N T B C X) (fun c fs s=>X c fs env s)) noR) (fun c fs s=>X c fs env s):=by
 unfold sFldAugM; rw [wp_bndS]; congr 1; funext o s
 cases insU s o with
 | none=>rfl
 | some p =>
  obtain ⟨C0,us⟩:=p
  simp only
  by_cases h : C0 ∈ cs
  ·rw [if_pos h,if_pos h]
   cases us.lookup f with
   | none=>rfl
   | some x=>exact wp_bndS
  ·rw [if_neg h,if_neg h]; rfl
theorem wps_sAug {i : Nat} {g : P2} {f : F U} : wpS (sAug i g f env st) N T B C X = wpR (vVar i env st) (fun x s=>wpR (f env s) (fun y s=>wpR (match g x y s with
 | some u=>R.ok u s
 | none=>.bad) (fun u s=>wpQ N (env.set i (some u)) s) noR) (fun c fs s=>X c fs env s)) (fun c fs s=>X c fs env s):=by
 unfold sAug; rw [wp_bndS]; congr 1; funext x s; rw [wp_bndS]; congr 1; funext y s
 unfold augK
 cases g x y s <;> rfl
theorem wps_sRaise {C0 : Addr} {ns : List Str} {fa : F (List U)} : wpS (sRaise C0 ns fa env st) N T B C X = wpR (fa env st) (fun us s=>wpR (match pureL us with
 | some ds=>if ds.length = ns.length ∧ ds.length ≤ 1000 then R.ok ds s else .bad
 | none=>.bad) (fun ds s=>X (.ref C0) (some (ns.zip ds).reverse) env s) noR) (fun c fs s=>X c fs env s):=by
 unfold sRaise; rw [wp_bndS]; congr 1; funext us s
 cases pureL us with
 | none=>rfl
 | some ds =>
  simp only
  by_cases h : ds.length = ns.length ∧ ds.length ≤ 1000
  ·rw [if_pos h,if_pos h]; rfl
  ·rw [if_neg h,if_neg h]; rfl
noncomputable def wpL (tg : U → G) (body : G) (us : List U) (env : VEnv) (st : Store) (N : VEnv → Store → Prop) (T : U → Store → Prop) (X : Value → XF → VEnv → Store → Prop) : Prop:=wpS (loopL tg body us env st) N T noN noN X
noncomputable def wpC (tg : U → G) (body : G) (n : Nat) (f : Nat → U → Option U) (k i : Nat) (env : VEnv) (st : Store) (N : VEnv → Store → Prop) (T : U → Store → Prop) (X : Value → XF → VEnv → Store → Prop) : Prop:=wpS (loopC tg body n f k i env st) N T noN noN X
theorem loopL_eq {tg : U → G} {body : G} {u : U} {us : List U} : loopL tg body (u :: us) env st = match tg u env st with
  | .ok env1 .nx st1=>match body env1 st1 with
   | .ok env2 .nx st2=>loopL tg body us env2 st2
   | .ok env2 .ct st2=>loopL tg body us env2 st2
   | .ok env2 .bk st2=>.ok env2 .nx st2
   | r=>r
  | _=>.bad:=rfl
theorem loopC_eq {tg : U → G} {body : G} {n k i : Nat} {f : Nat → U → Option U} : loopC tg body n f (k + 1) i env st = match st[n]? with
  | some (.lst us)=>match us[i]? with
   | none=>.ok env .nx st
   | some u=>match f i u with
    | none=>.bad
    | some w=>match tg w env st with
     | .ok env1 .nx st1=>match body env1 st1 with
      | .ok env2 .nx st2=>loopC tg body n f k (i + 1) env2 st2
      | .ok env2 .ct st2=>loopC tg body n f k (i + 1) env2 st2
      | .ok env2 .bk st2=>.ok env2 .nx st2
      | r=>r
     | _=>.bad
  | _=>.bad:=rfl
theorem loopL_nb {tg : U → G} {body : G} : ∀ (us : List U) (env : VEnv) (st : Store),wpS (loopL tg body us env st) (fun _ _=>True) (fun _ _=>True) noN noN (fun _ _ _ _=>True) ∨ loopL tg body us env st = .bad
 | [],env,st=>.inl trivial
 | u :: us,env,st=>by
  rw [loopL_eq]
  cases tg u env st with
  | bad=>exact .inr rfl
  | ex=>exact .inr rfl
  | ok e f s=>cases f with
   | rt=>exact .inr rfl
   | bk=>exact .inr rfl
   | ct=>exact .inr rfl
   | nx =>
    simp only
    cases body e s with
    | bad=>exact .inr rfl
    | ex=>exact .inl trivial
    | ok e2 f2 s2=>cases f2 with
     | rt=>exact .inl trivial
     | bk=>exact .inl trivial
     | ct=>exact loopL_nb us e2 s2
     | nx=>exact loopL_nb us e2 s2
theorem loopC_nb {tg : U → G} {body : G} {n : Nat} {f : Nat → U → Option U} : ∀ (k i : Nat) (env : VEnv) (st : Store),wpS (loopC tg body n f k i env st) (fun _ _=>True) (fun _ _=>True) noN noN (fun _ _ _ _=>True) ∨ loopC tg body n f k i env st = .bad
 | 0,i,env,st=>.inr rfl
 | k + 1,i,env,st=>by
  rw [loopC_eq]
  cases st[n]? with
  | none=>exact .inr rfl
  | some o=>cases o with
   | lst us =>
    simp only
    cases us[i]? with
    | none=>exact .inl trivial
    | some u =>
     simp only
     cases f i u with
     | none=>exact .inr rfl
     | some w =>
      simp only
      cases tg w env st with
      | bad=>exact .inr rfl
      | ex=>exact .inr rfl
      | ok e f s=>cases f with
       | rt=>exact .inr rfl
       | bk=>exact .inr rfl
       | ct=>exact .inr rfl
       | nx =>
        simp only
        cases body e s with
        | bad=>exact .inr rfl
        | ex=>exact .inl trivial
        | ok e2 f2 s2=>cases f2 with
         | rt=>exact .inl trivial
         | bk=>exact .inl trivial
         | ct=>exact loopC_nb k (i + 1) e2 s2
         | nx=>exact loopC_nb k (i + 1) e2 s2
   | _=>exact .inr rfl
theorem wpS_nb {r : RS} (h : wpS r (fun _ _=>True) (fun _ _=>True) noN noN (fun _ _ _ _=>True) ∨ r = .bad) : wpS r N T B C X = wpS r N T noN noN X:=by
 cases r with
 | bad=>rfl
 | ex=>rfl
 | ok e f s=>cases f with
  | nx=>rfl
  | rt=>rfl
  | bk =>
      rcases h with h | h
      ·exact h.elim
      ·cases h
  | ct =>
      rcases h with h | h
      ·exact h.elim
      ·cases h
theorem wps_for {fi : F Itb} {tg : U → G} {body : G} : wpS (sFor fi tg body env st) N T B C X = wpR (fi env st) (fun t s=>wpR (match t with
 | .lst us=>R.ok (Sum.inl us) s
 | .cell n f=>match s[n]? with
  | some (.lst us)=>R.ok (Sum.inr (n,f,us.length + 1)) s
  | _=>.bad) (fun t s=>match t with
   | .inl us=>wpL tg body us env s N T X
   | .inr p=>wpC tg body p.1 p.2.1 p.2.2 0 env s N T X) noR) (fun c fs s=>X c fs env s):=by
 unfold sFor; rw [wp_bndS]; congr 1; funext t s
 cases t with
 | lst us=>exact wpS_nb (loopL_nb us env s)
 | cell n f =>
  simp only
  cases s[n]? with
  | none=>rfl
  | some o=>cases o with
   | lst us=>exact wpS_nb (loopC_nb _ _ env s)
   | _=>rfl
theorem wpL_nil {tg : U → G} {body : G} : wpL tg body [] env st N T X = wpQ N env st:=rfl
theorem wp_fnM {n : Nat} {g : G} {w : Wr} {us : List U} : wpR (fnM n g w us st) Q E = wpS (g (us.map some ++ List.replicate (n - us.length) none) st) (fun _ s=>wpR (w st.length (.d .non) s) Q E) (fun u s=>wpR (w st.length u s) Q E) noN noN (fun c fs _ s=>wpR (R.of s (cutS st.length s)) (fun s' _=>E c fs s') noR):=by
 unfold fnM
 cases g (us.map some ++ List.replicate (n - us.length) none) st with
 | bad=>rfl
 | ex c fs e s =>
   show wpR (match cutS st.length s with
    | some s=>.ex c fs s
    | none=>.bad) Q E = wpR (R.of s (cutS st.length s)) _ noR
   cases cutS st.length s <;> rfl
 | ok e f s=>cases f <;> rfl
theorem wp_fnX {n : Nat} {g : G} {w : Wr} {us : List U} : wpR (fnX n g w us st) Q E = wpS (g (us.map some ++ List.replicate (n - us.length) none) st) (fun _ s=>wpR (w st.length (.d .non) s) Q E) (fun u s=>wpR (w st.length u s) Q E) noN noN (fun c fs _ s=>E c fs s):=by
 unfold fnX
 cases g (us.map some ++ List.replicate (n - us.length) none) st with
 | bad=>rfl
 | ex c fs e s=>rfl
 | ok e f s=>cases f <;> rfl
end
theorem eq_of_wp {α : Type} {r : R α} {v : α} {s : Store} (h : wpR r (fun a st=>a = v ∧ st = s) noR) : r = .ok v s:=by
 cases r with
 | ok a st=>obtain ⟨rfl,rfl⟩ : a = v ∧ st = s:=h; rfl
 | ex=>exact h.elim
 | bad=>exact h.elim
theorem wp_of_eq {α : Type} {r : R α} {v : α} {s : Store} {Q : α → Store → Prop} {E : Value → XF → Store → Prop} (h : r = .ok v s) (q : Q v s) : wpR r Q E:=by rw [h]; exact q
end Q0
@[irreducible] noncomputable def wpR {α : Type} (r : R α) (Q : α → Store → Prop) (E : Value → XF → Store → Prop) : Prop:=Q0.wpR r Q E
@[irreducible] noncomputable def wpS (r : RS) (N : VEnv → Store → Prop) (T : U → Store → Prop) (B C : VEnv → Store → Prop) (E : Value → XF → VEnv → Store → Prop) : Prop:=Q0.wpS r N T B C E
@[irreducible] noncomputable def wpQ {α : Type} (Q : α → Store → Prop) (a : α) (st : Store) : Prop:=Q0.wpQ Q a st
@[irreducible] noncomputable def wpI (k : Bool) (P Q : Prop) : Prop:=Q0.wpI k P Q
@[irreducible] noncomputable def wpL (tg : U → G) (body : G) (us : List U) (env : VEnv) (st : Store) (N : VEnv → Store → Prop) (T : U → Store → Prop) (X : Value → XF → VEnv → Store → Prop) : Prop:=Q0.wpL tg body us env st N T X
@[irreducible] noncomputable def wpC (tg : U → G) (body : G) (n : Nat) (f : Nat → U → Option U) (k i : Nat) (env : VEnv) (st : Store) (N : VEnv → Store → Prop) (T : U → Store → Prop) (X : Value → XF → VEnv → Store → Prop) : Prop:=Q0.wpC tg body n f k i env st N T X
@[irreducible] noncomputable def act (P : Prop) : Prop:=P
theorem act_i {P : Prop} (h : P) : act P:=by unfold act; exact h
theorem act_e {P : Prop} (h : act P) : P:=by unfold act at h; exact h
theorem act_act {P : Prop} : act (act P) = act P:=propext ⟨act_e,act_i⟩
theorem act_true : act True = True:=eq_true (act_i trivial)
section
variable {α β : Type} {Q : α → Store → Prop} {E : Value → XF → Store → Prop} {N B C : VEnv → Store → Prop} {T : U → Store → Prop} {X : Value → XF → VEnv → Store → Prop} {env : VEnv} {st : Store}
theorem wp_Q' {a : α} : wpQ Q a st = Q a st:=by with_unfolding_all exact Q0.wp_Q 
theorem wp_Q {a : α} : act (wpQ Q a st) = act (Q a st):=by
 have h : wpQ Q a st = Q a st:=by with_unfolding_all exact Q0.wp_Q 
 unfold act
 exact h
theorem wp_I1' {P R : Prop} : wpI true P R = P:=by with_unfolding_all exact Q0.wp_I1 
theorem wp_I1 {P R : Prop} : act (wpI true P R) = act (P):=by
 have h : wpI true P R = P:=by with_unfolding_all exact Q0.wp_I1 
 unfold act
 exact h
theorem wp_I0' {P R : Prop} : wpI false P R = R:=by with_unfolding_all exact Q0.wp_I0 
theorem wp_I0 {P R : Prop} : act (wpI false P R) = act (R):=by
 have h : wpI false P R = R:=by with_unfolding_all exact Q0.wp_I0 
 unfold act
 exact h
theorem wp_ok' {a : α} : wpR (.ok a st) Q E = wpQ Q a st:=by with_unfolding_all exact Q0.wp_ok 
theorem wp_ok {a : α} : act (wpR (.ok a st) Q E) = act (wpQ Q a st):=by
 have h : wpR (.ok a st) Q E = wpQ Q a st:=by with_unfolding_all exact Q0.wp_ok 
 unfold act
 exact h
theorem wp_ex' {c : Value} {fs : XF} : wpR (.ex c fs st) Q E = E c fs st:=by with_unfolding_all exact Q0.wp_ex 
theorem wp_ex {c : Value} {fs : XF} : act (wpR (.ex c fs st) Q E) = act (E c fs st):=by
 have h : wpR (.ex c fs st) Q E = E c fs st:=by with_unfolding_all exact Q0.wp_ex 
 unfold act
 exact h
theorem wp_bad' : wpR (.bad : R α) Q E = False:=by with_unfolding_all exact Q0.wp_bad 
theorem wp_bad : act (wpR (.bad : R α) Q E) = act (False):=by
 have h : wpR (.bad : R α) Q E = False:=by with_unfolding_all exact Q0.wp_bad 
 unfold act
 exact h
theorem wps_nx' : wpS (.ok env .nx st) N T B C X = wpQ N env st:=by with_unfolding_all exact Q0.wps_nx 
theorem wps_nx : act (wpS (.ok env .nx st) N T B C X) = act (wpQ N env st):=by
 have h : wpS (.ok env .nx st) N T B C X = wpQ N env st:=by with_unfolding_all exact Q0.wps_nx 
 unfold act
 exact h
theorem wps_rt' {u : U} : wpS (.ok env (.rt u) st) N T B C X = wpQ T u st:=by with_unfolding_all exact Q0.wps_rt 
theorem wps_rt {u : U} : act (wpS (.ok env (.rt u) st) N T B C X) = act (wpQ T u st):=by
 have h : wpS (.ok env (.rt u) st) N T B C X = wpQ T u st:=by with_unfolding_all exact Q0.wps_rt 
 unfold act
 exact h
theorem wps_bk' : wpS (.ok env .bk st) N T B C X = wpQ B env st:=by with_unfolding_all exact Q0.wps_bk 
theorem wps_bk : act (wpS (.ok env .bk st) N T B C X) = act (wpQ B env st):=by
 have h : wpS (.ok env .bk st) N T B C X = wpQ B env st:=by with_unfolding_all exact Q0.wps_bk 
 unfold act
 exact h
theorem wps_ct' : wpS (.ok env .ct st) N T B C X = wpQ C env st:=by with_unfolding_all exact Q0.wps_ct 
theorem wps_ct : act (wpS (.ok env .ct st) N T B C X) = act (wpQ C env st):=by
 have h : wpS (.ok env .ct st) N T B C X = wpQ C env st:=by with_unfolding_all exact Q0.wps_ct 
 unfold act
 exact h
theorem wps_ex' {c : Value} {fs : XF} : wpS (.ex c fs env st) N T B C X = X c fs env st:=by with_unfolding_all exact Q0.wps_ex 
theorem wps_ex {c : Value} {fs : XF} : act (wpS (.ex c fs env st) N T B C X) = act (X c fs env st):=by
 have h : wpS (.ex c fs env st) N T B C X = X c fs env st:=by with_unfolding_all exact Q0.wps_ex 
 unfold act
 exact h
theorem wps_bad' : wpS .bad N T B C X = False:=by with_unfolding_all exact Q0.wps_bad 
theorem wps_bad : act (wpS .bad N T B C X) = act (False):=by
 have h : wpS .bad N T B C X = False:=by with_unfolding_all exact Q0.wps_bad 
 unfold act
 exact h
theorem of_some {a : α} : R.of st (some a) = .ok a st:=by with_unfolding_all exact Q0.of_some 
theorem of2_some {a : α} {s : Store} : R.of2 (some (a,s)) = .ok a s:=by with_unfolding_all exact Q0.of2_some 
theorem of_ite {c : Prop} [Decidable c] {a : α} : act (wpR (R.of st (if c then some a else none)) Q E) = (c ∧ act (wpQ Q a st)):=by
 have h : wpR (R.of st (if c then some a else none)) Q E = (c ∧ wpQ Q a st):=by with_unfolding_all exact Q0.of_ite 
 unfold act
 exact h
theorem of2_ite {c : Prop} [Decidable c] {a : α} {s : Store} : act (wpR (R.of2 (if c then some (a,s) else none)) Q E) = (c ∧ act (wpQ Q a s)):=by
 have h : wpR (R.of2 (if c then some (a,s) else none)) Q E = (c ∧ wpQ Q a s):=by with_unfolding_all exact Q0.of2_ite 
 unfold act
 exact h
theorem ite_bad {c : Prop} [Decidable c] {r : R α} : act (wpR (if c then r else .bad) Q E) = (c ∧ act (wpR r Q E)):=by
 have h : wpR (if c then r else .bad) Q E = (c ∧ wpR r Q E):=by with_unfolding_all exact Q0.ite_bad 
 unfold act
 exact h
theorem ites_bad {c : Prop} [Decidable c] {r : RS} : act (wpS (if c then r else .bad) N T B C X) = (c ∧ act (wpS r N T B C X)):=by
 have h : wpS (if c then r else .bad) N T B C X = (c ∧ wpS r N T B C X):=by with_unfolding_all exact Q0.ites_bad 
 unfold act
 exact h
theorem wp_bnd {f : F β} {g : β → F α} : act (wpR (bnd f g env st) Q E) = act (wpR (f env st) (fun a s=>wpR (g a env s) Q E) E):=by
 have h : wpR (bnd f g env st) Q E = wpR (f env st) (fun a s=>wpR (g a env s) Q E) E:=by with_unfolding_all exact Q0.wp_bnd 
 unfold act
 exact h
theorem wp_bndS {f : F β} {g : β → G} : act (wpS (bndS f g env st) N T B C X) = act (wpR (f env st) (fun a s=>wpS (g a env s) N T B C X) (fun c fs s=>X c fs env s)):=by
 have h : wpS (bndS f g env st) N T B C X = wpR (f env st) (fun a s=>wpS (g a env s) N T B C X) (fun c fs s=>X c fs env s):=by with_unfolding_all exact Q0.wp_bndS 
 unfold act
 exact h
theorem wp_fPure {a : α} : act (wpR (fPure a env st) Q E) = act (wpQ Q a st):=by
 have h : wpR (fPure a env st) Q E = wpQ Q a st:=by with_unfolding_all exact Q0.wp_fPure 
 unfold act
 exact h
end
section
variable {Q : U → Store → Prop} {QB : Bool → Store → Prop} {QL : List U → Store → Prop} {Q2 : List U × List U → Store → Prop} {QI : Itb → Store → Prop} {QO : Option Int → Store → Prop} {E : Value → XF → Store → Prop} {N B C : VEnv → Store → Prop} {T : U → Store → Prop} {X : Value → XF → VEnv → Store → Prop} {env : VEnv} {st : Store}
theorem wp_vC {x : D} : act (wpR (vC x env st) Q E) = act (wpQ Q (.d x) st):=by
 have h : wpR (vC x env st) Q E = wpQ Q (.d x) st:=by with_unfolding_all exact Q0.wp_vC 
 unfold act
 exact h
theorem wp_f2 {g : P2} {fa fb : F U} : act (wpR (f2 g fa fb env st) Q E) = act (wpR (fa env st) (fun a s=>wpR (fb env s) (fun b s2=>wpR (R.of s2 (g a b s2)) Q E) E) E):=by
 have h : wpR (f2 g fa fb env st) Q E = wpR (fa env st) (fun a s=>wpR (fb env s) (fun b s2=>wpR (R.of s2 (g a b s2)) Q E) E) E:=by with_unfolding_all exact Q0.wp_f2 
 unfold act
 exact h
theorem wp_f2s {g : P2S} {fa fb : F U} : act (wpR (f2s g fa fb env st) Q E) = act (wpR (fa env st) (fun a s=>wpR (fb env s) (fun b s2=>wpR (g a b s2) Q E) E) E):=by
 have h : wpR (f2s g fa fb env st) Q E = wpR (fa env st) (fun a s=>wpR (fb env s) (fun b s2=>wpR (g a b s2) Q E) E) E:=by with_unfolding_all exact Q0.wp_f2s 
 unfold act
 exact h
theorem wp_f1 {g : P1} {fa : F U} : act (wpR (f1 g fa env st) Q E) = act (wpR (fa env st) (fun a s=>wpR (R.of s (g a s)) Q E) E):=by
 have h : wpR (f1 g fa env st) Q E = wpR (fa env st) (fun a s=>wpR (R.of s (g a s)) Q E) E:=by with_unfolding_all exact Q0.wp_f1 
 unfold act
 exact h
theorem wp_fFld {cs : List Addr} {f : Str} {fo : F U} : act (wpR (fFld cs f fo env st) Q E) = act (wpR (fo env st) (fun a s=>wpR (R.of s (oFld cs f a s)) Q E) E):=by
 have h : wpR (fFld cs f fo env st) Q E = wpR (fo env st) (fun a s=>wpR (R.of s (oFld cs f a s)) Q E) E:=by with_unfolding_all exact Q0.wp_fFld 
 unfold act
 exact h
theorem wp_asB {f : F U} : act (wpR (asB f env st) QB E) = act (wpR (f env st) (fun u s=>wpR (match u with
 | .d (.bl k)=>R.ok k s
 | _=>.bad) QB E) E):=by
 have h : wpR (asB f env st) QB E = wpR (f env st) (fun u s=>wpR (match u with
 | .d (.bl k)=>R.ok k s
 | _=>.bad) QB E) E:=by with_unfolding_all exact Q0.wp_asB 
 unfold act
 exact h
theorem wp_asT {f : F U} : act (wpR (asT f env st) QB E) = act (wpR (f env st) (fun u s=>wpR (R.of s (truB s u)) QB E) E):=by
 have h : wpR (asT f env st) QB E = wpR (f env st) (fun u s=>wpR (R.of s (truB s u)) QB E) E:=by with_unfolding_all exact Q0.wp_asT 
 unfold act
 exact h
theorem wp_fNot {f : F U} : act (wpR (fNot f env st) Q E) = act (wpR (f env st) (fun u s=>wpR (R.of s ((truB s u).map fun k=>U.d (.bl (!k)))) Q E) E):=by
 have h : wpR (fNot f env st) Q E = wpR (f env st) (fun u s=>wpR (R.of s ((truB s u).map fun k=>U.d (.bl (!k)))) Q E) E:=by with_unfolding_all exact Q0.wp_fNot 
 unfold act
 exact h
theorem wp_fIf {c : F Bool} {x y : F U} : act (wpR (fIf c x y env st) Q E) = act (wpR (c env st) (fun k s=>wpI k (wpR (x env s) Q E) (wpR (y env s) Q E)) E):=by
 have h : wpR (fIf c x y env st) Q E = wpR (c env st) (fun k s=>wpI k (wpR (x env s) Q E) (wpR (y env s) Q E)) E:=by with_unfolding_all exact Q0.wp_fIf 
 unfold act
 exact h
theorem wp_bAnd {x y : F Bool} : act (wpR (bAnd x y env st) QB E) = act (wpR (x env st) (fun k s=>wpI k (wpR (y env s) QB E) (wpQ QB false s)) E):=by
 have h : wpR (bAnd x y env st) QB E = wpR (x env st) (fun k s=>wpI k (wpR (y env s) QB E) (wpQ QB false s)) E:=by with_unfolding_all exact Q0.wp_bAnd 
 unfold act
 exact h
theorem wp_bOr {x y : F Bool} : act (wpR (bOr x y env st) QB E) = act (wpR (x env st) (fun k s=>wpI k (wpQ QB true s) (wpR (y env s) QB E)) E):=by
 have h : wpR (bOr x y env st) QB E = wpR (x env st) (fun k s=>wpI k (wpQ QB true s) (wpR (y env s) QB E)) E:=by with_unfolding_all exact Q0.wp_bOr 
 unfold act
 exact h
theorem wp_bNot {x : F Bool} : act (wpR (bNot x env st) QB E) = act (wpR (x env st) (fun k s=>wpQ QB (!k) s) E):=by
 have h : wpR (bNot x env st) QB E = wpR (x env st) (fun k s=>wpQ QB (!k) s) E:=by with_unfolding_all exact Q0.wp_bNot 
 unfold act
 exact h
theorem wp_fAnd {x y : F U} : act (wpR (fAnd x y env st) Q E) = act (wpR (x env st) (fun u s=>wpR (match u with
 | .d (.bl k)=>R.ok k s
 | _=>.bad) (fun k s=>wpI k (wpR (y env s) Q E) (wpQ Q (.d (.bl false)) s)) E) E):=by
 have h : wpR (fAnd x y env st) Q E = wpR (x env st) (fun u s=>wpR (match u with
 | .d (.bl k)=>R.ok k s
 | _=>.bad) (fun k s=>wpI k (wpR (y env s) Q E) (wpQ Q (.d (.bl false)) s)) E) E:=by with_unfolding_all exact Q0.wp_fAnd 
 unfold act
 exact h
theorem wp_fOr {x y : F U} : act (wpR (fOr x y env st) Q E) = act (wpR (x env st) (fun u s=>wpR (match u with
 | .d (.bl k)=>R.ok k s
 | _=>.bad) (fun k s=>wpI k (wpQ Q (.d (.bl true)) s) (wpR (y env s) Q E)) E) E):=by
 have h : wpR (fOr x y env st) Q E = wpR (x env st) (fun u s=>wpR (match u with
 | .d (.bl k)=>R.ok k s
 | _=>.bad) (fun k s=>wpI k (wpQ Q (.d (.bl true)) s) (wpR (y env s) Q E)) E) E:=by with_unfolding_all exact Q0.wp_fOr 
 unfold act
 exact h
theorem wp_fChain {g g' : P2} {fa fb fc : F U} : act (wpR (fChain g g' fa fb fc env st) Q E) = act (wpR (fa env st) (fun a s=>wpR (fb env s) (fun b s=>wpR (R.of s (g a b s)) (fun u s=>wpR (match u with
 | .d (.bl k)=>R.ok k s
 | _=>.bad) (fun k s=>wpI k (wpR (fc env s) (fun c s=>wpR (R.of s (g' b c s)) Q E) E) (wpQ Q (.d (.bl false)) s)) E) E) E) E):=by
 have h : wpR (fChain g g' fa fb fc env st) Q E = wpR (fa env st) (fun a s=>wpR (fb env s) (fun b s=>wpR (R.of s (g a b s)) (fun u s=>wpR (match u with
 | .d (.bl k)=>R.ok k s
 | _=>.bad) (fun k s=>wpI k (wpR (fc env s) (fun c s=>wpR (R.of s (g' b c s)) Q E) E) (wpQ Q (.d (.bl false)) s)) E) E) E) E:=by with_unfolding_all exact Q0.wp_fChain 
 unfold act
 exact h
theorem wp_fNil : act (wpR (fNil env st) QL E) = act (wpQ QL [] st):=by
 have h : wpR (fNil env st) QL E = wpQ QL [] st:=by with_unfolding_all exact Q0.wp_fNil 
 unfold act
 exact h
theorem wp_fCons {f : F U} {g : F (List U)} : act (wpR (fCons f g env st) QL E) = act (wpR (f env st) (fun u s=>wpR (g env s) (fun us s2=>wpQ QL (u :: us) s2) E) E):=by
 have h : wpR (fCons f g env st) QL E = wpR (f env st) (fun u s=>wpR (g env s) (fun us s2=>wpQ QL (u :: us) s2) E) E:=by with_unfolding_all exact Q0.wp_fCons 
 unfold act
 exact h
theorem wp_fN {g : List U → Store → Option U} {f : F (List U)} : act (wpR (fN g f env st) Q E) = act (wpR (f env st) (fun us s=>wpR (R.of s (g us s)) Q E) E):=by
 have h : wpR (fN g f env st) Q E = wpR (f env st) (fun us s=>wpR (R.of s (g us s)) Q E) E:=by with_unfolding_all exact Q0.wp_fN 
 unfold act
 exact h
theorem wp_fB {g : P3} {f : F (List U)} : act (wpR (fB g f env st) Q E) = act (wpR (f env st) (fun us s=>wpR (R.of2 (g us s)) Q E) E):=by
 have h : wpR (fB g f env st) Q E = wpR (f env st) (fun us s=>wpR (R.of2 (g us s)) Q E) E:=by with_unfolding_all exact Q0.wp_fB 
 unfold act
 exact h
theorem wp_fLstC {f : F (List U)} : act (wpR (fLstC f env st) Q E) = act (wpR (f env st) (fun us s=>wpR (if us.length ≤ sizeLine then .ok (.ref s.length) (s ++ [.lst us]) else .bad) Q E) E):=by
 have h : wpR (fLstC f env st) Q E = wpR (f env st) (fun us s=>wpR (if us.length ≤ sizeLine then .ok (.ref s.length) (s ++ [.lst us]) else .bad) Q E) E:=by with_unfolding_all exact Q0.wp_fLstC 
 unfold act
 exact h
theorem wp_fTup {f : F (List U)} : act (wpR (fTup f env st) Q E) = act (wpR (f env st) (fun us s=>wpR (match pureL us with
 | some ds=>if ds.length ≤ sizeLine then .ok (.d (.tup ds)) s else .bad
 | none=>if us.length ≤ sizeLine then .ok (.ref s.length) (s ++ [.tup us]) else .bad) Q E) E):=by
 have h : wpR (fTup f env st) Q E = wpR (f env st) (fun us s=>wpR (match pureL us with
 | some ds=>if ds.length ≤ sizeLine then .ok (.d (.tup ds)) s else .bad
 | none=>if us.length ≤ sizeLine then .ok (.ref s.length) (s ++ [.tup us]) else .bad) Q E) E:=by with_unfolding_all exact Q0.wp_fTup 
 unfold act
 exact h
theorem wp_fCW {f g : F (List U)} : act (wpR (fCW f g env st) Q2 E) = act (wpR (f env st) (fun us s=>wpR (g env s) (fun ws s2=>wpQ Q2 (us,ws) s2) E) E):=by
 have h : wpR (fCW f g env st) Q2 E = wpR (f env st) (fun us s=>wpR (g env s) (fun ws s2=>wpQ Q2 (us,ws) s2) E) E:=by with_unfolding_all exact Q0.wp_fCW 
 unfold act
 exact h
theorem wp_fCall {n m : Nat} {gU : List U → List U → List U} {mf : List U → M U} {f : F (List U × List U)} : act (wpR (fCall n m gU mf f env st) Q E) = act (wpR (f env st) (fun p s=>wpR (if p.1.length = n ∧ p.2.length = m then mf (gU p.1 p.2) s else .bad) Q E) E):=by
 have h : wpR (fCall n m gU mf f env st) Q E = wpR (f env st) (fun p s=>wpR (if p.1.length = n ∧ p.2.length = m then mf (gU p.1 p.2) s else .bad) Q E) E:=by with_unfolding_all exact Q0.wp_fCall 
 unfold act
 exact h
theorem wp_fMeth {C0 : Addr} {nm : Str} {n m : Nat} {gU : List U → List U → List U} {mf : List U → M U} {fo : F U} {fc : F (List U × List U)} : act (wpR (fMeth C0 nm n m gU mf fo fc env st) Q E) = act (wpR (fo env st) (fun u s=>wpR (match insU s u with
 | some (C',us)=>if C' = C0 ∧ us.lookup nm = none then R.ok () s else .bad
 | none=>.bad) (fun _ s=>wpR (fc env s) (fun p s=>wpR (if p.1.length = n ∧ p.2.length = m then mf (gU (u :: p.1) p.2) s else .bad) Q E) E) E) E):=by
 have h : wpR (fMeth C0 nm n m gU mf fo fc env st) Q E = wpR (fo env st) (fun u s=>wpR (match insU s u with
 | some (C',us)=>if C' = C0 ∧ us.lookup nm = none then R.ok () s else .bad
 | none=>.bad) (fun _ s=>wpR (fc env s) (fun p s=>wpR (if p.1.length = n ∧ p.2.length = m then mf (gU (u :: p.1) p.2) s else .bad) Q E) E) E) E:=by with_unfolding_all exact Q0.wp_fMeth 
 unfold act
 exact h
theorem wp_fM {t : String} {g : P4} {fo : F U} {fs : F (List U)} : act (wpR (fM t g fo fs env st) Q E) = act (wpR (fo env st) (fun u s=>wpR (if tyB t s u = true then R.ok () s else .bad) (fun _ s=>wpR (fs env s) (fun us s=>wpR (R.of2 (g u us s)) Q E) E) E) E):=by
 have h : wpR (fM t g fo fs env st) Q E = wpR (fo env st) (fun u s=>wpR (if tyB t s u = true then R.ok () s else .bad) (fun _ s=>wpR (fs env s) (fun us s=>wpR (R.of2 (g u us s)) Q E) E) E) E:=by with_unfolding_all exact Q0.wp_fM 
 unfold act
 exact h
theorem wp_oNone : act (wpR (oNone env st) QO E) = act (wpQ QO none st):=by
 have h : wpR (oNone env st) QO E = wpQ QO none st:=by with_unfolding_all exact Q0.wp_oNone 
 unfold act
 exact h
theorem wp_oSome {f : F U} : act (wpR (oSome f env st) QO E) = act (wpR (f env st) (fun u s=>wpR (match u with
 | .d (.int i)=>R.ok (some i) s
 | _=>.bad) QO E) E):=by
 have h : wpR (oSome f env st) QO E = wpR (f env st) (fun u s=>wpR (match u with
 | .d (.int i)=>R.ok (some i) s
 | _=>.bad) QO E) E:=by with_unfolding_all exact Q0.wp_oSome 
 unfold act
 exact h
theorem wp_fSl {f : F U} {l h : F (Option Int)} : act (wpR (fSl f l h env st) Q E) = act (wpR (f env st) (fun a s=>wpR (l env s) (fun lo s=>wpR (h env s) (fun hi s=>wpR (R.of s (oSl a lo hi s)) Q E) E) E) E):=by
 have h : wpR (fSl f l h env st) Q E = wpR (f env st) (fun a s=>wpR (l env s) (fun lo s=>wpR (h env s) (fun hi s=>wpR (R.of s (oSl a lo hi s)) Q E) E) E) E:=by with_unfolding_all exact Q0.wp_fSl 
 unfold act
 exact h
theorem wp_fSlC {f : F U} {l h : F (Option Int)} : act (wpR (fSlC f l h env st) Q E) = act (wpR (f env st) (fun a s=>wpR (l env s) (fun lo s=>wpR (h env s) (fun hi s=>wpR (oSlC a lo hi s) Q E) E) E) E):=by
 have h : wpR (fSlC f l h env st) Q E = wpR (f env st) (fun a s=>wpR (l env s) (fun lo s=>wpR (h env s) (fun hi s=>wpR (oSlC a lo hi s) Q E) E) E) E:=by with_unfolding_all exact Q0.wp_fSlC 
 unfold act
 exact h
theorem wp_fIter {f : F U} : act (wpR (fIter f env st) QI E) = act (wpR (f env st) (fun u s=>wpR (R.of s (itV s u)) QI E) E):=by
 have h : wpR (fIter f env st) QI E = wpR (f env st) (fun u s=>wpR (R.of s (itV s u)) QI E) E:=by with_unfolding_all exact Q0.wp_fIter 
 unfold act
 exact h
theorem wp_fItN {g : List U → Option Itb} {f : F (List U)} : act (wpR (fItN g f env st) QI E) = act (wpR (f env st) (fun us s=>wpR (R.of s (g us)) QI E) E):=by
 have h : wpR (fItN g f env st) QI E = wpR (f env st) (fun us s=>wpR (R.of s (g us)) QI E) E:=by with_unfolding_all exact Q0.wp_fItN 
 unfold act
 exact h
theorem wp_fItS {g : Store → List U → Option Itb} {f : F (List U)} : act (wpR (fItS g f env st) QI E) = act (wpR (f env st) (fun us s=>wpR (R.of s (g s us)) QI E) E):=by
 have h : wpR (fItS g f env st) QI E = wpR (f env st) (fun us s=>wpR (R.of s (g s us)) QI E) E:=by with_unfolding_all exact Q0.wp_fItS 
 unfold act
 exact h
theorem wp_fDk {g : List (Key × D) → Itb} {f : F U} : act (wpR (fDk g f env st) QI E) = act (wpR (f env st) (fun u s=>wpR (match u with
 | .d (.dct ds)=>R.ok (g ds) s
 | _=>.bad) QI E) E):=by
 have h : wpR (fDk g f env st) QI E = wpR (f env st) (fun u s=>wpR (match u with
 | .d (.dct ds)=>R.ok (g ds) s
 | _=>.bad) QI E) E:=by with_unfolding_all exact Q0.wp_fDk 
 unfold act
 exact h
theorem wp_fDnew : act (wpR (fDnew env st) Q E) = act (wpQ Q (.ref st.length) (st ++ [.dct []])):=by
 have h : wpR (fDnew env st) Q E = wpQ Q (.ref st.length) (st ++ [.dct []]):=by with_unfolding_all exact Q0.wp_fDnew 
 unfold act
 exact h
theorem wp_fGet1 {fo fk : F U} : act (wpR (fGet1 fo fk env st) Q E) = act (wpR (fo env st) (fun o s=>wpR (if (VL.getD s o).isSome = true then R.ok () s else .bad) (fun _ s=>wpR (fk env s) (fun k s=>wpR (match VL.getD s o,keyD k with
 | some kvs,some k=>R.ok (dGet none kvs k) s
 | _,_=>.bad) Q E) E) E) E):=by
 have h : wpR (fGet1 fo fk env st) Q E = wpR (fo env st) (fun o s=>wpR (if (VL.getD s o).isSome = true then R.ok () s else .bad) (fun _ s=>wpR (fk env s) (fun k s=>wpR (match VL.getD s o,keyD k with
 | some kvs,some k=>R.ok (dGet none kvs k) s
 | _,_=>.bad) Q E) E) E) E:=by with_unfolding_all exact Q0.wp_fGet1 
 unfold act
 exact h
theorem wp_fGet2 {fo fk fx : F U} : act (wpR (fGet2 fo fk fx env st) Q E) = act (wpR (fo env st) (fun o s=>wpR (if (VL.getD s o).isSome = true then R.ok () s else .bad) (fun _ s=>wpR (fk env s) (fun k s=>wpR (fx env s) (fun x s=>wpR (match VL.getD s o,keyD k with
 | some kvs,some k=>R.ok (dGet (some x) kvs k) s
 | _,_=>.bad) Q E) E) E) E) E):=by
 have h : wpR (fGet2 fo fk fx env st) Q E = wpR (fo env st) (fun o s=>wpR (if (VL.getD s o).isSome = true then R.ok () s else .bad) (fun _ s=>wpR (fk env s) (fun k s=>wpR (fx env s) (fun x s=>wpR (match VL.getD s o,keyD k with
 | some kvs,some k=>R.ok (dGet (some x) kvs k) s
 | _,_=>.bad) Q E) E) E) E) E:=by with_unfolding_all exact Q0.wp_fGet2 
 unfold act
 exact h
theorem wp_fSetd {fo fk fx : F U} : act (wpR (fSetd fo fk fx env st) Q E) = act (wpR (fo env st) (fun o s=>wpR (if (VL.getD s o).isSome = true then R.ok () s else .bad) (fun _ s=>wpR (fk env s) (fun k s=>wpR (fx env s) (fun x s=>wpR (match dctC s o,keyD k with
 | some (n,kvs),some k=>if kvs.length < sizeLine then (match lookK kvs k with
  | some u=>R.ok u s
  | none=>.ok x (s.set n (.dct (putU kvs k x)))) else .bad
 | _,_=>.bad) Q E) E) E) E) E):=by
 have h : wpR (fSetd fo fk fx env st) Q E = wpR (fo env st) (fun o s=>wpR (if (VL.getD s o).isSome = true then R.ok () s else .bad) (fun _ s=>wpR (fk env s) (fun k s=>wpR (fx env s) (fun x s=>wpR (match dctC s o,keyD k with
 | some (n,kvs),some k=>if kvs.length < sizeLine then (match lookK kvs k with
  | some u=>R.ok u s
  | none=>.ok x (s.set n (.dct (putU kvs k x)))) else .bad
 | _,_=>.bad) Q E) E) E) E) E:=by with_unfolding_all exact Q0.wp_fSetd 
 unfold act
 exact h
theorem wp_fJs0 {acc : Str} : act (wpR (fJs [] acc env st) Q E) = act (wpQ Q (.d (.str acc)) st):=by
 have h : wpR (fJs [] acc env st) Q E = wpQ Q (.d (.str acc)) st:=by with_unfolding_all exact Q0.wp_fJs0 
 unfold act
 exact h
theorem wp_fJs {f : F U} {fs : List (F U)} {acc : Str} : act (wpR (fJs (f :: fs) acc env st) Q E) = act (wpR (f env st) (fun u s=>wpR (match u with
 | .d (.str y)=>if (acc ++ y).length ≤ sizeLine then R.ok (acc ++ y) s else .bad
 | _=>.bad) (fun y s=>wpR (fJs fs y env s) Q E) E) E):=by
 have h : wpR (fJs (f :: fs) acc env st) Q E = wpR (f env st) (fun u s=>wpR (match u with
 | .d (.str y)=>if (acc ++ y).length ≤ sizeLine then R.ok (acc ++ y) s else .bad
 | _=>.bad) (fun y s=>wpR (fJs fs y env s) Q E) E) E:=by with_unfolding_all exact Q0.wp_fJs 
 unfold act
 exact h
theorem wp_fProp {C0 : Addr} {mf : List U → M U} {fo : F U} : act (wpR (fProp C0 mf fo env st) Q E) = act (wpR (fo env st) (fun u s=>wpR (match insU s u with
 | some (C',_)=>if C' = C0 then R.ok () s else .bad
 | none=>.bad) (fun _ s=>wpR (mf [u] s) Q noR) E) E):=by
 have h : wpR (fProp C0 mf fo env st) Q E = wpR (fo env st) (fun u s=>wpR (match insU s u with
 | some (C',_)=>if C' = C0 then R.ok () s else .bad
 | none=>.bad) (fun _ s=>wpR (mf [u] s) Q noR) E) E:=by with_unfolding_all exact Q0.wp_fProp 
 unfold act
 exact h
theorem wps_nil : act (wpS (sNil env st) N T B C X) = act (wpQ N env st):=by
 have h : wpS (sNil env st) N T B C X = wpQ N env st:=by with_unfolding_all exact Q0.wps_nil 
 unfold act
 exact h
theorem wps_seq {g h : G} : act (wpS (sSeq g h env st) N T B C X) = act (wpS (g env st) (fun env s=>wpS (h env s) N T B C X) T B C X):=by
 have h : wpS (sSeq g h env st) N T B C X = wpS (g env st) (fun env s=>wpS (h env s) N T B C X) T B C X:=by with_unfolding_all exact Q0.wps_seq 
 unfold act
 exact h
theorem wps_ret {f : F U} : act (wpS (sRet f env st) N T B C X) = act (wpR (f env st) (fun u s=>wpQ T u s) (fun c fs s=>X c fs env s)):=by
 have h : wpS (sRet f env st) N T B C X = wpR (f env st) (fun u s=>wpQ T u s) (fun c fs s=>X c fs env s):=by with_unfolding_all exact Q0.wps_ret 
 unfold act
 exact h
theorem wps_retN : act (wpS (sRetN env st) N T B C X) = act (wpQ T (.d .non) st):=by
 have h : wpS (sRetN env st) N T B C X = wpQ T (.d .non) st:=by with_unfolding_all exact Q0.wps_retN 
 unfold act
 exact h
theorem wps_expr {f : F U} : act (wpS (sExpr f env st) N T B C X) = act (wpR (f env st) (fun _ s=>wpQ N env s) (fun c fs s=>X c fs env s)):=by
 have h : wpS (sExpr f env st) N T B C X = wpR (f env st) (fun _ s=>wpQ N env s) (fun c fs s=>X c fs env s):=by with_unfolding_all exact Q0.wps_expr 
 unfold act
 exact h
theorem wps_if {c : F Bool} {g h : G} : act (wpS (sIf c g h env st) N T B C X) = act (wpR (c env st) (fun k s=>wpI k (wpS (g env s) N T B C X) (wpS (h env s) N T B C X)) (fun c fs s=>X c fs env s)):=by
 have h : wpS (sIf c g h env st) N T B C X = wpR (c env st) (fun k s=>wpI k (wpS (g env s) N T B C X) (wpS (h env s) N T B C X)) (fun c fs s=>X c fs env s):=by with_unfolding_all exact Q0.wps_if 
 unfold act
 exact h
theorem wps_sbk : act (wpS (sBk env st) N T B C X) = act (wpQ B env st):=by
 have h : wpS (sBk env st) N T B C X = wpQ B env st:=by with_unfolding_all exact Q0.wps_sbk 
 unfold act
 exact h
theorem wps_sct : act (wpS (sCt env st) N T B C X) = act (wpQ C env st):=by
 have h : wpS (sCt env st) N T B C X = wpQ C env st:=by with_unfolding_all exact Q0.wps_sct 
 unfold act
 exact h
theorem wps_asg {f : F U} {tg : U → G} : act (wpS (sAsg f tg env st) N T B C X) = act (wpR (f env st) (fun a s=>wpS (tg a env s) N T B C X) (fun c fs s=>X c fs env s)):=by
 have h : wpS (sAsg f tg env st) N T B C X = wpR (f env st) (fun a s=>wpS (tg a env s) N T B C X) (fun c fs s=>X c fs env s):=by with_unfolding_all exact Q0.wps_asg 
 unfold act
 exact h
theorem wps_tgN {i : Nat} {u : U} : act (wpS (tgN i u env st) N T B C X) = act (wpQ N (env.set i (some u)) st):=by
 have h : wpS (tgN i u env st) N T B C X = wpQ N (env.set i (some u)) st:=by with_unfolding_all exact Q0.wps_tgN 
 unfold act
 exact h
theorem wps_tgNil : act (wpS (tgNil [] env st) N T B C X) = act (wpQ N env st):=by
 have h : wpS (tgNil [] env st) N T B C X = wpQ N env st:=by with_unfolding_all exact Q0.wps_tgNil 
 unfold act
 exact h
theorem wps_tgCons {g : U → G} {h : List U → G} {u : U} {us : List U} : act (wpS (tgCons g h (u :: us) env st) N T B C X) = act (wpS (g u env st) (fun env s=>wpS (h us env s) N T B C X) T B C X):=by
 have h : wpS (tgCons g h (u :: us) env st) N T B C X = wpS (g u env st) (fun env s=>wpS (h us env s) N T B C X) T B C X:=by with_unfolding_all exact Q0.wps_tgCons 
 unfold act
 exact h
theorem wps_tgT {n : Nat} {g : List U → G} {u : U} : act (wpS (tgT n g u env st) N T B C X) = act (wpR (match unp st u with
 | some us=>if us.length = n then R.ok us st else .bad
 | none=>.bad) (fun us s=>wpS (g us env s) N T B C X) noR):=by
 have h : wpS (tgT n g u env st) N T B C X = wpR (match unp st u with
 | some us=>if us.length = n then R.ok us st else .bad
 | none=>.bad) (fun us s=>wpS (g us env s) N T B C X) noR:=by with_unfolding_all exact Q0.wps_tgT 
 unfold act
 exact h
theorem wps_tgSub {fo fi : F U} {u : U} : act (wpS (tgSub fo fi u env st) N T B C X) = act (wpR (fo env st) (fun o s=>wpR (fi env s) (fun i s=>wpR (match setU o i u s with
 | some s'=>R.ok () s'
 | none=>.bad) (fun _ s=>wpQ N env s) noR) noR) noR):=by
 have h : wpS (tgSub fo fi u env st) N T B C X = wpR (fo env st) (fun o s=>wpR (fi env s) (fun i s=>wpR (match setU o i u s with
 | some s'=>R.ok () s'
 | none=>.bad) (fun _ s=>wpQ N env s) noR) noR) noR:=by with_unfolding_all exact Q0.wps_tgSub 
 unfold act
 exact h
theorem wps_sPar {i j : Nat} {fs : F (List U)} : act (wpS (sPar i j fs env st) N T B C X) = act (wpR (fs env st) (fun us s=>wpS (match us with
 | [u,w]=>.ok ((env.set i (some u)).set j (some w)) .nx s
 | _=>.bad) N T B C X) (fun c fs s=>X c fs env s)):=by
 have h : wpS (sPar i j fs env st) N T B C X = wpR (fs env st) (fun us s=>wpS (match us with
 | [u,w]=>.ok ((env.set i (some u)).set j (some w)) .nx s
 | _=>.bad) N T B C X) (fun c fs s=>X c fs env s):=by with_unfolding_all exact Q0.wps_sPar 
 unfold act
 exact h
theorem wps_sPar3 {i j l : Nat} {fs : F (List U)} : act (wpS (sPar3 i j l fs env st) N T B C X) = act (wpR (fs env st) (fun us s=>wpS (match us with
 | [u,w,z]=>.ok (((env.set i (some u)).set j (some w)).set l (some z)) .nx s
 | _=>.bad) N T B C X) (fun c fs s=>X c fs env s)):=by
 have h : wpS (sPar3 i j l fs env st) N T B C X = wpR (fs env st) (fun us s=>wpS (match us with
 | [u,w,z]=>.ok (((env.set i (some u)).set j (some w)).set l (some z)) .nx s
 | _=>.bad) N T B C X) (fun c fs s=>X c fs env s):=by with_unfolding_all exact Q0.wps_sPar3 
 unfold act
 exact h
theorem wps_sFldS {cs : List Addr} {f : Str} {fo fe : F U} : act (wpS (sFldS cs f fo fe env st) N T B C X) = act (wpR (fe env st) (fun u s=>wpR (fo env s) (fun o s=>wpR (match setFld cs f u o s with
 | some s'=>R.ok () s'
 | none=>.bad) (fun _ s=>wpQ N env s) noR) (fun c fs s=>X c fs env s)) (fun c fs s=>X c fs env s)):=by
 have h : wpS (sFldS cs f fo fe env st) N T B C X = wpR (fe env st) (fun u s=>wpR (fo env s) (fun o s=>wpR (match setFld cs f u o s with
 | some s'=>R.ok () s'
 | none=>.bad) (fun _ s=>wpQ N env s) noR) (fun c fs s=>X c fs env s)) (fun c fs s=>X c fs env s):=by with_unfolding_all exact Q0.wps_sFldS 
 unfold act
 exact h
theorem wps_sFldAugM {cs : List Addr} {f : Str} {g : P2} {fo fe : F U} : act (wpS (sFldAugM cs f g fo fe env st) N T B C X) = act (wpR (fo env st) (fun o s=>wpR (match insU s o with
 | some (C0,us)=>if C0 ∈ cs then (match us.lookup f with
  | some x=>R.ok (C0,x) s
  | none=>.bad) else .bad
 | none=>.bad) (fun p s=>wpR (fe env s) (fun y s=>wpS (augF cs f g p.1 o p.2 y env s) N T B C X) (fun c fs s=>X c fs env s)) noR) (fun c fs s=>X c fs env s)):=by
 have h : wpS (sFldAugM cs f g fo fe env st) N T B C X = wpR (fo env st) (fun o s=>wpR (match insU s o with
 | some (C0,us)=>if C0 ∈ cs then (match us.lookup f with
  | some x=>R.ok (C0,x) s
  | none=>.bad) else .bad
 | none=>.bad) (fun p s=>wpR (fe env s) (fun y s=>wpS (augF cs f g p.1 o p.2 y env s) N T B C X) (fun c fs s=>X c fs env s)) noR) (fun c fs s=>X c fs env s):=by with_unfolding_all exact Q0.wps_sFldAugM 
 unfold act
 exact h
theorem wps_sAug {i : Nat} {g : P2} {f : F U} : act (wpS (sAug i g f env st) N T B C X) = act (wpR (vVar i env st) (fun x s=>wpR (f env s) (fun y s=>wpR (match g x y s with
 | some u=>R.ok u s
 | none=>.bad) (fun u s=>wpQ N (env.set i (some u)) s) noR) (fun c fs s=>X c fs env s)) (fun c fs s=>X c fs env s)):=by
 have h : wpS (sAug i g f env st) N T B C X = wpR (vVar i env st) (fun x s=>wpR (f env s) (fun y s=>wpR (match g x y s with
 | some u=>R.ok u s
 | none=>.bad) (fun u s=>wpQ N (env.set i (some u)) s) noR) (fun c fs s=>X c fs env s)) (fun c fs s=>X c fs env s):=by with_unfolding_all exact Q0.wps_sAug 
 unfold act
 exact h
theorem wps_sRaise {C0 : Addr} {ns : List Str} {fa : F (List U)} : act (wpS (sRaise C0 ns fa env st) N T B C X) = act (wpR (fa env st) (fun us s=>wpR (match pureL us with
 | some ds=>if ds.length = ns.length ∧ ds.length ≤ 1000 then R.ok ds s else .bad
 | none=>.bad) (fun ds s=>X (.ref C0) (some (ns.zip ds).reverse) env s) noR) (fun c fs s=>X c fs env s)):=by
 have h : wpS (sRaise C0 ns fa env st) N T B C X = wpR (fa env st) (fun us s=>wpR (match pureL us with
 | some ds=>if ds.length = ns.length ∧ ds.length ≤ 1000 then R.ok ds s else .bad
 | none=>.bad) (fun ds s=>X (.ref C0) (some (ns.zip ds).reverse) env s) noR) (fun c fs s=>X c fs env s):=by with_unfolding_all exact Q0.wps_sRaise 
 unfold act
 exact h
theorem wps_for {fi : F Itb} {tg : U → G} {body : G} : act (wpS (sFor fi tg body env st) N T B C X) = act (wpR (fi env st) (fun t s=>wpR (match t with
 | .lst us=>R.ok (Sum.inl us) s
 | .cell n f=>match s[n]? with
  | some (.lst us)=>R.ok (Sum.inr (n,f,us.length + 1)) s
  | _=>.bad) (fun t s=>match t with
   | .inl us=>wpL tg body us env s N T X
   | .inr p=>wpC tg body p.1 p.2.1 p.2.2 0 env s N T X) noR) (fun c fs s=>X c fs env s)):=by
 have h : wpS (sFor fi tg body env st) N T B C X = wpR (fi env st) (fun t s=>wpR (match t with
 | .lst us=>R.ok (Sum.inl us) s
 | .cell n f=>match s[n]? with
  | some (.lst us)=>R.ok (Sum.inr (n,f,us.length + 1)) s
  | _=>.bad) (fun t s=>match t with
   | .inl us=>wpL tg body us env s N T X
   | .inr p=>wpC tg body p.1 p.2.1 p.2.2 0 env s N T X) noR) (fun c fs s=>X c fs env s):=by with_unfolding_all exact Q0.wps_for 
 unfold act
 exact h
theorem wpL_nil {tg : U → G} {body : G} : act (wpL tg body [] env st N T X) = act (wpQ N env st):=by
 have h : wpL tg body [] env st N T X = wpQ N env st:=by with_unfolding_all exact Q0.wpL_nil 
 unfold act
 exact h
theorem wp_fnM {n : Nat} {g : G} {w : Wr} {us : List U} : act (wpR (fnM n g w us st) Q E) = act (wpS (g (us.map some ++ List.replicate (n - us.length) none) st) (fun _ s=>wpR (w st.length (.d .non) s) Q E) (fun u s=>wpR (w st.length u s) Q E) noN noN (fun c fs _ s=>wpR (R.of s (cutS st.length s)) (fun s' _=>E c fs s') noR)):=by
 have h : wpR (fnM n g w us st) Q E = wpS (g (us.map some ++ List.replicate (n - us.length) none) st) (fun _ s=>wpR (w st.length (.d .non) s) Q E) (fun u s=>wpR (w st.length u s) Q E) noN noN (fun c fs _ s=>wpR (R.of s (cutS st.length s)) (fun s' _=>E c fs s') noR):=by with_unfolding_all exact Q0.wp_fnM 
 unfold act
 exact h
theorem wp_fnX {n : Nat} {g : G} {w : Wr} {us : List U} : act (wpR (fnX n g w us st) Q E) = act (wpS (g (us.map some ++ List.replicate (n - us.length) none) st) (fun _ s=>wpR (w st.length (.d .non) s) Q E) (fun u s=>wpR (w st.length u s) Q E) noN noN (fun c fs _ s=>E c fs s)):=by
 have h : wpR (fnX n g w us st) Q E = wpS (g (us.map some ++ List.replicate (n - us.length) none) st) (fun _ s=>wpR (w st.length (.d .non) s) Q E) (fun u s=>wpR (w st.length u s) Q E) noN noN (fun c fs _ s=>E c fs s):=by with_unfolding_all exact Q0.wp_fnX 
 unfold act
 exact h
end
theorem eq_of_wp {α : Type} {r : R α} {v : α} {s : Store} (h : wpR r (fun a st=>a = v ∧ st = s) noR) : r = .ok v s:=by with_unfolding_all exact Q0.eq_of_wp h
theorem wp_of_eq {α : Type} {r : R α} {v : α} {s : Store} {Q : α → Store → Prop} {E : Value → XF → Store → Prop} (h : r = .ok v s) (q : Q v s) : wpR r Q E:=by with_unfolding_all exact Q0.wp_of_eq h q
section
variable {s cs : Store} {o o' : O} {n k b c : Nat}
theorem nf_get (h : s.length = n) : (s ++ cs)[n + k]? = cs[k]?:=by subst h; rw [List.getElem?_append_right (Nat.le_add_right _ _),Nat.add_sub_cancel_left]
theorem nf_get0 (h : s.length = n) : (s ++ cs)[n]? = cs[0]?:=by subst h; rw [List.getElem?_append_right (Nat.le_refl _),Nat.sub_self]
theorem nf_set (h : s.length = n) : (s ++ cs).set (n + k) o = s ++ cs.set k o:=by subst h; rw [List.set_append_right _ _ (Nat.le_add_right _ _),Nat.add_sub_cancel_left]
theorem nf_set0 (h : s.length = n) : (s ++ cs).set n o = s ++ cs.set 0 o:=by subst h; rw [List.set_append_right _ _ (Nat.le_refl _),Nat.sub_self]
theorem nf_lt : (n + k < n) = False:=eq_false (by omega)
theorem nf_cut (h : WF s) : cutS s.length (s ++ cs) = some s:=h.cutA _
theorem frz_dd {x : D} {f : Nat} : frz s k f (.d x) = some x:=by cases f <;> rfl
end
end VL
namespace VL
open PySem PySem.Spec PyProof.Rows L2
theorem wpR_inv {α : Type} {r : R α} {Q : α → Store → Prop} {E : Value → XF → Store → Prop} (h : wpR r Q E) : (∃ a s,r = .ok a s ∧ Q a s) ∨ ∃ c fs s,r = .ex c fs s ∧ E c fs s:=by
 cases r with
 | ok a s=>rw [wp_ok',wp_Q'] at h; exact .inl ⟨a,s,rfl,h⟩
 | ex c fs s=>rw [wp_ex'] at h; exact .inr ⟨c,fs,s,rfl,h⟩
 | bad=>rw [wp_bad'] at h; exact h.elim
theorem wpR_ok {α : Type} {r : R α} {Q : α → Store → Prop} (h : wpR r Q noR) : ∃ a s,r = .ok a s ∧ Q a s:=by
 rcases wpR_inv h with h | ⟨_,_,_,_,h⟩
 ·exact h
 ·exact h.elim
theorem wpS_nx {r : RS} {N : VEnv → Store → Prop} (h : wpS r N noT noN noN noE) : ∃ e s,r = .ok e .nx s ∧ N e s:=by
 cases r with
 | ok e f s=>cases f with
  | nx=>rw [wps_nx',wp_Q'] at h; exact ⟨e,s,rfl,h⟩
  | rt=>rw [wps_rt',wp_Q'] at h; exact h.elim
  | bk=>rw [wps_bk',wp_Q'] at h; exact h.elim
  | ct=>rw [wps_ct',wp_Q'] at h; exact h.elim
 | ex=>rw [wps_ex'] at h; exact h.elim
 | bad=>rw [wps_bad'] at h; exact h.elim
section
variable {α : Type} {fi : F Itb} {tg : U → G} {tt : F Bool} {fe : F U} {vs : List Nat} {env env0 : VEnv} {st st1 : Store} {Q : U → Store → Prop} {E : Value → XF → Store → Prop}
/-- what one element does -/
noncomputable def LcS (tg : U → G) (tt : F Bool) (fe : F U) (env0 : VEnv) (u : U) (acc : List D) (s : Store) (J : List D → Store → Prop) : Prop :=
 wpS (tg u env0 (s ++ [.lst (acc.map .d)])) (fun env1 s1=>wpR (tt env1 s1) (fun b s2=>wpI b (wpR (fe env1 s2) (fun y s3=>∃ d s',y = .d d ∧ s3 = s' ++ [.lst (acc.map .d)] ∧ s'.length = s.length ∧ J (acc ++ [d]) s') noR) (∃ s',s2 = s' ++ [.lst (acc.map .d)] ∧ s'.length = s.length ∧ J acc s')) noR) noT noN noN noE
theorem lcStep_of {u : U} {acc : List D} {s : Store} {J : List D → Store → Prop} {k : Nat} (hk : s.length = k) (hl : acc.length < sizeLine) (h : LcS tg tt fe env0 u acc s J) :
  ∃ acc' s',lcStep k tg tt fe env0 u (s ++ [.lst (acc.map .d)]) = .ok () (s' ++ [.lst (acc'.map .d)]) ∧ s'.length = k ∧ acc'.length ≤ acc.length + 1 ∧ J acc' s':=by
 obtain ⟨env1,s1,e1,h⟩:=wpS_nx h
 obtain ⟨b,s2,e2,h⟩:=wpR_ok h
 unfold lcStep
 simp only [e1,e2]
 cases b with
 | false =>
  rw [wp_I0'] at h
  obtain ⟨s',rfl,hl',hJ⟩:=h
  exact ⟨acc,s',rfl,by omega,Nat.le_succ _,hJ⟩
 | true =>
  rw [wp_I1'] at h
  obtain ⟨y,s3,e3,d,s',rfl,rfl,hl',hJ⟩:=wpR_ok h
  simp only [e3]
  have hg : (s' ++ [O.lst (acc.map .d)])[k]? = some (.lst (acc.map .d)):=by rw [nf_get0 (by omega)]; rfl
  simp only [hg]
  rw [if_pos (by rw [List.length_map]; exact hl)]
  refine ⟨acc ++ [d],s',?_,by omega,by rw [List.length_append]; exact Nat.le_refl _,hJ⟩
  rw [nf_set0 (by omega),List.map_append]
  rfl
theorem lcL_of {f : α → U} {k : Nat} (I : Nat → List D → Store → Prop) (env0 : VEnv) : ∀ (rest done : List α) (acc : List D) (s : Store),s.length = k → acc.length ≤ done.length → done.length + rest.length ≤ sizeLine → I done.length acc s →
  (∀ (i : Nat) (x : α) (acc : List D) (s : Store),(done ++ rest)[i]? = some x → s.length = k → acc.length ≤ i → I i acc s → LcS tg tt fe env0 (f x) acc s (I (i + 1))) →
  ∃ acc' s',lcL k tg tt fe env0 (rest.map f) (s ++ [.lst (acc.map .d)]) = .ok () (s' ++ [.lst (acc'.map .d)]) ∧ s'.length = k ∧ I (done ++ rest).length acc' s'
 | [],done,acc,s,hk,_,_,hI,_=>⟨acc,s,rfl,hk,by rw [List.append_nil]; exact hI⟩
 | x :: rest,done,acc,s,hk,ha,hz,hI,h=>by
  rw [List.length_cons] at hz
  have hx : (done ++ x :: rest)[done.length]? = some x:=by rw [List.getElem?_append_right (Nat.le_refl _),Nat.sub_self]; rfl
  obtain ⟨acc1,s1,e1,l1,g1,j1⟩:=lcStep_of hk (by omega) (h _ x acc s hx hk ha hI)
  have ed : done ++ x :: rest = (done ++ [x]) ++ rest:=by rw [List.append_assoc]; rfl
  obtain ⟨acc2,s2,e2,l2,j2⟩:=lcL_of I env0 rest (done ++ [x]) acc1 s1 l1 (by rw [List.length_append,List.length_singleton]; omega) (by rw [List.length_append,List.length_singleton]; omega) (by rw [List.length_append]; exact j1) (by rw [← ed]; exact h)
  refine ⟨acc2,s2,?_,l2,by rw [ed]; exact j2⟩
  rw [List.map_cons,lcL]
  simp only [e1]
  exact e2
/-- a comprehension whose elements may change the cells -/
theorem wp_lcS {f : α → U} (xs : List α) (I : Nat → List D → Store → Prop) (hi : fi env st = .ok (.lst (xs.map f)) st1) (hl : xs.length ≤ sizeLine) (h0 : I 0 [] st1)
  (h : ∀ (i : Nat) (x : α) (acc : List D) (s : Store),xs[i]? = some x → s.length = st1.length → acc.length ≤ i → I i acc s → LcS tg tt fe (wipeE env vs) (f x) acc s (I (i + 1)))
  (hk : ∀ (acc : List D) (s : Store),s.length = st1.length → I xs.length acc s → WF s ∧ Q (.d (.lst acc)) s) : wpR (fLc fi tg tt fe vs env st) Q E:=by
 obtain ⟨acc,s,e,l,j⟩:=lcL_of (tg:=tg) (tt:=tt) (fe:=fe) (f:=f) (k:=st1.length) I (wipeE env vs) xs [] [] st1 rfl (Nat.le_refl _) (by simpa using hl) h0 h
 obtain ⟨w,q⟩:=hk acc s l j
 rw [show ([] : List D).map U.d = [] from rfl] at e
 have hg : (s ++ [O.lst (acc.map .d)])[st1.length]? = some (.lst (acc.map .d)):=by rw [nf_get0 l]; rfl
 have hc : cutS st1.length (s ++ [O.lst (acc.map .d)]) = some s:=by rw [← l]; exact w.cutA _
 unfold fLc bnd
 rw [hi]
 simp only [e,lcEnd,hg,pureL_map,hc]
 rw [wp_ok',wp_Q']; exact q
/-- a comprehension that leaves the cells -/
noncomputable def LcP (tg : U → G) (tt : F Bool) (fe : F U) (env0 : VEnv) (u : U) (s : Store) (p : Bool) (d : D) : Prop :=
 wpS (tg u env0 s) (fun env1 s1=>wpR (tt env1 s1) (fun b s2=>b = p ∧ s2 = s ∧ (p = true → wpR (fe env1 s) (fun y s3=>y = .d d ∧ s3 = s) noR)) noR) noT noN noN noE
theorem LcP.to {u : U} {acc : List D} {s : Store} {p : Bool} {d : D} {J : List D → Store → Prop} (h : LcP tg tt fe env0 u (s ++ [.lst (acc.map .d)]) p d) (j : J (if p = true then acc ++ [d] else acc) s) : LcS tg tt fe env0 u acc s J:=by
 unfold LcP at h
 obtain ⟨env1,s1,e1,h⟩:=wpS_nx h
 obtain ⟨b,s2,e2,rfl,rfl,h⟩:=wpR_ok h
 unfold LcS
 rw [e1,wps_nx',wp_Q',e2,wp_ok',wp_Q']
 cases b with
 | false=>rw [wp_I0']; exact ⟨s,rfl,rfl,j⟩
 | true =>
  rw [wp_I1']
  obtain ⟨y,s3,e3,rfl,rfl⟩:=wpR_ok (h rfl)
  rw [e3,wp_ok',wp_Q']
  exact ⟨d,s,rfl,rfl,rfl,j⟩
theorem filter_snoc {xs : List α} {i : Nat} {x : α} (h : xs[i]? = some x) (P : α → Bool) (q : α → D) : (if P x = true then ((xs.take i).filter P).map q ++ [q x] else ((xs.take i).filter P).map q) = ((xs.take (i + 1)).filter P).map q:=by
 rw [List.take_add_one,h,List.filter_append,List.map_append]
 cases e : P x with
 | true=>rw [if_pos rfl]; congr 1; simp [e]
 | false=>rw [if_neg Bool.false_ne_true]; simp [e]
theorem lc_eq {f : α → U} (xs : List α) (P : α → Bool) (q : α → D) (hw : WF st) (hl : xs.length ≤ sizeLine) (hi : fi env st = .ok (.lst (xs.map f)) st)
  (h : ∀ x ∈ xs,∀ acc : List D,LcP tg tt fe (wipeE env vs) (f x) (st ++ [.lst (acc.map .d)]) (P x) (q x)) : fLc fi tg tt fe vs env st = .ok (.d (.lst ((xs.filter P).map q))) st:=by
 apply eq_of_wp
 refine wp_lcS xs (fun i acc s=>s = st ∧ acc = ((xs.take i).filter P).map q) hi hl ⟨rfl,by rw [List.take_zero]; rfl⟩ (fun i x acc s hx _ _ ⟨h1,h2⟩=>?_) (fun acc s _ ⟨h1,h2⟩=>⟨by rw [h1]; exact hw,by rw [h2,List.take_length],h1⟩)
 subst h1 h2
 exact (h x (List.mem_of_getElem? hx) _).to ⟨rfl,filter_snoc hx P q⟩
theorem lc_eq1 {f : α → U} (xs : List α) (q : α → D) (hw : WF st) (hl : xs.length ≤ sizeLine) (hi : fi env st = .ok (.lst (xs.map f)) st)
  (h : ∀ x ∈ xs,∀ acc : List D,LcP tg tt fe (wipeE env vs) (f x) (st ++ [.lst (acc.map .d)]) true (q x)) : fLc fi tg tt fe vs env st = .ok (.d (.lst (xs.map q))) st:=by
 have:=lc_eq (tg:=tg) (tt:=tt) (fe:=fe) (vs:=vs) xs (fun _=>true) q hw hl hi h
 rw [List.filter_eq_self.mpr (fun _ _=>rfl)] at this
 exact this
end
theorem ins_d {st : Store} {C : Addr} {fs : List (Str × D)} : insU st (.d (.ins C fs)) = some (C,fs.map fun p=>(p.1,.d p.2)):=rfl
section
variable {st : Store}
theorem eqb_int {i j : Int} : eqB st (.d (.int i)) (.d (.int j)) = some (decide (i = j)):=rfl
theorem eqb_str {i j : Str} : eqB st (.d (.str i)) (.d (.str j)) = some (decide (i = j)):=rfl
theorem eqb_bl {i j : Bool} : eqB st (.d (.bl i)) (.d (.bl j)) = some (decide (i = j)):=rfl
theorem eqb_nn : eqB st (.d .non) (.d .non) = some true:=rfl
theorem eqb_sn {i : Str} : eqB st (.d (.str i)) (.d .non) = some false:=rfl
theorem eqb_ns {i : Str} : eqB st (.d .non) (.d (.str i)) = some false:=rfl
theorem eqb_in {i : Int} : eqB st (.d (.int i)) (.d .non) = some false:=rfl
theorem eqb_ni {i : Int} : eqB st (.d .non) (.d (.int i)) = some false:=rfl
end
theorem ins_m {st : Store} {n : Nat} : insU st (.ref n) = match st[n]? with
  | some (.ins C us)=>some (C,us)
  | _=>none:=rfl
theorem isn_n {st : Store} : oIsN (.d .non) (.d .non) st = some (.d (.bl true)):=rfl
theorem isn_bl {st : Store} {b : Bool} : oIsN (.d (.bl b)) (.d .non) st = some (.d (.bl false)):=rfl
theorem isn_int {st : Store} {b : Int} : oIsN (.d (.int b)) (.d .non) st = some (.d (.bl false)):=rfl
theorem isn_str {st : Store} {b : Str} : oIsN (.d (.str b)) (.d .non) st = some (.d (.bl false)):=rfl
theorem isn_tup {st : Store} {b : List D} : oIsN (.d (.tup b)) (.d .non) st = some (.d (.bl false)):=rfl
theorem isn_lst {st : Store} {b : List D} : oIsN (.d (.lst b)) (.d .non) st = some (.d (.bl false)):=rfl
theorem isn_dct {st : Store} {b : List (Key × D)} : oIsN (.d (.dct b)) (.d .non) st = some (.d (.bl false)):=rfl
theorem isn_scr {st : Store} {b : List Int} : oIsN (.d (.scr b)) (.d .non) st = some (.d (.bl false)):=rfl
theorem isn_ins {st : Store} {C : Addr} {fs : List (Str × D)} : oIsN (.d (.ins C fs)) (.d .non) st = some (.d (.bl false)):=rfl
theorem isn_ref {st : Store} {n : Nat} : oIsN (.ref n) (.d .non) st = some (.d (.bl false)):=rfl
theorem nsn_n {st : Store} : oNotN (.d .non) (.d .non) st = some (.d (.bl false)):=rfl
theorem nsn_bl {st : Store} {b : Bool} : oNotN (.d (.bl b)) (.d .non) st = some (.d (.bl true)):=rfl
theorem nsn_int {st : Store} {b : Int} : oNotN (.d (.int b)) (.d .non) st = some (.d (.bl true)):=rfl
theorem nsn_str {st : Store} {b : Str} : oNotN (.d (.str b)) (.d .non) st = some (.d (.bl true)):=rfl
theorem nsn_tup {st : Store} {b : List D} : oNotN (.d (.tup b)) (.d .non) st = some (.d (.bl true)):=rfl
theorem nsn_lst {st : Store} {b : List D} : oNotN (.d (.lst b)) (.d .non) st = some (.d (.bl true)):=rfl
theorem nsn_dct {st : Store} {b : List (Key × D)} : oNotN (.d (.dct b)) (.d .non) st = some (.d (.bl true)):=rfl
theorem nsn_scr {st : Store} {b : List Int} : oNotN (.d (.scr b)) (.d .non) st = some (.d (.bl true)):=rfl
theorem nsn_ins {st : Store} {C : Addr} {fs : List (Str × D)} : oNotN (.d (.ins C fs)) (.d .non) st = some (.d (.bl true)):=rfl
theorem nsn_ref {st : Store} {n : Nat} : oNotN (.ref n) (.d .non) st = some (.d (.bl true)):=rfl
theorem gd_d {st : Store} {kvs : List (Key × D)} : VL.getD st (.d (.dct kvs)) = some (kvs.map fun kv=>(kv.1,.d kv.2)):=rfl
theorem gd_r {st : Store} {n : Nat} : VL.getD st (.ref n) = match st[n]? with
  | some (.dct us)=>some us
  | some (.lck us)=>some us
  | _=>none:=rfl
theorem gd_bl {st : Store} {b : Bool} : VL.getD st (.d (.bl b)) = none:=rfl
theorem gd_int {st : Store} {b : Int} : VL.getD st (.d (.int b)) = none:=rfl
theorem gd_str {st : Store} {b : Str} : VL.getD st (.d (.str b)) = none:=rfl
theorem gd_tup {st : Store} {b : List D} : VL.getD st (.d (.tup b)) = none:=rfl
theorem gd_lst {st : Store} {b : List D} : VL.getD st (.d (.lst b)) = none:=rfl
theorem gd_scr {st : Store} {b : List Int} : VL.getD st (.d (.scr b)) = none:=rfl
theorem gd_n {st : Store} : VL.getD st (.d .non) = none:=rfl
theorem gd_ins {st : Store} {C : Addr} {fs : List (Str × D)} : VL.getD st (.d (.ins C fs)) = none:=rfl
end VL
namespace VL
open PySem PySem.Spec PyProof.Rows L2
section
variable {X : Cx} {W : WX} {pos : Pos} {ks : List (Option Expr)} {vs : List Expr} {fs : List (F U × F U)} {k v : Expr} {fk fv : F U}
end
section
variable {X : Cx}
end
section
variable {Q : U → Store → Prop} {QP : List (U × U) → Store → Prop} {E : Value → XF → Store → Prop} {env : VEnv} {st : Store}
end
end VL
namespace VL
open PySem PySem.Spec PyProof.Rows L2
noncomputable def keyT (e : Int × Value) : Str:=match e.2 with | .str k _=>k | _=>Str.empty
noncomputable def GoodT (w : World) (e : Int × Value) : Prop:=∃ k tk,e.2 = Value.str k tk ∧ e.1 = hashStr w k
/-- the set of texts at a: S its members,n their number; its table rises and can be walked -/
noncomputable def SetT (w : World) (h : Heap) (a : Addr) (S : Str → Bool) (n : Nat) : Prop :=
 ∃ o es ep t,h.get? a = some o ∧ o.ExactSet ∧ o.data = .set es ep t ∧ (∀ e ∈ es.toList,GoodT w e) ∧ (es.toList.map keyT).Nodup ∧ (∀ k,S k = true ↔ k ∈ es.toList.map keyT) ∧
  es.size < scanBound ∧ t.fits es.size = true ∧ es.size = n ∧ Ris t.place.toList ∧ (w.params.followText "set-order" = true ∨ t.led = true)
section
variable {P : Program} {w : World} {h h' : Heap} {a : Addr} {S : Str → Bool} {n : Nat}
theorem SetT.at (R : SetT w h a S n) (k : ∀ o,h.get? a = some o → h'.get? a = some o) : SetT w h' a S n:=by
 obtain ⟨o,es,ep,t,ho,r⟩:=R
 exact ⟨o,es,ep,t,k o ho,r⟩
theorem SetT.congr {S' : Str → Bool} (R : SetT w h a S n) (e : ∀ k,S' k = S k) : SetT w h a S' n:=by
 have q : S' = S:=funext e
 rw [q]; exact R
theorem goodT_elems {l : List (Int × Value)} (g : ∀ e ∈ l,GoodT w e) : ElemsOf (PySem.strKind P w) l:=fun e he=>by
 obtain ⟨k,tk,h1,h2⟩:=g e he
 exact ⟨⟨k,by rw [h1]; exact strKind_is P w k tk,h2⟩,by rw [h1] <;> rfl⟩
theorem goodT_is {e : Int × Value} (g : GoodT w e) (k : Str) : (PySem.strKind P w).is k e.2 = true ↔ keyT e = k:=by
 obtain ⟨k0,tk,h1,_⟩:=g
 unfold keyT
 rw [h1]
 show ((k0 == k) = true) ↔ k0 = k
 exact beq_iff_eq
theorem goodT_mem {l : List (Int × Value)} (g : ∀ e ∈ l,GoodT w e) (k : Str) : k ∈ l.map keyT ↔ ∃ e ∈ l,(PySem.strKind P w).is k e.2 = true:=by
 rw [List.mem_map]
 constructor
 ·rintro ⟨e,he,q⟩
  exact ⟨e,he,(goodT_is (g e he) k).2 q⟩
 ·rintro ⟨e,he,q⟩
  exact ⟨e,he,(goodT_is (g e he) k).1 q⟩
theorem setT_new {ns : List Str} (ho : h.get? a = some { cls:=.type "set",dict:=none,data:=.set #[] 0 (.fresh 0 0 (!w.params.followText "set-order")) }) : SetT w h a (fun j=>decide (j ∈ ns.take 0)) 0 :=
 ⟨_,#[],0,_,ho,⟨rfl,rfl,rfl⟩,rfl,(fun e he=>by simp at he),(by simp),(fun k=>by simp),(by decide),(by rfl),rfl,List.Pairwise.nil,by
  show _ ∨ (!w.params.followText "set-order") = true
  cases w.params.followText "set-order"
  ·exact .inr rfl
  ·exact .inl rfl⟩
end
section
variable {P : Program} {w : World} {A : Around} {E : Value → Shared → Prop} {s : Shared} {a : Addr} {S : Str → Bool} {n : Nat}
theorem setT_tail {g : Bool → Sem Unit} (hg : ∀ (b : Bool) (s₁ : Shared) (Q' : Unit → Shared → Prop),Q' () s₁ → wpAny (model P w) A (g b) Q' E s₁)
  {o : Obj} {es : Array (Int × Value)} {ep : Nat} {t : SetTable} (ho : s.heap.get? a = some o) (hex : o.ExactSet) (hd : o.data = .set es ep t)
  {es1 : Array (Int × Value)} {t2 : SetTable} {S' : Str → Bool} (g1 : ∀ e ∈ es1.toList,GoodT w e) (nd1 : (es1.toList.map keyT).Nodup) (m1 : ∀ k,S' k = true ↔ k ∈ es1.toList.map keyT)
  (hb1 : es1.size < scanBound) (hf2 : t2.fits es1.size = true) (hr : Ris t2.place.toList) (hl : w.params.followText "set-order" = true ∨ t2.led = true) {wasDummy : Bool} {R : Option Bool → Shared → Prop}
  (hR : ∀ h',Heap.SameBut a s.heap h' → SetT w h' a S' es1.size → R (some true) { s with heap:=h' }) :
  wpAny (model P w) A (do
    storeSet a es1 t2
    if (!wasDummy && t2.tooFull) = true then do
      g (relayAll t2 es1 (SetTable.grown es1.size)).2.2
      storeSet a (relayAll t2 es1 (SetTable.grown es1.size)).1 (relayAll t2 es1 (SetTable.grown es1.size)).2.1
      pure (some true)
     else pure (some true)) R E s:=by
 refine wpAny_bind (wpAny_storeSet_of ho hd ?_ (fits_of_scanBound hb1))
 have ho1:=store_at (es':=es1) (t':=t2) ho hd
 have sb1:=Heap.SameBut.update s.heap a (Obj.putSet es1 t2)
 split
 ·have pm:=relayAll_perm t2 es1 (SetTable.grown es1.size)
  have hf3:=relayAll_fits t2 es1 (SetTable.grown es1.size)
  have hr3:=relayAll_ris t2 es1 (SetTable.grown es1.size)
  have hl3:=relayAll_led t2 es1 (SetTable.grown es1.size)
  generalize relayAll t2 es1 (SetTable.grown es1.size) = Z at pm hf3 hr3 hl3 ⊢
  obtain ⟨es2,t3,gave⟩:=Z
  dsimp only at pm hf3 hr3 hl3 ⊢
  have hsz : es2.size = es1.size:=by rw [← Array.length_toList,pm.length_eq,Array.length_toList]
  have hb2 : es2.size < scanBound:=by rw [hsz]; exact hb1
  refine wpAny_bind (hg _ _ _ ?_)
  refine wpAny_bind (wpAny_storeSet_of ho1 rfl ?_ (fits_of_scanBound hb2))
  have ho2:=store_at (es':=es2) (t':=t3) ho1 rfl
  refine wpAny_pure (hR _ (sb1.trans (Heap.SameBut.update _ a _)) ?_)
  exact ⟨_,es2,_,t3,ho2,hex,rfl,fun e he=>g1 e (pm.mem_iff.mp he),(pm.map keyT).nodup_iff.mpr nd1,fun k=>(m1 k).trans (pm.map keyT).mem_iff.symm,hb2,hf3,hsz,hr3,
   hl.imp id fun z=>by rw [hl3]; exact z⟩
 ·exact wpAny_pure (hR _ sb1 ⟨_,es1,_,t2,ho1,hex,rfl,g1,nd1,m1,hb1,hf2,rfl,hr,hl⟩)
theorem setT_add {k : Str} {tk : Tok} {Q : Bool → Shared → Prop} (R : SetT w s.heap a S n) (room : n + 1 < scanBound)
  (hQ : ∀ h',Heap.SameBut a s.heap h' → SetT w h' a (fun j=>S j || decide (j = k)) (if S k = true then n else n + 1) → Q (!S k) { s with heap:=h' }) :
  wpAny (model P w) A (setAddHashed a (.str k tk) ((PySem.strKind P w).hash k)) Q E s:=by
 obtain ⟨o,es,ep,t,ho,hex,hd,g,nd,hm,hb,hf,hn,hr,hl⟩:=R
 have hkey : (PySem.strKind P w).is k (.str k tk) = true:=strKind_is P w k tk
 have hsc : (Value.str k tk).scannable = true:=rfl
 have hel : ElemsOf (PySem.strKind P w) es.toList:=goodT_elems g
 unfold setAddHashed setAddHashedIn
 refine wpAny_holding (wpAny_bind (wpAny_setState_of ho hd hf ?_))
 dsimp only
 rw [byScan_of hsc hb hel]
 simp only [↓reduceIte]
 unfold setAddByScan
 refine wpAny_bind ?_
 refine wpAny_bind (wpAny_rule ?_)
 refine wpAny_bind (wpAny_setScan_of hkey ho hd hf hel ?_)
 cases hfi : List.findIdx? (fun e=>(PySem.strKind P w).is k e.2) es.toList with
 | some j =>
  dsimp only
  obtain ⟨hj,pj,_⟩:=List.findIdx?_eq_some_iff_getElem.mp hfi
  have hSk : S k = true:=(hm k).2 ((goodT_mem (P:=P) (w:=w) g k).2 ⟨es.toList[j],List.getElem_mem hj,pj⟩)
  refine wpAny_pure (wpAny_pure ?_)
  have q:=hQ s.heap (Heap.SameBut.refl a s.heap) ⟨o,es,ep,t,ho,hex,hd,g,nd,fun i=>by
   rw [Bool.or_eq_true,decide_eq_true_eq,← hm i]
   exact ⟨fun z=>z.elim id (fun e=>e ▸ hSk),.inl⟩,hb,hf,by rw [if_pos hSk]; exact hn,hr,hl⟩
  rw [hSk] at q
  exact q
 | none =>
  dsimp only
  have hnk : k ∉ es.toList.map keyT:=fun z=>by
   obtain ⟨e,he,q⟩:=(goodT_mem (P:=P) (w:=w) g k).1 z
   have c:=List.findIdx?_eq_none_iff.mp hfi e he
   rw [q] at c
   cases c
  have hSk : S k = false:=by
   cases q : S k with
   | false=>rfl
   | true=>exact absurd ((hm k).1 q) hnk
  have hgw : ∀ (b : Bool) {s₁ : Shared} {Q' : Unit → Shared → Prop},Q' () s₁ → wpAny (model P w) A (match b with | true=>rule "set.scan.the-table-gave-way" | false=>pure ()) Q' E s₁ :=
   fun b s₁ Q' q=>by cases b <;> first | exact wpAny_pure q | exact wpAny_rule q
  have pm:=layNew_perm t es ((PySem.strKind P w).hash k) (.str k tk)
  have hf1:=layNew_fits t es ((PySem.strKind P w).hash k) (.str k tk)
  have hr1:=layNew_ris t es ((PySem.strKind P w).hash k) (.str k tk) hr
  have hl1:=layNew_led t es ((PySem.strKind P w).hash k) (.str k tk)
  generalize layNew t es ((PySem.strKind P w).hash k) (.str k tk) = Z at pm hf1 hr1 hl1 ⊢
  obtain ⟨es1,t1,wasDummy,gave⟩:=Z
  dsimp only at pm hf1 hr1 hl1 ⊢
  rw [Array.toList_push] at pm
  have pc : es1.toList.Perm (((PySem.strKind P w).hash k,Value.str k tk) :: es.toList):=pm.trans (List.perm_append_singleton _ _)
  have pk : (es1.toList.map keyT).Perm (k :: es.toList.map keyT):=pc.map keyT
  have g1 : ∀ e ∈ es1.toList,GoodT w e:=fun e he=>by
   rcases List.mem_cons.mp (pc.mem_iff.mp he) with z | z
   ·rw [z]; exact ⟨k,tk,rfl,rfl⟩
   ·exact g e z
  have nd1 : (es1.toList.map keyT).Nodup:=pk.nodup_iff.mpr (List.nodup_cons.mpr ⟨hnk,nd⟩)
  have m1 : ∀ i,(S i || decide (i = k)) = true ↔ i ∈ es1.toList.map keyT:=fun i=>by
   rw [pk.mem_iff,List.mem_cons,Bool.or_eq_true,decide_eq_true_eq,hm i,or_comm]
  have hsz : es1.size = n + 1:=by rw [← Array.length_toList,pc.length_eq,List.length_cons,Array.length_toList,hn]
  have hb1 : es1.size < scanBound:=by rw [hsz]; exact room
  have hled : w.params.followText "set-order" = true ∨ t1.led = true:=hl.imp id fun z=>by rw [hl1]; exact z
  have fin : ∀ h',Heap.SameBut a s.heap h' → SetT w h' a (fun j=>S j || decide (j = k)) es1.size → Q true { s with heap:=h' }:=fun h' sb r=>by
   have q:=hQ h' sb
   rw [hSk] at q
   rw [hsz] at r
   exact q r
  refine wpAny_bind (hgw _ ?_)
  split
  ·refine wpAny_bind ?_
   rw [hashByValue_scannable 8 hsc]
   refine wpAny_pure ?_
   refine setT_tail ?_ ho hex hd g1 nd1 m1 hb1 ?_ ?_ ?_ ?_
   ·intro b s₁ Q' q; cases b <;> first | exact wpAny_pure q | exact wpAny_rule q
   ·first | (split <;> first | exact hf1 | exact SetTable.fits_plain_off hf1) | exact hf1
   ·first | (split <;> exact hr1) | exact hr1
   ·first | (split <;> exact hled) | exact hled
   ·intro h' sb r; dsimp only; exact wpAny_pure (fin h' sb r)
  ·refine wpAny_bind (wpAny_pure ?_)
   simp only [↓reduceIte]
   refine setT_tail ?_ ho hex hd g1 nd1 m1 hb1 hf1 hr1 hled ?_
   ·intro b s₁ Q' q; cases b <;> first | exact wpAny_pure q | exact wpAny_rule q
   ·intro h' sb r; dsimp only; exact wpAny_pure (fin h' sb r)
theorem setT_update {I : Addr} {fp wr : List Addr} {G : Array GenState → Array GenState → Prop} {n : Nat} {Pv : Nat → Value → Prop} {St : Nat → Shared → Prop} {R : Result → Shared → Prop}
  (W : WalksS P w A.in1 I fp wr G n Pv St) (S : Addr) (hSf : S ∉ fp) (ns : List Str) (hn : n = ns.length) (hb : ns.length + 1 < scanBound) (hval : ∀ i v,Pv i v → ∃ k t,ns[i]? = some k ∧ v = .str k t) :
  ∀ (k i : Nat) (s : Shared),n - i = k → i ≤ n → St i s → (∃ c,c ≤ i ∧ SetT w s.heap S (fun j=>decide (j ∈ ns.take i)) c) →
   (∀ s' c,Moved (S :: wr) G s s' → c ≤ n → SetT w s'.heap S (fun j=>decide (j ∈ ns)) c → R (.ok (.ret .none)) s') →
   codeAny (model P w) A (.builtin "set.update.loop" ⟨[.ref S,.ref I],[]⟩) R s:=by
 have hSw : S ∉ wr:=fun h=>hSf (W.sub _ h)
 have hsub : ∀ b ∈ wr,b ∈ S :: wr:=fun b hb=>List.mem_cons_of_mem _ hb
 intro k
 induction k with
 | zero =>
  intro i s hk' hi hst ⟨c,hc,hS⟩ hR
  have hin : i = n:=by omega
  subst hin
  refine codeAny_builtin F.entry_set_update_loop ?_
  rw [Around.under_plainId F.plain_set_update_loop _]
  show wpAny _ A.in1 (pyNext (.ref I) >>= _) _ _ s
  refine wpAny_bind (W.done s _ _ hst fun s' hm=>?_)
  show wpAny _ A.in1 (ret Value.none) _ _ s'
  have e : ns.take i = ns:=List.take_of_length_le (by omega)
  rw [e] at hS
  exact wpAny_pure (hR s' c (hm.mono hsub) hc (hS.at fun o e=>hm.heap S o hSw e))
 | succ k ih =>
  intro i s hk' hi hst ⟨c,hc,hS⟩ hR
  have hlt : i < n:=by omega
  refine codeAny_builtin F.entry_set_update_loop ?_
  rw [Around.under_plainId F.plain_set_update_loop _]
  show wpAny _ A.in1 (pyNext (.ref I) >>= _) _ _ s
  refine wpAny_bind (W.item i s _ _ hlt hst fun v s' hP hst' hm=>?_)
  obtain ⟨z,t,hz,rfl⟩:=hval i v hP
  have hS' : SetT w s'.heap S (fun j=>decide (j ∈ ns.take i)) c:=hS.at fun o e=>hm.heap S o hSw e
  show wpAny _ A.in1 (holding [Value.str z t] (setAdd S (.str z t)) >>= _) _ _ s'
  refine wpAny_bind (wpAny_holding ?_)
  unfold setAdd
  refine wpAny_holding ?_
  refine wpAny_bind ((PySem.strKind P w).pyHash (k:=z) (strKind_is _ _ _ _) ?_)
  refine setT_add (s:={ s' with toks:=s'.toks + 1 }) hS' (by omega) fun h' hsb hS2=>?_
  have hS3 : SetT w h' S (fun j=>decide (j ∈ ns.take (i + 1))) (if decide (z ∈ ns.take i) = true then c else c + 1):=hS2.congr fun j=>by
   rw [List.take_add_one,hz]
   simp [List.mem_append]
  have hc3 : (if decide (z ∈ ns.take i) = true then c else c + 1) ≤ i + 1:=by
   split <;> omega
  refine wpAny_pure ⟨plainId_quiet F.plain_set_update_loop _,ih (i + 1) _ (by omega) hlt (W.frame _ s' _ _ hst' (Nat.le_succ _) fun b hb o e=>?_) ⟨_,hc3,hS3⟩ fun s'' c2 hm'' hc'' hS''=>?_⟩
  ·rw [hsb.2 b (fun h : b = S=>hSf (by rw [← h]; exact hb))]; exact e
  ·refine hR s'' c2 (Moved.trans W.gtrans ((hm.mono hsub).then_heap (Nat.le_succ _) fun b o hb e=>?_) hm'') hc'' hS''
   rw [hsb.2 b (fun h : b = S=>hb (by rw [h]; exact List.mem_cons_self))]; exact e
end
section
variable {P : Program} {w : World} {A : Around} {E : Value → Shared → Prop} {s : Shared}
set_option maxHeartbeats 3200000 in
theorem call_setT {l : Addr} {items : Array Value} (ns : List Str) {Q : Value → Shared → Prop} (hh : A.handled = none) (hl : s.heap.IsList l items) (hit : StrsAre items.toList ns) (hb : ns.length + 1 < scanBound)
  (h : ∀ (h' : Heap) (tk c : Nat),SetT w h' s.heap.objs.size (fun j=>decide (j ∈ ns)) c → c ≤ ns.length → (∀ b o,s.heap.get? b = some o → h'.get? b = some o) → Q (.ref s.heap.objs.size) { s with heap:=h',toks:=tk }) :
  wpAny (model P w) A (call (.type "set") [.ref l]) Q E s:=by
 have hisz : items.size = ns.length:=by
  have q:=StrsAre.length hit
  rw [Array.length_toList] at q
  exact q
 obtain ⟨c,tl,hmro⟩:=F.called_set.mro
 have hmade:=F.called_set.made
 have hsub:=F.called_set.sub
 refine wpAny_call (codeAny_of_tree ?_)
 show wpAny _ _ (callAny (.type "set") _) _ _ _
 refine wpAny_pure ⟨Code.quiet_builtin _ (by decide +kernel),codeAny_builtin F.entry_type_call ?_⟩
 rw [Around.under_plain (weight_type_call_type "set" [.ref l] []) rfl]
 have h1:=F.called_set.notType
 have h2:=F.called_set.canCreate
 have hct:=F.typeCall_set_1 (.ref l)
 repeat (any_goals (first | assumption | wp_step))
 refine codeAny_mono (code_set_led1 (.ref l) (E:=E) (Q₁:=fun obj s₁=>obj = .ref s.heap.objs.size ∧ s₁ = { s with heap:=s.heap.push { cls:=.type "set",dict:=none,data:=.set #[] 0 (.fresh 0 0 (!w.params.followText "set-order")) } }) ⟨rfl,rfl⟩) fun r s₁ hr=>?_
 cases r with
 | error e=>exact hr
 | ok fl =>
  cases fl with
  | ret obj =>
   obtain ⟨rfl,rfl⟩:=hr
   have hS : (s.heap.push { cls:=.type "set",dict:=none,data:=.set #[] 0 (.fresh 0 0 (!w.params.followText "set-order")) }).get? s.heap.objs.size = some { cls:=.type "set",dict:=none,data:=.set #[] 0 (.fresh 0 0 (!w.params.followText "set-order")) }:=Heap.get?_push_size _ rfl
   have hT : Shared.TypeIs { s with heap:=s.heap.push { cls:=.type "set",dict:=none,data:=.set #[] 0 (.fresh 0 0 (!w.params.followText "set-order")) } } (.ref s.heap.objs.size) "set":=⟨_,hS,rfl⟩
   have hli:=F.called_set.init.lookup
   have hbi:=F.called_set.init.bind (.ref s.heap.objs.size)
   repeat (any_goals (first | assumption | wp_step))
   refine codeAny_mono (codeAny_call_builtin (R:=wants (fun r s₂=>r = .none ∧ ∃ h' tk c,s₂ = { s with heap:=h',toks:=tk } ∧ SetT w h' s.heap.objs.size (fun j=>decide (j ∈ ns)) c ∧ c ≤ ns.length ∧
     (∀ b o,s.heap.get? b = some o → h'.get? b = some o)) E) F.called_set.init.plain F.entry_set_init (check_set_init_1 hT ?_)) fun r₂ s₂ hr₂=>?_
   ·obtain ⟨ol,hol,hcl,nl,hdl⟩:=hl
    obtain ⟨ocls,odict,odata,oslots⟩:=ol
    simp only at hcl hdl
    subst hcl; subst hdl
    have hol' : (s.heap.push { cls:=.type "set",dict:=none,data:=.set #[] 0 (.fresh 0 0 (!w.params.followText "set-order")) }).get? l = some { cls:=.type "list",dict:=odict,data:=.seq items nl,slots:=oslots }:=Heap.get?_push_of_some _ hol
    have hsls:=F.sub_list_set
    have hslf:=F.sub_list_frozenset
    have hne : (Value.type "list" == Value.type "dict") = false:=by decide
    have hl1 : (s.heap.push { cls:=.type "set",dict:=none,data:=.set #[] 0 (.fresh 0 0 (!w.params.followText "set-order")) }).IsList l items:=⟨_,hol',rfl,nl,rfl⟩
    unfold Builtin.«set.__init__» noKeywords Builtin.Frozenset.updateFrom
    generalize hPI : pyIter = PI
    wp_walk
    subst hPI
    refine wpAny_pyIter_list hl1 ?_
    refine wpAny_bind (wpAny_runValue ?_)
    have hlS : l < s.heap.objs.size:=Heap.lt_size hol
    have hh3 : A.in1.in1.in1.handled = none:=by simp [hh]
    have hneI : l ≠ (s.heap.push { cls:=.type "set",dict:=none,data:=.set #[] 0 (.fresh 0 0 (!w.params.followText "set-order")) }).objs.size:=by
     rw [Heap.size_push]; exact Nat.ne_of_lt (Nat.lt_succ_of_lt hlS)
    have hSf : s.heap.objs.size ∉ [(s.heap.push { cls:=.type "set",dict:=none,data:=.set #[] 0 (.fresh 0 0 (!w.params.followText "set-order")) }).objs.size,l]:=by
     rw [Heap.size_push]; simp only [List.mem_cons,List.mem_singleton,List.not_mem_nil,or_false,not_or]
     exact ⟨Nat.ne_of_lt (Nat.lt_succ_self _),Nat.ne_of_gt hlS⟩
    have hval : ∀ (i : Nat) (v : Value),items[i]? = some v → ∃ k t,ns[i]? = some k ∧ v = .str k t:=fun i v hv=>by
     obtain ⟨y,t,e1,e2⟩:=PyProof.Rows.StrsAre.item hit i v (by rw [Array.getElem?_toList]; exact hv)
     exact ⟨y,t,e2,e1⟩
    refine setT_update ((Walks.list hh3 _ l hneI items).toS) s.heap.objs.size
     hSf ns hisz hb hval (items.size - 0) 0 _ (by omega) (Nat.zero_le _)
     ⟨⟨_,Heap.get?_push_size _ rfl,rfl,rfl⟩,(hl1.push _)⟩ ?hS0 ?hR
    case hS0 =>
     have hget : ((s.heap.push { cls:=.type "set",dict:=none,data:=.set #[] 0 (.fresh 0 0 (!w.params.followText "set-order")) }).push { cls:=.type "list_iterator",data:=.fields #[.ref l,.int 0 0] }).get? s.heap.objs.size
       = some { cls:=.type "set",dict:=none,data:=.set #[] 0 (.fresh 0 0 (!w.params.followText "set-order")) }:=Heap.get?_push_of_some _ hS
     exact ⟨0,Nat.le_refl 0,setT_new hget⟩
    case hR =>
     intro s' c' hm hc' hS'
     obtain ⟨h',g2,d',tk',os'⟩:=s'
     have eg : g2 = s.gens:=hm.gens
     have ed : d' = s.drawn:=hm.drawn
     have eo : os' = s.os:=hm.os
     subst eg; subst ed; subst eo
     show wpAny _ _ _ _ _ _
     refine wpAny_pure ?_
     show wpAny _ _ (ret Value.none) _ _ _
     rw [hisz] at hc'
     refine wpAny_pure ⟨rfl,h',tk',c',rfl,hS',hc',fun b o e=>?_⟩
     have hb0 : b < s.heap.objs.size:=Heap.lt_size e
     have hb1 : b ≠ s.heap.objs.size:=Nat.ne_of_lt hb0
     have hb2 : b ≠ (s.heap.push { cls:=.type "set",dict:=none,data:=.set #[] 0 (.fresh 0 0 (!w.params.followText "set-order")) }).objs.size:=by
      rw [Heap.size_push]; exact Nat.ne_of_lt (Nat.lt_succ_of_lt hb0)
     exact hm.heap b o (by simp only [List.mem_cons,List.mem_singleton,List.not_mem_nil,or_false,not_or]; exact ⟨hb1,hb2⟩) (Heap.get?_push_of_some _ (Heap.get?_push_of_some _ e))
   ·cases r₂ with
    | error e=>exact hr₂
    | ok fl₂ =>
     cases fl₂ with
     | ret r =>
      obtain ⟨rfl,h',tk,c',rfl,hS',hc',hk'⟩:=hr₂
      repeat (any_goals (first | assumption | wp_step))
      exact h _ _ _ hS' hc' hk'
     | _=>exact hr₂.elim
  | _=>exact hr.elim
theorem strs_ofV : ∀ (l : List Value),(∀ v ∈ l,∃ k tk,v = Value.str k tk) → StrsAre l (l.map fun v=>keyT (0,v))
 | [],_=>.nil
 | v :: l,h=>by
  obtain ⟨k,tk,rfl⟩:=h v List.mem_cons_self
  exact .cons k tk (strs_ofV l fun u hu=>h u (List.mem_cons_of_mem _ hu))
theorem sorted_setT {a : Addr} {S : Str → Bool} {n : Nat} {Q : Value → Shared → Prop} (R : SetT w s.heap a S n) (hh : A.handled = none) (h64 : n < 64)
  (hQ : ∀ s' p (out : Array Value) (c : Nat) (ns : List Str),(∀ b o,s.heap.get? b = some o → s'.heap.get? b = some o) → s'.gens = s.gens → s'.os = s.os → s.heap.objs.size ≤ p →
   s'.heap.get? p = some (seqObj "list" out c) → StrsAre out.toList ns → sortedS ns = true → ns.Nodup → (∀ k,k ∈ ns ↔ S k = true) → ns.length = n → Q (.ref p) s') :
  wpAny (model P w) A (call (.builtin "sorted") [.ref a]) Q E s:=by
 obtain ⟨o,es,ep,t,ho,hex,hd,g,nd,hm,hb,hf,hn,hr,hl⟩:=R
 refine Calls.call_function_entry kind_sorted plain_sorted entry_sorted (args_sorted1 _) ?_
 unfold Builtin.«sorted»
 refine wpAny_bind (m:=checkCount "sorted" 1 1 _) (wpAny_pure ?_)
 refine wpAny_bind (collect_set (A:=A.in1) hh ⟨o,ho,hex.1,hd⟩ hf hb hr hl fun s1 vs k1 hz g1 o1 pm=>?_)
 have hvl : vs.length = n:=by rw [pm.length_eq,List.length_map,Array.length_toList]; exact hn
 have hI : StrsAre vs (vs.map fun v=>keyT (0,v)):=strs_ofV vs fun v hv=>by
  obtain ⟨e,he,q⟩:=List.mem_map.mp (pm.mem_iff.mp hv)
  obtain ⟨k,tk,h1,_⟩:=g e he
  exact ⟨k,tk,by rw [← q]; exact h1⟩
 have pk : (vs.map fun v=>keyT (0,v)).Perm (es.toList.map keyT):=by
  have q:=pm.map fun v=>keyT (0,v)
  rw [List.map_map] at q
  exact q
 refine wpAny_bind (wpAny_newList ?_ (by rw [hvl,sizeLine_eq]; omega))
 have hoL : (s1.heap.push (seqObj "list" vs.toArray 0)).get? s1.heap.objs.size = some (seqObj "list" vs.toArray 0):=Heap.get?_push_size _ rfl
 refine wpAny_bind (wpAny_holding (wpAny_call_entry slot_list_sort ⟨_,hoL,rfl⟩ entry_list_sort (list_sort_treeK PyProof.Rows.strKind_oneLt hoL hI.keysOf (fun v₁ v₂ rest e=>keyKind_strs (by rw [← e]; exact hI)) (by rw [hvl]; exact h64) fun st' hp hs=>⟨_,rfl,?_⟩) (args_list_sort _)))
 obtain ⟨ns',a1,a2,a3⟩:=sorted_out_str hI hp hs
 obtain ⟨c,hc⟩:=sortedHeap_at (vs:=vs) (out:=(PyProof.Rows.arrOf st').map (·.2)) hoL
 have pn : ns'.Perm (es.toList.map keyT):=a2.trans pk
 refine wpAny_pure ⟨_,rfl,hQ _ s1.heap.objs.size _ c ns' (fun b u e=>?_) g1 o1 hz hc a1 a3 (pn.nodup_iff.mpr nd) (fun k=>by rw [pn.mem_iff,← hm k]) ?_⟩
 ·have q:=k1 b u e
  have hlt:=Heap.lt_size q
  show (sortedHeap (s1.heap.push (seqObj "list" vs.toArray 0)) s1.heap.objs.size vs _).get? b = some u
  rw [sortedHeap_old (Nat.ne_of_lt hlt) (by rw [size_push']; exact Nat.lt_succ_of_lt hlt)]
  exact Heap.get?_push_of_some _ q
 ·rw [pn.length_eq,List.length_map,Array.length_toList]; exact hn
end
noncomputable def SetTO (w : World) (a : Addr) (S : Str → Bool) (n : Nat) : HO:=.ext fun h=>SetT w h a S n
theorem setTO_new {w : World} {P : Program} {H : Hp} {h : Heap} {a : Addr} {S : Str → Bool} {n : Nat} (R : SetT w h a S n) : ObjOk P w H h a (SetTO w a S n):=by
 have ⟨o,_,_,_,ho,_⟩:=R
 exact ⟨R,⟨o,ho⟩,fun h1 h2 p k=>SetT.at p k⟩
section
variable {X : Cx}
noncomputable def rSetT (K : PySem.W.Frag) (w : World) : List V → Hp → VK → Prop:=fun xs H Q=>∃ (l : Addr) (ns : List Str),xs = [V.ref l] ∧ SqL K H l (ns.map V.str) ∧ ns.length < 64 ∧
 ∀ a c,c ≤ ns.length → H a = none → Q (.ref a) (upd H a (SetTO w a (fun j=>decide (j ∈ ns)) c))
theorem cr_setT (hc : X.calm = true) : CallR X (.type "set") (rSetT X.K X.w):=by
 intro pins s σ H xs us Q I r h
 obtain ⟨l,ns,rfl,hs,h64,q⟩:=h
 obtain ⟨its,rv,hl,_⟩:=I.list hs
 rw [Vals.ref1 r]
 have hn : H s.heap.objs.size = none:=I.hok.fresh (Nat.le_refl _)
 refine call_setT (P:=X.prog) (w:=X.w) ns (I.ok.hd hc) hl.isList rv.strs (by unfold scanBound; omega) fun h' tk c R hcl k=>?_
 exact ⟨.ref s.heap.objs.size,upd H s.heap.objs.size (SetTO X.w s.heap.objs.size _ c),I.laid (t':=tk) k (Nat.le_refl _) (setTO_new R),rfl,q _ c hcl hn⟩
noncomputable def rSortT (w : World) : List V → Hp → VK → Prop:=fun vs H Q=>∃ (a : Addr) (S : Str → Bool) (n : Nat),vs = [V.ref a] ∧ H a = some (SetTO w a S n) ∧ n < 64 ∧
 ∀ (ns : List Str) (p : Addr),sortedS ns = true → ns.Nodup → (∀ k : Str,k ∈ ns ↔ S k = true) → ns.length = n → H p = none → Q (.ref p) (upd H p (.lst (ns.map V.str)))
theorem cr_sortT (hc : X.calm = true) : CallR X (.builtin "sorted") (rSortT X.w):=by
 intro pins s σ H vs us Q I r h
 obtain ⟨a,S,n,rfl,ha,h64,q⟩:=h
 have R : SetT X.w s.heap a S n:=(I.hok a _ ha).1
 rw [Vals.ref1 r]
 refine sorted_setT R (I.ok.hd hc) h64 fun s' p out c ns k g o hp hg hi hs hnd hm hl=>?_
 have hlen : (ns.map V.str).length ≤ sizeLine:=by rw [List.length_map,hl,sizeLine_eq]; omega
 have hn : H p = none:=I.hok.fresh hp
 have J : Inv X pins σ (upd H p (.lst (ns.map V.str))) { s with heap:=s'.heap,gens:=s'.gens,drawn:=s'.drawn,toks:=s'.toks } :=
  I.call (ch:=[]) (Un.laid k hp hn) (I.hok.laid k hp ⟨hlen,out.toList,c,vals_of_strs hi,hg⟩) (by rw [g]; exact I.bare) (fun _ z=>nomatch z)
 have e : s' = { s with heap:=s'.heap,gens:=s'.gens,drawn:=s'.drawn,toks:=s'.toks }:=by
  cases s'
  cases s
  cases o
  rfl
 rw [e]
 exact ⟨.ref p,_,J,rfl,q ns p hs hnd hm hl hn⟩
end
noncomputable def leT (a b : Str) : Bool:=!ltCps b.cps.toList a.cps.toList
noncomputable def distT : List Str → List Str
 | []=>[]
 | x :: xs=>if x ∈ xs then distT xs else x :: distT xs
noncomputable def sortT (ns : List Str) : List Str:=(distT ns).mergeSort leT
theorem mem_dist {k : Str} : ∀ {ns : List Str},k ∈ distT ns ↔ k ∈ ns
 | []=>Iff.rfl
 | x :: xs=>by
  unfold distT
  split
  ·rename_i h
   rw [mem_dist,List.mem_cons]
   exact ⟨.inr,fun z=>z.elim (fun e=>e ▸ h) id⟩
  ·rw [List.mem_cons,List.mem_cons,mem_dist]
theorem dist_nodup : ∀ ns : List Str,(distT ns).Nodup
 | []=>List.nodup_nil
 | x :: xs=>by
  unfold distT
  split
  ·exact dist_nodup xs
  ·rename_i h
   exact List.nodup_cons.mpr ⟨fun z=>h (mem_dist.mp z),dist_nodup xs⟩
theorem sortT_perm (ns : List Str) : (sortT ns).Perm (distT ns):=List.mergeSort_perm _ _
theorem mem_sortT {k : Str} {ns : List Str} : k ∈ sortT ns ↔ k ∈ ns:=(sortT_perm ns).mem_iff.trans mem_dist
theorem leT_iff {a b : Str} : leT a b = true ↔ ¬ b.cps.toList < a.cps.toList:=by
 unfold leT
 rw [ltCps_eq]
 simp
theorem leT_trans (a b c : Str) (h1 : leT a b = true) (h2 : leT b c = true) : leT a c = true:=by
 rw [leT_iff] at *
 exact List.le_trans (α:=Nat) h1 h2
theorem leT_total (a b : Str) : (leT a b || leT b a) = true:=by
 rw [Bool.or_eq_true,leT_iff,leT_iff]
 by_cases h : b.cps.toList < a.cps.toList
 ·exact .inr (List.lt_asymm h)
 ·exact .inl h
theorem leT_anti {a b : Str} (h1 : leT a b = true) (h2 : leT b a = true) : a = b:=by
 rw [leT_iff] at *
 have e : a.cps.toList = b.cps.toList:=List.le_antisymm (α:=Nat) h1 h2
 cases a; cases b
 simp only [Str.mk.injEq]
 exact Array.toList_inj.mp e
theorem rising_pw : ∀ (p : Str) (l : List Str),risingS p l = true → (p :: l).Pairwise (fun a b=>leT a b = true)
 | p,[],_=>List.pairwise_singleton _ _
 | p,x :: r,h=>by
  have h' : (!ltCps x.cps.toList p.cps.toList && risingS x r) = true:=h
  rw [Bool.and_eq_true] at h'
  have ih:=rising_pw x r h'.2
  refine List.pairwise_cons.mpr ⟨fun y hy=>?_,ih⟩
  rcases List.mem_cons.mp hy with rfl | hy
  ·exact h'.1
  ·exact leT_trans _ _ _ h'.1 ((List.pairwise_cons.mp ih).1 y hy)
theorem sorted_pw : ∀ l : List Str,sortedS l = true → l.Pairwise (fun a b=>leT a b = true)
 | [],_=>List.Pairwise.nil
 | x :: r,h=>rising_pw x r h
theorem sortT_eq {ys ns : List Str} (hs : sortedS ys = true) (nd : ys.Nodup) (hm : ∀ k,k ∈ ys ↔ k ∈ ns) : ys = sortT ns:=by
 refine List.Perm.eq_of_pairwise (le:=fun a b=>leT a b = true) (fun a b _ _ h1 h2=>leT_anti h1 h2) (sorted_pw _ hs) (List.pairwise_mergeSort leT_trans leT_total _) ?_
 refine ((List.perm_ext_iff_of_nodup nd (dist_nodup ns)).mpr fun k=>?_).trans (List.mergeSort_perm _ _).symm
 rw [hm k,mem_dist]
noncomputable def oSortT : List U → Store → Option U:=fun us st=>match us with
 | [u]=>match getL st u with
  | some us=>match strsU us with
   | some ns=>if ns.length < 64 then some (.d (.lst ((sortT ns).map .str))) else none
   | none=>none
  | none=>none
 | _=>none
end VL
namespace VL
open PySem PySem.Spec PyProof.Rows L2
section
variable {X : Cx}
end
section
variable {X : Cx} {W : WX} {o e : Expr} {fo fk : F U} {apos cpos : Pos} {td ty : TE}
end
section
variable {K : PySem.W.Frag} {m : List Addr} {H H' : Hp} {st : Store}
theorem ext_more (h : ∀ b o,H b = some o → H' b = some o) : Ext m H m H':=.of (List.prefix_refl m) (fun a u n e _=>⟨h a u e,n⟩) fun a o u e=>h a _ e
theorem Rep.more (r : Rep K m st H) (h : ∀ b o,H b = some o → H' b = some o) : Rep K m st H' :=
 ⟨r.len,r.nd,fun n c a h1 h2=>by
  obtain ⟨ho,e,q⟩:=r.cell n c a h1 h2
  exact ⟨ho,h a ho e,q.ext (ext_more h)⟩⟩
end
theorem paired_map {α β : Type} {F G : α → β → Prop} (h : ∀ x y,F x y → G x y) : ∀ {xs : List α} {ys : List β},Paired F xs ys → Paired G xs ys
 | _,_,.nil=>.nil
 | _,_,.cons a b=>.cons (h _ _ a) (paired_map h b)
/-- tuples that lie outside the cells -/
noncomputable def Outs (m : List Addr) (H : Hp) (ts : List Addr) (kvs : List (Key × V)) : Prop:=Paired (fun t (q : Key × V)=>H t = some (.tup [kV q.1,q.2]) ∧ t ∉ m) ts kvs
theorem Outs.ext {m m' : List Addr} {H H' : Hp} {ts : List Addr} {kvs : List (Key × V)} (h : Outs m H ts kvs) (x : Ext m H m' H') : Outs m' H' ts kvs :=
 paired_map (fun t q z=>x.toStay.ex t (.tup [kV q.1,q.2]) z.2 z.1 (fun _ z=>nomatch z) (fun _ z=>nomatch z)) h
section
variable {X : Cx} {W : WX} {x e1 e2 e3 : Expr} {fx f1 f2 f3 : F U} {k1 k2 k3 : Str}
end
end VL
namespace VL
open PySem PySem.Spec PyProof.Rows L2
section
variable {K : PySem.W.Frag} {m : List Addr} {H : Hp} {st : Store}
end
section
variable {X : Cx} {W : WX} {tg e : Expr} {fe : F U}
end
section
variable {X : Cx} {W : WX} {elt tg iter : Expr} {ifs : List Expr} {scope : Scope} {own : List (Str × Nat)} {pos : Pos} {is : List Nat} {g : U → G} {gt : F Bool} {fe : F U} {fi : F Itb}
/-- name = [..],a cell -/
theorem ds_setLcCV {vs : List Nat} (i : Nat) {y : Str} {py spos : Pos} (hc : X.calm = true) (hN : X.N.Nodup) (hsw : swapsWith (.ListComp elt [⟨tg,iter,ifs,0⟩] scope pos) (some (.Name y py)) spos.line X.env = pure true) (hi : DI X W tg iter fi) (ok : BlkOk X.N X.env.scope scope own)
  (hg : ∀ (s : Shared) (H : Hp) (C : Addr) (cl : List (Str × Addr)) (fp : List Addr),DG (X.blk s H scope (compEnvC scope cl C X.env) fp) tg is g)
  (ht : ∀ (s : Shared) (H : Hp) (C : Addr) (cl : List (Str × Addr)) (fp : List Addr),DTs (X.blk s H scope (compEnvC scope cl C X.env) fp) W0 ifs gt)
  (he : ∀ (s : Shared) (H : Hp) (C : Addr) (cl : List (Str × Addr)) (fp : List Addr),DE (X.blk s H scope (compEnvC scope cl C X.env) fp) W0 elt fe)
  (hvv : own.map (·.2) = vs:=by rfl) (hvs : ∀ i ∈ is,i ∈ own.map (·.2):=by decide) (hy : X.N[i]? = some y:=by rfl) (hyl : X.env.scope.names.lookup y = some .local:=by rfl) (hs : ∀ x,foldedSetIterable iter X.env x = pure x:=by intro _; rfl) :
  DS X W (.Assign [.Name y py] (.ListComp elt [⟨tg,iter,ifs,0⟩] scope pos) spos) (sAsg (fLcC fi g gt fe vs) (tgN i)):=by
 subst hvv; exact ds_setLcC i hc hN hsw hi ok hg ht he hvs hy hyl hs
end
end VL
namespace VL
open PySem PySem.Spec PyProof.Rows L2
section
variable {Q : U → Store → Prop} {QI : Itb → Store → Prop} {E : Value → XF → Store → Prop} {env : VEnv} {st : Store}
end
end VL
namespace VL
open PySem PySem.Spec PyProof.Rows L2
section
variable {X : Cx}
end
end VL
namespace VL
open PySem PySem.Spec PyProof.Rows L2
mutual
noncomputable def plD : D → Bool
 | .non=>true
 | .int _=>true
 | .str s=>PyData.strOk s
 | .tup ds=>plDs ds
 | .lst ds=>plDs ds
 | _=>false
noncomputable def plDs : List D → Bool
 | []=>true
 | d :: ds=>plD d && plDs ds
end
mutual
noncomputable def pD : D → PyData
 | .int i=>.int i
 | .str s=>.str s
 | .tup ds=>.tuple (pDs ds)
 | .lst ds=>.list (pDs ds)
 | _=>.none
noncomputable def pDs : List D → List PyData
 | []=>[]
 | d :: ds=>pD d :: pDs ds
end
mutual
theorem toP_pl : ∀ {d : D},plD d = true → toP d = some (pD d)
 | .non,_=>rfl
 | .int _,_=>rfl
 | .str _,_=>rfl
 | .tup ds,h=>by
  have:=toPs_pl (ds:=ds) (by simpa [plD] using h)
  simp [toP,pD,this]
 | .lst ds,h=>by
  have:=toPs_pl (ds:=ds) (by simpa [plD] using h)
  simp [toP,pD,this]
 | .bl _,h | .ty _,h | .obj _,h | .dct _,h | .ins _ _,h | .scr _,h | .exc _ _ _ _,h | .kdc _ _,h=>by simp [plD] at h
theorem toPs_pl : ∀ {ds : List D},plDs ds = true → toPs ds = some (pDs ds)
 | [],_=>rfl
 | d :: ds,h=>by
  simp only [plDs,Bool.and_eq_true] at h
  simp [toPs,pDs,toP_pl h.1,toPs_pl h.2]
end
/-- a list that is data,or a cell of data -/
noncomputable def LsU (st : Store) (u : U) (ds : List D) : Prop:=u = .d (.lst ds) ∨ ∃ n,u = .ref n ∧ st[n]? = some (.lst (ds.map U.d))
theorem LsU.d (st : Store) (ds : List D) : LsU st (.d (.lst ds)) ds:=.inl rfl
theorem LsU.r {st : Store} {n : Nat} {ds : List D} (h : st[n]? = some (.lst (ds.map U.d))) : LsU st (.ref n) ds:=.inr ⟨n,rfl,h⟩
theorem LsU.asP {st : Store} {u : U} {ds : List D} (h : LsU st u ds) (hp : plDs ds = true) : asP st u = some (.list (pDs ds)):=by
 rcases h with rfl | ⟨n,rfl,h⟩
 ·rw [asP_d]
  have:=toP_pl (d:=.lst ds) (by simpa [plD] using hp)
  simpa [pD] using this
 ·rw [asP_ref h,toPs_pl hp]
  rfl
theorem LsU.getL {st : Store} {u : U} {ds : List D} (h : LsU st u ds) : getL st u = some (ds.map U.d):=by
 rcases h with rfl | ⟨n,rfl,h⟩
 ·rfl
 ·unfold VL.getL
  simp only [h]
section
variable {st : Store}
end
end VL
namespace VL
open PySem PySem.Spec PyProof.Rows L2
section
variable {X : Cx} {W : WX} {e : Expr} {fe : F U} {p p2 pos pos2 : Pos}
end
end VL
namespace VL
open PySem PySem.Spec PyProof.Rows L2
section
variable {P : Program} {w : World} {A : Around} {E : Value → Shared → Prop} {s : Shared}
set_option maxHeartbeats 3200000 in
theorem call_setTt {l : Addr} {items : Array Value} (ns : List Str) {Q : Value → Shared → Prop} (hh : A.handled = none) (hl : s.heap.IsTuple l items) (hit : StrsAre items.toList ns) (hb : ns.length + 1 < scanBound)
  (h : ∀ (h' : Heap) (tk c : Nat),SetT w h' s.heap.objs.size (fun j=>decide (j ∈ ns)) c → c ≤ ns.length → (∀ b o,s.heap.get? b = some o → h'.get? b = some o) → Q (.ref s.heap.objs.size) { s with heap:=h',toks:=tk }) :
  wpAny (model P w) A (call (.type "set") [.ref l]) Q E s:=by
 have hisz : items.size = ns.length:=by
  have q:=StrsAre.length hit
  rw [Array.length_toList] at q
  exact q
 obtain ⟨c,tl,hmro⟩:=F.called_set.mro
 have hmade:=F.called_set.made
 have hsub:=F.called_set.sub
 refine wpAny_call (codeAny_of_tree ?_)
 show wpAny _ _ (callAny (.type "set") _) _ _ _
 refine wpAny_pure ⟨Code.quiet_builtin _ (by decide +kernel),codeAny_builtin F.entry_type_call ?_⟩
 rw [Around.under_plain (weight_type_call_type "set" [.ref l] []) rfl]
 have h1:=F.called_set.notType
 have h2:=F.called_set.canCreate
 have hct:=F.typeCall_set_1 (.ref l)
 repeat (any_goals (first | assumption | wp_step))
 refine codeAny_mono (code_set_led1 (.ref l) (E:=E) (Q₁:=fun obj s₁=>obj = .ref s.heap.objs.size ∧ s₁ = { s with heap:=s.heap.push { cls:=.type "set",dict:=none,data:=.set #[] 0 (.fresh 0 0 (!w.params.followText "set-order")) } }) ⟨rfl,rfl⟩) fun r s₁ hr=>?_
 cases r with
 | error e=>exact hr
 | ok fl =>
  cases fl with
  | ret obj =>
   obtain ⟨rfl,rfl⟩:=hr
   have hS : (s.heap.push { cls:=.type "set",dict:=none,data:=.set #[] 0 (.fresh 0 0 (!w.params.followText "set-order")) }).get? s.heap.objs.size = some { cls:=.type "set",dict:=none,data:=.set #[] 0 (.fresh 0 0 (!w.params.followText "set-order")) }:=Heap.get?_push_size _ rfl
   have hT : Shared.TypeIs { s with heap:=s.heap.push { cls:=.type "set",dict:=none,data:=.set #[] 0 (.fresh 0 0 (!w.params.followText "set-order")) } } (.ref s.heap.objs.size) "set":=⟨_,hS,rfl⟩
   have hli:=F.called_set.init.lookup
   have hbi:=F.called_set.init.bind (.ref s.heap.objs.size)
   repeat (any_goals (first | assumption | wp_step))
   refine codeAny_mono (codeAny_call_builtin (R:=wants (fun r s₂=>r = .none ∧ ∃ h' tk c,s₂ = { s with heap:=h',toks:=tk } ∧ SetT w h' s.heap.objs.size (fun j=>decide (j ∈ ns)) c ∧ c ≤ ns.length ∧
     (∀ b o,s.heap.get? b = some o → h'.get? b = some o)) E) F.called_set.init.plain F.entry_set_init (check_set_init_1 hT ?_)) fun r₂ s₂ hr₂=>?_
   ·obtain ⟨ol,hol,hcl,nl,hdl⟩:=hl
    obtain ⟨ocls,odict,odata,oslots⟩:=ol
    simp only at hcl hdl
    subst hcl; subst hdl
    have hol' : (s.heap.push { cls:=.type "set",dict:=none,data:=.set #[] 0 (.fresh 0 0 (!w.params.followText "set-order")) }).get? l = some { cls:=.type "tuple",dict:=odict,data:=.seq items nl,slots:=oslots }:=Heap.get?_push_of_some _ hol
    have hsls:=F.sub_tuple_set
    have hslf:=F.sub_tuple_frozenset
    have hne : (Value.type "tuple" == Value.type "dict") = false:=by decide
    have hl1 : (s.heap.push { cls:=.type "set",dict:=none,data:=.set #[] 0 (.fresh 0 0 (!w.params.followText "set-order")) }).IsTuple l items:=⟨_,hol',rfl,nl,rfl⟩
    unfold Builtin.«set.__init__» noKeywords Builtin.Frozenset.updateFrom
    generalize hPI : pyIter = PI
    wp_walk
    subst hPI
    refine wpAny_pyIter_tuple hl1 ?_
    refine wpAny_bind (wpAny_runValue ?_)
    have hlS : l < s.heap.objs.size:=Heap.lt_size hol
    have hh3 : A.in1.in1.in1.handled = none:=by simp [hh]
    have hneI : l ≠ (s.heap.push { cls:=.type "set",dict:=none,data:=.set #[] 0 (.fresh 0 0 (!w.params.followText "set-order")) }).objs.size:=by
     rw [Heap.size_push]; exact Nat.ne_of_lt (Nat.lt_succ_of_lt hlS)
    have hSf : s.heap.objs.size ∉ [(s.heap.push { cls:=.type "set",dict:=none,data:=.set #[] 0 (.fresh 0 0 (!w.params.followText "set-order")) }).objs.size,l]:=by
     rw [Heap.size_push]; simp only [List.mem_cons,List.mem_singleton,List.not_mem_nil,or_false,not_or]
     exact ⟨Nat.ne_of_lt (Nat.lt_succ_self _),Nat.ne_of_gt hlS⟩
    have hval : ∀ (i : Nat) (v : Value),items[i]? = some v → ∃ k t,ns[i]? = some k ∧ v = .str k t:=fun i v hv=>by
     obtain ⟨y,t,e1,e2⟩:=PyProof.Rows.StrsAre.item hit i v (by rw [Array.getElem?_toList]; exact hv)
     exact ⟨y,t,e2,e1⟩
    refine setT_update ((Walks.tuple hh3 _ l hneI items).toS) s.heap.objs.size
     hSf ns hisz hb hval (items.size - 0) 0 _ (by omega) (Nat.zero_le _)
     ⟨⟨_,Heap.get?_push_size _ rfl,rfl,rfl⟩,(hl1.push _)⟩ ?hS0 ?hR
    case hS0 =>
     have hget : ((s.heap.push { cls:=.type "set",dict:=none,data:=.set #[] 0 (.fresh 0 0 (!w.params.followText "set-order")) }).push { cls:=.type "tuple_iterator",data:=.fields #[.ref l,.int 0 0] }).get? s.heap.objs.size
       = some { cls:=.type "set",dict:=none,data:=.set #[] 0 (.fresh 0 0 (!w.params.followText "set-order")) }:=Heap.get?_push_of_some _ hS
     exact ⟨0,Nat.le_refl 0,setT_new hget⟩
    case hR =>
     intro s' c' hm hc' hS'
     obtain ⟨h',g2,d',tk',os'⟩:=s'
     have eg : g2 = s.gens:=hm.gens
     have ed : d' = s.drawn:=hm.drawn
     have eo : os' = s.os:=hm.os
     subst eg; subst ed; subst eo
     show wpAny _ _ _ _ _ _
     refine wpAny_pure ?_
     show wpAny _ _ (ret Value.none) _ _ _
     rw [hisz] at hc'
     refine wpAny_pure ⟨rfl,h',tk',c',rfl,hS',hc',fun b o e=>?_⟩
     have hb0 : b < s.heap.objs.size:=Heap.lt_size e
     have hb1 : b ≠ s.heap.objs.size:=Nat.ne_of_lt hb0
     have hb2 : b ≠ (s.heap.push { cls:=.type "set",dict:=none,data:=.set #[] 0 (.fresh 0 0 (!w.params.followText "set-order")) }).objs.size:=by
      rw [Heap.size_push]; exact Nat.ne_of_lt (Nat.lt_succ_of_lt hb0)
     exact hm.heap b o (by simp only [List.mem_cons,List.mem_singleton,List.not_mem_nil,or_false,not_or]; exact ⟨hb1,hb2⟩) (Heap.get?_push_of_some _ (Heap.get?_push_of_some _ e))
   ·cases r₂ with
    | error e=>exact hr₂
    | ok fl₂ =>
     cases fl₂ with
     | ret r =>
      obtain ⟨rfl,h',tk,c',rfl,hS',hc',hk'⟩:=hr₂
      repeat (any_goals (first | assumption | wp_step))
      exact h _ _ _ hS' hc' hk'
     | _=>exact hr₂.elim
  | _=>exact hr.elim
end
end VL
namespace VL
open PySem PySem.Spec PyProof.Rows L2
section
variable {X : Cx}
noncomputable def rSetTT (K : PySem.W.Frag) (w : World) : List V → Hp → VK → Prop:=fun xs H Q=>∃ (l : Addr) (ns : List Str),xs = [V.ref l] ∧ (SqL K H l (ns.map V.str) ∨ SqT K H l (ns.map V.str)) ∧ ns.length < 64 ∧
 ∀ a c,c ≤ ns.length → H a = none → Q (.ref a) (upd H a (SetTO w a (fun j=>decide (j ∈ ns)) c))
theorem cr_setTT (hc : X.calm = true) : CallR X (.type "set") (rSetTT X.K X.w):=by
 intro pins s σ H xs us Q I r h
 obtain ⟨l,ns,rfl,hs,h64,q⟩:=h
 rcases hs with hs | hs
 ·exact cr_setT hc pins s σ H _ us Q I r ⟨l,ns,rfl,hs,h64,q⟩
 ·obtain ⟨its,rv,hl,_⟩:=I.tuple hs
  rw [Vals.ref1 r]
  have hn : H s.heap.objs.size = none:=I.hok.fresh (Nat.le_refl _)
  have hit : s.heap.IsTuple l its.toArray:=by
   obtain ⟨o,ho,hcl,n,hd⟩:=hl
   exact ⟨o,ho,hcl,n,hd⟩
  refine call_setTt (P:=X.prog) (w:=X.w) ns (I.ok.hd hc) hit rv.strs (by unfold scanBound; omega) fun h' tk c R hcl k=>?_
  exact ⟨.ref s.heap.objs.size,upd H s.heap.objs.size (SetTO X.w s.heap.objs.size _ c),I.laid (t':=tk) k (Nat.le_refl _) (setTO_new R),rfl,q _ c hcl hn⟩
end
noncomputable def oSortTT : List U → Store → Option U:=fun us st=>match us with
 | [.d (.tup ds)]=>match strsU (ds.map U.d) with
  | some ns=>if ns.length < 64 then some (.d (.lst ((sortT ns).map .str))) else none
  | none=>none
 | us=>oSortT us st
theorem d_sortTT {X : Cx} {W : WX} {p p2 pos pos2 : Pos} {e : Expr} {fs : F (List U)} (hc : X.calm = true) (hm : X.mg "sorted" = none) (hm2 : X.mg "set" = none) (ha : DA X W [e] fs) (hg : Gl X "sorted":=by rfl) (hg2 : Gl X "set":=by rfl)
  (he : starEach [e] X.env = [(false,eval e X.env)]:=by rfl) : DE X W (.Call (.Name "sorted" p) [.Call (.Name "set" p2) [e] [] pos2] [] pos) (fB (pu oSortTT) fs) :=
 ⟨PE.imp (pe_callB (cr_sortT hc) hg hm (by rfl) (pa_cons (pe_callTy (cr_setTT hc) hg2 hm2 (by rfl) ha.pa (he:=he) (hpl:=by rfl)) pa_nil)) fun σ H Q h=>by
  obtain ⟨m,env,st,r,re,p⟩:=h
  refine tFs_step r re p fun us st1 vs m1 H1 h1 r1 re1 e1 p1=>?_
  have p2:=PV2.of p1
  obtain ⟨u,e,p3⟩:=PV2.pu p2
  have fin : ∀ (a : Addr) (ns : List Str),vs = [V.ref a] → (SqL X.K H1 a (ns.map V.str) ∨ SqT X.K H1 a (ns.map V.str)) → ns.length < 64 → u = .d (.lst ((sortT ns).map .str)) → rSetTT X.K X.w vs H1 (fun x H2=>rSortT X.w [x] H2 Q):=fun a ns hv t h64 hu=>by
   subst hu
   refine ⟨a,ns,hv,t,h64,fun b c hcl hb=>?_⟩
   refine ⟨b,_,c,rfl,upd_same,by omega,fun ys l hs hnd hmem hlen hl=>?_⟩
   have : ys = sortT ns:=sortT_eq hs hnd fun k=>by rw [hmem k,decide_eq_true_eq]
   subst this
   have r2:=r1.new hb (SetTO X.w b (fun j=>decide (j ∈ ns)) c)
   exact p3 _ m1 _ (new_lst r2 hl (RpDs.strs _)) (r2.new hl _) ((ext_new r1 hb _).trans (ext_new r2 hl _))
  unfold oSortTT at e
  split at e
  ·rename_i ds
   obtain ⟨v,rfl,hv⟩:=h1.one
   obtain ⟨a,ws,rfl,t,q⟩:=hv
   split at e
   ·rename_i ns hns
    split at e
    ·rename_i h64
     cases e
     have:=strs_rp (RpUs.ofD q) hns
     subst this
     exact fin a ns rfl (.inr t.sq) h64 rfl
    ·cases e
   ·cases e
  ·unfold oSortT at e
   split at e
   ·obtain ⟨v,rfl,hv⟩:=h1.one
    split at e
    ·rename_i us' hl
     obtain ⟨a,ws,rfl,t,q⟩:=getL_rp r1 hv hl
     split at e
     ·rename_i ns hns
      split at e
      ·rename_i h64
       cases e
       have:=strs_rp q hns
       subst this
       exact fin a ns rfl (.inl t) h64 rfl
      ·cases e
     ·cases e
    ·cases e
   ·cases e⟩
end VL
namespace VL
open PySem PySem.Spec PyProof.Rows L2
namespace Hd
noncomputable def refsF (o : Obj) : List Addr:=match o.data with
 | .func fd=>He.refV fd.code ++ (He.refV fd.kwdefaults ++ He.refV fd.defaults)
 | .cls cd=>[cd.ns]
 | .dict es _=>es.toList.flatMap fun e=>He.refV e.val
 | .fields vs=>if o.cls == .type "property" || o.cls == .type "staticmethod" then vs.toList.flatMap He.refV else []
 | _=>[]
noncomputable def nextF (g : Addr → Option Obj) (as : List Addr) : List Addr:=as.flatMap fun a=>match g a with
 | some o=>refsF o
 | none=>[]
noncomputable def fragF (names : List Str) (g : Addr → Option Obj) : PySem.W.Frag :=
 (fun A1=>(fun A2=>(fun A3=>(fun A4=>(fun A5=>He.frG g (mainGlobals :: cStatics :: (A1 ++ (A2 ++ (A3 ++ (A4 ++ A5)))))) (nextF g A4)) (nextF g A3)) (nextF g A2)) (nextF g A1)) (names.map (He.ga (He.frG g [mainGlobals])))
noncomputable def fnV (K : PySem.W.Frag) (f : Addr) : He.FnV:=match K.lookup f with
 | some ⟨_,_,.func fd,_⟩=>some (fd.name,fd.qualname,fd.params,fd.body,fd.scope,fd.globals,fd.closure,fd.defaults,fd.builtins)
 | _=>none
noncomputable def fnT (x q : Str) (st : Stmt) : He.FnV:=some (x,q,defArgs st,.stmts (defBody st),defScope st,mainGlobals,[],.none,builtinsNs)
noncomputable def codeB (K : PySem.W.Frag) (f : Addr) (q : Str) : Bool:=match K.lookup f with
 | some ⟨_,_,.func fd,_⟩=>PySem.W.codeIn K fd.code q
 | _=>false
noncomputable def refA : Value → Addr
 | .ref d=>d
 | _=>0
noncomputable def isRef : Value → Bool
 | .ref _=>true
 | _=>false
theorem refA_eq {v : Value} (h : isRef v = true) : v = .ref (refA v):=by
 cases v <;> first | rfl | cases h
noncomputable def kwdAt (K : PySem.W.Frag) (f : Addr) : Addr:=match K.lookup f with
 | some ⟨_,_,.func fd,_⟩=>refA fd.kwdefaults
 | _=>0
noncomputable def kwdB (K : PySem.W.Frag) (f : Addr) : Bool:=match K.lookup f with
 | some ⟨_,_,.func fd,_⟩=>isRef fd.kwdefaults
 | _=>false
section
variable {K : PySem.W.Frag} {f : Addr} {x q : Str} {st : Stmt}
theorem fn_of (e : fnV K f = fnT x q st) (c : codeB K f q = true) :
  ∃ oc od osl kV doc pm an cdv ct,K.lookup f = some ⟨oc,od,.func (PySem.W.fnOf x q (defArgs st) (defBody st) (defScope st) .none kV doc pm an cdv ct),osl⟩ ∧ PySem.W.codeIn K cdv q = true:=by
 unfold codeB at c
 unfold fnV fnT at e
 cases r : K.lookup f with
 | none=>rw [r] at c; cases c
 | some o =>
  obtain ⟨oc,od,dt,osl⟩:=o
  rw [r] at c e
  cases dt with
  | func fd =>
   obtain ⟨n1,n2,n3,n4,n5,n6,n7,n8,n9,n10,n11,n12,n13,n14,n15⟩:=fd
   have e2 : (some (n1,n2,n3,n4,n5,n6,n7,n8,n15) : He.FnV) = some (x,q,defArgs st,.stmts (defBody st),defScope st,mainGlobals,[],.none,builtinsNs):=e
   simp only [Option.some.injEq,Prod.mk.injEq] at e2
   obtain ⟨h1,h2,h3,h4,h5,h6,h7,h8,h9⟩:=e2
   subst h1 h2 h3 h4 h5 h6 h7 h8 h9
   exact ⟨oc,od,osl,n9,n10,n11,n12,n13,n14,rfl,c⟩
  | _=>cases c
/-- a def with keyword-only defaults -/
theorem fnk_of (e : fnV K f = fnT x q st) (c : codeB K f q = true) (b : kwdB K f = true) :
  ∃ oc od osl doc pm an cdv ct,K.lookup f = some ⟨oc,od,.func (PySem.W.fnOf x q (defArgs st) (defBody st) (defScope st) .none (.ref (kwdAt K f)) doc pm an cdv ct),osl⟩ ∧ PySem.W.codeIn K cdv q = true:=by
 obtain ⟨oc,od,osl,kV,doc,pm,an,cdv,ct,l,h⟩:=fn_of e c
 unfold kwdB at b
 have a : kwdAt K f = refA kV:=by unfold kwdAt; rw [l] <;> rfl
 rw [l] at b
 have b2 : isRef kV = true:=b
 have e2:=refA_eq b2
 refine ⟨oc,od,osl,doc,pm,an,cdv,ct,?_,h⟩
 rw [a,← e2]
 exact l
end
noncomputable def kwE (K : PySem.W.Frag) (f : Addr) (x : Str) : Addr:=match PySem.W.nsIn K (kwdAt K f) x with
 | some (some (.ref e))=>e
 | _=>0
noncomputable def strB (K : PySem.W.Frag) (x z : Str) : Bool:=match PySem.W.nsIn K mainGlobals x with
 | some (some (.str y _))=>decide (y = z)
 | _=>false
noncomputable def tup0B (K : PySem.W.Frag) (e : Addr) : Bool:=match K.lookup e with
 | some ⟨.type c,_,.seq its _,_⟩=>decide (c = "tuple") && its.isEmpty
 | _=>false
noncomputable def excB (K : PySem.W.Frag) (C : Addr) (bm : List Value) (new : String) : Bool:=match K.lookup C with
 | some ⟨.type t,_,.cls cd,sl⟩=>(match cd.mro,sl.toList with
  | .ref C' :: bm',[_,_,_,_,some (.builtin n),_]=>decide (t = "type") && (decide (C' = C) && (decide (bm' = bm) && (decide (n = new) && (!cd.hasDel && cd.hasDict))))
  | _,_=>false)
 | _=>false
section
variable {K : PySem.W.Frag}
theorem ba {a b : Bool} (h : (a && b) = true) : a = true ∧ b = true:=Bool.and_eq_true_iff.mp h
theorem str_ok {x z : Str} (h : strB K x z = true) : ∃ t,PySem.W.nsIn K mainGlobals x = some (some (.str z t)):=by
 unfold strB at h
 split at h
 ·rename_i y t e
  exact ⟨t,by rw [e,of_decide_eq_true h]⟩
 ·cases h
theorem tup0_ok {e : Addr} (h : tup0B K e = true) : ∃ od n sl,K.lookup e = some ⟨.type "tuple",od,.seq #[] n,sl⟩:=by
 unfold tup0B at h
 split at h
 ·rename_i c od its n sl r
  obtain ⟨h1,h2⟩:=ba h
  have h3:=Array.isEmpty_iff.mp h2
  exact ⟨od,n,sl,by rw [r,of_decide_eq_true h1,h3]⟩
 ·cases h
theorem exc_ok {C : Addr} {bm : List Value} {new : String} (h : excB K C bm new = true) : ∃ nm qn N bs sn sub ab col dd k0 k1 k2 k3 k5,
  K.lookup C = some (excClassObj nm qn C N bs bm true sn sub ab col dd k0 k1 k2 k3 k5 new):=by
 unfold excB at h
 split at h
 ·rename_i t dd cd sl ho
  split at h
  ·rename_i C' bm' k0 k1 k2 k3 n k5 hm hs
   obtain ⟨h0,h⟩:=ba h
   obtain ⟨h1,h⟩:=ba h
   obtain ⟨h2,h⟩:=ba h
   obtain ⟨h3,h⟩:=ba h
   obtain ⟨h4,h5⟩:=ba h
   have h0:=of_decide_eq_true h0
   have h1:=of_decide_eq_true h1
   have h2:=of_decide_eq_true h2
   have h3:=of_decide_eq_true h3
   subst h0 h1 h2 h3
   obtain ⟨nm,bs,mro,ns,qn,hd,sn,sub,ab,col,del⟩:=cd
   dsimp only at hm h4 h5
   have h4 : del = false:=by simpa using h4
   subst hm h4 h5
   have hsl : sl = #[k0,k1,k2,k3,some (.builtin n),k5]:=by
    obtain ⟨l⟩:=sl
    simp only at hs
    rw [hs]
   subst hsl
   exact ⟨nm,qn,ns,bs,sn,sub,ab,col,dd,k0,k1,k2,k3,k5,ho⟩
  ·cases h
 ·cases h
end
noncomputable def tabB (g : Addr → Option Obj) (P : Addr) : Bool:=match g P with
 | some ⟨.none,none,.fields vs,sl⟩=>vs.isEmpty && sl.isEmpty
 | _=>false
theorem tab_ok {g : Addr → Option Obj} {P : Addr} (h : tabB g P = true) : g P = some (PySem.W.tabObj #[]):=by
 unfold tabB at h
 split at h
 ·rename_i vs sl e
  obtain ⟨h1,h2⟩:=ba h
  rw [e,Array.isEmpty_iff.mp h1,Array.isEmpty_iff.mp h2]
 ·cases h
noncomputable def allB : List (List Bool) → Bool
 | []=>true
 | l :: r=>l.all id && allB r
theorem allB_at : ∀ {l : List (List Bool)},allB l = true → ∀ {i j : Nat} {r : List Bool} {b : Bool},l[i]? = some r → r[j]? = some b → b = true
 | [],_,i,j,r,b,h,_=>by cases h
 | l :: rs,h,0,j,r,b,h1,h2=>by
  cases h1
  exact List.all_eq_true.mp (ba h).1 b (List.mem_of_getElem? h2)
 | l :: rs,h,i + 1,j,r,b,h1,h2=>allB_at (ba h).2 (i:=i) h1 h2
structure Says (names : List Str) (bs : PySem.W.Frag → List (List Bool)) (fns : PySem.W.Frag → List He.FnV) (fv : List He.FnV) (tb : PySem.W.Frag → List Addr) (h : Heap) (K : PySem.W.Frag) : Prop where
 b : allB (bs K) = true
 f : fns K = fv
 t : ∀ P ∈ tb K,h.get? P = some (PySem.W.tabObj #[])
noncomputable abbrev Al : Type:=Bool × (Bool × List He.FnV)
noncomputable def obsV (names : List Str) (bs : PySem.W.Frag → List (List Bool)) (fns : PySem.W.Frag → List He.FnV) (tb : PySem.W.Frag → List Addr) (g : Addr → Option Obj) : Al :=
 (fun K : PySem.W.Frag=>(allB (bs K),((tb K).all (tabB g),fns K))) (fragF names g)
noncomputable def valV (fv : List He.FnV) : Al:=(true,(true,fv))
theorem says_of {names : List Str} {bs : PySem.W.Frag → List (List Bool)} {fns : PySem.W.Frag → List He.FnV} {fv : List He.FnV} {tb : PySem.W.Frag → List Addr} {h : Heap} (e : obsV names bs fns tb h.get? = valV fv) : Says names bs fns fv tb h (fragF names h.get?):=by
 have e1 : allB (bs (fragF names h.get?)) = true:=congrArg (fun z : Al=>z.1) e
 have e2 : (tb (fragF names h.get?)).all (tabB h.get?) = true:=congrArg (fun z : Al=>z.2.1) e
 have e3 : fns (fragF names h.get?) = fv:=congrArg (fun z : Al=>z.2.2) e
 exact ⟨e1,e3,fun P hP=>tab_ok (List.all_eq_true.mp e2 P hP)⟩
noncomputable def hookV (names : List Str) (bs : PySem.W.Frag → List (List Bool)) (fns : PySem.W.Frag → List He.FnV) (fv : List He.FnV) (tb : PySem.W.Frag → List Addr) : PySem.W.Hook where
 α:=Al
 obs:=fun s=>obsV names bs fns tb s.heap.get?
 val:=fun _=>valV fv
 says:=fun _ h=>∃ K : PySem.W.Frag,K.In h ∧ Says names bs fns fv tb h K
 of:=fun _ _ e=>⟨_,He.frG_in,says_of e⟩
 keeps:=fun _ _ _ ⟨K,hK,c⟩ k=>⟨K,PySem.W.Frag.In.keeps hK k,⟨c.b,c.f,fun P hP=>k _ _ (c.t P hP)⟩⟩
theorem obsV_eq {names : List Str} {bs : PySem.W.Frag → List (List Bool)} {fns : PySem.W.Frag → List He.FnV} {fv : List He.FnV} {tb : PySem.W.Frag → List Addr} {g : Addr → Option Obj} {s : Shared} (h : ∀ a,g a = s.heap.get? a) : obsV names bs fns tb g = (hookV names bs fns fv tb).obs s:=by
 have e : g = s.heap.get?:=funext h
 rw [e] <;> rfl
section
variable {names : List Str} {bs : PySem.W.Frag → List (List Bool)} {fns : PySem.W.Frag → List He.FnV} {fv : List He.FnV} {tb : PySem.W.Frag → List Addr} {h : Heap} {K : PySem.W.Frag}
theorem Says.at (c : Says names bs fns fv tb h K) (i j : Nat) {r : List Bool} {b : Bool} (h1 : (bs K)[i]? = some r:=by rfl) (h2 : r[j]? = some b:=by rfl) : b = true:=allB_at c.b h1 h2
theorem Says.fn (c : Says names bs fns fv tb h K) (i : Nat) {x y : He.FnV} (h1 : (fns K)[i]? = some x:=by rfl) (h2 : fv[i]? = some y:=by rfl) : x = y:=by
 rw [c.f,h2] at h1
 exact (Option.some.inj h1).symm
end
end Hd
section
/-- the law's walk,over a head by facts -/
theorem walk_ofGE {l : PySem.W.OpenLaw} {n k : Nat} {q : Program} {loose : List Str} {XP : (Str → Option Value) → Heap → Prop} {YP : World → Heap → Prop} {d : DefRec} {x : Str} (hn : l.most = some n) (hn2 : n ≤ sizeLine)
  (hdf : d.params.defaults = []) (hr : RoomG k callerA)
  (F : ∀ (w : World) (mg : Str → Option Value) (fa : Addr) (h : Heap),YP w h → h.Ns mainGlobals mg → mg d.name = some (.ref fa) →
   ∃ (K : PySem.W.Frag) (sp : Sp) (fd : FuncData),K.In h ∧ (∀ (H : Hp) (a : Addr) (ns : List Int),ns.length ≤ n → Only H → SqL K H a (ns.map V.int) → sp [.ref a] H (fun v _=>v = .bl true) fun _ _ _=>False) ∧
    (∀ (s : Shared) (u : Value),BindsTo s fd { pos:=[u] } [(x,u)]) ∧ ∀ base : Heap,PySem.W.Frag.In K base → base.Ns mainGlobals mg → FnG l.prog w K mg base k fa fd [x] sp) :
  PySem.W.WalkO q loose XP YP l.row.toRowW d [] fun f vs=>call f vs :=
 Att.attach_call hn hdf fun w s₀ s₁ mg mb fa o pm cd doc a vs ns G Y ho hd hcd hmg hobj hints hlen hg=>by
  obtain ⟨K,sp,fd,KX,hsp,hb,hF⟩:=F w mg fa s₁.heap Y G.T.g hmg
  exact law_callG KX G.T.g G.T.b G.T.builtins G.T.nolimit hg hobj hints (Nat.le_trans hlen hn2) hr hF hb fun H hO hS=>hsp H a ns hlen hO hS
end
end VL
namespace VL
open PySem PySem.Spec PyProof.Rows L2
section
variable {X : Cx}
end
end VL
namespace PySem.W
open PySem PyProof.Rows
open PySem.Sem (wp)
section
variable {prog : Program} {w : World} {A : Around} {E : Value → Shared → Prop} {s : Shared}
end
end PySem.W
namespace VL
open PySem PySem.Spec PyProof.Rows L2 PySem.W
section
variable {X : Cx}
end
section
variable {X : Cx} {e : Expr} {te : TE} {p apos cpos pos : Pos}
end
section
variable {X : Cx} {W : WX} {x ek e1 : Expr} {fx fk f1 : F U}
end
end VL
namespace VL
open PySem PySem.Spec PyProof.Rows L2
noncomputable abbrev MTup:=Addr × List Key
section
variable (P : Program) (w : World)
noncomputable def mH (k : List Key) : Int:=tupleKeyHash (mixKind P w) k
noncomputable def MT (h : Heap) (k : List Key) (a : Addr) : Prop:=IsTupleKey (mixKind P w) h k a
noncomputable def mRows (L : List MTup) : List (Int × Value):=L.map fun q=>(mH P w q.2,.ref q.1)
noncomputable def mHs (L : List MTup) : List Int:=L.map fun q=>mH P w q.2
/-- the set at a holds the tuples L,in the order of its table -/
structure MSet (h : Heap) (a : Addr) (L : List MTup) (es : Array (Int × Value)) (ep : Nat) (t : SetTable) : Prop where
 obj : ∃ o,h.get? a = some o ∧ o.ExactSet ∧ o.data = .set es ep t
 rw' : es.toList = mRows P w L
 tb : TabOk t (mHs P w L)
 dis : (L.map (·.2)).Nodup
 tu : ∀ q ∈ L,MT P w h q.2 q.1
 le' : w.params.followText "set-order" = true ∨ t.led = true
 rm : L.length * 5 < t.mask * 3
 fw : L.length < 64
end
section
variable {P : Program} {w : World} {A : Around} {E : Value → Shared → Prop} {s : Shared} {k : List Key} {b : Addr}
end
section
variable {P : Program} {w : World} {A : Around} {E : Value → Shared → Prop} {s : Shared} {a : Addr} {L : List MTup} {es : Array (Int × Value)} {ep : Nat} {t : SetTable}
theorem MSet.keep {h h' : Heap} (Z : MSet P w h a L es ep t) (ka : ∀ o,h.get? a = some o → h'.get? a = some o) (kt : ∀ q ∈ L,MT P w h' q.2 q.1) : MSet P w h' a L es ep t:=by
 obtain ⟨o,go,r⟩:=Z.obj
 exact ⟨⟨o,ka o go,r⟩,Z.rw',Z.tb,Z.dis,kt,Z.le',Z.rm,Z.fw⟩
end
end VL
namespace VL
open PySem PySem.Spec PyProof.Rows L2
/-- a kind of sets: the tracked thing at an address,the empty one,what may be added and what it gives -/
structure SKd (X : Cx) (ι : Type) where
 O : Addr → ι → HO
 e0 : ι
 can : V → Hp → ι → ι → Prop
 new : ∀ {H : Hp} {h : Heap},ObjOk X.prog X.w H (h.push { cls:=.type "set",dict:=none,data:=.set #[] 0 (.fresh 0 0 (!X.w.params.followText "set-order")) }) h.objs.size (O h.objs.size e0)
 add : ∀ (s0 : Shared) (H0 : Hp) (sc : Scope) (env : Env) (fp : List Addr) {pins : List (Addr × Obj)} {σ : L2.St} {H : Hp} {s : Shared} {E : Value → Shared → Prop} {D : Addr} {i i2 : ι} {y : V} {v : Value} {Q : Value → Shared → Prop},
  Inv (X.blk s0 H0 sc env fp) pins σ H s → H D = some (O D i) → can y H i i2 → RelV y v → (∀ s2,Inv (X.blk s0 H0 sc env fp) pins σ (upd H D (O D i2)) s2 → Q .none s2) →
   wpAny (model X.prog X.w) X.A (call (.builtin "set.add") [.ref D,v]) Q E s
section
variable {elt tA iA tB iB : Expr} {cA cB : List Expr} {sc : Scope} {ps : Pos} {it acc : Value}
variable {prog : Program} {w : World} {A : Around} {R : Result → Shared → Prop} {s : Shared} {env : Env}
end
section
variable {X : Cx} {ι : Type}
variable {elt tA iA tB iB : Expr} {cA cB : List Expr} {sc : Scope} {own : List (Str × Nat)} {us : List Nat} {ps pp : Pos} {wi wj : TI} {g gj : TG} {tt tj : TT} {te : TE} {S : SKd X ι}
end
end VL
namespace VL
open PySem PySem.Spec PyProof.Rows L2
section
variable {P : Program} {w : World} {A : Around} {E : Value → Shared → Prop} {s : Shared} {a : Addr} {L : List MTup} {es : Array (Int × Value)} {ep : Nat} {t : SetTable}
theorem MSet.typeIs (Z : MSet P w s.heap a L es ep t) : s.TypeIs (.ref a) "set":=by
 obtain ⟨o,go,gx,-⟩:=Z.obj
 exact ⟨o,go,gx.1⟩
end
noncomputable def MSet0 (P : Program) (w : World) (h : Heap) (a : Addr) (L : List MTup) : Prop:=∃ (M : List MTup) (es : Array (Int × Value)) (ep : Nat) (t : SetTable),M.Perm L ∧ (∃ o,h.get? a = some o ∧ o.ExactSet ∧ o.data = .set es ep t) ∧ es.toList = mRows P w M ∧ TabOk t (mHs P w M) ∧ (M.map (·.2)).Nodup ∧
 (w.params.followText "set-order" = true ∨ t.led = true) ∧ M.length * 5 < t.mask * 3 ∧ M.length < 64
section
variable {P : Program} {w : World} {h : Heap} {a : Addr} {L : List MTup} {es : Array (Int × Value)} {ep : Nat} {t : SetTable}
theorem MSet.low {M : List MTup} (Z : MSet P w h a M es ep t) (pm : M.Perm L) : MSet0 P w h a L:=⟨M,es,ep,t,pm,Z.obj,Z.rw',Z.tb,Z.dis,Z.le',Z.rm,Z.fw⟩
end
section
variable {X : Cx} {pins : List (Addr × Obj)} {σ : L2.St} {H : Hp} {s : Shared}
end
section
variable {P : Program} {w : World} {A : Around} {E : Value → Shared → Prop} {s : Shared} {a : Addr} {M : List MTup} {es : Array (Int × Value)} {ep : Nat} {t : SetTable}
end
end VL
namespace VL
open PySem PySem.Spec PyProof.Rows L2
noncomputable def Soft (o : HO) : Prop:=(∃ f,o = .ext f ∧ (∀ c q,o ≠ LamX.CodeO c q) ∧ ∀ (a : Addr) (ob : Obj) (es : Array DictEntry) (ep : Nat),ob.data = .dict es ep → o ≠ PinO a ob) ∨ ∃ S n,o = .set S n
/-- all but one soft thing stays -/
structure But (D : Addr) (H H' : Hp) : Prop where
 oth : ∀ a,a ≠ D → H' a = H a
 was : ∃ o,H D = some o ∧ Soft o
section
variable {K : PySem.W.Frag} {m : List Addr} {H H' : Hp} {D : Addr}
theorem But.at' (b : But D H H') {a : Addr} {o : HO} (h : H a = some o) (n : ¬ Soft o) : H' a = some o:=by
 rw [b.oth a fun e=>?_,h]
 obtain ⟨u,e1,e2⟩:=b.was
 rw [e,e1] at h
 cases h
 exact n e2
theorem ns_l {vs : List V} : ¬ Soft (.lst vs):=by rintro (⟨f,e,_⟩ | ⟨S,n,e⟩) <;> cases e
theorem ns_t {vs : List V} : ¬ Soft (.tup vs):=by rintro (⟨f,e,_⟩ | ⟨S,n,e⟩) <;> cases e
theorem ns_k {vs : List (Key × V)} : ¬ Soft (.dK vs):=by rintro (⟨f,e,_⟩ | ⟨S,n,e⟩) <;> cases e
theorem ns_f {o : Obj} {u : HO} : ¬ Soft (.frz o u):=by rintro (⟨f,e,_⟩ | ⟨S,n,e⟩) <;> cases e
theorem ns_i {C x : Addr} {fs : List (Str × V)} : ¬ Soft (.ins C x fs):=by rintro (⟨f,e,_⟩ | ⟨S,n,e⟩) <;> cases e
theorem ns_x {fs : List (Str × V)} : ¬ Soft (.xd fs):=by rintro (⟨f,e,_⟩ | ⟨S,n,e⟩) <;> cases e
theorem ns_b {ps : Array Value} : ¬ Soft (.tbl ps):=by rintro (⟨f,e,_⟩ | ⟨S,n,e⟩) <;> cases e
theorem ns_c {c : Addr} {q : Str} : ¬ Soft (LamX.CodeO c q):=by
 rintro (⟨f,e,h⟩ | ⟨S,n,e⟩)
 ·exact h.1 c q rfl
 ·cases e
theorem ns_p {w : World} {a : Addr} {o : Obj} {es : List (NestedKey × Addr × V)} (h : KdOk w a o es) : ¬ Soft (PinO a o):=by
 obtain ⟨-,-,xs,-,-,en,ep,-,hd,-⟩:=h
 rintro (⟨f,e,h⟩ | ⟨S,n,e⟩)
 ·exact h.2 a o en ep hd rfl
 ·cases e
mutual
theorem RpD.but (b : But D H H') : ∀ (d : VL.D) (v : V),RpD K m H d v → RpD K m H' d v
 | .non,_,h=>h
 | .bl _,_,h=>h
 | .int _,_,h=>h
 | .str _,_,h=>h
 | .ty _,_,h=>h
 | .obj _,_,h=>h
 | .tup ds,_,⟨a,vs,e,t,r⟩=>⟨a,vs,e,t.elim (fun z=>.inl ⟨z.1,b.at' z.2 ns_t⟩) .inr,RpDs.but b ds vs r⟩
 | .lst ds,_,⟨a,vs,e,t,r⟩=>⟨a,vs,e,⟨t.1,b.at' t.2 ns_l⟩,RpDs.but b ds vs r⟩
 | .dct ks,_,⟨a,vs,e,t,r⟩=>⟨a,vs,e,⟨t.1,t.2.elim (fun z=>.inl (b.at' z ns_k)) fun ⟨o,z⟩=>.inr ⟨o,b.at' z ns_f⟩⟩,RpK.but b ks vs r⟩
 | .ins C fs,_,⟨a,dx,vs,e,t,r⟩=>⟨a,dx,vs,e,⟨t.1,b.at' t.2 ns_i⟩,RpF.but b fs vs r⟩
 | .scr ns,_,⟨a,e,t⟩=>⟨a,e,t.elim (fun ⟨n,o,z⟩=>.inl ⟨n,o,b.at' z ns_f⟩) .inr⟩
 | .kdc w ks,_,⟨a,o,es,e,t,z,r⟩=>⟨a,o,es,e,⟨t.1,b.at' t.2 (ns_p z)⟩,z,RpKd.but b ks es r⟩
 | .exc _ _ _ fs,_,⟨e,.inl h⟩=>⟨e,.inl h⟩
 | .exc _ _ _ fs,_,⟨e,.inr ⟨dd,vs,q,t,r⟩⟩=>⟨e,.inr ⟨dd,vs,q,⟨t.1,b.at' t.2 ns_x⟩,RpF.but b fs vs r⟩⟩
theorem RpDs.but (b : But D H H') : ∀ (ds : List VL.D) (vs : List V),RpDs K m H ds vs → RpDs K m H' ds vs
 | [],_,h=>h
 | d :: ds,_,⟨v,r,e,h1,h2⟩=>⟨v,r,e,RpD.but b d v h1,RpDs.but b ds r h2⟩
theorem RpK.but (b : But D H H') : ∀ (ds : List (Key × VL.D)) (vs : List (Key × V)),RpK K m H ds vs → RpK K m H' ds vs
 | [],_,h=>h
 | (_,d) :: ds,_,⟨v,r,e,h1,h2⟩=>⟨v,r,e,RpD.but b d v h1,RpK.but b ds r h2⟩
theorem RpKd.but (b : But D H H') : ∀ (ds : List (VL.D × VL.D)) (vs : List (NestedKey × Addr × V)),RpKd K m H ds vs → RpKd K m H' ds vs
 | [],_,h=>h
 | (k,d) :: ds,_,⟨n,c,v,r,e,q,h0,h1,h2⟩=>⟨n,c,v,r,e,q,RpD.but b k _ h0,RpD.but b d v h1,RpKd.but b ds r h2⟩
theorem RpF.but (b : But D H H') : ∀ (ds : List (Str × VL.D)) (vs : List (Str × V)),RpF K m H ds vs → RpF K m H' ds vs
 | [],_,h=>h
 | (_,d) :: ds,_,⟨v,r,e,h1,h2⟩=>⟨v,r,e,RpD.but b d v h1,RpF.but b ds r h2⟩
end
theorem RpU.but (b : But D H H') : ∀ (u : U) (v : V),RpU K m H u v → RpU K m H' u v
 | .d x,v,h=>RpD.but b x v h
 | .ref _,_,h=>h
theorem RpUs.but (b : But D H H') : ∀ (us : List U) (vs : List V),RpUs K m H us vs → RpUs K m H' us vs
 | [],_,h=>h
 | u :: us,_,⟨v,r,e,h1,h2⟩=>⟨v,r,e,RpU.but b u v h1,RpUs.but b us r h2⟩
theorem RpUK.but (b : But D H H') : ∀ (us : List (Key × U)) (vs : List (Key × V)),RpUK K m H us vs → RpUK K m H' us vs
 | [],_,h=>h
 | (_,u) :: us,_,⟨v,r,e,h1,h2⟩=>⟨v,r,e,RpU.but b u v h1,RpUK.but b us r h2⟩
theorem RpUKd.but (b : But D H H') : ∀ (us : List (VL.D × U)) (vs : List (NestedKey × Addr × V)),RpUKd K m H us vs → RpUKd K m H' us vs
 | [],_,h=>h
 | (k,u) :: us,_,⟨n,c,v,r,e,q,h0,h1,h2⟩=>⟨n,c,v,r,e,q,RpD.but b k _ h0,RpU.but b u v h1,RpUKd.but b us r h2⟩
theorem RpUF.but (b : But D H H') : ∀ (us : List (Str × U)) (vs : List (Str × V)),RpUF K m H us vs → RpUF K m H' us vs
 | [],_,h=>h
 | (_,u) :: us,_,⟨v,r,e,h1,h2⟩=>⟨v,r,e,RpU.but b u v h1,RpUF.but b us r h2⟩
theorem RpO.but (b : But D H H') {x : Addr} : ∀ (o : O) (ho : HO),RpO K m H x o ho → RpO K m H' x o ho ∧ ¬ Soft ho
 | .lst us,_,⟨vs,e,r⟩=>⟨⟨vs,e,RpUs.but b us vs r⟩,e ▸ ns_l⟩
 | .tup us,_,⟨vs,e,r⟩=>⟨⟨vs,e,RpUs.but b us vs r⟩,e ▸ ns_t⟩
 | .dct us,_,⟨vs,e,r⟩=>⟨⟨vs,e,RpUK.but b us vs r⟩,e ▸ ns_k⟩
 | .lck us,_,⟨ob,vs,e,r⟩=>⟨⟨ob,vs,e,RpUK.but b us vs r⟩,e ▸ ns_f⟩
 | .kdc w us,_,⟨ob,vs,e,z,r⟩=>⟨⟨ob,vs,e,z,RpUKd.but b us vs r⟩,e ▸ ns_p z⟩
 | .ins C us,_,⟨dx,vs,e,r⟩=>⟨⟨dx,vs,e,RpUF.but b us vs r⟩,e ▸ ns_i⟩
 | .tbl P q,_,⟨e,ps,e1,e2,h⟩=>⟨⟨e,ps,e1,e2,fun pos cv hc=>let ⟨c,g1,g2,g3⟩:=h pos cv hc; ⟨c,g1,g2,b.at' g3 ns_c⟩⟩,e1 ▸ ns_b⟩
theorem Rep.but {st : Store} (b : But D H H') (r : Rep K m st H) : Rep K m st H':=⟨r.len,r.nd,fun n o a h1 h2=>by
 obtain ⟨ho,e,q⟩:=r.cell n o a h1 h2
 obtain ⟨q1,q2⟩:=RpO.but b o ho q
 exact ⟨ho,b.at' e q2,q1⟩⟩
theorem RpEnv.but (b : But D H H') {env : VEnv} {σ : L2.St} (h : RpEnv K m H env σ) : RpEnv K m H' env σ :=
 ⟨h.len,fun i u hi=>let ⟨v,h1,h2⟩:=h.at' i u hi; ⟨v,h1,RpU.but b u v h2⟩⟩
end
/-- a kind of sets,as the mirrors see it -/
structure VSet (X : Cx) (ι : Type) extends SKd X ι where
 okd : List D → D → Bool
 soft : ∀ D i,Soft (O D i)
 R : List Addr → Hp → ι → List D → Prop
 r0 : ∀ m H,R m H e0 []
 rext : ∀ {m m' H H' i acc},Stay m H m' H' → R m H i acc → R m' H' i acc
 rbut : ∀ {D m H H' i acc},But D H H' → R m H i acc → R m H' i acc
 put : ∀ {m H i acc d y},R m H i acc → okd acc d = true → RpD X.K m H d y → ∃ i2,can y H i i2 ∧ R m H i2 (acc ++ [d])
section
variable {X : Cx} {ι : Type} {S : VSet X ι} {W : WX} {elt tg iter : Expr} {ifs : List Expr} {scope : Scope} {own : List (Str × Nat)} {pos : Pos} {is : List Nat} {g : U → G} {gt : F Bool} {fe : F U} {fi : F Itb}
/-- what holds between two turns -/
structure SgI (S : VSet X ι) (m1 : List Addr) (H1 : Hp) (D0 : Addr) (m' : List Addr) (st' : Store) (H' : Hp) (acc : List D) : Prop where
 rep : Rep X.K m' st' H'
 ext : Ext m1 H1 m' H'
 out : D0 ∉ m'
 at' : ∃ i,H' D0 = some (S.O D0 i) ∧ S.R m' H' i acc
theorem soft_nk {o : HO} (h : Soft o) : (∀ kvs,o ≠ .dK kvs) ∧ ∀ ps,o ≠ .tbl ps:=⟨fun k e=>ns_k (e ▸ h),fun k e=>ns_b (e ▸ h)⟩
theorem SgI.go {m1 m' m2 : List Addr} {H1 H' H2 : Hp} {D0 : Addr} {st' st2 : Store} {acc : List D} (I : SgI S m1 H1 D0 m' st' H' acc) (r : Rep X.K m2 st2 H2) (x : Ext m' H' m2 H2) : SgI S m1 H1 D0 m2 st2 H2 acc:=by
 obtain ⟨i,e,q⟩:=I.at'
 have s:=soft_nk (S.soft D0 i)
 obtain ⟨e2,n2⟩:=x.toStay.ex D0 _ I.out e s.1 s.2
 exact ⟨r,I.ext.trans x,n2,i,e2,S.rext x.toStay q⟩
variable {tj ij : Expr} {cj : List Expr} {js : List Nat} {gj : U → G} {gtj : F Bool} {fj : F U}
end
end VL
namespace VL
open PySem PySem.Spec PyProof.Rows L2
noncomputable def keyOf : D → Option Key
 | .int i=>some (.inl i)
 | .str x=>some (.inr x)
 | _=>none
section
variable {X : Cx} {ι : Type} {S : VSet X ι} {W : WX} {elt tg iter tj ij : Expr} {ifs cj : List Expr} {scope : Scope} {own : List (Str × Nat)} {pos : Pos} {is js ws : List Nat} {g gj : U → G} {gt gtj : F Bool} {fe fj : F U} {fi : F Itb}
end
end VL
namespace VL
open PySem PySem.Spec PyProof.Rows L2
section
variable {P : Program} {w : World} {A : Around} {E : Value → Shared → Prop} {s : Shared}
end
theorem vals_refs : ∀ {ks : List MTup} {us : List Value},Vals (ks.map fun q=>V.ref q.1) us → us = ks.map fun q=>Value.ref q.1
 | [],_,.nil=>rfl
 | q :: ks,_,.cons r z=>by
  cases r
  rw [vals_refs z]
  rfl
end VL
namespace VL
open PySem PySem.Spec PyProof.Rows L2
end VL
namespace VL
open PySem PySem.Spec PyProof.Rows L2
noncomputable abbrev PD:=PyData × D
noncomputable def leP (a b : PD) : Bool:=!PySem.W.dataLt b.1 a.1
noncomputable abbrev PDV:=(PyData × D) × V
noncomputable def encV (b : PDV) : PyData:=b.1.1
theorem each_vals : ∀ {bs : List PDV} {us : List Value},Vals (bs.map (·.2)) us → PySem.W.EachIs (fun u b=>RelV b.2 u) us bs
 | [],_,.nil=>.nil
 | _ :: _,_,.cons r t=>.cons r (each_vals t)
theorem vals_each : ∀ {bs : List PDV} {us : List Value},PySem.W.EachIs (fun u b=>RelV b.2 u) us bs → Vals (bs.map (·.2)) us
 | _,_,.nil=>.nil
 | _,_,.cons r t=>.cons r (vals_each t)
theorem mk_bs {K : PySem.W.Frag} {m : List Addr} {H : Hp} : ∀ {ds : List D} {ws : List V} {ps : List PyData},RpDs K m H ds ws → allM toP ds = some ps → ∃ bs : List PDV,bs.map (·.1) = ps.zip ds ∧ bs.map (·.2) = ws ∧ bs.length = ds.length ∧ ∀ b ∈ bs,RpD K m H b.1.2 b.2 ∧ toP b.1.2 = some b.1.1 ∧ b.1.1 ∈ ps
 | [],ws,ps,h,e=>by cases e; exact ⟨[],rfl,h.symm,rfl,nofun⟩
 | d :: ds,ws,ps,⟨v,r,e1,h1,h2⟩,e=>by
  unfold allM at e
  cases q1 : toP d with
  | none=>rw [q1] at e; cases e
  | some p0 =>
   rw [q1] at e
   cases q2 : allM toP ds with
   | none=>rw [q2] at e; cases e
   | some p1 =>
    rw [q2] at e
    cases e
    obtain ⟨bs,a1,a2,a3,a4⟩:=mk_bs h2 q2
    refine ⟨((p0,d),v) :: bs,by rw [List.map_cons,a1]; rfl,by rw [List.map_cons,a2,e1],by rw [List.length_cons,a3]; rfl,fun b hb=>?_⟩
    rcases List.mem_cons.mp hb with rfl | hb
    ·exact ⟨h1,q1,List.mem_cons_self⟩
    ·obtain ⟨z1,z2,z3⟩:=a4 b hb
     exact ⟨z1,z2,List.mem_cons_of_mem _ z3⟩
theorem rp_maps {K : PySem.W.Frag} {m : List Addr} {H : Hp} : ∀ {bs : List PDV},(∀ b ∈ bs,RpD K m H b.1.2 b.2) → RpDs K m H (bs.map fun b=>b.1.2) (bs.map (·.2))
 | [],_=>rfl
 | b :: bs,h=>⟨_,_,rfl,h b List.mem_cons_self,rp_maps fun c hc=>h c (List.mem_cons_of_mem _ hc)⟩
end VL
namespace VL
open PySem PySem.Spec L2
section
variable {K : PySem.W.Frag} {m : List Addr} {H : Hp} {st : Store}
end
section
variable {X : Cx} {W : WX} {e e2 : Expr} {fs : F (List U)} {pos p tpos : Pos} {elts : List Expr} {kk : Nat}
end
section
variable {X : Cx} {W : WX} {elt tg iter tj ij : Expr} {ifs cj : List Expr} {scope : Scope} {own : List (Str × Nat)} {pos : Pos} {is js ws vs : List Nat} {g gj : U → G} {gt gtj : F Bool} {fe fj : F U} {fi : F Itb}
end
end VL
namespace VL
open PySem PySem.Spec PyProof.Rows L2
section
variable {K : PySem.W.Frag} {m : List Addr} {H : Hp} {st : Store}
end
section
variable {w : World} {h : Heap} {a : Addr}
end
section
variable {P : Program} {w : World} {A : Around} {E : Value → Shared → Prop} {s : Shared}
end
theorem vals_ints {ns : List Int} : ∀ {us : List Value},Vals (ns.map V.int) us → us.length = ns.length ∧ ∀ (i : Nat) (v : Value),us[i]? = some v → ∃ k t,ns[i]? = some k ∧ v = .int k t:=by
 induction ns with
 | nil=>intro us h; cases h; exact ⟨rfl,fun i v e=>by cases e⟩
 | cons n ns ih =>
  intro us h
  cases h with
  | cons r z =>
   obtain ⟨tk,rfl⟩:=r
   obtain ⟨h1,h2⟩:=ih z
   refine ⟨by rw [List.length_cons,List.length_cons,h1],fun i v e=>?_⟩
   cases i with
   | zero=>rw [List.getElem?_cons_zero] at e; cases e; exact ⟨n,tk,rfl,rfl⟩
   | succ i=>rw [List.getElem?_cons_succ] at e; exact h2 i v e
end VL
namespace VL
open PySem PySem.Spec PyProof.Rows L2
section
variable {X : Cx} {pins : List (Addr × Obj)} {σ : L2.St} {H : Hp} {s : Shared} {m : List Addr}
mutual
theorem keyE_is (I : Inv X pins σ H s) : ∀ (d : D) (k : NestedKey) (v : V) (u : Value),keyE d = some k → RpD X.K m H d v → RelV v u → NestedIs s.heap k u
 | .non,_,_,_,e,h,q=>by cases e; cases h; cases q; exact .none
 | .int i,_,_,_,e,h,q=>by cases e; cases h; obtain ⟨t,rfl⟩:=q; exact .int i t
 | .str x,_,_,_,e,h,q=>by cases e; cases h; obtain ⟨t,rfl⟩:=q; exact .text x t
 | .tup ds,k,v,u,e,h,q=>by
  obtain ⟨a,vs,rfl,t,r⟩:=h
  cases q
  unfold keyE at e
  cases e1 : keyEs ds with
  | none=>rw [e1] at e; cases e
  | some ks =>
   rw [e1] at e
   cases e
   obtain ⟨its,hv,⟨o,ho,hc,n,hd⟩,-⟩:=I.tuple t.sq
   exact .tup ho hc hd (keyEs_is I ds ks vs its e1 r hv)
 | .bl _,_,_,_,e,_,_=>by cases e
 | .ty _,_,_,_,e,_,_=>by cases e
 | .obj _,_,_,_,e,_,_=>by cases e
 | .lst _,_,_,_,e,_,_=>by cases e
 | .dct _,_,_,_,e,_,_=>by cases e
 | .ins _ _,_,_,_,e,_,_=>by cases e
 | .scr _,_,_,_,e,_,_=>by cases e
 | .exc _ _ _ _,_,_,_,e,_,_=>by cases e
 | .kdc _ _,_,_,_,e,_,_=>by cases e
theorem keyEs_is (I : Inv X pins σ H s) : ∀ (ds : List D) (ks : List NestedKey) (vs : List V) (us : List Value),keyEs ds = some ks → RpDs X.K m H ds vs → Vals vs us → NestedAll s.heap ks us
 | [],_,vs,us,e,h,q=>by cases e; rw [show vs = [] from h] at q; cases q; exact .nil
 | d :: ds,ks,vs,us,e,h,q=>by
  obtain ⟨v,r,rfl,h1,h2⟩:=h
  unfold keyEs at e
  cases e1 : keyE d with
  | none=>rw [e1] at e; cases e
  | some k =>
   cases e2 : keyEs ds with
   | none=>rw [e1,e2] at e; cases e
   | some ks' =>
    rw [e1,e2] at e
    cases e
    cases q with
    | cons q1 q2=>exact .cons (keyE_is I d k v _ e1 h1 q1) (keyEs_is I ds ks' r _ e2 h2 q2)
end
theorem keyN_is (I : Inv X pins σ H s) {d : D} {k : NestedKey} {v : V} (e : keyN d = some k) (h : RpD X.K m H d v) : ∃ a,v = .ref a ∧ (nestedKind X.prog X.w).is s.heap k a:=by
 unfold keyN at e
 split at e
 ·rename_i ds
  split at e
  ·rename_i k' e1
   split at e
   ·rename_i hk
    cases e
    obtain ⟨a,vs,rfl,h'⟩:=id h
    exact ⟨a,rfl,keyE_is I _ _ _ _ e1 h rfl,hk⟩
   ·cases e
  ·cases e
 ·cases e
end
noncomputable def lookN {α : Type} (kvs : List (D × α)) (k : NestedKey) : Option α:=(kvs.find? fun kv=>decide (keyN kv.1 = some k)).map (·.2)
noncomputable def putN {α : Type} (kvs : List (D × α)) (d : D) (k : NestedKey) (v : α) : List (D × α) :=
 if (lookN kvs k).isSome = true then kvs.map fun kv=>if keyN kv.1 = some k then (kv.1,v) else kv else kvs ++ [(d,v)]
open Classical in
/-- a dict's pairs -/
noncomputable def kdG (w : World) (st : Store) : U → Option (List (D × U))
 | .d (.kdc w' kvs)=>if w' = w then some (kvs.map fun kv=>(kv.1,.d kv.2)) else none
 | .ref n=>match st[n]? with
  | some (.kdc w' us)=>if w' = w then some us else none
  | _=>none
 | _=>none
theorem kdG_ref {w : World} {st : Store} {n : Nat} {us : List (D × U)} (h : st[n]? = some (.kdc w us)) : kdG w st (.ref n) = some us:=by
 unfold kdG
 simp only [h,if_pos]
noncomputable def keyU : U → Option NestedKey
 | .d x=>keyN x
 | _=>none
section
variable {K : PySem.W.Frag} {m : List Addr} {H : Hp} {st : Store} {w : World}
theorem RpUKd.ofD : ∀ {ds : List (D × D)} {es : List (NestedKey × Addr × V)},RpKd K m H ds es → RpUKd K m H (ds.map fun kv=>(kv.1,.d kv.2)) es
 | [],_,h=>h
 | (k,d) :: ds,_,⟨n,b,v,r,e,q,h0,h1,h2⟩=>⟨n,b,v,r,e,q,h0,h1,RpUKd.ofD h2⟩
theorem kdG_rp (r : Rep K m st H) {u : U} {v : V} {us : List (D × U)} (h : RpU K m H u v) (e : kdG w st u = some us) : ∃ a o es,v = .ref a ∧ H a = some (PinO a o) ∧ KdOk w a o es ∧ RpUKd K m H us es:=by
 unfold kdG at e
 split at e
 ·split at e
  ·rename_i hw
   subst hw
   cases e
   obtain ⟨a,o,es,rfl,t,z,q⟩:=h
   exact ⟨a,o,es,rfl,t.2,z,RpUKd.ofD q⟩
  ·cases e
 ·rename_i n
  split at e
  ·rename_i us' hs
   split at e
   ·rename_i hw
    subst hw
    cases e
    obtain ⟨a,ha,rfl⟩:=h
    obtain ⟨ho,g1,o,es,rfl,z,q⟩:=r.cell n _ a hs ha
    exact ⟨a,o,es,rfl,g1,z,q⟩
   ·cases e
  ·cases e
 ·cases e
/-- the entries of the object -/
noncomputable abbrev XsOf (es : List (NestedKey × Addr × V)) (xs : List (NestedKey × Addr × Value)) : Prop:=Paired (fun (p : NestedKey × Addr × V) (q : NestedKey × Addr × Value)=>p.1 = q.1 ∧ p.2.1 = q.2.1 ∧ RelV p.2.2 q.2.2) es xs
theorem look_rp {k : NestedKey} : ∀ {us : List (D × U)} {es : List (NestedKey × Addr × V)} {xs : List (NestedKey × Addr × Value)},RpUKd K m H us es → XsOf es xs → match lookN us k with
  | some u=>∃ (p : Addr × Value) (v : V),atKey xs k = some p ∧ RpU K m H u v ∧ RelV v p.2
  | none=>atKey xs k = none
 | [],_,xs,h,q=>by
  rw [show _ = [] from h] at q
  cases q
  rfl
 | (d,u) :: us,_,xs,⟨n,b,v,r,e,hk,h0,h1,h2⟩,q=>by
  subst e
  cases q with
  | @cons _ y _ ys q1 q2 =>
   obtain ⟨e1,e2,e3⟩:=q1
   have ih:=look_rp (k:=k) h2 q2
   unfold lookN atKey at ih ⊢
   rw [List.find?_cons,List.find?_cons]
   simp only at e1 e2
   by_cases e : n = k
   ·rw [hk,decide_eq_true (congrArg some e),decide_eq_true (by rw [← e1]; exact e)]
    exact ⟨y.2,v,rfl,h1,e3⟩
   ·rw [hk,decide_eq_false (fun z=>e (Option.some.inj z)),decide_eq_false (by rw [← e1]; exact e)]
    exact ih
theorem put_map {k : NestedKey} {u : U} {v : V} {val : Value} (hu : RpU K m H u v) (hv : RelV v val) : ∀ {us : List (D × U)} {es : List (NestedKey × Addr × V)} {xs : List (NestedKey × Addr × Value)},RpUKd K m H us es → XsOf es xs →
  RpUKd K m H (us.map fun kv=>if keyN kv.1 = some k then (kv.1,u) else kv) (es.map fun p=>if p.1 = k then (p.1,p.2.1,v) else p) ∧ XsOf (es.map fun p=>if p.1 = k then (p.1,p.2.1,v) else p) (xs.map (putAt k val))
 | [],_,xs,h,q=>by
  rw [show _ = [] from h] at q ⊢
  cases q
  exact ⟨rfl,.nil⟩
 | (d,u0) :: us,_,xs,⟨n,b,v0,r,e,hk,h0,h1,h2⟩,q=>by
  subst e
  cases q with
  | @cons _ y _ ys q1 q2 =>
   obtain ⟨e1,e2,e3⟩:=q1
   obtain ⟨i1,i2⟩:=put_map hu hv h2 q2
   simp only at e1 e2
   by_cases e : n = k
   ·have c1 : (((d,u0) :: us).map fun kv=>if keyN kv.1 = some k then (kv.1,u) else kv) = (d,u) :: us.map fun kv=>if keyN kv.1 = some k then (kv.1,u) else kv:=by
     rw [List.map_cons]
     congr 1
     exact if_pos (by show keyN d = some k; rw [hk,e])
    have c2 : (((n,b,v0) :: r).map fun p=>if p.1 = k then (p.1,p.2.1,v) else p) = (n,b,v) :: r.map fun p=>if p.1 = k then (p.1,p.2.1,v) else p:=by
     rw [List.map_cons]
     congr 1
     exact if_pos e
    have c3 : (y :: ys).map (putAt k val) = (y.1,y.2.1,val) :: ys.map (putAt k val):=by
     rw [List.map_cons]
     congr 1
     exact if_pos (by rw [← e1]; exact e)
    rw [c1,c2,c3]
    exact ⟨⟨n,b,v,_,rfl,hk,h0,hu,i1⟩,.cons ⟨e1,e2,hv⟩ i2⟩
   ·have c1 : (((d,u0) :: us).map fun kv=>if keyN kv.1 = some k then (kv.1,u) else kv) = (d,u0) :: us.map fun kv=>if keyN kv.1 = some k then (kv.1,u) else kv:=by
     rw [List.map_cons]
     congr 1
     exact if_neg (by show ¬ keyN d = some k; rw [hk]; exact fun z=>e (Option.some.inj z))
    have c2 : (((n,b,v0) :: r).map fun p=>if p.1 = k then (p.1,p.2.1,v) else p) = (n,b,v0) :: r.map fun p=>if p.1 = k then (p.1,p.2.1,v) else p:=by
     rw [List.map_cons]
     congr 1
     exact if_neg e
    have c3 : (y :: ys).map (putAt k val) = y :: ys.map (putAt k val):=by
     rw [List.map_cons]
     congr 1
     exact if_neg (by rw [← e1]; exact e)
    rw [c1,c2,c3]
    exact ⟨⟨n,b,v0,_,rfl,hk,h0,h1,i1⟩,.cons ⟨e1,e2,e3⟩ i2⟩
theorem put_snoc {d : D} {k : NestedKey} {b : Addr} {u : U} {v : V} {val : Value} (hk : keyN d = some k) (hd : RpD K m H d (.ref b)) (hu : RpU K m H u v) (hv : RelV v val) : ∀ {us : List (D × U)} {es : List (NestedKey × Addr × V)} {xs : List (NestedKey × Addr × Value)},RpUKd K m H us es → XsOf es xs →
  RpUKd K m H (us ++ [(d,u)]) (es ++ [(k,b,v)]) ∧ XsOf (es ++ [(k,b,v)]) (xs ++ [(k,b,val)])
 | [],_,xs,h,q=>by
  rw [show _ = [] from h] at q ⊢
  cases q
  exact ⟨⟨k,b,v,[],rfl,hk,hd,hu,rfl⟩,.cons ⟨rfl,rfl,hv⟩ .nil⟩
 | (d0,u0) :: us,_,xs,⟨n,b0,v0,r,e,hk0,h0,h1,h2⟩,q=>by
  subst e
  cases q with
  | @cons _ y _ ys q1 q2 =>
   obtain ⟨i1,i2⟩:=put_snoc hk hd hu hv h2 q2
   exact ⟨⟨n,b0,v0,_,rfl,hk0,h0,h1,i1⟩,.cons q1 i2⟩
end
section
variable {X : Cx} {pins : List (Addr × Obj)} {σ : L2.St} {H : Hp} {s : Shared} {m : List Addr} {W : WX}
theorem xs_is (I : Inv X pins σ H s) : ∀ {us : List (D × U)} {es : List (NestedKey × Addr × V)} {xs : List (NestedKey × Addr × Value)},RpUKd X.K m H us es → XsOf es xs → ∀ x ∈ xs,(nestedKind X.prog X.w).is s.heap x.1 x.2.1
 | [],_,xs,h,q=>by
  rw [show _ = [] from h] at q
  cases q
  nofun
 | (d,u) :: us,_,xs,⟨n,b,v,r,e,hk,h0,h1,h2⟩,q=>by
  subst e
  cases q with
  | @cons _ y _ ys q1 q2 =>
   obtain ⟨e1,e2,e3⟩:=q1
   intro x hx
   rcases List.mem_cons.mp hx with rfl | hx
   ·obtain ⟨a,ea,hi⟩:=keyN_is I hk h0
    cases ea
    simp only at e1 e2
    rw [← e1,← e2]
    exact hi
   ·exact xs_is I h2 q2 x hx
theorem kd_dict (I : Inv X pins σ H s) {w : World} (hw : w = X.w) {a : Addr} {o : Obj} {us : List (D × U)} {es : List (NestedKey × Addr × V)} (ha : H a = some (PinO a o)) (z : KdOk w a o es) (q : RpUKd X.K m H us es) :
  es.length ≤ sizeLine ∧ (a == sysModules) = false ∧ ∃ xs,XsOf es xs ∧ s.heap.DictOfH (nestedKind X.prog X.w) a xs:=by
 subst hw
 obtain ⟨h1,h2,xs,h3,h4,ents,ep,h5,h6,h7⟩:=z
 exact ⟨h1,h2,xs,h3,o,ents,ep,(I.hok a _ ha).1,h5,h6,h7,xs_is I q h3,h4⟩
theorem room8 {X : Cx} (hu : X.A.units + 64 < cLine) : (nestedKind X.prog X.w).room X.A.in1:=by
 show X.A.in1.units + 8 < cLine
 have : X.A.in1.units ≤ X.A.units + 1:=Nat.le_refl _
 omega
noncomputable def oIxN (w : World) : P2:=fun a b st=>match kdG w st a with
 | some kvs=>match keyU b with
  | some k=>lookN kvs k
  | none=>none
 | none=>none
theorem keyU_rp {u : U} {v : V} {k : NestedKey} (I : Inv X pins σ H s) (h : RpU X.K m H u v) (e : keyU u = some k) : ∃ a,v = .ref a ∧ (nestedKind X.prog X.w).is s.heap k a:=by
 cases u with
 | d x=>exact keyN_is I e h
 | ref n=>cases e
theorem at_some {us : List (D × U)} {es : List (NestedKey × Addr × V)} {xs : List (NestedKey × Addr × Value)} {k : NestedKey} (q : RpUKd X.K m H us es) (hx : XsOf es xs) : (atKey xs k).isSome = (lookN us k).isSome:=by
 have:=look_rp (k:=k) q hx
 cases e : lookN us k with
 | none=>rw [e] at this; rw [this]; rfl
 | some u=>rw [e] at this; obtain ⟨p,v,h,-⟩:=this; rw [h]; rfl
theorem kd_typeIs (I : Inv X pins σ H s) {a : Addr} {o : Obj} {w : World} {es : List (NestedKey × Addr × V)} (ha : H a = some (PinO a o)) (z : KdOk w a o es) : s.TypeIs (.ref a) "dict":=by
 obtain ⟨-,-,xs,-,-,en,ep,hx,hd,-⟩:=z
 exact ⟨o,(I.hok a _ ha).1,hx.1⟩
theorem ix_kd {w : World} (hw : w = X.w) (hu : X.A.units + 64 < cLine) : IxR X (rG X.K (oIxN w)):=by
 intro value slice pins s σ H x y v u Q I rx ry h hs
 obtain ⟨m,st,a,b,r,ha,hb,p⟩:=h
 unfold oIxN at p
 cases e : kdG w st a with
 | none=>rw [e] at p; exact p.elim
 | some kvs =>
  rw [e] at p
  cases ek : keyU b with
  | none=>rw [ek] at p; exact p.elim
  | some k =>
   simp only [ek] at p
   cases el : lookN kvs k with
   | none=>rw [el] at p; exact p.elim
   | some z0 =>
    rw [el] at p
    obtain ⟨d,o,es,rfl,g1,z,q⟩:=kdG_rp r ha e
    obtain ⟨c,rfl,hi⟩:=keyU_rp I hb ek
    obtain ⟨-,hsm,xs,hx,hd⟩:=kd_dict I hw g1 z q
    have l:=look_rp (k:=k) q hx
    rw [el] at l
    obtain ⟨pr,v0,hp,hu0,hv⟩:=l
    cases rx
    cases ry
    exact tail_any (ops:=[.ref d,.ref c]) (kd_typeIs I g1 z) PySem.F.slot_dict_getitem.lookup (wpAny_getItem_heap (room8 hu) hi hd hp ⟨v0,H,I.tok _,hv,p _ H hu0 r (Ext.refl _ _)⟩) hs
theorem d_ixN {w : World} (hw : w = X.w) (hu : X.A.units + 64 < cLine) {a b : Expr} {fa fb : F U} {pos : Pos} (ha : DE X W a fa) (hb : DE X W b fb) (hs : PlainIx b:=by intro _ _; rfl) : DE X W (.Subscript a b pos) (f2 (oIxN w) fa fb) :=
 ⟨PE.imp (pe_ix (ix_kd hw hu) ha.pe hb.pe hs) fun _ _ _ h=>t_op2 h⟩
theorem pin_ok {P : Program} {w : World} {H : Hp} {h : Heap} {a : Addr} {o : Obj} (ho : h.get? a = some o) : ObjOk P w H h a (PinO a o):=⟨ho,⟨o,ho⟩,fun _ _ h1 k=>k o h1⟩
noncomputable def fKdc (w : World) : F U:=fun _ st=>.ok (.ref st.length) (st ++ [.kdc w []])
theorem d_knew {w : World} {pos : Pos} : DE X W (.Dict [] [] pos) (fKdc w):=⟨⟨fun pins s σ H Q I ⟨m,env,st,r,re,p⟩=>by
 have hg : (s.heap.push { cls:=.type "dict",data:=.dict #[] }).get? s.heap.objs.size = some { cls:=.type "dict",data:=.dict #[] }:=Heap.get?_push_size _ rfl
 have hn : H s.heap.objs.size = none:=I.hok.fresh (Nat.le_refl _)
 refine wpAny_Dict_empty ⟨.ref s.heap.objs.size,_,I.laid (a:=s.heap.objs.size) (o:=PinO s.heap.objs.size { cls:=.type "dict",data:=.dict #[] }) (t':=s.toks) (fun _ _ q=>Heap.get?_push_of_some _ q) (Nat.le_refl _) (pin_ok hg),rfl,?_⟩
 refine p _ (m ++ [s.heap.objs.size]) _ ⟨s.heap.objs.size,by rw [← r.len]; simp,rfl⟩ (r.push hn ⟨_,[],rfl,⟨Nat.zero_le _,beq_eq_false_iff_ne.mpr (Ne.symm (Nat.ne_of_lt I.big)),[],.nil,List.nodup_nil,#[],0,⟨rfl,rfl,rfl⟩,rfl,rfl⟩,rfl⟩) (ext_push r hn _)⟩⟩
open Classical in
noncomputable def setUN (w : World) (o i u : U) (st : Store) : Option Store:=match o,i with
 | .ref n,.d x=>match st[n]?,keyN x with
  | some (.kdc w' kvs),some k=>if w' = w ∧ kvs.length < sizeLine then some (st.set n (.kdc w (putN kvs x k u))) else none
  | _,_=>none
 | _,_=>none
noncomputable def tgSubN (w : World) (fo fi : F U) : U → G:=fun u env st=>match fo env st with
 | .ok o st1=>match fi env st1 with
  | .ok i st2=>match setUN w o i u st2 with
   | some st'=>.ok env .nx st'
   | none=>.bad
  | _=>.bad
 | _=>.bad
theorem nf_p {H : Hp} {a : Addr} {o : Obj} (h : H a = some (PinO a o)) : NF H a:=fun o u z=>by rw [h] at z; cases z
theorem rpk_len {K : PySem.W.Frag} {m : List Addr} {H : Hp} : ∀ {us : List (D × U)} {es : List (NestedKey × Addr × V)},RpUKd K m H us es → us.length = es.length
 | [],_,h=>by rw [show _ = [] from h]; rfl
 | (k,u) :: us,_,⟨n,b,v,r,e,q,h0,h1,h2⟩=>by rw [e,List.length_cons,List.length_cons,rpk_len h2]
noncomputable def tSetN (K : PySem.W.Frag) (w : World) : TSet:=fun o i v H Q=>∃ m st a b u,Rep K m st H ∧ RpU K m H a o ∧ RpU K m H b i ∧ RpU K m H u v ∧ (match setUN w a b u st with
 | some st'=>∀ H',Rep K m st' H' → Ext m H m H' → Q H'
 | none=>False)
theorem set_okN {w : World} (hw : w = X.w) (hu : X.A.units + 64 < cLine) : PSet X (tSetN X.K w):=by
 intro pins s σ H o i v ov iv u Q I ro ri rv h
 obtain ⟨m,st,a,b,z0,r,ha,hb,hv,p⟩:=h
 cases e : setUN w a b z0 st with
 | none=>rw [e] at p; exact p.elim
 | some st' =>
  rw [e] at p
  unfold setUN at e
  split at e
  ·rename_i n x
   split at e
   ·rename_i w' kvs k hs hk
    split at e
    ·rename_i hc
     obtain ⟨rfl,hz⟩:=hc
     cases e
     obtain ⟨d,hd,rfl⟩:=ha
     obtain ⟨ho,g1,ob,es,rfl,kz,q⟩:=r.cell n _ d hs hd
     obtain ⟨c,rfl,hi⟩:=keyN_is I hk hb
     obtain ⟨h1,hsm,xs,hx,hdict⟩:=kd_dict I hw g1 kz q
     cases ro
     cases ri
     have hel : es.length < sizeLine:=by rw [← rpk_len q]; exact hz
     have hxl : xs.length ≤ sizeLine:=by rw [← Paired.length hx]; exact h1
     refine wpAny_setItem_heap (hsz:=hxl) (room8 hu) hi hdict fun h' dd' hsb=>?_
     obtain ⟨ob',en,ep,hq,h2,h3,h4,h5,h6⟩:=dd'
     have I' : Inv X pins σ (upd H d (PinO d ob')) { s with heap:=h',toks:=s.toks + (nestedKind X.prog X.w).draws k }:=L2.d_write I (by rw [g1]; exact True.intro) hsb ⟨_,hq⟩ (pin_ok hq)
     refine ⟨_,I',?_⟩
     have hmm : d ∈ m:=List.mem_of_getElem? hd
     have hext:=ext_write hmm (PinO d ob') (nf_p g1)
     refine p _ (r.write hd ?_ (nf_p g1)) hext
     have ats:=at_some (X:=X) (k:=k) q hx
     by_cases hl : (lookN kvs k).isSome = true
     ·obtain ⟨i1,i2⟩:=put_map (k:=k) hv rv q hx
      have hst : storedH xs k c u = xs.map (putAt k u):=by unfold storedH; rw [if_pos (by rw [ats]; exact hl)]
      rw [hst] at h4 h6
      refine ⟨ob',_,rfl,⟨by rw [List.length_map]; exact h1,hsm,_,i2,h6,en,ep,h2,h3,?_⟩,?_⟩
      ·rw [h4,hw]
       rfl
      ·have : putN kvs x k z0 = kvs.map fun kv=>if keyN kv.1 = some k then (kv.1,z0) else kv:=if_pos hl
       rw [this]
       exact i1.ext hext
     ·obtain ⟨i1,i2⟩:=put_snoc hk hb hv rv q hx
      have hst : storedH xs k c u = xs ++ [(k,c,u)]:=by unfold storedH; rw [if_neg (by rw [ats]; exact hl)]
      rw [hst] at h4 h6
      refine ⟨ob',_,rfl,⟨by rw [List.length_append,List.length_singleton]; omega,hsm,_,i2,h6,en,ep,h2,h3,?_⟩,?_⟩
      ·rw [h4,hw]
       rfl
      ·have : putN kvs x k z0 = kvs ++ [(x,z0)]:=if_neg hl
       rw [this]
       exact i1.ext hext
    ·cases e
   ·cases e
  ·cases e
theorem dg_subN {w : World} (hw : w = X.w) (hu : X.A.units + 64 < cLine) {o i : Expr} {fo fi : F U} {pos : Pos} (ho : DE X W o fo) (hi : DE X W i fi)
  (ha : ∀ (v : Value),assign (Expr.Subscript o i pos) X.env v = (do
    let ov ← holding [v] (eval o X.env)
    let iv ← holding [v,ov] (eval i X.env)
    standAt pos
    holding [v,ov,iv] (setItem ov iv v)
    release [v,ov,iv] []):=by intro _; rfl) : DG X (.Subscript o i pos) [] (tgSubN w fo fi) :=
 ⟨PG.imp (pg_sub ho.pe hi.pe (set_okN hw hu) ha) fun v σ H Q ⟨m,env,st,u,r,re,ru,p⟩=>by
  cases e1 : fo env st with
  | bad=>simp only [tgSubN,e1] at p
  | ex c fs st1=>simp only [tgSubN,e1] at p
  | ok a st1 =>
   simp only [tgSubN,e1] at p
   refine ⟨m,env,st,r,re,?_⟩
   rw [e1]
   intro ov m1 H1 h1 r1 x1
   refine ⟨m1,env,st1,r1,re.ext x1,?_⟩
   cases e2 : fi env st1 with
   | bad=>simp only [e2] at p
   | ex c fs st1=>simp only [e2] at p
   | ok b st2 =>
    simp only [e2] at p
    intro iv m2 H2 h2 r2 x2
    refine ⟨m2,st2,a,b,u,r2,h1.ext x2,h2,(ru.ext x1).ext x2,?_⟩
    cases e3 : setUN w a b u st2 with
    | none=>simp only [e3] at p
    | some st3 =>
     simp only [e3] at p
     exact fun H' r3 x3=>p σ m2 H' (re.ext (x1.trans (x2.trans x3))) r3 (x1.trans (x2.trans x3)) (Out.refl _ _)⟩
theorem nx_subN {w : World} {fo fi : F U} : TgNx (tgSubN w fo fi):=fun u env st=>by
 unfold tgSubN
 cases fo env st with
 | bad=>trivial
 | ex c fs st1=>trivial
 | ok a st1 =>
  simp only
  cases fi env st1 with
  | bad=>trivial
  | ex c fs st1=>trivial
  | ok b st2 =>
   simp only
   cases setUN w a b u st2 with
   | none=>trivial
   | some s=>trivial
end
end VL
namespace VL
open PySem PySem.Spec PyProof.Rows L2
section
variable {X : Cx} {W : WX} {fo : F U} {o : Expr} {apos cpos : Pos}
end
noncomputable def mCount : U → List U → Store → Option U:=fun u us st=>match us with
 | [y]=>match getL st u with
  | some _=>match asP st u,asP st y with
   | some (.list qs),some p=>if SeqAt.shaped p = true ∧ SeqAt.shaped (.list qs) = true then some (.d (.int ((qs.countP fun z=>PyData.eqv z p : Nat) : Int))) else none
   | _,_=>none
  | none=>none
 | _=>none
theorem mt_countD {X : Cx} (hu : X.A.units + 65 < cLine) : MtR X "list.count" (fun x xs H Q=>∃ (a : Addr) (y : V) (d : PyData) (ds : List PyData),x = V.ref a ∧ xs = [y] ∧ Dp X.K H (V.ref a) (.list ds) ∧ Dp X.K H y d ∧ SeqAt.shaped (.list ds) = true ∧ SeqAt.shaped d = true ∧ Q (.int ((ds.countP fun z=>PyData.eqv z d : Nat) : Int)) H):=by
 intro pins s σ H x xs v us Q I rx rxs h
 obtain ⟨a,y,d,ds,rfl,rfl,hl,hy,sl,sd,q⟩:=h
 cases rx
 cases rxs with
 | cons ry rt =>
  rename_i uy ut
  cases rt
  obtain ⟨bs,r1⟩:=Dp.reads I d y uy hy ry
  have hxs : PyData.canLayAll0 ds = true:=SeqAt.canLay_of_shaped sl
  have hroom : X.A.units + 1 + min (PyData.depthAll ds) d.depth < cLine:=room_in_shaped sd hu
  cases hl with
  | lst hs ha =>
   obtain ⟨its,rv,⟨⟨cls,dd,data,sls⟩,n,ho,hc,hdn,hdt⟩,hlen⟩:=I.list hs
   simp only at hc hdt
   subst hc hdt
   obtain ⟨as,h4⟩:=Dp.readsAll I ds _ its ha rv
   have hmap : its.map (SeqAt.readOf s.heap) = ds:=SeqAt.readsAll_map ds its as hxs h4
   have e : its.toArray.toList.countP (fun y=>PyData.eqv (SeqAt.readOf s.heap y) d) = ds.countP fun y=>PyData.eqv y d:=by
    rw [← hmap,List.countP_map]
    rfl
   refine call_meets PySem.F.slot_list_count ⟨_,ho,rfl⟩ PySem.F.entry_list_count (PySem.F.args_list_count_2 _ _) (SeqAt.list_countAt a its.toArray n dd sls uy _) ⟨ho,SeqAt.items_eqAt (vs:=its.toArray) (show ReadsAll s.heap its.toArray.toList ds as from h4) r1 hxs (SeqAt.canLay_of_shaped sd) hroom,?_⟩
   rw [e]
   exact ⟨.int ((ds.countP fun z=>PyData.eqv z d : Nat) : Int),H,I.tok _,⟨s.toks,rfl⟩,q⟩
theorem mt_count' {X : Cx} (hu : X.A.units + 65 < cLine) : MtR X "list.count" (mM X.K (pu4 mCount)):=by
 refine MtR.imp (mt_countD hu) fun x vs H Q ⟨m,st,u,us,r,ru,rus,p⟩=>?_
 obtain ⟨w,e,p⟩:=p.pu4
 unfold mCount at e
 split at e
 ·obtain ⟨v,rfl,hv⟩:=rus.one
  split at e
  ·rename_i zs hz
   obtain ⟨a,ws,rfl,_,_⟩:=getL_rp r ru hz
   split at e
   ·rename_i qs pd h1 h2
    split at e
    ·rename_i hsh
     cases e
     exact ⟨a,v,pd,qs,rfl,rfl,asP_dp r ru h1,asP_dp r hv h2,hsh.2,hsh.1,p.here r rfl⟩
    ·cases e
   ·cases e
  ·cases e
 ·cases e
noncomputable def oReprO (C : Addr) (mf : List U → M U) : P3:=fun us st=>match us with
 | [u]=>match insU st u with
  | some (C',_)=>if C' = C then match mf [u] st with
   | .ok (.d (.str x)) st'=>some (.d (.str x),st')
   | _=>none
   else none
  | none=>none
 | _=>none
theorem cr_reprO {X : Cx} {C f : Addr} {k : Nat} {mf : List U → M U} (hM : Meth X.K C "__repr__" f) (F : Fd X.prog X.w X.K X.mg X.base f k 1 [] gPos mf) (hr : RoomG (k + 1) X.A) : CallR X (.builtin "repr") (rM X.K (oReprO C mf)):=by
 intro pins s σ H xs us Q I rv h
 obtain ⟨m,st,as,r,ra,p⟩:=h
 unfold oReprO at p
 split at p
 ·rename_i u
  split at p
  ·rename_i C' ws hi
   split at p
   ·rename_i hc
    subst hc
    split at p
    ·rename_i n st' hm
     obtain ⟨x,rfl,rx⟩:=ra.one
     obtain ⟨a,dx,vs,rfl,ha,_⟩:=insU_rp r rx hi
     obtain ⟨w,rfl,rw'⟩:=L2.vals1 rv
     cases rw'
     obtain ⟨od,Ia⟩:=inst_of I ha
     obtain ⟨mf',Fr'⟩:=I.fr
     have hu:=hr.rm.un
     have hr1 : RoomG k X.A.in1:=⟨⟨hr.rm.hd,by have:=hr.rm.dp; show X.A.depth + 3 * k + 5 < _; omega,by show X.A.units + 1 + 16 * k + 200 < _; omega⟩,hr.gd⟩
     refine PySem.W.repr_K (by show X.A.units + 1 < _; omega) Fr' I.ok.mod.kin Ia hM.at_ hM.fn ?_
     refine wpAny_mono (run_own (Q:=fun v H'=>v = .str n ∧ Q (.str n) H') F hr1 rfl I (vs:=[.ref a]) (us:=[.ref a]) (.cons rfl .nil) r ra rfl ?_) (fun v s' hv=>?_) fun _ _ e=>e
     ·show PU X.K m H _ _ (mf [u] st)
      rw [hm]
      intro v m' H' h1 h2 h3
      cases (show v = .str n from h1)
      exact ⟨rfl,p (.str n) m' H' rfl h2 h3⟩
     ·obtain ⟨y,H',I',ry,ey,q⟩:=hv
      subst ey
      obtain ⟨t,rfl⟩:=(show ∃ t,v = Value.str n t from ry)
      exact ⟨.str n,H',I',⟨t,rfl⟩,q⟩
    ·exact p.elim
   ·exact p.elim
  ·exact p.elim
 ·exact p.elim
end VL
namespace VL
open PySem PySem.Spec PyProof.Rows L2
/-- a def with one default,a number -/
structure FunE (K : PySem.W.Frag) (x qual : Str) (st : Stmt) (f : Addr) (j : Int) (fd : FuncData) : Prop where
 ex : ∃ (oc : Value) (od : Option Addr) (T : Addr) (kV doc pm : Value) (an : Option Addr) (cdv ct : Value) (osl : Array (Option Value)),
  fd = PySem.W.fnOf x qual (defArgs st) (defBody st) (defScope st) (.ref T) kV doc pm an cdv ct ∧ K.lookup f = some ⟨oc,od,.func fd,osl⟩ ∧ PySem.W.codeIn K cdv qual = true ∧
  ∃ (o : Obj) (t : Tok) (n : Nat),K.lookup T = some o ∧ o.data = .seq #[.int j t] n
 kp : PySem.W.keepIn K (.ref f) = true
section
variable {P : Program} {w : World} {K : PySem.W.Frag} {mg : Str → Option Value} {base : Heap}
end
section
variable {K : PySem.W.Frag} {x qual : Str} {st : Stmt} {f : Addr} {j : Int} {fd : FuncData} {ps : List Str}
theorem FunE.tok (F : FunE K x qual st f j fd) : ∃ t0,∃ (T : Addr) (o : Obj) (n : Nat) (oc : Value) (od : Option Addr) (kV doc pm : Value) (an : Option Addr) (cdv ct : Value) (osl : Array (Option Value)),fd = PySem.W.fnOf x qual (defArgs st) (defBody st) (defScope st) (.ref T) kV doc pm an cdv ct ∧ K.lookup T = some o ∧ o.data = .seq #[.int j t0] n:=by
 obtain ⟨oc,od,T,kV,doc,pm,an,cdv,ct,osl,e,lk,hcd,o,t,n,lT,oT⟩:=F.ex
 exact ⟨t,T,o,n,oc,od,kV,doc,pm,an,cdv,ct,osl,e,lT,oT⟩
end
namespace Hd
end Hd
end VL
namespace VL
open PySem PySem.Spec PyProof.Rows L2
section
variable {X : Cx}
end
end VL
namespace VL
open PySem PySem.Spec PyProof.Rows L2
section
variable {X : Cx} {W : WX} {elt tg iter : Expr} {ifs : List Expr} {scope : Scope} {own : List (Str × Nat)} {pos : Pos} {is : List Nat} {g : U → G} {gt : F Bool} {fe : F U} {fi : F Itb}
end
end VL
namespace VL
open PySem PySem.Spec PyProof.Rows L2
section
open PySem.HandSPX
end
section
variable {M : Model} {A : Around} {E : Value → Shared → Prop} {s : Shared} {env : Env}
end
section
variable {X : Cx} {E : XK} {elt tg iter : Expr} {ifs : List Expr} {scope : Scope} {own : List (Str × Nat)} {pos pos' : Pos} {is vs : List Nat} {g : U → G} {gt : F Bool} {fe : F U} {fi : F Itb}
end
end VL
namespace VL
open PySem PySem.Spec PyProof.Rows L2
section
variable {α : Type} {f fx fy fz fo : F U} {fs fs' : F (List U)} {b b1 b2 : F Bool} {env env1 : VEnv} {s s1 s2 s3 st : Store} {u v w x y z : U} {us vs ws : List U} {k k1 k2 : Bool} {n m p : Nat} {d : D} {ds : List D} {c : O}
theorem x1 {o : P1} (h1 : fx env s = .ok x s1) (h : o x s1 = some v) : f1 o fx env s = .ok v s1:=by
 unfold f1 bnd
 rw [h1]
 simp only [h,R.of]
theorem x2 {o : P2} (h1 : fx env s = .ok x s1) (h2 : fy env s1 = .ok y s2) (h : o x y s2 = some v) : f2 o fx fy env s = .ok v s2:=by
 unfold f2 bnd
 rw [h1]
 simp only
 rw [h2]
 simp only [h,R.of]
/-- grown -/
noncomputable def Gr (st s : Store) : Prop:=∃ cs,s = st ++ cs
theorem Gr.cut (h : Gr st s) (w : WF st) : cutS st.length s = some st:=by
 obtain ⟨cs,rfl⟩:=h
 exact w.cutA cs
end
section
variable {s s' : Store} {p : Nat} {xs : List U} {y : U} {ds : List D}
end
section
variable {N B C N' : VEnv → Store → Prop} {T : U → Store → Prop} {X : Value → XF → VEnv → Store → Prop} {f fx fy fo : F U} {fs : F (List U)} {b : F Bool} {g g1 g2 : G} {env env1 env2 : VEnv} {s s1 s2 st : Store} {u v x y : U} {us : List U} {k : Bool} {n m p i j : Nat}
end
section
variable {Q : U → Store → Prop} {E : Value → XF → Store → Prop} {st s s1 : Store} {u v : U}
end
section
variable {N B C : VEnv → Store → Prop} {T : U → Store → Prop} {X : Value → XF → VEnv → Store → Prop} {f fx fy fo : F U} {fs : F (List U)} {fc : F (List U × List U)} {tg : U → G} {env : VEnv} {s s1 s2 st : Store} {u v : U} {us vs ws : List U} {n m : Nat} {c : Value} {xf : XF} {gU : List U → List U → List U} {mf : List U → M U}
end
section
variable {α : Type} {N B C : VEnv → Store → Prop} {T : U → Store → Prop} {X : Value → XF → VEnv → Store → Prop} {fi : F Itb} {tg : U → G} {body : G} {env : VEnv} {s s1 : Store} {us : List U}
end
section
variable {α : Type} {fi : F Itb} {tg : U → G} {gs : List U → G} {tt : F Bool} {fe : F U} {vs : List Nat} {env env0 env1 env2 : VEnv} {st s s1 s2 : Store} {us : List U} {u : U} {d : D} {p : Bool} {n : Nat}
end
end VL
namespace VL
open PySem PySem.Spec PyProof.Rows L2
section
variable {X : Cx} {W : WX} {kx vx tg iter : Expr} {ifs : List Expr} {scope : Scope} {own : List (Str × Nat)} {pos : Pos} {is : List Nat} {g : U → G} {gt : F Bool} {fk fv : F U} {fi : F Itb}
end
section
variable {P : Program} {w : World} {A : Around} {E : Value → Shared → Prop} {s : Shared} {a : Addr} {S : Str → Bool} {n : Nat}
end
section
variable {X : Cx} {W : WX} {elt tg iter : Expr} {ifs : List Expr} {scope : Scope} {own : List (Str × Nat)} {pos : Pos} {is vs : List Nat} {g : U → G} {gt : F Bool} {fe : F U} {fi : F Itb}
end
end VL
namespace VL
open PySem PySem.Spec PyProof.Rows L2
section
variable {X : Cx} {E : XK} {elt tg iter : Expr} {ifs : List Expr} {scope : Scope} {own : List (Str × Nat)} {pos pos' : Pos} {is vs : List Nat} {g : U → G} {gt : F Bool} {fe : F U} {fi : F Itb}
end
end VL
section lt
open PySem PySem.SeqAt
open PySem.AutoSeq1 (wpAny_loadPart')
open PySem.MeetsSeq PySem.MeetsSeq2 PySem.MeetsSeq3
/-- t < u of two tuples whose first items differ -/
theorem VL.tuple_lt_first (l b : Addr) (xs ys : Array Value) (n n2 : Nat) (dd dd2 : Option Addr) (sl sl2 : Array (Option Value)) (k : Bool) :
  Meets (Builtin.«tuple.__lt__» ⟨[.ref l,.ref b],[]⟩)
   (fun A R s=>s.heap.get? l = some { cls:=.type "tuple",dict:=dd,data:=.seq xs n,slots:=sl } ∧ s.heap.get? b = some { cls:=.type "tuple",dict:=dd2,data:=.seq ys n2,slots:=sl2 } ∧
    (∃ x y r,xs.toList.zip ys.toList = (x,y) :: r ∧ EqAt A.in1 s x y false ∧ RcLt A.in1 s x y k) ∧ R (.ok (.ret (.bool k))) s) :=
 .of_wp fun prog w A R s h=>by
  obtain ⟨hp,g,d,tk,os⟩:=s
  obtain ⟨hl,hb,⟨x,y,r,hz,he,hk⟩,h⟩:=h
  have f2:=AutoSeq1.sub_tuple_tuple
  wp_walk using wpAny_loadPart' hl,wpAny_loadPart' hb,wpAny_forIn_list _ (fun rest b s'=>b.1 = none ∧ s' = ⟨hp,g,d,tk,os⟩ ∧ rest = (x,y) :: r) _
  case turn =>
   rintro ⟨p,q⟩ rest b s' ⟨-,rfl,e⟩
   cases e
   refine wpAny_bind (he prog w _ _ ?_)
   have hk':=hk prog w
   wp_walk using hk'
   exact ⟨_,rfl,by simpa using h⟩
  case fin =>
   rintro b s' ⟨-,-,e⟩
   cases e
  case h=>exact ⟨rfl,rfl,hz⟩
theorem VL.rcLt_first {A : Around} {s : Shared} {l b : Addr} {xs ys : Array Value} {k : Bool} {x y : Value} {r : List (Value × Value)} (hl : s.heap.IsTuple l xs) (hb : s.heap.IsTuple b ys) (hu : A.units < cLine) (hz : xs.toList.zip ys.toList = (x,y) :: r) (he : EqAt A.in1 s x y false) (hk : RcLt A.in1 s x y k) :
  RcLt A s (.ref l) (.ref b) k:=fun prog w E Q h=>by
 obtain ⟨⟨c1,d1,t1,s1⟩,o1,e1,n1,q1⟩:=id hl
 obtain ⟨⟨c2,d2,t2,s2⟩,o2,e2,n2,q2⟩:=id hb
 cases e1
 cases q1
 cases e2
 cases q2
 exact richCompare_meets_room (op:=.Lt) ⟨_,o1,rfl⟩ ⟨_,o2,rfl⟩ F.slot_tuple_lt F.entry_tuple_lt (F.args_tuple_lt_2 _ _) (VL.tuple_lt_first l b xs ys n1 n2 d1 d2 s1 s2 k)
  ⟨o1,o2,⟨x,y,r,hz,he,hk⟩,show Value.bool k ≠ Value.notImplemented ∧ Q (.bool k) s from ⟨nofun,h⟩⟩ hu
end lt
namespace VL
open PySem PySem.Spec PyProof.Rows L2
/-- the first items,all the way down,are texts that differ -/
noncomputable def sdP : PyData → PyData → Bool
 | .str a,.str b=>a != b
 | .tuple (x :: _),.tuple (y :: _)=>sdP x y
 | _,_=>false
noncomputable def okP (x y : PyData) : Bool:=PySem.W.alike x y || sdP x y
theorem sd_eqv : ∀ (x y : PyData),sdP x y = true → PyData.eqv x y = false
 | .str a,.str b,h=>by
  have : a ≠ b:=by simpa [sdP] using h
  simp [PyData.eqv,this]
 | .tuple (x :: xs),.tuple (y :: ys),h=>by
  have:=sd_eqv x y (by simpa [sdP] using h)
  simp [PyData.eqv,PyData.eqvAll,this]
theorem sd_lex : ∀ (x y : PyData),sdP x y = true → ∀ l m : List (Int ⊕ List Nat),PyProof.Rows.lexLt itemOrd (PySem.W.keyToks x ++ l) (PySem.W.keyToks y ++ m) = PySem.W.dataLt x y
 | .str a,.str b,h,l,m=>(PySem.W.toks_eqv (.str a) (.str b) rfl).2 (sd_eqv _ _ h) l m
 | .tuple (x :: xs),.tuple (y :: ys),h,l,m=>by
  have ih:=sd_lex x y (by simpa [sdP] using h)
  have e : ∀ l m,PyProof.Rows.lexLt itemOrd (PySem.W.keyToks (.tuple (x :: xs)) ++ l) (PySem.W.keyToks (.tuple (y :: ys)) ++ m) = PySem.W.dataLt x y:=fun l m=>by
   simp only [PySem.W.keyToks,PySem.W.keyToksAll,List.cons_append,List.append_assoc]
   exact (lex_self (O:=itemOrd) _ _ _).trans (ih _ _)
  have e0:=e [] []
  rw [List.append_nil,List.append_nil] at e0
  exact (e l m).trans e0.symm
theorem sd_lt {x y : PyData} {xs ys : List PyData} (h : sdP x y = true) : PySem.W.dataLt (.tuple (x :: xs)) (.tuple (y :: ys)) = PySem.W.dataLt x y:=by
 have:=sd_lex (.tuple (x :: xs)) (.tuple (y :: ys)) (by simpa [sdP] using h) [] []
 have e : PyProof.Rows.lexLt itemOrd (PySem.W.keyToks (.tuple (x :: xs)) ++ []) (PySem.W.keyToks (.tuple (y :: ys)) ++ []) = PySem.W.dataLt x y:=by
  simp only [PySem.W.keyToks,PySem.W.keyToksAll,List.cons_append,List.append_assoc]
  exact (lex_self (O:=itemOrd) _ _ _).trans (sd_lex x y h _ _)
 exact this.symm.trans e
theorem dep_head {A : Around} {x y : PyData} {xs ys : List PyData} (h : A.units + min (PyData.tuple (x :: xs)).depth (PyData.tuple (y :: ys)).depth < cLine) : A.in1.units + min x.depth y.depth < cLine ∧ A.units < cLine:=by
 simp only [PyData.depth,PyData.depthAll] at h
 have e : A.in1.units = A.units + 1:=rfl
 rw [e]
 omega
theorem reads_tup {h : Heap} {a : Value} {x : PyData} {xs : List PyData} {as : List Addr} (r : Reads h a (.tuple (x :: xs)) as) : ∃ l vs v t bs,a = .ref l ∧ h.IsTuple l vs ∧ vs.toList = v :: t ∧ Reads h v x bs:=by
 generalize e : PyData.tuple (x :: xs) = d at r
 cases r with
 | @tuple l o vs n ds _ h1 h2 h3 h4 =>
  cases e
  generalize ez : vs.toList = z at h4
  cases h4 with
  | cons q1 q2=>exact ⟨l,vs,_,_,_,rfl,⟨_,h1,h2,_,h3⟩,ez,q1⟩
 | _=>cases e
theorem plain_head {x : PyData} {xs : List PyData} (h : (PyData.tuple (x :: xs)).plain = true) : x.plain = true:=by
 simp [PyData.plain,PyData.plainAll] at h
 exact h.1
theorem sd_inv {x y : PyData} (h : sdP x y = true) : (∃ p q,x = .str p ∧ y = .str q) ∨ ∃ x1 xs y1 ys,x = .tuple (x1 :: xs) ∧ y = .tuple (y1 :: ys) ∧ sdP x1 y1 = true:=by
 unfold sdP at h
 split at h
 ·exact .inl ⟨_,_,rfl,rfl⟩
 ·exact .inr ⟨_,_,_,_,rfl,rfl,h⟩
 ·cases h
theorem rcLt_sdN : ∀ (n : Nat) (x y : PyData),x.depth ≤ n → ∀ (A : Around) (s : Shared) (a b : Value) (as bs : List Addr),Reads s.heap a x as → Reads s.heap b y bs → sdP x y = true → x.plain = true → y.plain = true → A.units + min x.depth y.depth < cLine → SeqAt.RcLt A s a b (PySem.W.dataLt x y):=by
 intro n
 induction n with
 | zero =>
  intro x y hn A s a b as bs ra rb h px py hu
  rcases sd_inv h with ⟨p,q,rfl,rfl⟩ | ⟨x1,xs,y1,ys,rfl,rfl,h'⟩
  ·exact PySem.W.rcLt_alike (.str p) (.str q) A s a b as bs ra rb rfl nofun hu
  ·simp [PyData.depth] at hn
 | succ n ih =>
  intro x y hn A s a b as bs ra rb h px py hu
  rcases sd_inv h with ⟨p,q,rfl,rfl⟩ | ⟨x1,xs,y1,ys,rfl,rfl,h'⟩
  ·exact PySem.W.rcLt_alike (.str p) (.str q) A s a b as bs ra rb rfl nofun hu
  ·obtain ⟨u1,u2⟩:=dep_head hu
   obtain ⟨l,vs,v,t,cs,e1,t1,z1,q1⟩:=reads_tup ra
   obtain ⟨l',vs',v',t',cs',e2,t2,z2,q2⟩:=reads_tup rb
   have hn' : x1.depth ≤ n:=by
    simp only [PyData.depth,PyData.depthAll] at hn
    omega
   have ih':=ih x1 y1 hn' A.in1 s v v' cs cs' q1 q2 h' (plain_head px) (plain_head py) u1
   have he:=SeqAt.eqAt_plain x1 y1 A.in1 s v v' cs cs' q1 q2 (plain_head px) (plain_head py) u1
   rw [sd_eqv x1 y1 h'] at he
   rw [sd_lt h',e1,e2]
   exact rcLt_first t1 t2 u2 (r:=t.zip t') (by rw [z1,z2]; rfl) he ih'
theorem dk_some {h : Heap} {ds : List PyData} {v : Value} {d : PyData} {as : List Addr} (hd : d ∈ ds) (r : Reads h v d as) : (PySem.W.dataKind h ds).keyOf v = some (PySem.W.keyToks d):=by
 cases e : (PySem.W.dataKind h ds).keyOf v with
 | some k =>
  obtain ⟨d',as',-,r',rfl⟩:=PySem.W.dataKind_inv e
  rw [(PySem.Reads.unique r' _ _ r).1]
  rfl
 | none =>
  exfalso
  unfold PySem.W.dataKind at e
  simp only at e
  split at e
  ·cases e
  ·rename_i q
   exact q ⟨d,hd,as,r⟩
theorem each_dk {h : Heap} {vs : List Value} {ds : List PyData} (e : PySem.W.EachIs (fun v d=>∃ as,Reads h v d as) vs ds) : PySem.W.EachIs (fun v d=>(PySem.W.dataKind h ds).keyOf v = some (PySem.W.keyToks d)) vs ds :=
 (PySem.W.each_mem e).mono fun _ _ q=>q.1.elim fun _ r=>dk_some q.2 r
/-- what may be sorted: tuples of one shape at the first place,each two alike,or apart at the first items -/
structure SrtOk (ds : List PyData) (T : Value) : Prop where
 ok : ∀ d ∈ ds,∀ d' ∈ ds,okP d d' = true
 pl : ∀ d ∈ ds,d.plain = true
 tp : ∀ d ∈ ds,∃ x r,d = .tuple (x :: r) ∧ PySem.W.dataType x = T
theorem reads_tupO {h : Heap} {a : Value} {xs : List PyData} {as : List Addr} (r : Reads h a (.tuple xs) as) : ∃ l o vs n bs,a = .ref l ∧ h.get? l = some o ∧ o.data = .seq vs n ∧ vs.size = xs.length ∧ ReadsAll h vs.toList xs bs:=by
 generalize e : PyData.tuple xs = d at r
 cases r with
 | @tuple l o vs n ds _ h1 h2 h3 h4 =>
  cases e
  exact ⟨l,o,vs,n,_,rfl,h1,h3,by simpa using SeqAt.ReadsAll.length _ _ _ h4,h4⟩
 | _=>cases e
theorem readsAll_cons {h : Heap} {vs : List Value} {x : PyData} {xs : List PyData} {as : List Addr} (r : ReadsAll h vs (x :: xs) as) : ∃ v t bs cs,vs = v :: t ∧ Reads h v x bs ∧ ReadsAll h t xs cs:=by
 generalize e : x :: xs = d at r
 cases r with
 | nil=>cases e
 | cons q1 q2=>cases e; exact ⟨_,_,_,_,rfl,q1,q2⟩
theorem lt_first {prog : Program} {w : World} {A : Around} {s : Shared} {E : Value → Shared → Prop} {Q : Bool → Shared → Prop} {x y : PyData} {v u : Value} {as bs : List Addr} (rv : Reads s.heap v x as) (ru : Reads s.heap u y bs) (h : sdP x y = true) (px : x.plain = true) (py : y.plain = true) (hu : A.units + min x.depth y.depth < cLine) (hq : Q (PySem.W.dataLt x y) s) :
  wpAny (model prog w) A (PyProof.Rows.oneLt' (PySem.W.dataType x != Value.type "tuple") v u) Q E s:=by
 rcases sd_inv h with ⟨p,q,rfl,rfl⟩ | ⟨x1,xs,y1,ys,rfl,rfl,h'⟩
 ·exact PySem.W.oneLt_alike (da:=.str p) (db:=.str q) (fun _ xs e=>by cases e) rv ru rfl (fun e=>by cases e) hu hq
 ·rw [show (PySem.W.dataType (.tuple (x1 :: xs)) != Value.type "tuple") = false by simp [PySem.W.dataType],PyProof.Rows.oneLt'_eq]
  simp only [Bool.false_eq_true,if_false]
  exact wpAny_bind (rcLt_sdN _ _ _ (Nat.le_refl _) A s v u as bs rv ru h px py hu prog w E _ (wpAny_truthy_bool hq))
theorem sorts_ok {prog : Program} {w : World} {A : Around} {s : Shared} {vs : List Value} {ds : List PyData} {T : Value} (e : PySem.W.EachIs (fun v d=>∃ as,Reads s.heap v d as) vs ds) (S : SrtOk ds T) (hu : ∀ d ∈ ds,A.units + d.depth < cLine) : PySem.W.SortsAt prog w A s (PySem.W.dataKind s.heap ds) vs:=by
 refine ⟨fun v hv=>?_,PyProof.Rows.tuples' (T != Value.type "tuple"),?_,fun h2 E Q hq=>?_⟩
 ·obtain ⟨d,hd,as,r⟩:=e.left v hv
  exact ⟨_,dk_some hd r⟩
 ·intro E x y a b Q ha hb hq
  obtain ⟨d,as,hd,ra,rfl⟩:=PySem.W.dataKind_inv ha
  obtain ⟨d',as',hd',rb,rfl⟩:=PySem.W.dataKind_inv hb
  have hok:=S.ok d hd d' hd'
  have hpl:=S.pl d hd
  have hpl':=S.pl d' hd'
  have hroom : A.units + min d.depth d'.depth < cLine:=Nat.lt_of_le_of_lt (Nat.add_le_add_left (Nat.min_le_left _ _) _) (hu d hd)
  obtain ⟨x1,r1,rfl,t1⟩:=S.tp d hd
  obtain ⟨x2,r2,rfl,t2⟩:=S.tp d' hd'
  obtain ⟨l,o,ws,n,cs,rfl,g1,g2,n1,ga⟩:=reads_tupO ra
  obtain ⟨l',o',ws',n',cs',rfl,k1,k2,n2,ka⟩:=reads_tupO rb
  have hq' : Q (PySem.W.dataLt (.tuple (x1 :: r1)) (.tuple (x2 :: r2))) s:=hq
  obtain ⟨u1,u2⟩:=dep_head hroom
  refine PySem.W.kat_lt g1 g2 k1 k2 ?_
  unfold okP at hok
  rw [Bool.or_eq_true] at hok
  rcases hok with hal | hsd
  ·rw [PySem.W.dataLt_tuple] at hq'
   refine PySem.W.katLex_alike (x1 :: r1) (x2 :: r2) 0 _ _ _ _ ga ka (by simpa [PySem.W.alike] using hal) (by have q:=SeqAt.room_in hroom; omega) (fun hb _ x r t ex=>?_) (by rw [n1,n2]) hq'
   cases ex
   rw [← t1] at hb
   exact PySem.W.dataType_tuple hb t
  ·have hsd' : sdP x1 x2 = true:=by simpa [sdP] using hsd
   obtain ⟨v,t,b1,b2,e1,q1,-⟩:=readsAll_cons ga
   obtain ⟨v',t',b1',b2',e1',q1',-⟩:=readsAll_cons ka
   rw [e1,e1',List.zip_cons_cons]
   have he:=SeqAt.eqAt_plain x1 x2 A s v v' _ _ q1 q1' (plain_head hpl) (plain_head hpl') (by have e : A.in1.units = A.units + 1:=rfl; omega)
   rw [sd_eqv x1 x2 hsd'] at he
   refine PySem.W.kat_cons (he prog w _ _ (PySem.W.kat_no ?_))
   rw [sd_lt hsd'] at hq'
   rw [show ((T != Value.type "tuple") && (0 : Nat) == 0) = (PySem.W.dataType x1 != Value.type "tuple") by rw [t1]; simp]
   exact lt_first q1 q1' hsd' (plain_head hpl) (plain_head hpl') (by have e : A.in1.units = A.units + 1:=rfl; omega) hq'
 ·obtain ⟨fs,t1,t2,t3⟩:=PySem.W.each_katTups e fun d hd=>(S.tp d hd).elim fun x q=>q.elim fun r z=>⟨x,r,z.1⟩
  refine PySem.W.kat_kind (T:=T) t1 (by omega) (fun f hf=>?_) (beq_self_eq_true _) hq
  obtain ⟨x,r,as,m1,m2⟩:=t3 f hf
  obtain ⟨x',r',ex,et⟩:=S.tp _ m1
  cases ex
  rw [← et]
  exact PySem.W.looks_reads m2
theorem sort_col {prog : Program} {w : World} {A : Around} {s : Shared} {E : Value → Shared → Prop} {Q : Value → Shared → Prop} {β : Type} {enc : β → PyData} {R : Value → β → Prop} {v : Value}
  (hc : wpAny (model prog w) A.in1 (collect v) (fun vs s1=>∃ bs : List β,PySem.W.EachIs R vs bs ∧ PySem.W.EachIs (fun v b=>∃ as,Reads s1.heap v (enc b) as) vs bs ∧ (∃ T,SrtOk (bs.map enc) T) ∧ bs.length ≤ sizeLine ∧ (∀ b ∈ bs,A.units + 2 + (enc b).depth < cLine) ∧
   ∀ (h' : Heap) (out : List Value) (e : Nat),(∀ b o,s1.heap.get? b = some o → h'.get? b = some o) → h'.get? s1.heap.objs.size = some (PyProof.Rows.seqObj "list" out.toArray e) → out.length = bs.length → PySem.W.EachIs R out (bs.mergeSort (PySem.W.dataLe false enc)) → Q (.ref s1.heap.objs.size) { s1 with heap:=h' }) E s) :
  wpAny (model prog w) A (call (.builtin "sorted") [v]) Q E s:=by
 refine PySem.Calls.call_function_entry PyProof.Rows.kind_sorted PyProof.Rows.plain_sorted PyProof.Rows.entry_sorted (PyProof.Rows.args_sorted1 _) ?_
 unfold Builtin.«sorted»
 refine wpAny_bind (m:=checkCount "sorted" 1 1 _) (wpAny_pure ?_)
 refine wpAny_bind (wpAny_mono hc (fun vs s1 q=>?_) fun _ _ z=>z)
 obtain ⟨bs,e,er,⟨T,S⟩,hL,hu,k⟩:=q
 have hvl : vs.length ≤ sizeLine:=by rw [e.length]; exact hL
 refine wpAny_bind (wpAny_newList ?_ hvl)
 have hD : (s1.heap.push { cls:=.type "list",data:=.seq vs.toArray }).get? s1.heap.objs.size = some (PyProof.Rows.seqObj "list" vs.toArray 0):=Heap.get?_push_size _ rfl
 have hlt : ∀ b o,s1.heap.get? b = some o → b ≠ s1.heap.objs.size ∧ (s1.heap.push { cls:=.type "list",data:=.seq vs.toArray }).get? b = some o:=fun b o z=>⟨Nat.ne_of_lt (Heap.lt_size z),Heap.get?_push_of_some _ z⟩
 have hsg : ∀ b o,s1.heap.get? b = some o → (PySem.W.sortingHeap (s1.heap.push { cls:=.type "list",data:=.seq vs.toArray }) s1.heap.objs.size vs).get? b = some o:=fun b o z=>PySem.W.sortingHeap_old (hlt b o z).1 (hlt b o z).2
 have er' : PySem.W.EachIs (fun v b=>∃ as,Reads (PySem.W.sortingHeap (s1.heap.push { cls:=.type "list",data:=.seq vs.toArray }) s1.heap.objs.size vs) v (enc b) as) vs bs:=er.mono fun _ _ z=>z.elim fun as r=>⟨as,PyProof.Rows.Reads.keeps hsg r⟩
 have em:=PySem.W.each_map (R:=fun v d=>∃ as,Reads (PySem.W.sortingHeap (s1.heap.push { cls:=.type "list",data:=.seq vs.toArray }) s1.heap.objs.size vs) v d as) enc er'
 have SA:=sorts_ok (prog:=prog) (w:=w) (A:=A.in1.in1) (s:={ s1 with heap:=PySem.W.sortingHeap (s1.heap.push { cls:=.type "list",data:=.seq vs.toArray }) s1.heap.objs.size vs }) em S (fun d hd=>by
  obtain ⟨b,hb,rfl⟩:=List.mem_map.mp hd
  exact hu b hb)
 have out:=PySem.W.sortVals_each (κ:=PySem.W.dataKind (PySem.W.sortingHeap (s1.heap.push { cls:=.type "list",data:=.seq vs.toArray }) s1.heap.objs.size vs) (bs.map enc)) (rev:=false) (fun b=>PySem.W.keyToks (enc b)) e (PySem.W.each_of_map enc (each_dk em))
 refine wpAny_bind (wpAny_holding (wpAny_call_entry PyProof.Rows.slot_list_sort ⟨_,hD,rfl⟩ PyProof.Rows.entry_list_sort (PySem.W.list_sort_vals (s:={ s1 with heap:=s1.heap.push { cls:=.type "list",data:=.seq vs.toArray } }) hD SA hvl ⟨_,rfl,?_⟩) (PyProof.Rows.args_list_sort _)))
 obtain ⟨c,hc'⟩:=PyProof.Rows.sortedHeap_at (out:=(PySem.W.sortVals (PySem.W.dataKind (PySem.W.sortingHeap (s1.heap.push { cls:=.type "list",data:=.seq vs.toArray }) s1.heap.objs.size vs) (bs.map enc)) false vs vs).toArray) hD
 refine wpAny_pure ⟨_,rfl,k _ _ c (fun b o z=>?_) hc' ?_ out⟩
 ·rw [PyProof.Rows.sortedHeap_old (hlt b o z).1 (by rw [PyProof.Rows.size_push']; exact Nat.lt_succ_of_lt (Heap.lt_size z))]
  exact (hlt b o z).2
 ·rw [PySem.W.sortVals_length false rfl]
  exact e.length
theorem allM_ln {α β : Type} {f : α → Option β} : ∀ {xs : List α} {ys : List β},allM f xs = some ys → ys.length = xs.length
 | [],_,e=>by cases e; rfl
 | x :: xs,ys,e=>by
  unfold allM at e
  cases q1 : f x with
  | none=>rw [q1] at e; cases e
  | some y =>
   rw [q1] at e
   cases q2 : allM f xs with
   | none=>rw [q2] at e; cases e
   | some zs =>
    rw [q2] at e
    cases e
    rw [List.length_cons,List.length_cons,allM_ln q2]
noncomputable def hdT : PyData → Option Value
 | .tuple (x :: _)=>some (PySem.W.dataType x)
 | _=>none
noncomputable def srtB (ps : List PyData) : Bool:=(ps.all fun p=>ps.all fun q=>okP p q) && (ps.all PyData.plain && (ps.all fun p=>(hdT p).isSome && decide (∀ q ∈ ps,hdT p = hdT q)))
theorem srt_ok {ps : List PyData} (h : srtB ps = true) : ∃ T,SrtOk ps T:=by
 unfold srtB at h
 simp only [Bool.and_eq_true,List.all_eq_true,decide_eq_true_eq] at h
 obtain ⟨h1,h2,h3⟩:=h
 cases ps with
 | nil=>exact ⟨.none,nofun,nofun,nofun⟩
 | cons p0 r =>
  obtain ⟨T,hT⟩:=Option.isSome_iff_exists.mp (h3 p0 List.mem_cons_self).1
  refine ⟨T,fun d hd d' hd'=>h1 d hd d' hd',fun d hd=>h2 d hd,fun d hd=>?_⟩
  have e:=(h3 d hd).2 p0 List.mem_cons_self
  rw [hT] at e
  unfold hdT at e
  split at e
  ·cases e; exact ⟨_,_,rfl,rfl⟩
  ·cases e
noncomputable def sortL (ds : List D) : Option (List D):=match allM toP ds with
 | some ps=>if srtB ps = true ∧ (ps.all fun p=>decide (p.depth ≤ 60)) = true then some (((ps.zip ds).mergeSort leP).map (·.2)) else none
 | none=>none
noncomputable def oSortL : List U → Store → Option U:=fun us st=>match us with
 | [u]=>match itemsU st u with
  | some us=>match pureL us with
   | some ds=>if ds.length < 1000 then (sortL ds).map fun ds=>.d (.lst ds) else none
   | none=>none
  | none=>none
 | _=>none
noncomputable def rSortL (K : PySem.W.Frag) : List V → Hp → VK → Prop:=fun vs H Q=>∃ (a : Addr) (bs : List PDV),vs = [V.ref a] ∧ (SqL K H a (bs.map (·.2)) ∨ SqT K H a (bs.map (·.2))) ∧ (∀ b ∈ bs,Dp K H b.2 (encV b)) ∧ bs.length < 1000 ∧ (∃ T,SrtOk (bs.map encV) T) ∧ (∀ b ∈ bs,(encV b).depth ≤ 60) ∧
 ∀ p,H p = none → Q (.ref p) (upd H p (.lst ((bs.mergeSort (PySem.W.dataLe false encV)).map (·.2))))
theorem cr_sortL0 {X : Cx} (hu : X.A.units + 65 < cLine) : CallR X (.builtin "sorted") (rSortL X.K):=by
 intro pins s σ H vs us Q I r h
 obtain ⟨a,bs,rfl,hl,hd,hz,S,dp,q⟩:=h
 obtain ⟨T,its,o,n,rv,hT,ho,hc,hdt,hsz⟩ : ∃ T its o n,Vals (bs.map (·.2)) its ∧ (T = "list" ∨ T = "tuple") ∧ s.heap.get? a = some o ∧ o.cls = .type T ∧ o.data = .seq its.toArray n ∧ its.length ≤ sizeLine:=by
  rcases hl with hl | hl
  ·obtain ⟨its,rv,pl,hsz⟩:=I.list hl
   obtain ⟨o,ho,hc,n,hd⟩:=pl.isList
   exact ⟨_,its,o,n,rv,.inl rfl,ho,hc,hd,by rw [← rv.length]; exact hsz⟩
  ·obtain ⟨its,rv,⟨o,ho,hc,n,hd⟩,hsz⟩:=I.tuple hl
   exact ⟨_,its,o,n,rv,.inr rfl,ho,hc,hd,by rw [← rv.length]; exact hsz⟩
 rw [Vals.ref1 r]
 refine sort_col (enc:=encV) (R:=fun u b=>RelV b.2 u) (wpAny_collect_seq a hT ho hc hdt (fun h1 hk=>?_) (by rw [List.size_toArray]; exact hsz))
 have I1 : Inv X pins σ H { s with heap:=h1 }:=I.kept (t':=s.toks) hk
 have ee:=each_vals rv
 have e0 : its.toArray.toList = its:=by simp
 rw [e0]
 refine ⟨bs,ee,(PySem.W.each_mem ee).mono fun v b z=>Dp.reads I1 _ _ _ (hd b z.2) z.1,S,by rw [sizeLine_eq]; omega,fun b hb=>by have:=dp b hb; omega,fun h2 out e k hg ho eo=>?_⟩
 have hlen : ((bs.mergeSort (PySem.W.dataLe false encV)).map (·.2)).length ≤ sizeLine:=by rw [List.length_map,List.length_mergeSort,sizeLine_eq]; omega
 exact ⟨.ref _,upd H h1.objs.size (.lst ((bs.mergeSort (PySem.W.dataLe false encV)).map (·.2))),I1.laid (t':=s.toks) k (Nat.le_refl _) ⟨hlen,out,e,vals_each eo,hg⟩,rfl,q _ (I1.hok.fresh (Nat.le_refl _))⟩
theorem bs_enc {bs : List PDV} {ps : List PyData} {ds : List D} (h : bs.map (·.1) = ps.zip ds) (hl : ps.length = ds.length) : bs.map encV = ps:=by
 have : (bs.map (·.1)).map (·.1) = (ps.zip ds).map (·.1):=by rw [h]
 rw [List.map_map,List.map_fst_zip (by omega)] at this
 exact this
theorem cr_sortL {X : Cx} (hu : X.A.units + 65 < cLine) : CallR X (.builtin "sorted") (rM X.K (pu oSortL)):=by
 refine CallR.imp (cr_sortL0 hu) fun vs H Q ⟨m,st,us,r,ru,p⟩=>?_
 obtain ⟨u,e,p⟩:=p.pu
 unfold oSortL at e
 split at e
 ·obtain ⟨v,rfl,hv⟩:=ru.one
  split at e
  ·rename_i us hl
   obtain ⟨a,ws,rfl,t,q⟩:=itemsU_rp r hv hl
   split at e
   ·rename_i ds hds
    split at e
    ·rename_i hz
     have qd:=pureL_rp q hds
     unfold sortL at e
     split at e
     ·rename_i ps hps
      split at e
      ·rename_i hc
       cases e
       obtain ⟨bs,b1,b2,b3,b4⟩:=mk_bs qd hps
       subst b2
       have hpl : ps.length = ds.length:=allM_ln hps
       have S:=srt_ok hc.1
       rw [← bs_enc b1 hpl] at S
       refine ⟨a,bs,rfl,t,fun b hb=>asP_dp r (u:=.d b.1.2) (b4 b hb).1 (b4 b hb).2.1,by omega,S,fun b hb=>of_decide_eq_true (List.all_eq_true.mp hc.2 _ (b4 b hb).2.2),fun pp hpp=>?_⟩
       have e1 : ((ps.zip ds).mergeSort leP).map (·.2) = (bs.mergeSort (PySem.W.dataLe false encV)).map fun b=>b.1.2:=by
        have:=PySem.W.sort_maps (r:=PySem.W.dataLe false encV) (s:=leP) (fun b : PDV=>b.1) (l:=bs) fun b hb c hc=>rfl
        rw [← b1,← this,List.map_map]
        rfl
       rw [e1] at p
       have xn:=ext_new r hpp (.lst ((bs.mergeSort (PySem.W.dataLe false encV)).map (·.2)))
       exact p (.ref pp) m (upd H pp (.lst ((bs.mergeSort (PySem.W.dataLe false encV)).map (·.2)))) ⟨pp,_,rfl,⟨r.fresh hpp,upd_same⟩,rp_maps fun b hb=>(b4 b ((List.mergeSort_perm bs _).mem_iff.mp hb)).1.ext xn⟩ (r.new hpp _) xn
      ·cases e
     ·cases e
    ·cases e
   ·cases e
  ·cases e
 ·cases e
end VL
namespace VL
open PySem PySem.Spec PyProof.Rows L2
/-- a pair of data,its first one a key -/
noncomputable def prN : U → Option (D × NestedKey × D)
 | .d (.tup [k,v])=>(keyN k).map fun n=>(k,n,v)
 | _=>none
noncomputable def putAllN (acc : List (D × U)) : List (D × NestedKey × D) → List (D × U)
 | []=>acc
 | p :: r=>putAllN (putN acc p.1 p.2.1 (.d p.2.2)) r
noncomputable def oDictK (w : World) : P3:=fun us st=>match us with
 | [u]=>match getL st u with
  | some us=>match allM prN us with
   | some ps=>if us.length < 1000 then some (.ref st.length,st ++ [.kdc w (putAllN [] ps)]) else none
   | none=>none
  | none=>none
 | _=>none
section
variable {X : Cx} {pins : List (Addr × Obj)} {σ : L2.St} {H : Hp} {s : Shared} {m : List Addr}
/-- what stands for a pair: the tuple,its key's tuple,its value -/
structure PrAt (X : Cx) (m : List Addr) (H : Hp) (h : Heap) (p : D × NestedKey × D) (it : Value) (t : Addr × Addr × Value) : Prop where
 it : it = .ref t.1
 pr : PairAt h t.1 (.ref t.2.1) t.2.2
 ky : keyN p.1 = some p.2.1
 is : (nestedKind X.prog X.w).is h p.2.1 t.2.1
 rk : RpD X.K m H p.1 (.ref t.2.1)
 rv : ∃ v,RpD X.K m H p.2.2 v ∧ RelV v t.2.2
inductive PrsAt (X : Cx) (m : List Addr) (H : Hp) (h : Heap) : List (D × NestedKey × D) → List Value → List (Addr × Addr × Value) → Prop
 | nil : PrsAt X m H h [] [] []
 | cons {p it t ps its ts} : PrAt X m H h p it t → PrsAt X m H h ps its ts → PrsAt X m H h (p :: ps) (it :: its) (t :: ts)
theorem prs_at (I : Inv X pins σ H s) : ∀ {us : List U} {ws : List V} {its : List Value} {ps : List (D × NestedKey × D)},RpUs X.K m H us ws → Vals ws its → allM prN us = some ps → ∃ ts,PrsAt X m H s.heap ps its ts
 | [],ws,its,ps,h,q,e=>by
  cases e
  rw [show ws = [] from h] at q
  cases q
  exact ⟨[],.nil⟩
 | u :: us,ws,its,ps,h,q,e=>by
  obtain ⟨v,r,rfl,h1,h2⟩:=h
  unfold allM at e
  cases e1 : prN u with
  | none=>rw [e1] at e; cases e
  | some p =>
   rw [e1] at e
   cases e2 : allM prN us with
   | none=>rw [e2] at e; cases e
   | some qs =>
    rw [e2] at e
    cases e
    cases q with
    | cons q1 q2 =>
     obtain ⟨ts,ih⟩:=prs_at I h2 q2 e2
     unfold prN at e1
     split at e1
     ·rename_i k d
      cases e3 : keyN k with
      | none=>rw [e3] at e1; cases e1
      | some n =>
       rw [e3] at e1
       cases e1
       obtain ⟨T,ws,rfl,t,w1,_,rfl,i1,w2,_,rfl,i2,rfl⟩:=h1
       obtain ⟨b,rfl,hi⟩:=keyN_is I e3 i1
       obtain ⟨its',rv,ht,-⟩:=I.tuple t.sq
       cases q1
       cases rv with
       | cons r1 r2 =>
        cases r2 with
        | cons r3 r4 =>
         cases r4
         cases r1
         exact ⟨(T,b,_) :: ts,.cons ⟨rfl,.inl ht,e3,hi,i1,w2,i2,r3⟩ ih⟩
     ·cases e1
theorem PrsAt.len {h : Heap} : ∀ {ps : List (D × NestedKey × D)} {its : List Value} {ts : List (Addr × Addr × Value)},PrsAt X m H h ps its ts → its.length = ts.length ∧ ps.length = ts.length
 | _,_,_,.nil=>⟨rfl,rfl⟩
 | _,_,_,.cons _ q=>by
  obtain ⟨h1,h2⟩:=q.len
  exact ⟨congrArg Nat.succ h1,congrArg Nat.succ h2⟩
theorem PrsAt.get {h : Heap} : ∀ {ps : List (D × NestedKey × D)} {its : List Value} {ts : List (Addr × Addr × Value)},PrsAt X m H h ps its ts → ∀ (j : Nat) (t : Addr × Addr × Value),ts[j]? = some t → ∃ p it,ps[j]? = some p ∧ its[j]? = some it ∧ PrAt X m H h p it t
 | _,_,_,.nil,j,t,e=>by cases e
 | _,_,_,.cons q0 q,0,t,e=>by cases e; exact ⟨_,_,rfl,rfl,q0⟩
 | _,_,_,.cons q0 q,j + 1,t,e=>q.get j t e
/-- the entries to be stored -/
noncomputable def entsOf : List (D × NestedKey × D) → List (Addr × Addr × Value) → List (NestedKey × Addr × Value)
 | p :: ps,t :: ts=>(p.2.1,t.2.1,t.2.2) :: entsOf ps ts
 | _,_=>[]
theorem ents_get : ∀ (ps : List (D × NestedKey × D)) (ts : List (Addr × Addr × Value)) (j : Nat) (p : D × NestedKey × D) (t : Addr × Addr × Value),ps[j]? = some p → ts[j]? = some t → (entsOf ps ts)[j]? = some (p.2.1,t.2.1,t.2.2)
 | _ :: _,_ :: _,0,p,t,e1,e2=>by cases e1; cases e2; rfl
 | _ :: ps,_ :: ts,j + 1,p,t,e1,e2=>ents_get ps ts j p t e1 e2
 | [],_,_,_,_,e1,_=>by cases e1
 | _ :: _,[],_,_,_,_,e2=>by cases e2
theorem ents_len : ∀ (ps : List (D × NestedKey × D)) (ts : List (Addr × Addr × Value)),ps.length = ts.length → (entsOf ps ts).length = ts.length
 | [],[],_=>rfl
 | _ :: ps,_ :: ts,h=>congrArg Nat.succ (ents_len ps ts (Nat.succ.inj h))
theorem ents_is {h : Heap} : ∀ {ps : List (D × NestedKey × D)} {its : List Value} {ts : List (Addr × Addr × Value)},PrsAt X m H h ps its ts → ∀ x ∈ entsOf ps ts,(nestedKind X.prog X.w).is h x.1 x.2.1
 | _,_,_,.nil,x,hx=>by cases hx
 | _,_,_,.cons q0 q,x,hx=>by
  rcases List.mem_cons.mp hx with rfl | hx
  ·exact q0.is
  ·exact ents_is q x hx
theorem stored_all {h : Heap} : ∀ {ps : List (D × NestedKey × D)} {its : List Value} {ts : List (Addr × Addr × Value)},PrsAt X m H h ps its ts → ∀ (us : List (D × U)) (es : List (NestedKey × Addr × V)) (xs : List (NestedKey × Addr × Value)),RpUKd X.K m H us es → XsOf es xs →
  ∃ es',RpUKd X.K m H (putAllN us ps) es' ∧ XsOf es' (storedAllH xs (entsOf ps ts)) ∧ es'.length ≤ es.length + ts.length
 | _,_,_,.nil,us,es,xs,q,hx=>⟨es,q,hx,Nat.le_refl _⟩
 | _,_,_,.cons (p:=p) (t:=t) (ps:=ps) (ts:=ts) q0 q,us,es,xs,r,hx=>by
  obtain ⟨v,rv,rr⟩:=q0.rv
  have ats:=at_some (X:=X) (k:=p.2.1) r hx
  by_cases hl : (lookN us p.2.1).isSome = true
  ·obtain ⟨i1,i2⟩:=put_map (k:=p.2.1) (u:=.d p.2.2) (v:=v) rv rr r hx
   have hst : storedH xs p.2.1 t.2.1 t.2.2 = xs.map (putAt p.2.1 t.2.2):=by unfold storedH; rw [if_pos (by rw [ats]; exact hl)]
   have hp : putN us p.1 p.2.1 (.d p.2.2) = us.map fun kv=>if keyN kv.1 = some p.2.1 then (kv.1,.d p.2.2) else kv:=if_pos hl
   rw [← hp] at i1
   rw [← hst] at i2
   obtain ⟨es',a1,a2,a3⟩:=stored_all q _ _ _ i1 i2
   refine ⟨es',a1,a2,?_⟩
   rw [List.length_map] at a3
   rw [List.length_cons]
   omega
  ·obtain ⟨i1,i2⟩:=put_snoc (u:=.d p.2.2) (v:=v) q0.ky q0.rk rv rr r hx
   have hst : storedH xs p.2.1 t.2.1 t.2.2 = xs ++ [(p.2.1,t.2.1,t.2.2)]:=by unfold storedH; rw [if_neg (by rw [ats]; exact hl)]
   have hp : putN us p.1 p.2.1 (.d p.2.2) = us ++ [(p.1,.d p.2.2)]:=if_neg hl
   rw [← hp] at i1
   rw [← hst] at i2
   obtain ⟨es',a1,a2,a3⟩:=stored_all q _ _ _ i1 i2
   refine ⟨es',a1,a2,?_⟩
   rw [List.length_append,List.length_singleton] at a3
   rw [List.length_cons]
   omega
theorem cr_dictK {w : World} (hw : w = X.w) (hcalm : X.calm = true) (hu : X.A.units + 65 < cLine) : CallR X (.type "dict") (rM X.K (oDictK w)):=by
 intro pins s σ H vs args Q I r h
 obtain ⟨m,st,us,rp,ru,p⟩:=h
 unfold oDictK at p
 split at p
 ·obtain ⟨v,rfl,hv⟩:=ru.one
  split at p
  ·rename_i us' hl
   obtain ⟨a,ws,rfl,t,q⟩:=getL_rp rp hv hl
   split at p
   ·rename_i ps hps
    split at p
    ·rename_i hz
     obtain ⟨its,rv,hpl,-⟩:=I.list t
     obtain ⟨ts,P⟩:=prs_at I q rv hps
     obtain ⟨l1,l2⟩:=P.len
     have lu : ws.length = us'.length:=by
      have:=q.length
      omega
     have lw : ws.length = its.length:=rv.length
     rw [Vals.ref1 r]
     let prs : List (Value × Value):=ts.map fun t=>(Value.ref t.2.1,t.2.2)
     let Ts : Nat → Addr:=fun j=>(ts.getD j (0,0,.none)).1
     have hpi : PairItems s.heap its.toArray Ts prs:=⟨by simp [prs,l1],fun j k v e=>by
      rw [List.getElem?_map] at e
      obtain ⟨t0,e0,e1⟩:=Option.map_eq_some_iff.mp e
      cases e1
      obtain ⟨p0,it,-,e3,z⟩:=P.get j t0 e0
      have e4 : Ts j = t0.1:=by simp [Ts,List.getD,e0]
      refine ⟨?_,?_⟩
      ·rw [e4,← z.it]; simpa using e3
      ·rw [e4]; exact z.pr⟩
     have hph : PairsHaveH (nestedKind X.prog X.w) prs.length (PairRel prs) (entsOf ps ts):=⟨by rw [ents_len ps ts l2]; simp [prs],fun i key v e=>by
      have e' : prs[i]? = some (key,v):=e
      rw [List.getElem?_map] at e'
      obtain ⟨t0,e0,e1⟩:=Option.map_eq_some_iff.mp e'
      cases e1
      obtain ⟨p0,it,e2,-,z⟩:=P.get i t0 e0
      exact ⟨p0.2.1,t0.2.1,ents_get ps ts i p0 t0 e2 e0,rfl⟩⟩
     have hsz : prs.length ≤ sizeLine:=by
      simp only [prs,List.length_map]
      rw [sizeLine_eq]
      omega
     refine call_dict_pairsH (PairArg.list a its.toArray Ts prs) (I.ok.hd hcalm) ?_ ⟨hpl,hpi⟩ hph (fun h' hk x hx=>?_) hsz fun h' tk hd' hk=>?_
     ·show X.A.in1.in1.units + 8 < cLine
      have : X.A.in1.in1.units = X.A.units + 1 + 1:=rfl
      omega
     ·exact nestedKind_stays.stays (fun b o vs n e1 e2=>hk b o (Nat.ne_of_lt (Heap.lt_size e1)) (fun z=>nomatch z) e1) (ents_is P x hx)
     ·obtain ⟨es,a1,a2,a3⟩:=stored_all P [] [] [] rfl .nil
      obtain ⟨ob,en,ep,hq,h2,h3,h4,h5,h6⟩:=hd'
      have hn : H s.heap.objs.size = none:=I.hok.fresh (Nat.le_refl _)
      have hk' : ∀ b o,s.heap.get? b = some o → h'.get? b = some o:=fun b o e=>hk b o (fun z=>nomatch z) e
      refine ⟨.ref s.heap.objs.size,_,I.laid (a:=s.heap.objs.size) (o:=PinO s.heap.objs.size ob) (t':=tk) hk' (Nat.le_refl _) (pin_ok hq),rfl,?_⟩
      have xp:=ext_push rp hn (PinO s.heap.objs.size ob)
      refine p _ (m ++ [s.heap.objs.size]) _ ⟨s.heap.objs.size,by rw [← rp.len]; simp,rfl⟩ (rp.push hn ⟨ob,es,rfl,⟨?_,beq_eq_false_iff_ne.mpr (Ne.symm (Nat.ne_of_lt I.big)),_,a2,h6,en,ep,h2,h3,?_⟩,a1.ext xp⟩) xp
      ·simp only [List.length_nil,Nat.zero_add] at a3
       rw [sizeLine_eq]
       omega
      ·rw [h4,hw]
       rfl
    ·exact p.elim
   ·exact p.elim
  ·exact p.elim
 ·exact p.elim
end
end VL
namespace VL
open PySem PySem.Spec PyProof.Rows L2
section
variable {X : Cx} {pins : List (Addr × Obj)} {σ : L2.St} {H : Hp} {s : Shared} {m : List Addr} {st : Store}
/-- what sort_col asks,of data that stand in the heap -/
theorem sort_body (I1 : Inv X pins σ H s) (r : Rep X.K m st H) {ds ds' : List D} {ws : List V} {vs : List Value} (qd : RpDs X.K m H ds ws) (rv : Vals ws vs) (e : sortL ds = some ds') (hz : ds.length < 1000) (hu : X.A.units + 65 < cLine) {Q : Value → Shared → Prop}
  (hq : ∀ (u : Value) (s2 : Shared) (p : Addr) (vs : List V),H p = none → Inv X pins σ (upd H p (.lst vs)) s2 → RelV (.ref p) u → RpDs X.K m H ds' vs → Q u s2) :
  ∃ bs : List PDV,PySem.W.EachIs (fun u b=>RelV b.2 u) vs bs ∧ PySem.W.EachIs (fun v b=>∃ as,Reads s.heap v (encV b) as) vs bs ∧ (∃ T,SrtOk (bs.map encV) T) ∧ bs.length ≤ sizeLine ∧ (∀ b ∈ bs,X.A.units + 2 + (encV b).depth < cLine) ∧
   ∀ (h' : Heap) (out : List Value) (e : Nat),(∀ b o,s.heap.get? b = some o → h'.get? b = some o) → h'.get? s.heap.objs.size = some (PyProof.Rows.seqObj "list" out.toArray e) → out.length = bs.length → PySem.W.EachIs (fun u b=>RelV b.2 u) out (bs.mergeSort (PySem.W.dataLe false encV)) → Q (.ref s.heap.objs.size) { s with heap:=h' }:=by
 unfold sortL at e
 split at e
 ·rename_i ps hps
  split at e
  ·rename_i hc
   cases e
   obtain ⟨bs,b1,b2,b3,b4⟩:=mk_bs qd hps
   subst b2
   have hpl : ps.length = ds.length:=allM_ln hps
   have S:=srt_ok hc.1
   rw [← bs_enc b1 hpl] at S
   have ee:=each_vals rv
   have dp : ∀ b ∈ bs,(encV b).depth ≤ 60:=fun b hb=>of_decide_eq_true (List.all_eq_true.mp hc.2 _ (b4 b hb).2.2)
   refine ⟨bs,ee,(PySem.W.each_mem ee).mono fun v b z=>Dp.reads I1 _ _ _ (show Dp X.K H b.2 (encV b) from asP_dp r (u:=.d b.1.2) (b4 b z.2).1 (b4 b z.2).2.1) z.1,S,by rw [sizeLine_eq]; omega,fun b hb=>by have:=dp b hb; omega,fun h2 out e k hg ho eo=>?_⟩
   have hlen : ((bs.mergeSort (PySem.W.dataLe false encV)).map (·.2)).length ≤ sizeLine:=by rw [List.length_map,List.length_mergeSort,sizeLine_eq]; omega
   have hn : H s.heap.objs.size = none:=I1.hok.fresh (Nat.le_refl _)
   have e1 : ((ps.zip ds).mergeSort leP).map (·.2) = (bs.mergeSort (PySem.W.dataLe false encV)).map fun b=>b.1.2:=by
    have:=PySem.W.sort_maps (r:=PySem.W.dataLe false encV) (s:=leP) (fun b : PDV=>b.1) (l:=bs) fun b hb c hc=>rfl
    rw [← b1,← this,List.map_map]
    rfl
   rw [e1] at hq
   exact hq _ _ s.heap.objs.size _ hn (I1.laid (o:=.lst ((bs.mergeSort (PySem.W.dataLe false encV)).map (·.2))) (t':=s.toks) k (Nat.le_refl _) ⟨hlen,out,e,vals_each eo,hg⟩) rfl (rp_maps fun b hb=>(b4 b ((List.mergeSort_perm bs _).mem_iff.mp hb)).1)
  ·cases e
 ·cases e
noncomputable def layT : Hp → List Addr → List (V × V) → Hp
 | H,a :: as,p :: ps=>layT (upd H a (.tup [p.1,p.2])) as ps
 | H,_,_=>H
theorem layT_off {b : Addr} : ∀ (as : List Addr) (ps : List (V × V)) (H : Hp),b ∉ as → layT H as ps b = H b
 | [],_,_,_=>rfl
 | _ :: _,[],_,_=>rfl
 | a :: as,p :: ps,H,h=>by
  show layT (upd H a (.tup [p.1,p.2])) as ps b = H b
  rw [layT_off as ps _ (fun z=>h (List.mem_cons_of_mem _ z)),upd_ne (fun z=>h (by rw [z]; exact List.mem_cons_self))]
theorem layT_at : ∀ (as : List Addr) (ps : List (V × V)) (H : Hp),as.length = ps.length → as.Nodup → Paired (fun (t : Addr) (p : V × V)=>layT H as ps t = some (.tup [p.1,p.2])) as ps
 | [],[],_,_,_=>.nil
 | [],_ :: _,_,h,_=>by cases h
 | _ :: _,[],_,h,_=>by cases h
 | a :: as,p :: ps,H,h,hn=>by
  have hn':=List.nodup_cons.mp hn
  have ih:=layT_at as ps (upd H a (.tup [p.1,p.2])) (Nat.succ.inj h) hn'.2
  refine .cons ?_ ih
  show layT (upd H a (.tup [p.1,p.2])) as ps a = some (.tup [p.1,p.2])
  rw [layT_off as ps _ hn'.1,upd_same]
/-- pairs of objects at new places -/
theorem lay_inv (I : Inv X pins σ H s) {h' : Heap} {tk : Nat} {as : List Addr} {ps : List (V × V)} (hk : ∀ b o,s.heap.get? b = some o → h'.get? b = some o) (nd : as.Nodup) (hlo : ∀ a ∈ as,s.heap.objs.size ≤ a) (hl : as.length = ps.length)
  (hp : ∀ (j : Nat) (a : Addr) (p : V × V),as[j]? = some a → ps[j]? = some p → ∃ k v,RelV p.1 k ∧ RelV p.2 v ∧ h'.get? a = some { cls:=.type "tuple",data:=.seq #[k,v] }) :
  (∀ b o,H b = some o → layT H as ps b = some o) ∧ (∀ a ∈ as,H a = none) ∧ Paired (fun (t : Addr) (p : V × V)=>layT H as ps t = some (.tup [p.1,p.2])) as ps ∧ Inv X pins σ (layT H as ps) { s with heap:=h',toks:=tk }:=by
 have new : ∀ t ∈ as,H t = none:=fun t ht=>I.hok.fresh (hlo t ht)
 have atP:=layT_at as ps H hl nd
 have low : ∀ b o,s.heap.get? b = some o → b ∉ as:=fun b o e z=>absurd (Heap.lt_size e) (Nat.not_lt.mpr (hlo b z))
 have kp : ∀ b u,H b = some u → layT H as ps b = some u:=fun b u e=>by
  rw [layT_off as ps _ (fun z=>by rw [new b z] at e; cases e)]
  exact e
 refine ⟨kp,new,atP,?_⟩
 refine I.call' (ch:=[]) rfl ⟨fun b o q _ _ _=>hk b o q,fun b o q _ _ _=>⟨o.slots,hk b o q⟩,fun b o q n _=>?_,fun b o q _=>⟨o,hk b o q⟩,fun b xs q=>kp b _ q,fun b o u q=>kp b _ q,fun b ps q=>⟨#[],by rw [kp b _ q]; simp⟩⟩ (fun b u q=>?_) I.bare fun b z=>by simp at z
 ·rw [layT_off as ps _ (low b o q)]
  exact n
 ·by_cases hb : b ∈ as
  ·obtain ⟨j,p,e1,e2,e3⟩:=LiI.paired_ix atP hb
   rw [e3] at q
   cases q
   obtain ⟨k,v,g1,g2,g3⟩:=hp j b p e1 e2
   exact ⟨by show 2 ≤ sizeLine; decide,[k,v],.cons g1 (.cons g2 .nil),⟨_,g3,rfl,_,rfl⟩⟩
  ·rw [layT_off as ps _ hb] at q
   exact (I.hok b u q).stay (fun d v _ y=>hk d v y) (fun d y=>kp d _ y) fun d xs y=>kp d _ y
end
noncomputable def itK : List (D × U) → Option (List D)
 | []=>some []
 | (k,.d x) :: r=>(itK r).map fun ds=>.tup [k,x] :: ds
 | _=>none
noncomputable def fSortKI (w : World) (f : F U) : F U:=bnd f fun u=>fun _ st=>match kdG w st u with
 | some kvs=>match itK kvs with
  | some ds=>if ds.length < 1000 then R.of st ((sortL ds).map fun ds=>U.d (.lst ds)) else .bad
  | none=>.bad
 | none=>.bad
noncomputable def fSortKIC (w : World) (f : F U) : F U:=bnd f fun u=>fun _ st=>match kdG w st u with
 | some kvs=>match itK kvs with
  | some ds=>if ds.length < 1000 then R.of2 ((sortL ds).map fun ds=>(U.ref st.length,st ++ [O.lst (ds.map U.d)])) else .bad
  | none=>.bad
 | none=>.bad
theorem rpUs_of_d {K : PySem.W.Frag} {m : List Addr} {H : Hp} : ∀ {ds : List D} {vs : List V},RpDs K m H ds vs → RpUs K m H (ds.map U.d) vs
 | [],_,h=>h
 | d :: ds,_,⟨v,r,e,h1,h2⟩=>⟨v,r,e,h1,rpUs_of_d h2⟩
theorem itK_rp {K : PySem.W.Frag} {m : List Addr} {H H' : Hp} {m' : List Addr} (x : Ext m H m' H') : ∀ {us : List (D × U)} {es : List (NestedKey × Addr × V)} {ds : List D} {as : List Addr},RpUKd K m H us es → itK us = some ds →
  Paired (fun (t : Addr) (p : V × V)=>H' t = some (.tup [p.1,p.2])) as (es.map fun p=>(V.ref p.2.1,p.2.2)) → (∀ a ∈ as,a ∉ m') → RpDs K m' H' ds (as.map V.ref)
 | [],es,ds,as,h,e,q,_=>by
  cases e
  rw [show es = [] from h] at q
  cases q
  rfl
 | (k,u) :: us,_,ds,as,⟨n,b,v,r,he,hk,h0,h1,h2⟩,e,q,hm=>by
  subst he
  cases q with
  | @cons a _ as _ q1 q2 =>
   cases u with
   | d y =>
    unfold itK at e
    cases e2 : itK us with
    | none=>rw [e2] at e; cases e
    | some ds' =>
     rw [e2] at e
     cases e
     exact ⟨_,_,rfl,⟨a,_,rfl,.inl ⟨hm a List.mem_cons_self,q1⟩,⟨_,_,rfl,h0.ext x,_,_,rfl,RpD.ext x (d:=y) h1,rfl⟩⟩,itK_rp x h2 e2 q2 fun c hc=>hm c (List.mem_cons_of_mem _ hc)⟩
   | _=>cases e
theorem itK_len : ∀ {us : List (D × U)} {ds : List D},itK us = some ds → ds.length = us.length
 | [],ds,e=>by cases e; rfl
 | (k,u) :: us,ds,e=>by
  cases u with
  | d y =>
   unfold itK at e
   cases e2 : itK us with
   | none=>rw [e2] at e; cases e
   | some ds'=>rw [e2] at e; cases e; exact congrArg Nat.succ (itK_len e2)
  | _=>cases e
theorem RpUKd.len {K : PySem.W.Frag} {m : List Addr} {H : Hp} : ∀ {us : List (D × U)} {es : List (NestedKey × Addr × V)},RpUKd K m H us es → es.length = us.length
 | [],es,h=>by rw [show es = [] from h]; rfl
 | (k,u) :: us,_,⟨n,b,v,r,he,hk,h0,h1,h2⟩=>by subst he; exact congrArg Nat.succ h2.len
section
variable {X : Cx} {W : WX} {x : Expr} {fx : F U} {p apos cpos pos : Pos} {w : World}
theorem d_sortKI (hw : w = X.w) (hc : X.calm = true) (hu : X.A.units + 65 < cLine) (hm : X.mg "sorted" = none) (hx : DE X W x fx) (hg : Gl X "sorted":=by rfl)
  (hbase : attributeBase x "items" X.env (eval x X.env) = eval x X.env:=by rfl) (hline : (apos.endLine == cpos.line) = true:=by rfl)
  (hs : starEach [.Call (.Attribute x "items" apos) [] [] cpos] X.env = [(false,eval (.Call (.Attribute x "items" apos) [] [] cpos) X.env)]:=by rfl) :
  DE X W (.Call (.Name "sorted" p) [.Call (.Attribute x "items" apos) [] [] cpos] [] pos) (fSortKI w fx):=by
 subst hw
 refine ⟨⟨fun pins s σ H Q I ⟨m,env,st,r,re,pp⟩=>?_⟩⟩
 refine wpAny_Call_Name_kw (ld_blt I hg hm bt_sorted ?_ (by decide) (by decide))
 rw [hs]
 have he:=hx.pe.run pins s σ H (fun v H1=>∃ u st1 m1,RpU X.K m1 H1 u v ∧ Rep X.K m1 st1 H1 ∧ RpEnv X.K m1 H1 env σ ∧ Ext m H m1 H1 ∧ PU X.K m1 H1 Q (fun c d H'=>W c d σ H') (match kdG X.w st1 u with
  | some kvs=>match itK kvs with
   | some ds=>if ds.length < 1000 then R.of st1 ((sortL ds).map fun ds=>U.d (.lst ds)) else .bad
   | none=>.bad
  | none=>.bad)) I (tF_step r re pp fun u st1 v m1 H1 g1 r1 re1 x1 p1=>⟨u,st1,m1,g1,r1,re1,x1,p1⟩)
 refine PySem.callWith_builtin1 (wpAny_Call_method0_late hbase hline (thn he fun v s1 ⟨xv,H1,I1,rv,u,st1,m1,g1,r1,re1,x1,p1⟩=>?_))
 split at p1
 ·rename_i kvs hk
  split at p1
  ·rename_i ds hds
   split at p1
   ·rename_i hz
    obtain ⟨a,o,es,rfl,ha,z,q⟩:=kdG_rp r1 g1 hk
    obtain ⟨le,hsys,xs,X1,dof⟩:=kd_dict I1 rfl ha z q
    obtain rfl : v = Value.ref a:=rv
    obtain ⟨ents,ep,raw,hsz,hent⟩:=dof.raw
    have raw':=raw
    obtain ⟨ob,ho,ex,hdat⟩:=raw'
    refine ⟨"dict","dict.items",F.plainAttrs_dict,F.slot_dict_items,F.type_dict_items,⟨ob,ho,ex.1⟩,fun b e=>?_,Calls.callWith_builtin rfl (PySem.evalArgs_none ?_)⟩
    ·cases e
     exact ⟨ob,ho,ex.2.1⟩
    refine call_meetsIn F.slot_dict_items ⟨ob,ho,ex.1⟩ F.entry_dict_items (F.args_dict_items_1 _) (PySem.meets_dict_items_raw a hsys) ⟨⟨ents,ep,raw⟩,?_⟩
    have I2 : Inv X pins σ H1 { s1 with heap:=s1.heap.push { cls:=.type "dict_items",data:=.fields #[.ref a] } }:=I1.kept (t':=s1.toks) fun b ob q=>Heap.get?_push_of_some _ q
    have lx : es.length = xs.length:=Paired.length X1
    have lk:=q.len
    have ld:=itK_len hds
    refine sort_col (enc:=encV) (R:=fun u b=>RelV b.2 u) (PySem.W.dil_collect (es:=ents) (ep:=ep) (d:=a) (by exact I1.ok.hd hc) ⟨_,Heap.get?_push_size _ rfl,rfl,rfl⟩ (raw.at fun o e=>Heap.get?_push_of_some _ e) (by omega) fun h' tk as hkeep hl hG=>?_)
    obtain ⟨kp,new,atP,I3⟩:=lay_inv (tk:=tk) (as:=as) (ps:=es.map fun p=>(V.ref p.2.1,p.2.2)) I2 hkeep (List.Pairwise.imp (fun {a b} (h : a < b)=>Nat.ne_of_lt h) hG.rise) (fun a ha=>Nat.le_of_lt (hG.above a ha)) (by rw [List.length_map]; omega) fun j a0 pr e1 e2=>by
     obtain ⟨hj,hga⟩:=hG.pairs j a0 e1
     obtain ⟨y,ey,k1,k2,-⟩:=hent j hj
     rw [List.getElem?_map] at e2
     obtain ⟨y0,f1,f2⟩:=Option.map_eq_some_iff.mp e2
     cases f2
     obtain ⟨y1,g1',g2,g3,g4⟩:=LiI.paired_get X1 f1
     rw [ey] at g1'
     cases g1'
     refine ⟨_,_,?_,?_,hga⟩
     ·rw [k1,g3]; rfl
     ·rw [k2]; exact g4
    have xt:=ext_more (m:=m1) kp
    have r3:=r1.more kp
    have qd:=itK_rp xt q hds atP fun a ha=>r1.fresh (new a ha)
    cases e : sortL ds with
    | none=>rw [e] at p1; exact p1.elim
    | some ds' =>
     rw [e] at p1
     exact sort_body I3 r3 qd (LiI.vals_refs as) e hz hu fun u2 s2 pa vs2 hn J rv2 qs=>by
      have xn:=ext_new r3 hn (.lst vs2)
      exact ⟨.ref pa,_,J,rv2,p1 (.ref pa) m1 _ ⟨pa,_,rfl,⟨r3.fresh hn,upd_same⟩,qs.ext xn⟩ (r3.new hn _) (xt.trans xn)⟩
   ·exact p1.elim
  ·exact p1.elim
 ·exact p1.elim
theorem d_sortKIC (hw : w = X.w) (hc : X.calm = true) (hu : X.A.units + 65 < cLine) (hm : X.mg "sorted" = none) (hx : DE X W x fx) (hg : Gl X "sorted":=by rfl)
  (hbase : attributeBase x "items" X.env (eval x X.env) = eval x X.env:=by rfl) (hline : (apos.endLine == cpos.line) = true:=by rfl)
  (hs : starEach [.Call (.Attribute x "items" apos) [] [] cpos] X.env = [(false,eval (.Call (.Attribute x "items" apos) [] [] cpos) X.env)]:=by rfl) :
  DE X W (.Call (.Name "sorted" p) [.Call (.Attribute x "items" apos) [] [] cpos] [] pos) (fSortKIC w fx):=by
 subst hw
 refine ⟨⟨fun pins s σ H Q I ⟨m,env,st,r,re,pp⟩=>?_⟩⟩
 refine wpAny_Call_Name_kw (ld_blt I hg hm bt_sorted ?_ (by decide) (by decide))
 rw [hs]
 have he:=hx.pe.run pins s σ H (fun v H1=>∃ u st1 m1,RpU X.K m1 H1 u v ∧ Rep X.K m1 st1 H1 ∧ RpEnv X.K m1 H1 env σ ∧ Ext m H m1 H1 ∧ PU X.K m1 H1 Q (fun c d H'=>W c d σ H') (match kdG X.w st1 u with
  | some kvs=>match itK kvs with
   | some ds=>if ds.length < 1000 then R.of2 ((sortL ds).map fun ds=>(U.ref st1.length,st1 ++ [O.lst (ds.map U.d)])) else .bad
   | none=>.bad
  | none=>.bad)) I (tF_step r re pp fun u st1 v m1 H1 g1 r1 re1 x1 p1=>⟨u,st1,m1,g1,r1,re1,x1,p1⟩)
 refine PySem.callWith_builtin1 (wpAny_Call_method0_late hbase hline (thn he fun v s1 ⟨xv,H1,I1,rv,u,st1,m1,g1,r1,re1,x1,p1⟩=>?_))
 split at p1
 ·rename_i kvs hk
  split at p1
  ·rename_i ds hds
   split at p1
   ·rename_i hz
    obtain ⟨a,o,es,rfl,ha,z,q⟩:=kdG_rp r1 g1 hk
    obtain ⟨le,hsys,xs,X1,dof⟩:=kd_dict I1 rfl ha z q
    obtain rfl : v = Value.ref a:=rv
    obtain ⟨ents,ep,raw,hsz,hent⟩:=dof.raw
    have raw':=raw
    obtain ⟨ob,ho,ex,hdat⟩:=raw'
    refine ⟨"dict","dict.items",F.plainAttrs_dict,F.slot_dict_items,F.type_dict_items,⟨ob,ho,ex.1⟩,fun b e=>?_,Calls.callWith_builtin rfl (PySem.evalArgs_none ?_)⟩
    ·cases e
     exact ⟨ob,ho,ex.2.1⟩
    refine call_meetsIn F.slot_dict_items ⟨ob,ho,ex.1⟩ F.entry_dict_items (F.args_dict_items_1 _) (PySem.meets_dict_items_raw a hsys) ⟨⟨ents,ep,raw⟩,?_⟩
    have I2 : Inv X pins σ H1 { s1 with heap:=s1.heap.push { cls:=.type "dict_items",data:=.fields #[.ref a] } }:=I1.kept (t':=s1.toks) fun b ob q=>Heap.get?_push_of_some _ q
    have lx : es.length = xs.length:=Paired.length X1
    have lk:=q.len
    have ld:=itK_len hds
    refine sort_col (enc:=encV) (R:=fun u b=>RelV b.2 u) (PySem.W.dil_collect (es:=ents) (ep:=ep) (d:=a) (by exact I1.ok.hd hc) ⟨_,Heap.get?_push_size _ rfl,rfl,rfl⟩ (raw.at fun o e=>Heap.get?_push_of_some _ e) (by omega) fun h' tk as hkeep hl hG=>?_)
    obtain ⟨kp,new,atP,I3⟩:=lay_inv (tk:=tk) (as:=as) (ps:=es.map fun p=>(V.ref p.2.1,p.2.2)) I2 hkeep (List.Pairwise.imp (fun {a b} (h : a < b)=>Nat.ne_of_lt h) hG.rise) (fun a ha=>Nat.le_of_lt (hG.above a ha)) (by rw [List.length_map]; omega) fun j a0 pr e1 e2=>by
     obtain ⟨hj,hga⟩:=hG.pairs j a0 e1
     obtain ⟨y,ey,k1,k2,-⟩:=hent j hj
     rw [List.getElem?_map] at e2
     obtain ⟨y0,f1,f2⟩:=Option.map_eq_some_iff.mp e2
     cases f2
     obtain ⟨y1,g1',g2,g3,g4⟩:=LiI.paired_get X1 f1
     rw [ey] at g1'
     cases g1'
     refine ⟨_,_,?_,?_,hga⟩
     ·rw [k1,g3]; rfl
     ·rw [k2]; exact g4
    have xt:=ext_more (m:=m1) kp
    have r3:=r1.more kp
    have qd:=itK_rp xt q hds atP fun a ha=>r1.fresh (new a ha)
    cases e : sortL ds with
    | none=>rw [e] at p1; exact p1.elim
    | some ds' =>
     rw [e] at p1
     exact sort_body I3 r3 qd (LiI.vals_refs as) e hz hu fun u2 s2 pa vs2 hn J rv2 qs=>by
      have xn:=ext_push r3 hn (.lst vs2)
      exact ⟨.ref pa,_,J,rv2,p1 (.ref pa) (m1 ++ [pa]) _ ⟨pa,by rw [← r3.len]; simp,rfl⟩ (r3.push hn ⟨vs2,rfl,rpUs_of_d (qs.ext xn)⟩) (xt.trans xn)⟩
   ·exact p1.elim
  ·exact p1.elim
 ·exact p1.elim
end
theorem kdl_raw {prog : Program} {w : World} {d : Addr} {es : Array DictEntry} {ep : Nat} (lo : (d == sysModules) = false) : PySem.W.KdlSrc prog w "dict" d d es.size (fun i v=>∃ hi : i < es.size,v = es[i].key) (fun h=>h.DictRaw d es ep) where
 type:=fun _ hm=>hm.typeIs
 there:=fun _ hm=>⟨hm.lt_size,hm.lt_size⟩
 keep:=fun _ _ hm hk=>hm.at fun o e=>hk d (.inl rfl) o e
 notList:=by decide
 notTuple:=by decide
 hint:=fun _ _ _ _ hm hq=>PySem.W.kdl_hint_dict hm.typeIs hq
 iter:=fun _ _ hh hm=>⟨_,_,(fun _ _ hq=>wpAny_pyIter_dict_raw lo hm hq),Walks.rawKeys hh _ d (Nat.ne_of_lt hm.lt_size) es ep,⟨⟨_,Heap.get?_push_size _ rfl,rfl,rfl⟩,hm.at fun o e=>Heap.get?_push_of_some _ e⟩⟩
noncomputable def oSortKK (w : World) : List U → Store → Option U:=fun us st=>match us with
 | [u]=>match kdG w st u with
  | some kvs=>if kvs.length < 1000 then (sortL (kvs.map (·.1))).map fun ds=>.d (.lst ds) else none
  | none=>none
 | _=>none
theorem RpUKd.keys {K : PySem.W.Frag} {m : List Addr} {H : Hp} : ∀ {us : List (D × U)} {es : List (NestedKey × Addr × V)},RpUKd K m H us es → RpDs K m H (us.map (·.1)) (es.map fun p=>V.ref p.2.1)
 | [],es,h=>by rw [show es = [] from h]; rfl
 | (k,u) :: us,_,⟨n,b,v,r,he,hk,h0,h1,h2⟩=>by subst he; exact ⟨_,_,rfl,h0,h2.keys⟩
theorem vals_ix : ∀ {vs : List V} {us : List Value},vs.length = us.length → (∀ (j : Nat) (v : V) (u : Value),vs[j]? = some v → us[j]? = some u → RelV v u) → Vals vs us
 | [],[],_,_=>.nil
 | [],_ :: _,h,_=>by cases h
 | _ :: _,[],h,_=>by cases h
 | v :: vs,u :: us,h,f=>.cons (f 0 v u rfl rfl) (vals_ix (Nat.succ.inj h) fun j v' u' e1 e2=>f (j + 1) v' u' e1 e2)
theorem cr_sortKK {X : Cx} {w : World} (hw : w = X.w) (hc : X.calm = true) (hu : X.A.units + 65 < cLine) : CallR X (.builtin "sorted") (rM X.K (pu (oSortKK w))):=by
 subst hw
 intro pins s σ H vs args Q I r ⟨m,st,us,rp,ru,p⟩
 obtain ⟨u,e,pp⟩:=p.pu
 clear p
 unfold oSortKK at e
 split at e
 ·obtain ⟨v,rfl,hv⟩:=ru.one
  split at e
  ·rename_i kvs hk
   split at e
   ·rename_i hz
    obtain ⟨a,o,es,rfl,ha,z,q⟩:=kdG_rp rp hv hk
    obtain ⟨le,hsys,xs,X1,dof⟩:=kd_dict I rfl ha z q
    rw [Vals.ref1 r]
    obtain ⟨ents,ep,raw,hsz,hent⟩:=dof.raw
    have lx : es.length = xs.length:=Paired.length X1
    have lk:=q.len
    refine sort_col (enc:=encV) (R:=fun u b=>RelV b.2 u) (PySem.W.kdu_collect (kdl_raw (es:=ents) (ep:=ep) hsys) (by exact I.ok.hd hc) raw (by omega) fun h' tk acc hkeep hacc=>?_)
    have I3 : Inv X pins σ H { s with heap:=h',toks:=tk }:=I.kept (t':=tk) hkeep
    have rv : Vals (es.map fun p=>V.ref p.2.1) acc.toList:=vals_ix (by have l1:=hacc.1; have l2 : acc.toList.length = acc.size:=Array.length_toList; rw [List.length_map]; omega) fun j v' u' e1 e2=>by
     obtain ⟨hi,e3⟩:=hacc.2 j u' (by rw [← Array.getElem?_toList]; exact e2)
     obtain ⟨y,ey,k1,-,-⟩:=hent j hi
     rw [List.getElem?_map] at e1
     obtain ⟨y0,f1,f2⟩:=Option.map_eq_some_iff.mp e1
     cases f2
     obtain ⟨y1,g1',g2,g3,g4⟩:=LiI.paired_get X1 f1
     rw [ey] at g1'
     cases g1'
     rw [e3,k1,g3]
     rfl
    cases e' : sortL (kvs.map (·.1)) with
    | none=>rw [e'] at e; cases e
    | some ds' =>
     rw [e'] at e
     cases e
     exact sort_body I3 rp q.keys rv e' (by rw [List.length_map]; exact hz) hu fun u2 s2 pa vs2 hn J rv2 qs=>by
      have xn:=ext_new rp hn (.lst vs2)
      exact ⟨.ref pa,_,J,rv2,pp (.ref pa) m _ ⟨pa,_,rfl,⟨rp.fresh hn,upd_same⟩,qs.ext xn⟩ (rp.new hn _) xn⟩
   ·cases e
  ·cases e
 ·cases e
noncomputable def strsV : List Value → Option (List Str)
 | []=>some []
 | .str x _ :: r=>(strsV r).map (x :: ·)
 | _=>none
noncomputable def gtsB (K : PySem.W.Frag) (x : Str) (ys : List Str) : Bool:=match PySem.W.nsIn K mainGlobals x with
 | some (some (.ref a))=>match K.lookup a with
  | some ⟨.type c,_,.seq its _,_⟩=>decide (c = "tuple") && (decide (its.size ≤ 1000) && decide (strsV its.toList = some ys))
  | _=>false
 | _=>false
noncomputable def GTs (K : PySem.W.Frag) (mg : Str → Option Value) (x : Str) (ys : List Str) : Prop:=∃ a,mg x = some (.ref a) ∧ SqT K (fun _=>none) a (ys.map V.str)
theorem strsV_vals : ∀ {vs : List Value} {ys : List Str},strsV vs = some ys → Vals (ys.map V.str) vs
 | [],_,e=>by cases e; exact .nil
 | v :: vs,ys,e=>by
  cases v with
  | str x t =>
   unfold strsV at e
   obtain ⟨zs,e1,rfl⟩:=Option.map_eq_some_iff.mp e
   exact .cons ⟨t,rfl⟩ (strsV_vals e1)
  | _=>cases e
theorem gts_mg {K : PySem.W.Frag} {h : Heap} {mg : Str → Option Value} {x : Str} {ys : List Str} (X : PySem.W.Frag.In K h) (G : h.Ns mainGlobals mg) (e : gtsB K x ys = true) : GTs K mg x ys:=by
 unfold gtsB at e
 split at e
 ·rename_i a q
  split at e
  ·rename_i c od its n sl q2
   simp only [Bool.and_eq_true,decide_eq_true_eq] at e
   obtain ⟨rfl,e1,e2⟩:=e
   exact ⟨a,PySem.W.mg_of X G q,.inr ⟨_,its,n,q2,rfl,rfl,by rw [sizeLine_eq]; omega,strsV_vals e2⟩⟩
  ·cases e
 ·cases e
theorem rpDs_strs {K : PySem.W.Frag} {m : List Addr} {H : Hp} : ∀ ys : List Str,RpDs K m H (ys.map D.str) (ys.map V.str)
 | []=>rfl
 | y :: ys=>⟨_,_,rfl,rfl,rpDs_strs ys⟩
theorem d_gts {X : Cx} {W : WX} {x : Str} {ys : List Str} {pos : Pos} (h : GTs X.K X.mg x ys) (hg : Gl X x:=by rfl) (hd : (x == ("__debug__" : Str)) = false:=by decide) : DE X W (.Name x pos) (vC (.tup (ys.map D.str))):=by
 obtain ⟨a,h1,h2⟩:=h
 exact d_glob (v:=.ref a) h1 rfl (fun _ _=>⟨a,_,rfl,.inr h2,rpDs_strs ys⟩) hg hd
end VL
namespace VL.K48
theorem ls_0 {α : Type} {us : List α} (h : us.length = 0) : us = []:=List.length_eq_zero_iff.mp h
theorem ls_1 {α : Type} {us : List α} (h : us.length = 1) : ∃ x0,us = [x0]:=match us,h with | [x0],_=>⟨x0,rfl⟩
theorem ls_2 {α : Type} {us : List α} (h : us.length = 2) : ∃ x0 x1,us = [x0,x1]:=match us,h with | [x0,x1],_=>⟨x0,x1,rfl⟩
theorem ls_3 {α : Type} {us : List α} (h : us.length = 3) : ∃ x0 x1 x2,us = [x0,x1,x2]:=match us,h with | [x0,x1,x2],_=>⟨x0,x1,x2,rfl⟩
open PySem PySem.Spec PyProof.Rows L2 VL
noncomputable def top (i : Nat) : Stmt:=PySem.Challenge.pw_settingsmerge_k48_rules_of_states.main.body.getD i (.Pass ⟨0,0,0,0⟩)
noncomputable abbrev s_L_law_bag : Stmt:=(top 10)
noncomputable abbrev s_L_law_take : Stmt:=(top 11)
noncomputable abbrev s_L_law_rows : Stmt:=(top 14)
noncomputable abbrev s_L_law_names : Stmt:=(top 12)
noncomputable abbrev s_State_init : Stmt:=(inClass (top 8) 0)
noncomputable abbrev s_State_ruled : Stmt:=(inClass (top 8) 3)
noncomputable abbrev s_State___eq__ : Stmt:=(inClass (top 8) 4)
noncomputable abbrev s_State___repr__ : Stmt:=(inClass (top 8) 5)
noncomputable abbrev s_L_law_refused : Stmt:=(top 13)
noncomputable abbrev s_law : Stmt:=(top 15)
noncomputable abbrev s_NoRule_init : Stmt:=(inClass (top 4) 0)
noncomputable def N_L_law_bag : List Str:=["_law_script","_law_at","_law_number","_law_mixed","_law_spot","_law_each"]
noncomputable def N_L_law_take : List Str:=["_law_bag_here","_law_many","_law_digit"]
noncomputable def N_L_law_rows : List Str:=["_law_bag_here","_law_found","_law_turn","_law_word","_law_met","_law_k"]
noncomputable def N_L_law_names : List Str:=["_law_bag_here","_law_many","_law_letters","_law_base","_law_k","_law_start","_law_is_behind","_law_some","_law_one"]
noncomputable def N_State_init : List Str:=["self","release","rows","rules","row"]
noncomputable def N_State_ruled : List Str:=["self","word","scope","rules","other","told"]
noncomputable def N_State___eq__ : List Str:=["self","other","mine"]
noncomputable def N_State___repr__ : List Str:=["self","words","value","status","overruled"]
noncomputable def N_L_law_refused : List Str:=["_law_state","_law_word","e"]
noncomputable def N_law : List Str:=["_law_script","_law_at","_law_bag_here","_law_rows_here","_law_names_here","_law_old","_law_scopes","_law_name","_law_k","_law_state","_law_due","_law_turn","_law_scope","_law_word","_law_before","_law_one","_law_left","_law_some","_law_words","_law_row","_law_told","_law_thing"]
theorem sc_L_law_bag : FnScope N_L_law_bag ["_law_script","_law_at"] (defScope s_L_law_bag):=⟨rfl,rfl,rfl,by decide +kernel,rfl,by decide +kernel,by decide +kernel⟩
theorem sc_L_law_take : FnScope N_L_law_take ["_law_bag_here","_law_many"] (defScope s_L_law_take):=⟨rfl,rfl,rfl,by decide +kernel,rfl,by decide +kernel,by decide +kernel⟩
theorem sc_L_law_rows : FnScope N_L_law_rows ["_law_bag_here"] (defScope s_L_law_rows):=⟨rfl,rfl,rfl,by decide +kernel,rfl,by decide +kernel,by decide +kernel⟩
theorem sc_L_law_names : FnScope N_L_law_names ["_law_bag_here","_law_many"] (defScope s_L_law_names):=⟨rfl,rfl,rfl,by decide +kernel,rfl,by decide +kernel,by decide +kernel⟩
theorem sc_State_init : FnScope N_State_init ["self","release","rows","rules"] (defScope s_State_init):=⟨rfl,rfl,rfl,by decide +kernel,rfl,by decide +kernel,by decide +kernel⟩
theorem sc_State_ruled : FnScope N_State_ruled ["self","word","scope"] (defScope s_State_ruled):=⟨rfl,rfl,rfl,by decide +kernel,rfl,by decide +kernel,by decide +kernel⟩
theorem sc_State___eq__ : FnScope N_State___eq__ ["self","other"] (defScope s_State___eq__):=⟨rfl,rfl,rfl,by decide +kernel,rfl,by decide +kernel,by decide +kernel⟩
theorem sc_State___repr__ : FnScope N_State___repr__ ["self"] (defScope s_State___repr__):=⟨rfl,rfl,rfl,by decide +kernel,rfl,by decide +kernel,by decide +kernel⟩
theorem sc_L_law_refused : FnScope N_L_law_refused ["_law_state","_law_word"] (defScope s_L_law_refused):=⟨rfl,rfl,rfl,by decide +kernel,rfl,by decide +kernel,by decide +kernel⟩
theorem sc_law : FnScope N_law ["_law_script"] (defScope s_law):=⟨rfl,rfl,rfl,by decide +kernel,rfl,by decide +kernel,by decide +kernel⟩
theorem sc_NoRule_init : FnScope ["self","word"] ["self","word"] (defScope s_NoRule_init):=⟨rfl,rfl,rfl,by decide +kernel,rfl,by decide +kernel,by decide +kernel⟩
set_option genInjectivity false in
/-- where the classes stand -/
structure AdR where
 C_State : Addr
 C_NoRule : Addr
 f_L_law_bag : Addr
 f_L_law_take : Addr
 f_L_law_rows : Addr
 f_L_law_names : Addr
 f_State_init : Addr
 f_State_ruled : Addr
 f_State___eq__ : Addr
 f_State___repr__ : Addr
 f_L_law_refused : Addr
 f_law : Addr
 f_NoRule_init : Addr
 E_State_init_rules : Addr
set_option genInjectivity false in
structure Ad extends AdR where
 w : World
noncomputable def Ad.own (a : Ad) : List Addr:=[a.C_State]
/-! the mirrors -/
noncomputable section
noncomputable def b_L_law_bag_1 (K : PySem.W.Frag) (a : Ad) : G :=
  (sAsg (f2 oMod (fB (pu oInt) (fCons (f2 oAdd (f2 oAdd (f2 oAdd (f2 oMul (vVar 3) (vC (.int 48017))) (f2 oMod (fB (pu oInt) (fCons (vVar 5) fNil)) (vC (.int 2147483587)))) (f2 oMul (vC (.int 89)) (vVar 4))) (vC (.int 5))) fNil)) (vC (.int 2147483563))) (tgN 3))
noncomputable def g_L_law_bag (K : PySem.W.Frag) (a : Ad) : G :=
  (sSeq (sAsg (fIf (asB (f2 oLt (vVar 1) (fB (pu oLen) (fCons (vVar 0) fNil)))) (f2 oIx (vVar 0) (vVar 1)) (vC (.int 0))) (tgN 2))
  (sSeq (sAsg (f2 oAdd (f2 oMul (vC (.int 436)) (vVar 1)) (vC (.int 79))) (tgN 3))
  (sSeq (sFor (fItS itE (fCons (fSl (vVar 0) oNone (oSome (vC (.int 63)))) fNil)) (tgT 2 (tgCons (tgN 4) (tgCons (tgN 5) tgNil))) (b_L_law_bag_1 K a))
  (sRet (fLstC (fCons (fIf (asB (f2 oGe (fB (pu oAbs) (fCons (vVar 2) fNil)) (f2 oPow (vC (.int 10)) (vC (.int 18))))) (fB (pu oAbs) (fCons (vVar 2) fNil)) (vC (.int 0))) (fCons (vVar 3) fNil)))))))
noncomputable def m_L_law_bag (K : PySem.W.Frag) (a : Ad) : List U → M U:=fnM 6 (g_L_law_bag K a) wKeep
noncomputable def g_L_law_take (K : PySem.W.Frag) (a : Ad) : G :=
  (sSeq (sIf (asB (f2 oGt (f2 oIx (vVar 0) (vC (.int 0))) (vC (.int 0))))
  (sSeq (sAsg (f2 oMod (fB (pu oInt) (fCons (f2 oIx (vVar 0) (vC (.int 0))) fNil)) (vVar 1)) (tgN 2))
  (sSeq (sAsg (f2 oFdiv (f2 oIx (vVar 0) (vC (.int 0))) (vVar 1)) (tgSub (vVar 0) (vC (.int 0))))
  (sRet (vVar 2))))
  sNil)
  (sSeq (sAsg (f2 oMod (fB (pu oInt) (fCons (f2 oAdd (f2 oMul (f2 oIx (vVar 0) (vC (.int 1))) (vC (.int 61027))) (vC (.int 8207))) fNil)) (vC (.int 2147483549))) (tgSub (vVar 0) (vC (.int 1))))
  (sRet (f2 oMod (f2 oFdiv (f2 oMod (fB (pu oInt) (fCons (f2 oMul (f2 oFdiv (f2 oIx (vVar 0) (vC (.int 1))) (vC (.int 13))) (vC (.int 33863))) fNil)) (vC (.int 2147483629))) (vC (.int 64))) (vVar 1)))))
noncomputable def m_L_law_take (K : PySem.W.Frag) (a : Ad) : List U → M U:=fnM 3 (g_L_law_take K a) wCut
noncomputable def c_L_law_rows_1 (K : PySem.W.Frag) (a : Ad) : F U :=
  fLc (fItN itR (fCons (fCall 2 0 gPos (m_L_law_take K a) (fCW (fCons (vVar 0) (fCons (vC (.int 3)) fNil)) fNil)) fNil)) (tgN 5) tYesB (f2 oIx (fN vLst (fCons (vC (.str "a")) (fCons (vC (.str "b")) (fCons (vC (.str "c")) fNil)))) (fCall 2 0 gPos (m_L_law_take K a) (fCW (fCons (vVar 0) (fCons (vC (.int 3)) fNil)) fNil))) [5]
noncomputable def b_L_law_rows_1 (K : PySem.W.Frag) (a : Ad) : G :=
  (sSeq (sAsg (f2 oIx (fN vLst (fCons (vC (.str "follows")) (fCons (vC (.str "own")) (fCons (vC (.str "held")) fNil)))) (fCall 2 0 gPos (m_L_law_take K a) (fCW (fCons (vVar 0) (fCons (vC (.int 3)) fNil)) fNil))) (tgN 3))
  (sSeq (sAsg (fB (pu oSortTT) (fCons (c_L_law_rows_1 K a) fNil)) (tgN 4))
  (sExpr (fM "list" mAppend (vVar 1) (fCons (fTup (fCons (f2 oIx (fN vLst (fCons (vC .non) (fCons (vC (.str "x")) (fCons (vC (.str "y")) fNil)))) (fCall 2 0 gPos (m_L_law_take K a) (fCW (fCons (vVar 0) (fCons (vC (.int 3)) fNil)) fNil))) (fCons (vVar 3) (fCons (fIf (asB (f2 oNe (vVar 3) (vC (.str "follows")))) (fB (pu oTuple) (fCons (vVar 4) fNil)) (fTup fNil)) fNil)))) fNil)))))
noncomputable def g_L_law_rows (K : PySem.W.Frag) (a : Ad) : G :=
  (sSeq (sAsg (fLstC fNil) (tgN 1))
  (sSeq (sFor (fItN itR (fCons (fCall 2 0 gPos (m_L_law_take K a) (fCW (fCons (vVar 0) (fCons (vC (.int 6)) fNil)) fNil)) fNil)) (tgN 2) (b_L_law_rows_1 K a))
  (sRet (vVar 1))))
noncomputable def m_L_law_rows (K : PySem.W.Frag) (a : Ad) : List U → M U:=fnM 6 (g_L_law_rows K a) wFrz
noncomputable def c_L_law_names_1 (K : PySem.W.Frag) (a : Ad) : F U :=
  fLc (fItN itR (fCons (f2 oIx (fN vLst (fCons (vC (.int 0)) (fCons (vC (.int 0)) (fCons (vC (.int 1)) (fCons (vC (.int 3)) (fCons (vC (.int 7)) fNil)))))) (fCall 2 0 gPos (m_L_law_take K a) (fCW (fCons (vVar 0) (fCons (vC (.int 5)) fNil)) fNil))) fNil)) (tgN 4) tYesB (f2 oIx (vVar 2) (fCall 2 0 gPos (m_L_law_take K a) (fCW (fCons (vVar 0) (fCons (vC (.int 26)) fNil)) fNil))) [4]
noncomputable def c_L_law_names_2 (K : PySem.W.Frag) (a : Ad) : F U :=
  fLc (fItN itR (fCons (vVar 1) fNil)) (tgN 4) tYesB (f2 oIx (vVar 2) (f2 oMod (f2 oAdd (vVar 5) (f2 oMul (vC (.int 5)) (vVar 4))) (vC (.int 26)))) [4]
noncomputable def c_L_law_names_3 (K : PySem.W.Frag) (a : Ad) : F U :=
  fLc (fIter (vVar 7)) (tgN 8) tYesB (fIf (asT (vVar 6)) (f2 oAdd (vVar 3) (vVar 8)) (f2 oAdd (vVar 8) (vVar 3))) [8]
noncomputable def g_L_law_names (K : PySem.W.Frag) (a : Ad) : G :=
  (sSeq (sAsg (vC (.str "abcdefghijklmnopqrstuvwxyz")) (tgN 2))
  (sSeq (sAsg (fM "str" (pu4 mJoin) (vC (.str "")) (fCons (c_L_law_names_1 K a) fNil)) (tgN 3))
  (sSeq (sAsg (fTup (fCons (fCall 2 0 gPos (m_L_law_take K a) (fCW (fCons (vVar 0) (fCons (vC (.int 26)) fNil)) fNil)) (fCons (fCall 2 0 gPos (m_L_law_take K a) (fCW (fCons (vVar 0) (fCons (vC (.int 2)) fNil)) fNil)) fNil))) (tgT 2 (tgCons (tgN 5) (tgCons (tgN 6) tgNil))))
  (sSeq (sAsg (c_L_law_names_2 K a) (tgN 7))
  (sRet (c_L_law_names_3 K a))))))
noncomputable def m_L_law_names (K : PySem.W.Frag) (a : Ad) : List U → M U:=fnM 9 (g_L_law_names K a) wFrz
noncomputable def c_State_init_1 (K : PySem.W.Frag) (a : Ad) : F U :=
  fLc (fIter (vVar 2)) (tgN 4) tYesB (fB (pu oTuple) (fCons (vVar 4) fNil)) [4]
noncomputable def g_State_init (K : PySem.W.Frag) (a : Ad) : G :=
  (sSeq (sFldS [a.C_State] "release" (vVar 0) (vVar 1))
  (sSeq (sFldS [a.C_State] "rows" (vVar 0) (fB (pu oTuple) (fCons (c_State_init_1 K a) fNil)))
  (sFldS [a.C_State] "rules" (vVar 0) (fB (pu oTuple) (fCons (fB (pu oSortL) (fCons (vVar 3) fNil)) fNil)))))
noncomputable def m_State_init (K : PySem.W.Frag) (a : Ad) : List U → M U:=fnM 5 (g_State_init K a) wId
noncomputable def c_State_ruled_1 (K : PySem.W.Frag) (a : Ad) : F U :=
  fLcC (fIter (fFld [a.C_State] "rules" (vVar 0))) (tgT 2 (tgCons (tgN 4) (tgCons (tgN 5) tgNil))) (asB (f2 oNe (vVar 4) (vVar 2))) (fTup (fCons (vVar 4) (fCons (vVar 5) fNil))) [4,5]
noncomputable def g_State_ruled (K : PySem.W.Frag) (a : Ad) : G :=
  (sSeq (sIf (bAnd (asB (f2 oNotN (vVar 1) (vC .non))) (bOr (bNot (asT (fB (pu (oIsi K a.own)) (fCons (vVar 1) (fCons (vC (.ty "str")) fNil))))) (asB (f2 oNotIn (vVar 1) (vC (.tup [.str "own",.str "shipped"]))))))
  (sRaise a.C_NoRule ["word"] (fCons (vVar 1) fNil))
  sNil)
  (sSeq (sAsg (c_State_ruled_1 K a) (tgN 3))
  (sSeq (sIf (asB (f2 oNotN (vVar 1) (vC .non)))
  (sExpr (fM "list" mAppend (vVar 3) (fCons (fTup (fCons (vVar 2) (fCons (vVar 1) fNil))) fNil)))
  sNil)
  (sRet (fWr wFrz (fMake a.C_State 2 1 (gPl (.d .non) [.p 0,.p 1,.p 2,.k 0] []) (m_State_init K a) (fCW (fCons (fFld [a.C_State] "release" (vVar 0)) (fCons (fFld [a.C_State] "rows" (vVar 0)) fNil)) (fCons (vVar 3) fNil))))))))
noncomputable def m_State_ruled (K : PySem.W.Frag) (a : Ad) : List U → M U:=fnM 6 (g_State_ruled K a) wFrz
noncomputable def g_State___eq__ (K : PySem.W.Frag) (a : Ad) : G :=
  (sSeq (sIf (bNot (asT (fB (pu (oIsi K a.own)) (fCons (vVar 1) (fCons (vC (.obj a.C_State)) fNil)))))
  (sRet (vC (.bl false)))
  sNil)
  (sSeq (sAsg (fTup (fCons (fFld [a.C_State] "release" (vVar 0)) (fCons (fFld [a.C_State] "rows" (vVar 0)) (fCons (fFld [a.C_State] "rules" (vVar 0)) fNil)))) (tgN 2))
  (sRet (f2 oEq (vVar 2) (fTup (fCons (fFld [a.C_State] "release" (vVar 1)) (fCons (fFld [a.C_State] "rows" (vVar 1)) (fCons (fFld [a.C_State] "rules" (vVar 1)) fNil))))))))
noncomputable def m_State___eq__ (K : PySem.W.Frag) (a : Ad) : List U → M U:=fnM 3 (g_State___eq__ K a) wFrz
noncomputable def c_State___repr___1 (K : PySem.W.Frag) (a : Ad) : F U :=
  fLc (fIter (fFld [a.C_State] "rows" (vVar 0))) (tgT 3 (tgCons (tgN 2) (tgCons (tgN 3) (tgCons (tgN 4) tgNil)))) tYesB (vVar 3) [2,3,4]
noncomputable def g_State___repr__ (K : PySem.W.Frag) (a : Ad) : G :=
  (sSeq (sAsg (c_State___repr___1 K a) (tgN 1))
  (sRet (fJs [(vC (.str "State(")),(f1 oFmt (fFld [a.C_State] "release" (vVar 0))),(vC (.str ", ")),(f1 oFmt (fM "list" (pu4 mCount) (vVar 1) (fCons (vC (.str "own")) fNil))),(vC (.str " own, ")),(f1 oFmt (fM "list" (pu4 mCount) (vVar 1) (fCons (vC (.str "held")) fNil))),(vC (.str " held)"))] Str.empty)))
noncomputable def m_State___repr__ (K : PySem.W.Frag) (a : Ad) : List U → M U:=fnM 5 (g_State___repr__ K a) wFrz
noncomputable def g_L_law_refused (K : PySem.W.Frag) (a : Ad) : G :=
  (sSeq (sTryAs K (.ref a.C_NoRule) 2 (sExpr (fMeth a.C_State "ruled" 2 0 gPos (m_State_ruled K a) (vVar 0) (fCW (fCons (vVar 1) (fCons (fTup (fCons (vC (.str "all")) (fCons (vC (.str "")) fNil))) fNil)) fNil))) (fun a0 d0 c0=>(sRet (fAnd (fB (pu (oIsX K a0 d0 c0 a.C_NoRule)) (fCons (vVar 2) (fCons (vC (.ty "TypeError")) fNil))) (fAnd (fNot (fB (pu (oIsX K a0 d0 c0 a.C_NoRule)) (fCons (vVar 2) (fCons (vC (.ty "ValueError")) fNil)))) (f2 oEq (fB (pu oRepr) (fCons (xFld a0 d0 c0 a.C_NoRule "word" 2) fNil)) (fB (pu oRepr) (fCons (vVar 1) fNil))))))))
  (sRet (vC (.bl false))))
noncomputable def m_L_law_refused (K : PySem.W.Frag) (a : Ad) : List U → M U:=fnM 3 (g_L_law_refused K a) wFrz
noncomputable def c_law_1 (K : PySem.W.Frag) (a : Ad) : F U :=
  fLc (fIter (vVar 4)) (tgN 7) tYesB (fTup (fCons (vC (.str "section")) (fCons (vVar 7) fNil))) [7]
noncomputable def c_law_2 (K : PySem.W.Frag) (a : Ad) : F U :=
  fLc (fItN itR (fCons (fB (pu oLen) (fCons (vVar 3) fNil)) fNil)) (tgN 8) tYesB (fTup (fCons (vC (.str "setting")) (fCons (vVar 8) fNil))) [8]
noncomputable def c_law_3 (K : PySem.W.Frag) (a : Ad) : F U :=
  fLc (fIter (fB (pu (oSortKK a.w)) (fCons (vVar 10) fNil))) (tgN 15) (asB (f2 oNe (vVar 15) (vVar 12))) (fTup (fCons (vVar 15) (fCons (f2 (oIxN a.w) (vVar 10) (vVar 15)) fNil))) [15]
noncomputable def b_law_1 (K : PySem.W.Frag) (a : Ad) : G :=
  (sSeq (sAsg (fTup (fCons (f2 oIx (vVar 6) (fCall 2 0 gPos (m_L_law_take K a) (fCW (fCons (vVar 2) (fCons (fB (pu oLen) (fCons (vVar 6) fNil)) fNil)) fNil))) (fCons (f2 oIx (fN vLst (fCons (vC (.str "own")) (fCons (vC (.str "shipped")) (fCons (vC .non) fNil)))) (fCall 2 0 gPos (m_L_law_take K a) (fCW (fCons (vVar 2) (fCons (vC (.int 3)) fNil)) fNil))) fNil))) (tgT 2 (tgCons (tgN 12) (tgCons (tgN 13) tgNil))))
  (sSeq (sPar 14 9 (fCons (vVar 9) (fCons (fMeth a.C_State "ruled" 2 0 gPos (m_State_ruled K a) (vVar 9) (fCW (fCons (vVar 13) (fCons (vVar 12) fNil)) fNil)) fNil)))
  (sSeq (sIf (asB (f2 oNe (fFld [a.C_State] "rules" (vVar 14)) (fB (pu oTuple) (fCons (fSortKI a.w (vVar 10)) fNil))))
  (sRet (vC (.bl false)))
  sNil)
  (sSeq (sAsg (fB (oDictK a.w) (fCons (c_law_3 K a) fNil)) (tgN 10))
  (sSeq (sIf (asB (f2 oNotN (vVar 13) (vC .non)))
  (sAsg (vVar 13) (tgSubN a.w (vVar 10) (vVar 12)))
  sNil)
  (sSeq (sIf (bOr (asB (f2 oNe (fFld [a.C_State] "rules" (vVar 9)) (fB (pu oTuple) (fCons (fSortKI a.w (vVar 10)) fNil)))) (bOr (asB (f2 oNe (fB (pu oList) (fCons (fFld [a.C_State] "rows" (vVar 9)) fNil)) (vVar 3))) (asB (f2 oNe (fFld [a.C_State] "release" (vVar 9)) (vVar 5)))))
  (sRet (vC (.bl false)))
  sNil)
  (sIf (asB (f2 oNe (f2s (eqM a.C_State eqTys (m_State___eq__ K a)) (vVar 14) (vVar 9)) (f2 oEq (fFld [a.C_State] "rules" (vVar 14)) (fFld [a.C_State] "rules" (vVar 9)))))
  (sRet (vC (.bl false)))
  sNil)))))))
noncomputable def w_law_1 (K : PySem.W.Frag) (a : Ad) : F Bool :=
  (asB (f2 oNe (vVar 16) (fN vLst fNil)))
noncomputable def b_law_2 (K : PySem.W.Frag) (a : Ad) : G :=
  (sExpr (fM "list" mAppend (vVar 17) (fCons (fM "list" mPop (vVar 16) (fCons (fCall 2 0 gPos (m_L_law_take K a) (fCW (fCons (vVar 2) (fCons (fB (pu oLen) (fCons (vVar 16) fNil)) fNil)) fNil)) fNil)) fNil)))
noncomputable def c_law_4 (K : PySem.W.Frag) (a : Ad) : F U :=
  fLc (fIter (vVar 3)) (tgN 19) tYesB (f2 oIx (vVar 19) (vC (.int 1))) [19]
noncomputable def b_law_3 (K : PySem.W.Frag) (a : Ad) : G :=
  (sIf (bNot (asT (fCall 2 0 gPos (m_L_law_refused K a) (fCW (fCons (vVar 9) (fCons (vVar 21) fNil)) fNil))))
  (sRet (vC (.bl false)))
  sNil)
noncomputable def b_law_4 (K : PySem.W.Frag) (a : Ad) : G :=
  (sSeq (sAsg (fCall 2 0 gPos (m_L_law_bag K a) (fCW (fCons (vVar 0) (fCons (vVar 1) fNil)) fNil)) (tgN 2))
  (sSeq (sPar3 3 4 5 (fCons (fCall 1 0 gPos (m_L_law_rows K a) (fCW (fCons (vVar 2) fNil) fNil)) (fCons (fCall 2 0 gPos (m_L_law_names K a) (fCW (fCons (vVar 2) (fCons (vC (.int 3)) fNil)) fNil)) (fCons (fCall 2 0 gPos (m_L_law_take K a) (fCW (fCons (vVar 2) (fCons (vC (.int 7)) fNil)) fNil)) fNil))))
  (sSeq (sAsg (f2 oAdd (f2 oAdd (fN vLst (fCons (fTup (fCons (vC (.str "all")) (fCons (vC (.str "")) fNil))) fNil)) (c_law_1 K a)) (c_law_2 K a)) (tgN 6))
  (sSeq (sAsg (fTup (fCons (fWr wFrz (fMake a.C_State 2 0 (gPl (.d .non) [.p 0,.p 1,.p 2,.e 0] [.d (.tup [])]) (m_State_init K a) (fCW (fCons (vVar 5) (fCons (vVar 3) fNil)) fNil))) (fCons (fKdc a.w) fNil))) (tgT 2 (tgCons (tgN 9) (tgCons (tgN 10) tgNil))))
  (sSeq (sFor (fItN itR (fCons (fCall 2 0 gPos (m_L_law_take K a) (fCW (fCons (vVar 2) (fCons (vC (.int 13)) fNil)) fNil)) fNil)) (tgN 11) (b_law_1 K a))
  (sSeq (sPar 16 17 (fCons (fSortKIC a.w (vVar 10)) (fCons (fLstC fNil) fNil)))
  (sSeq (loopW (w_law_1 K a) (b_law_2 K a) 100)
  (sSeq (sAsg (c_law_4 K a) (tgN 18))
  (sSeq (sAsg (fN vLst (fCons (fB (pu oStr) (fCons (vVar 5) fNil)) (fCons (fB (pu oStr) (fCons (fM "list" (pu4 mCount) (vVar 18) (fCons (vC (.str "own")) fNil)) fNil)) (fCons (fB (pu oStr) (fCons (fM "list" (pu4 mCount) (vVar 18) (fCons (vC (.str "held")) fNil)) fNil)) fNil)))) (tgN 20))
  (sSeq (sIf (asB (f2 oNe (fB (oReprO a.C_State (m_State___repr__ K a)) (fCons (vVar 9) fNil)) (f2 oAdd (f2 oAdd (f2 oAdd (f2 oAdd (f2 oAdd (f2 oAdd (vC (.str "State(")) (f2 oIx (vVar 20) (vC (.int 0)))) (vC (.str ", "))) (f2 oIx (vVar 20) (vC (.int 1)))) (vC (.str " own, "))) (f2 oIx (vVar 20) (vC (.int 2)))) (vC (.str " held)")))))
  (sRet (vC (.bl false)))
  sNil)
  (sSeq (sIf (bOr (asB (f2s (neM a.C_State eqTys (m_State___eq__ K a)) (fWr wFrz (fMake a.C_State 2 1 (gPl (.d .non) [.p 0,.p 1,.p 2,.k 0] []) (m_State_init K a) (fCW (fCons (vVar 5) (fCons (vVar 3) fNil)) (fCons (vVar 17) fNil)))) (vVar 9))) (asB (f2s (eqM a.C_State eqTys (m_State___eq__ K a)) (fWr wFrz (fMake a.C_State 2 1 (gPl (.d .non) [.p 0,.p 1,.p 2,.k 0] []) (m_State_init K a) (fCW (fCons (f2 oAdd (vVar 5) (vC (.int 1))) (fCons (vVar 3) fNil)) (fCons (vVar 17) fNil)))) (vVar 9))))
  (sRet (vC (.bl false)))
  sNil)
  (sSeq (sFor (fIter (fN vLst (fCons (vC (.str "OWN")) (fCons (vC (.str "")) (fCons (vC (.bl true)) (fCons (vC (.int 0)) (fCons (fTup (fCons (vC (.str "own")) fNil)) (fCons (fN vLst (fCons (vC (.str "own")) fNil)) (fCons (vC (.str "held")) fNil))))))))) (tgN 21) (b_law_3 K a))
  (sIf (bOr (asB (f2s (eqM a.C_State eqTys (m_State___eq__ K a)) (vVar 9) (fFld [a.C_State] "rules" (vVar 9)))) (bOr (asB (f2s (eqM a.C_State eqTys (m_State___eq__ K a)) (vVar 9) (vC .non))) (bOr (asB (f2s (eqM a.C_State eqTys (m_State___eq__ K a)) (vVar 9) (fB (pu oList) (fCons (fFld [a.C_State] "rows" (vVar 9)) fNil)))) (asB (f2s (eqM a.C_State eqTys (m_State___eq__ K a)) (vVar 9) (fB (oReprO a.C_State (m_State___repr__ K a)) (fCons (vVar 9) fNil)))))))
  (sRet (vC (.bl false)))
  sNil)))))))))))))
noncomputable def g_law (K : PySem.W.Frag) (a : Ad) : G :=
  (sSeq (sFor (fItN itR (fCons (fB (pu oMax) (fCons (vC (.int 2)) (fCons (fB (pu oMin) (fCons (vC (.int 4)) (fCons (fB (pu oLen) (fCons (vVar 0) fNil)) fNil))) fNil))) fNil)) (tgN 1) (b_law_4 K a))
  (sRet (vC (.bl true))))
noncomputable def m_law (K : PySem.W.Frag) (a : Ad) : List U → M U:=fnM 22 (g_law K a) wFrz
end
structure Tx (w : World) (K : PySem.W.Frag) (mg : Str → Option Value) (base : Heap) (a : Ad) : Prop where
 ww : a.w = w
 z_TypeError : mg "TypeError" = none
 z_ValueError : mg "ValueError" = none
 z_abs : mg "abs" = none
 z_dict : mg "dict" = none
 z_enumerate : mg "enumerate" = none
 z_int : mg "int" = none
 z_isinstance : mg "isinstance" = none
 z_len : mg "len" = none
 z_list : mg "list" = none
 z_max : mg "max" = none
 z_min : mg "min" = none
 z_range : mg "range" = none
 z_repr : mg "repr" = none
 z_set : mg "set" = none
 z_sorted : mg "sorted" = none
 z_str : mg "str" = none
 z_tuple : mg "tuple" = none
 g_HELD : GStr mg "HELD" "held"
 g_OWN : GStr mg "OWN" "own"
 g_WORDS : GTs K mg "WORDS" ["own","shipped"]
 m_State : mg "State" = some (.ref a.C_State)
 cl_State : Cls K a.C_State
 mk_State : Mk K a.C_State a.f_State_init
 me_State___eq__ : Meth K a.C_State "__eq__" a.f_State___eq__
 me_State___repr__ : Meth K a.C_State "__repr__" a.f_State___repr__
 me_State_ruled : Meth K a.C_State "ruled" a.f_State_ruled
 fl_release_State : Flds K [a.C_State] "release"
 fl_rows_State : Flds K [a.C_State] "rows"
 fl_rules_State : Flds K [a.C_State] "rules"
 m_L_law_bag : mg "_law_bag" = some (.ref a.f_L_law_bag)
 k_L_law_bag : PySem.W.keepIn K (.ref a.f_L_law_bag) = true
 F_L_law_bag : ∃ fd,Fun K "_law_bag" "_law_bag" s_L_law_bag a.f_L_law_bag fd
 m_L_law_take : mg "_law_take" = some (.ref a.f_L_law_take)
 k_L_law_take : PySem.W.keepIn K (.ref a.f_L_law_take) = true
 F_L_law_take : ∃ fd,Fun K "_law_take" "_law_take" s_L_law_take a.f_L_law_take fd
 m_L_law_rows : mg "_law_rows" = some (.ref a.f_L_law_rows)
 k_L_law_rows : PySem.W.keepIn K (.ref a.f_L_law_rows) = true
 F_L_law_rows : ∃ fd,Fun K "_law_rows" "_law_rows" s_L_law_rows a.f_L_law_rows fd
 m_L_law_names : mg "_law_names" = some (.ref a.f_L_law_names)
 k_L_law_names : PySem.W.keepIn K (.ref a.f_L_law_names) = true
 F_L_law_names : ∃ fd,Fun K "_law_names" "_law_names" s_L_law_names a.f_L_law_names fd
 t0_State_init_rules : Tup0 K a.E_State_init_rules
 F_State_init : ∃ fd,FunK K "__init__" "State.__init__" s_State_init a.f_State_init [("rules",.ref a.E_State_init_rules)] fd
 F_State_ruled : ∃ fd,Fun K "ruled" "State.ruled" s_State_ruled a.f_State_ruled fd
 F_State___eq__ : ∃ fd,Fun K "__eq__" "State.__eq__" s_State___eq__ a.f_State___eq__ fd
 F_State___repr__ : ∃ fd,Fun K "__repr__" "State.__repr__" s_State___repr__ a.f_State___repr__ fd
 m_L_law_refused : mg "_law_refused" = some (.ref a.f_L_law_refused)
 k_L_law_refused : PySem.W.keepIn K (.ref a.f_L_law_refused) = true
 F_L_law_refused : ∃ fd,Fun K "_law_refused" "_law_refused" s_L_law_refused a.f_L_law_refused fd
 m_NoRule : mg "NoRule" = some (.ref a.C_NoRule)
 xo_NoRule : OexB K a.C_NoRule
 xf_NoRule : XfC K a.C_NoRule
 xi_NoRule : PySem.W.findIn K (.ref a.C_NoRule) "__init__" = some (some (.ref a.f_NoRule_init))
 xt_NoRule : PySem.W.typeIn K (.ref a.f_NoRule_init) = some (.type "function")
 xn_NoRule_word : PySem.W.findIn K (.ref a.C_NoRule) "word" = some none
 F_NoRule_init : ∃ fd,Fun K "__init__" "NoRule.__init__" s_NoRule_init a.f_NoRule_init fd
 ei_NoRule : ExI K a.C_NoRule
 eq_State : EqC K a.C_State a.f_State___eq__ eqTys
 own : Own K a.own
section
variable {P : Program} {w : World} {K : PySem.W.Frag} {mg : Str → Option Value} {base : Heap} {a : Ad}
theorem exs_NoRule (T : Tx w K mg base a) : Exs P w K mg base a.C_NoRule ["word"]:=by
 obtain ⟨fd,F⟩:=T.F_NoRule_init
 exact ⟨T.xo_NoRule,T.xf_NoRule,a.f_NoRule_init,fd,T.xi_NoRule,T.xt_NoRule,init1_ok F sc_NoRule_init T.xo_NoRule T.xn_NoRule_word fun cdv A outer s H E=>(pss_one (ps_ob (pv 0) (pv 1))),F.binds (ps:=["self","word"]) fun _ _ _ _ _ _ us hl=>(by obtain ⟨_,_,rfl⟩:=ls_2 hl; rfl)⟩
set_option maxHeartbeats 4000000 in
theorem fn_L_law_bag {fd : FuncData} (F : Fun K "_law_bag" "_law_bag" s_L_law_bag a.f_L_law_bag fd) (T : Tx w K mg base a) : FnG P w K mg base 1 a.f_L_law_bag fd ["_law_script","_law_at"] (spM K 2 (m_L_law_bag K a)) :=
 fn_ok F sc_L_law_bag wKeep_ok fun cdv A outer s H E hr=>(show DB _ _ _ (g_L_law_bag K a) from
   (db_cons (ds_set 2 sc_L_law_bag.nd (d_if (dt_cmp op_lt' (d_var 1) (d_bi cr_len T.z_len bt_len (da_cons (d_var 0) da_nil))) (d_ix hr.u1 (d_var 0) (d_var 1)) d_int))
   (db_cons (ds_set 3 sc_L_law_bag.nd (d_op op_add' (d_op op_mul' d_int (d_var 1)) d_int))
   (db_cons (ds_for (passes_of rfl) rfl (d_enum T.z_enumerate (da_cons (d_sl (d_var 0) do_none (do_some d_int)) da_nil)) (dg_tup rfl (dgs_cons (dg_name 4 sc_L_law_bag.nd) (dgs_cons (dg_name 5 sc_L_law_bag.nd) dgs_nil))) (db_one (ds_set 3 sc_L_law_bag.nd (d_op op_mod' (d_bt cr_int T.z_int bt_int (da_cons (d_op op_add' (d_op op_add' (d_op op_add' (d_op op_mul' (d_var 3) d_int) (d_op op_mod' (d_bt cr_int T.z_int bt_int (da_cons (d_var 5) da_nil)) d_int)) (d_op op_mul' d_int (d_var 4))) d_int) da_nil)) d_int))))
   (db_one (ds_ret (d_lstC (da_cons (d_if (dt_cmp op_ge' (d_bi cr_abs T.z_abs bt_abs (da_cons (d_var 2) da_nil)) (d_op op_pow' d_int d_int)) (d_bi cr_abs T.z_abs bt_abs (da_cons (d_var 2) da_nil)) d_int) (da_cons (d_var 3) da_nil)))))))))
theorem ok_L_law_bag (T : Tx w K mg base a) : Fd P w K mg base a.f_L_law_bag 1 2 [] gPos (m_L_law_bag K a):=by
 obtain ⟨fd,F⟩:=T.F_L_law_bag
 exact Fd.of (fn_L_law_bag F T) (bd_pos (F.binds (ps:=["_law_script","_law_at"]) fun _ _ _ _ _ _ us hl=>(by obtain ⟨_,_,rfl⟩:=ls_2 hl; rfl)))
set_option maxHeartbeats 4000000 in
theorem fn_L_law_take {fd : FuncData} (F : Fun K "_law_take" "_law_take" s_L_law_take a.f_L_law_take fd) (T : Tx w K mg base a) : FnG P w K mg base 1 a.f_L_law_take fd ["_law_bag_here","_law_many"] (spM K 2 (m_L_law_take K a)) :=
 fn_ok F sc_L_law_take wCut_ok fun cdv A outer s H E hr=>(show DB _ _ _ (g_L_law_take K a) from
   (db_cons (ds_if (dt_cmp op_gt' (d_ix hr.u1 (d_var 0) d_int) d_int) (db_cons (ds_set 2 sc_L_law_take.nd (d_op op_mod' (d_bt cr_int T.z_int bt_int (da_cons (d_ix hr.u1 (d_var 0) d_int) da_nil)) (d_var 1)))
   (db_cons (ds_asg (d_op op_fdiv' (d_ix hr.u1 (d_var 0) d_int) (d_var 1)) (dg_sub (W:=W0) hr.u1 (d_var 0) d_int) nx_sub)
   (db_one (ds_ret (d_var 2))))) db_nil)
   (db_cons (ds_asg (d_op op_mod' (d_bt cr_int T.z_int bt_int (da_cons (d_op op_add' (d_op op_mul' (d_ix hr.u1 (d_var 0) d_int) d_int) d_int) da_nil)) d_int) (dg_sub (W:=W0) hr.u1 (d_var 0) d_int) nx_sub)
   (db_one (ds_ret (d_op op_mod' (d_op op_fdiv' (d_op op_mod' (d_bt cr_int T.z_int bt_int (da_cons (d_op op_mul' (d_op op_fdiv' (d_ix hr.u1 (d_var 0) d_int) d_int) d_int) da_nil)) d_int) d_int) (d_var 1)))))))
theorem ok_L_law_take (T : Tx w K mg base a) : Fd P w K mg base a.f_L_law_take 1 2 [] gPos (m_L_law_take K a):=by
 obtain ⟨fd,F⟩:=T.F_L_law_take
 exact Fd.of (fn_L_law_take F T) (bd_pos (F.binds (ps:=["_law_bag_here","_law_many"]) fun _ _ _ _ _ _ us hl=>(by obtain ⟨_,_,rfl⟩:=ls_2 hl; rfl)))
set_option maxHeartbeats 4000000 in
theorem fn_L_law_rows {fd : FuncData} (F : Fun K "_law_rows" "_law_rows" s_L_law_rows a.f_L_law_rows fd) (T : Tx w K mg base a) : FnG P w K mg base 2 a.f_L_law_rows fd ["_law_bag_here"] (spM K 1 (m_L_law_rows K a)) :=
 fn_ok F sc_L_law_rows wFrz_ok fun cdv A outer s H E hr=>(show DB _ _ _ (g_L_law_rows K a) from
   (db_cons (ds_set 1 sc_L_law_rows.nd (d_lstC da_nil))
   (db_cons (ds_for (passes_of rfl) rfl (d_range1 T.z_range (da_cons (d_call (ok_L_law_take T) T.m_L_law_take T.k_L_law_take (hr.mono (by decide)) (takes_of rfl rfl rfl rfl) (cw_pos (da_cons (d_var 0) (da_cons d_int da_nil)))) da_nil)) (dg_name 2 sc_L_law_rows.nd) (db_cons (ds_set 3 sc_L_law_rows.nd (d_ix hr.u1 (d_lst (da_cons d_str (da_cons d_str (da_cons d_str da_nil)))) (d_call (ok_L_law_take T) T.m_L_law_take T.k_L_law_take (hr.mono (by decide)) (takes_of rfl rfl rfl rfl) (cw_pos (da_cons (d_var 0) (da_cons d_int da_nil))))))
   (db_cons (ds_set 4 sc_L_law_rows.nd (d_sortTT rfl T.z_sorted T.z_set (da_cons (d_lcV rfl sc_L_law_rows.nd (d_range1 T.z_range (da_cons (d_call (ok_L_law_take T) T.m_L_law_take T.k_L_law_take (hr.mono (by decide)) (takes_of rfl rfl rfl rfl) (cw_pos (da_cons (d_var 0) (da_cons d_int da_nil)))) da_nil)) (blkOk_by (N:=N_L_law_rows) (sc:=defScope s_L_law_rows) (own:=[("_law_k",5)]) (by decide +kernel)) (fun _ _ _ _ _=>(dg_name 5 sc_L_law_rows.nd)) (fun _ _ _ _ _=>dts_nil) (fun _ _ _ _ _=>(d_ix hr.u1 (d_lst (da_cons d_str (da_cons d_str (da_cons d_str da_nil)))) (d_call (ok_L_law_take T) T.m_L_law_take T.k_L_law_take (hr.mono (by decide)) takes0 (cw_pos (da_cons (d_var 0) (da_cons d_int da_nil))))))) da_nil)))
   (db_one (ds_expr (d_m PySem.F.plainAttrs_list PySem.F.slot_list_append PySem.F.type_list_append mt_append' (d_var 1) (da_cons (d_tupC (da_cons (d_ix hr.u1 (d_lst (da_cons d_non (da_cons d_str (da_cons d_str da_nil)))) (d_call (ok_L_law_take T) T.m_L_law_take T.k_L_law_take (hr.mono (by decide)) (takes_of rfl rfl rfl rfl) (cw_pos (da_cons (d_var 0) (da_cons d_int da_nil))))) (da_cons (d_var 3) (da_cons (d_if (dt_cmp (op_ne' hr.u64) (d_var 3) d_str) (d_bt cr_tuple T.z_tuple bt_tuple (da_cons (d_var 4) da_nil)) (d_tupC da_nil)) da_nil)))) da_nil)))))))
   (db_one (ds_ret (d_var 1))))))
theorem ok_L_law_rows (T : Tx w K mg base a) : Fd P w K mg base a.f_L_law_rows 2 1 [] gPos (m_L_law_rows K a):=by
 obtain ⟨fd,F⟩:=T.F_L_law_rows
 exact Fd.of (fn_L_law_rows F T) (bd_pos (F.binds (ps:=["_law_bag_here"]) fun _ _ _ _ _ _ us hl=>(by obtain ⟨_,rfl⟩:=ls_1 hl; rfl)))
set_option maxHeartbeats 4000000 in
theorem fn_L_law_names {fd : FuncData} (F : Fun K "_law_names" "_law_names" s_L_law_names a.f_L_law_names fd) (T : Tx w K mg base a) : FnG P w K mg base 2 a.f_L_law_names fd ["_law_bag_here","_law_many"] (spM K 2 (m_L_law_names K a)) :=
 fn_ok F sc_L_law_names wFrz_ok fun cdv A outer s H E hr=>(show DB _ _ _ (g_L_law_names K a) from
   (db_cons (ds_set 2 sc_L_law_names.nd d_str)
   (db_cons (ds_set 3 sc_L_law_names.nd (d_m PySem.F.plainAttrs_str PySem.F.slot_str_join PySem.F.type_str_join mt_join' d_str (da_cons (d_lcV rfl sc_L_law_names.nd (d_range1 T.z_range (da_cons (d_ix hr.u1 (d_lst (da_cons d_int (da_cons d_int (da_cons d_int (da_cons d_int (da_cons d_int da_nil)))))) (d_call (ok_L_law_take T) T.m_L_law_take T.k_L_law_take (hr.mono (by decide)) (takes_of rfl rfl rfl rfl) (cw_pos (da_cons (d_var 0) (da_cons d_int da_nil))))) da_nil)) (blkOk_by (N:=N_L_law_names) (sc:=defScope s_L_law_names) (own:=[("_law_k",4)]) (by decide +kernel)) (fun _ _ _ _ _=>(dg_name 4 sc_L_law_names.nd)) (fun _ _ _ _ _=>dts_nil) (fun _ _ _ _ _=>(d_ix hr.u1 (d_var 2) (d_call (ok_L_law_take T) T.m_L_law_take T.k_L_law_take (hr.mono (by decide)) takes0 (cw_pos (da_cons (d_var 0) (da_cons d_int da_nil))))))) da_nil)))
   (db_cons (ds_asg (d_tupC (da_cons (d_call (ok_L_law_take T) T.m_L_law_take T.k_L_law_take (hr.mono (by decide)) (takes_of rfl rfl rfl rfl) (cw_pos (da_cons (d_var 0) (da_cons d_int da_nil)))) (da_cons (d_call (ok_L_law_take T) T.m_L_law_take T.k_L_law_take (hr.mono (by decide)) (takes_of rfl rfl rfl rfl) (cw_pos (da_cons (d_var 0) (da_cons d_int da_nil)))) da_nil))) (dg_tup rfl (dgs_cons (dg_name 5 sc_L_law_names.nd) (dgs_cons (dg_name 6 sc_L_law_names.nd) dgs_nil))) (nx_tup (nxs_cons (nx_name _) (nxs_cons (nx_name _) nxs_nil))))
   (db_cons (ds_setLcV 7 rfl sc_L_law_names.nd (sw_true rfl rfl rfl (by decide +kernel)) (d_range1 T.z_range (da_cons (d_var 1) da_nil)) (blkOk_by (N:=N_L_law_names) (sc:=defScope s_L_law_names) (own:=[("_law_k",4)]) (by decide +kernel)) (fun _ _ _ _ _=>(dg_name 4 sc_L_law_names.nd)) (fun _ _ _ _ _=>dts_nil) (fun _ _ _ _ _=>(d_ix hr.u1 (d_var 2) (d_op op_mod' (d_op op_add' (d_var 5) (d_op op_mul' d_int (d_var 4))) d_int))))
   (db_one (ds_ret (d_lcV rfl sc_L_law_names.nd (d_iter (d_var 7)) (blkOk_by (N:=N_L_law_names) (sc:=defScope s_L_law_names) (own:=[("_law_one",8)]) (by decide +kernel)) (fun _ _ _ _ _=>(dg_name 8 sc_L_law_names.nd)) (fun _ _ _ _ _=>dts_nil) (fun _ _ _ _ _=>(d_if (dt_truth (d_var 6)) (d_op op_add' (d_var 3) (d_var 8)) (d_op op_add' (d_var 8) (d_var 3))))))))))))
theorem ok_L_law_names (T : Tx w K mg base a) : Fd P w K mg base a.f_L_law_names 2 2 [] gPos (m_L_law_names K a):=by
 obtain ⟨fd,F⟩:=T.F_L_law_names
 exact Fd.of (fn_L_law_names F T) (bd_pos (F.binds (ps:=["_law_bag_here","_law_many"]) fun _ _ _ _ _ _ us hl=>(by obtain ⟨_,_,rfl⟩:=ls_2 hl; rfl)))
set_option maxHeartbeats 4000000 in
theorem fn_State_init {fd : FuncData} (F : Fun K "__init__" "State.__init__" s_State_init a.f_State_init fd) (T : Tx w K mg base a) : FnG P w K mg base 1 a.f_State_init fd ["self","release","rows","rules"] (spM K 4 (m_State_init K a)) :=
 fn_ok F sc_State_init wId_ok fun cdv A outer s H E hr=>(show DB _ _ _ (g_State_init K a) from
   (db_cons (ds_fld (cs:=[a.C_State]) (d_var 0) (d_var 1) T.fl_release_State)
   (db_cons (ds_fld (cs:=[a.C_State]) (d_var 0) (d_bt cr_tuple T.z_tuple bt_tuple (da_cons (d_lcV rfl sc_State_init.nd (d_iter (d_var 2)) (blkOk_by (N:=N_State_init) (sc:=defScope s_State_init) (own:=[("row",4)]) (by decide +kernel)) (fun _ _ _ _ _=>(dg_name 4 sc_State_init.nd)) (fun _ _ _ _ _=>dts_nil) (fun _ _ _ _ _=>(d_bt cr_tuple T.z_tuple bt_tuple (da_cons (d_var 4) da_nil)))) da_nil)) T.fl_rows_State)
   (db_one (ds_fld (cs:=[a.C_State]) (d_var 0) (d_bt cr_tuple T.z_tuple bt_tuple (da_cons (d_bi (cr_sortL hr.u65) T.z_sorted bt_sorted (da_cons (d_var 3) da_nil)) da_nil)) T.fl_rules_State)))))
theorem ok_State_init_3 (T : Tx w K mg base a) : Fd P w K mg base a.f_State_init 1 3 [] (gPl (.d .non) [.p 0,.p 1,.p 2,.e 0] [.d (.tup [])]) (m_State_init K a):=by
 obtain ⟨fd,F⟩:=T.F_State_init
 obtain ⟨g,gV,b⟩:=bd_pl (ps:=["self","release","rows","rules"]) F 3 [] [("rules",.ref a.E_State_init_rules)] [.d (.tup [])] [.p 0,.p 1,.p 2,.e 0] (fun q hq=>by revert q; simp) rfl (fun m H=>⟨_,_,rfl,(T.t0_State_init_rules).rp,rfl⟩)
  (fun _ _ _ _ _ _ us mv ws h1 h2 h3=>(by obtain ⟨_,_,_,rfl⟩:=ls_3 h1; obtain ⟨_,rfl⟩:=ls_1 h2; obtain rfl:=ls_0 h3; exact ⟨_,_,_,_,_,_,rfl,rfl,rfl⟩))
 exact Fd.of (fn_State_init F.fun T) b
theorem ok_State_init_3_rules (T : Tx w K mg base a) : Fd P w K mg base a.f_State_init 1 3 ["rules"] (gPl (.d .non) [.p 0,.p 1,.p 2,.k 0] []) (m_State_init K a):=by
 obtain ⟨fd,F⟩:=T.F_State_init
 obtain ⟨g,gV,b⟩:=bd_pl (ps:=["self","release","rows","rules"]) F 3 ["rules"] [] [] [.p 0,.p 1,.p 2,.k 0] (fun q hq=>by revert q; simp) rfl (fun m H=>rfl)
  (fun _ _ _ _ _ _ us mv ws h1 h2 h3=>(by obtain ⟨_,_,_,rfl⟩:=ls_3 h1; obtain rfl:=ls_0 h2; obtain ⟨_,rfl⟩:=ls_1 h3; exact rfl))
 exact Fd.of (fn_State_init F.fun T) b
set_option maxHeartbeats 4000000 in
theorem fn_State_ruled {fd : FuncData} (F : Fun K "ruled" "State.ruled" s_State_ruled a.f_State_ruled fd) (T : Tx w K mg base a) : FnG P w K mg base 3 a.f_State_ruled fd ["self","word","scope"] (spM K 3 (m_State_ruled K a)) :=
 fn_ok F sc_State_ruled wFrz_ok fun cdv A outer s H E hr=>(show DB _ _ _ (g_State_ruled K a) from
   (db_cons (ds_if (dw_pt (dw_and (dt_cmp op_notN' (d_var 1) d_non) (dw_and1 (dw_pt (dw_or (dt_not (dt_truth (d_bi (cr_isi T.own) T.z_isinstance bt_isinstance (da_cons (d_var 1) (da_cons (d_ty T.z_str bt_str) da_nil))))) (dw_or1 (dt_cmp (op_notIn' hr.u65) (d_var 1) (d_gts (ys:=["own","shipped"]) T.g_WORDS)))))))) (db_one (ds_raise (k:=0) rfl (takes_of rfl rfl rfl rfl) (exs_NoRule T) (hr.mono (by decide)) T.m_NoRule (da_cons (d_var 1) da_nil))) db_nil)
   (db_cons (ds_setLcCV 3 rfl sc_State_ruled.nd (sw_true rfl rfl rfl (by decide +kernel)) (d_iter (d_fld (cs:=[a.C_State]) (d_var 0) T.fl_rules_State)) (blkOk_by (N:=N_State_ruled) (sc:=defScope s_State_ruled) (own:=[("other",4),("told",5)]) (by decide +kernel)) (fun _ _ _ _ _=>(dg_tup rfl (dgs_cons (dg_name 4 sc_State_ruled.nd) (dgs_cons (dg_name 5 sc_State_ruled.nd) dgs_nil)))) (fun _ _ _ _ _=>(dts_one (dt_cmp (op_ne' hr.u64) (d_var 4) (d_var 2)))) (fun _ _ _ _ _=>(d_tupC (da_cons (d_var 4) (da_cons (d_var 5) da_nil)))))
   (db_cons (ds_if (dt_cmp op_notN' (d_var 1) d_non) (db_one (ds_expr (d_m PySem.F.plainAttrs_list PySem.F.slot_list_append PySem.F.type_list_append mt_append' (d_var 3) (da_cons (d_tupC (da_cons (d_var 2) (da_cons (d_var 1) da_nil))) da_nil)))) db_nil)
   (db_one (ds_ret (d_wr wFrz_ok (d_make T.mk_State (ok_State_init_3_rules T) T.m_State (hr.mono (by decide)) (takes_of rfl rfl rfl rfl) (cw_kw (da_cons (d_fld (cs:=[a.C_State]) (d_var 0) T.fl_release_State) (da_cons (d_fld (cs:=[a.C_State]) (d_var 0) T.fl_rows_State) da_nil)) (dk_cons (d_var 3) dk_nil))))))))))
theorem ok_State_ruled (T : Tx w K mg base a) : Fd P w K mg base a.f_State_ruled 3 3 [] gPos (m_State_ruled K a):=by
 obtain ⟨fd,F⟩:=T.F_State_ruled
 exact Fd.of (fn_State_ruled F T) (bd_pos (F.binds (ps:=["self","word","scope"]) fun _ _ _ _ _ _ us hl=>(by obtain ⟨_,_,_,rfl⟩:=ls_3 hl; rfl)))
set_option maxHeartbeats 4000000 in
theorem fn_State___eq__ {fd : FuncData} (F : Fun K "__eq__" "State.__eq__" s_State___eq__ a.f_State___eq__ fd) (T : Tx w K mg base a) : FnG P w K mg base 1 a.f_State___eq__ fd ["self","other"] (spM K 2 (m_State___eq__ K a)) :=
 fn_ok F sc_State___eq__ wFrz_ok fun cdv A outer s H E hr=>(show DB _ _ _ (g_State___eq__ K a) from
   (db_cons (ds_if (dt_not (dt_truth (d_bi (cr_isi T.own) T.z_isinstance bt_isinstance (da_cons (d_var 1) (da_cons (d_gobj T.m_State) da_nil))))) (db_one (ds_ret d_bl)) db_nil)
   (db_cons (ds_set 2 sc_State___eq__.nd (d_tupC (da_cons (d_fld (cs:=[a.C_State]) (d_var 0) T.fl_release_State) (da_cons (d_fld (cs:=[a.C_State]) (d_var 0) T.fl_rows_State) (da_cons (d_fld (cs:=[a.C_State]) (d_var 0) T.fl_rules_State) da_nil)))))
   (db_one (ds_ret (d_cmp (op_eq' hr.u64) (d_var 2) (d_tupC (da_cons (d_fld (cs:=[a.C_State]) (d_var 1) T.fl_release_State) (da_cons (d_fld (cs:=[a.C_State]) (d_var 1) T.fl_rows_State) (da_cons (d_fld (cs:=[a.C_State]) (d_var 1) T.fl_rules_State) da_nil))))))))))
theorem ok_State___eq__ (T : Tx w K mg base a) : Fd P w K mg base a.f_State___eq__ 1 2 [] gPos (m_State___eq__ K a):=by
 obtain ⟨fd,F⟩:=T.F_State___eq__
 exact Fd.of (fn_State___eq__ F T) (bd_pos (F.binds (ps:=["self","other"]) fun _ _ _ _ _ _ us hl=>(by obtain ⟨_,_,rfl⟩:=ls_2 hl; rfl)))
set_option maxHeartbeats 4000000 in
theorem fn_State___repr__ {fd : FuncData} (F : Fun K "__repr__" "State.__repr__" s_State___repr__ a.f_State___repr__ fd) (T : Tx w K mg base a) : FnG P w K mg base 1 a.f_State___repr__ fd ["self"] (spM K 1 (m_State___repr__ K a)) :=
 fn_ok F sc_State___repr__ wFrz_ok fun cdv A outer s H E hr=>(show DB _ _ _ (g_State___repr__ K a) from
   (db_cons (ds_setLcV 1 rfl sc_State___repr__.nd (sw_true rfl rfl rfl (by decide +kernel)) (d_iter (d_fld (cs:=[a.C_State]) (d_var 0) T.fl_rows_State)) (blkOk_by (N:=N_State___repr__) (sc:=defScope s_State___repr__) (own:=[("value",2),("status",3),("overruled",4)]) (by decide +kernel)) (fun _ _ _ _ _=>(dg_tup rfl (dgs_cons (dg_name 2 sc_State___repr__.nd) (dgs_cons (dg_name 3 sc_State___repr__.nd) (dgs_cons (dg_name 4 sc_State___repr__.nd) dgs_nil))))) (fun _ _ _ _ _=>dts_nil) (fun _ _ _ _ _=>(d_var 3)))
   (db_one (ds_ret (d_joined (dj_cons d_str (dj_cons (d_fmt (d_fld (cs:=[a.C_State]) (d_var 0) T.fl_release_State)) (dj_cons d_str (dj_cons (d_fmt (d_m PySem.F.plainAttrs_list PySem.F.slot_list_count PySem.F.type_list_count (mt_count' hr.u65) (d_var 1) (da_cons (d_gstr T.g_OWN) da_nil))) (dj_cons d_str (dj_cons (d_fmt (d_m PySem.F.plainAttrs_list PySem.F.slot_list_count PySem.F.type_list_count (mt_count' hr.u65) (d_var 1) (da_cons (d_gstr T.g_HELD) da_nil))) (dj_cons d_str dj_nil))))))))))))
theorem ok_State___repr__ (T : Tx w K mg base a) : Fd P w K mg base a.f_State___repr__ 1 1 [] gPos (m_State___repr__ K a):=by
 obtain ⟨fd,F⟩:=T.F_State___repr__
 exact Fd.of (fn_State___repr__ F T) (bd_pos (F.binds (ps:=["self"]) fun _ _ _ _ _ _ us hl=>(by obtain ⟨_,rfl⟩:=ls_1 hl; rfl)))
set_option maxHeartbeats 4000000 in
theorem fn_L_law_refused {fd : FuncData} (F : Fun K "_law_refused" "_law_refused" s_L_law_refused a.f_L_law_refused fd) (T : Tx w K mg base a) : FnG P w K mg base 4 a.f_L_law_refused fd ["_law_state","_law_word"] (spM K 2 (m_L_law_refused K a)) :=
 fn_ok F sc_L_law_refused wFrz_ok fun cdv A outer s H E hr=>(show DB _ _ _ (g_L_law_refused K a) from
   (db_cons (ds_try_as (i:=0) (c:=.ref a.C_NoRule) (gs:=fun a0 d0 c0=>(sRet (fAnd (fB (pu (oIsX K a0 d0 c0 a.C_NoRule)) (fCons (vVar 2) (fCons (vC (.ty "TypeError")) fNil))) (fAnd (fNot (fB (pu (oIsX K a0 d0 c0 a.C_NoRule)) (fCons (vVar 2) (fCons (vC (.ty "ValueError")) fNil)))) (f2 oEq (fB (pu oRepr) (fCons (xFld a0 d0 c0 a.C_NoRule "word" 2) fNil)) (fB (pu oRepr) (fCons (vVar 1) fNil))))))) 2 rfl rfl sc_L_law_refused.nd ⟨rfl,by decide,.inl T.m_NoRule⟩ (takes_of rfl rfl rfl rfl) (fun W pn xe tk pw=>(db_one (ds_expr (d_meth (d_var 0) T.cl_State T.me_State_ruled (ok_State_ruled T) (hr.mono (by decide)) tk (cw_pos (da_cons (d_var 1) (da_cons (d_tupC (da_cons d_str (da_cons d_str da_nil))) da_nil))))))) (fun a0 oe c0 d0 pn hz hf=>(db_one (ds_ret (d_and (d_bi (cr_isX T.ei_NoRule hz hf) T.z_isinstance bt_isinstance (da_cons (d_var 2) (da_cons (d_ty T.z_TypeError bt_TypeError) da_nil))) (d_and (d_not (d_bi (cr_isX T.ei_NoRule hz hf) T.z_isinstance bt_isinstance (da_cons (d_var 2) (da_cons (d_ty T.z_ValueError bt_ValueError) da_nil)))) (d_one (d_cmp (op_eq' hr.u64) (d_bi (cr_repr hr.gd hr.u65) T.z_repr bt_repr (da_cons (d_xf 2 T.xf_NoRule T.xn_NoRule_word hz hf) da_nil)) (d_bi (cr_repr hr.gd hr.u65) T.z_repr bt_repr (da_cons (d_var 1) da_nil))))))))))
   (db_one (ds_ret d_bl))))
theorem ok_L_law_refused (T : Tx w K mg base a) : Fd P w K mg base a.f_L_law_refused 4 2 [] gPos (m_L_law_refused K a):=by
 obtain ⟨fd,F⟩:=T.F_L_law_refused
 exact Fd.of (fn_L_law_refused F T) (bd_pos (F.binds (ps:=["_law_state","_law_word"]) fun _ _ _ _ _ _ us hl=>(by obtain ⟨_,_,rfl⟩:=ls_2 hl; rfl)))
set_option maxHeartbeats 4000000 in
theorem fn_law {fd : FuncData} (F : Fun K "law" "law" s_law a.f_law fd) (T : Tx w K mg base a) : FnG P w K mg base 5 a.f_law fd ["_law_script"] (spM K 1 (m_law K a)) :=
 fn_ok F sc_law wFrz_ok fun cdv A outer s H E hr=>(show DB _ _ _ (g_law K a) from
   (db_cons (ds_for (passes_of rfl) rfl (d_range1 T.z_range (da_cons (d_bi (cr_max rfl) T.z_max bt_max (da_cons d_int (da_cons (d_bi (cr_min rfl) T.z_min bt_min (da_cons d_int (da_cons (d_bi cr_len T.z_len bt_len (da_cons (d_var 0) da_nil)) da_nil))) da_nil))) da_nil)) (dg_name 1 sc_law.nd) (db_cons (ds_set 2 sc_law.nd (d_call (ok_L_law_bag T) T.m_L_law_bag T.k_L_law_bag (hr.mono (by decide)) (takes_of rfl rfl rfl rfl) (cw_pos (da_cons (d_var 0) (da_cons (d_var 1) da_nil)))))
   (db_cons (ds_par3 3 4 5 rfl sc_law.nd (da_cons (d_call (ok_L_law_rows T) T.m_L_law_rows T.k_L_law_rows (hr.mono (by decide)) (takes_of rfl rfl rfl rfl) (cw_pos (da_cons (d_var 2) da_nil))) (da_cons (d_call (ok_L_law_names T) T.m_L_law_names T.k_L_law_names (hr.mono (by decide)) (takes_of rfl rfl rfl rfl) (cw_pos (da_cons (d_var 2) (da_cons d_int da_nil)))) (da_cons (d_call (ok_L_law_take T) T.m_L_law_take T.k_L_law_take (hr.mono (by decide)) (takes_of rfl rfl rfl rfl) (cw_pos (da_cons (d_var 2) (da_cons d_int da_nil)))) da_nil))) (by decide) (by decide) (by decide) rfl)
   (db_cons (ds_set 6 sc_law.nd (d_op op_add' (d_op op_add' (d_lst (da_cons (d_tupC (da_cons d_str (da_cons d_str da_nil))) da_nil)) (d_lcV rfl sc_law.nd (d_iter (d_var 4)) (blkOk_by (N:=N_law) (sc:=defScope s_law) (own:=[("_law_name",7)]) (by decide +kernel)) (fun _ _ _ _ _=>(dg_name 7 sc_law.nd)) (fun _ _ _ _ _=>dts_nil) (fun _ _ _ _ _=>(d_tupC (da_cons d_str (da_cons (d_var 7) da_nil)))))) (d_lcV rfl sc_law.nd (d_range1 T.z_range (da_cons (d_bi cr_len T.z_len bt_len (da_cons (d_var 3) da_nil)) da_nil)) (blkOk_by (N:=N_law) (sc:=defScope s_law) (own:=[("_law_k",8)]) (by decide +kernel)) (fun _ _ _ _ _=>(dg_name 8 sc_law.nd)) (fun _ _ _ _ _=>dts_nil) (fun _ _ _ _ _=>(d_tupC (da_cons d_str (da_cons (d_var 8) da_nil)))))))
   (db_cons (ds_asg (d_tupC (da_cons (d_wr wFrz_ok (d_make T.mk_State (ok_State_init_3 T) T.m_State (hr.mono (by decide)) (takes_of rfl rfl rfl rfl) (cw_pos (da_cons (d_var 5) (da_cons (d_var 3) da_nil))))) (da_cons d_knew da_nil))) (dg_tup rfl (dgs_cons (dg_name 9 sc_law.nd) (dgs_cons (dg_name 10 sc_law.nd) dgs_nil))) (nx_tup (nxs_cons (nx_name _) (nxs_cons (nx_name _) nxs_nil))))
   (db_cons (ds_for (passes_of rfl) rfl (d_range1 T.z_range (da_cons (d_call (ok_L_law_take T) T.m_L_law_take T.k_L_law_take (hr.mono (by decide)) (takes_of rfl rfl rfl rfl) (cw_pos (da_cons (d_var 2) (da_cons d_int da_nil)))) da_nil)) (dg_name 11 sc_law.nd) (db_cons (ds_asg (d_tupC (da_cons (d_ix hr.u1 (d_var 6) (d_call (ok_L_law_take T) T.m_L_law_take T.k_L_law_take (hr.mono (by decide)) (takes_of rfl rfl rfl rfl) (cw_pos (da_cons (d_var 2) (da_cons (d_bi cr_len T.z_len bt_len (da_cons (d_var 6) da_nil)) da_nil))))) (da_cons (d_ix hr.u1 (d_lst (da_cons d_str (da_cons d_str (da_cons d_non da_nil)))) (d_call (ok_L_law_take T) T.m_L_law_take T.k_L_law_take (hr.mono (by decide)) (takes_of rfl rfl rfl rfl) (cw_pos (da_cons (d_var 2) (da_cons d_int da_nil))))) da_nil))) (dg_tup rfl (dgs_cons (dg_name 12 sc_law.nd) (dgs_cons (dg_name 13 sc_law.nd) dgs_nil))) (nx_tup (nxs_cons (nx_name _) (nxs_cons (nx_name _) nxs_nil))))
   (db_cons (ds_par 14 9 rfl sc_law.nd (da_cons (d_var 9) (da_cons (d_meth (d_var 9) T.cl_State T.me_State_ruled (ok_State_ruled T) (hr.mono (by decide)) (takes_of rfl rfl rfl rfl) (cw_pos (da_cons (d_var 13) (da_cons (d_var 12) da_nil)))) da_nil)) (by decide) rfl)
   (db_cons (ds_if (dt_cmp (op_ne' hr.u64) (d_fld (cs:=[a.C_State]) (d_var 14) T.fl_rules_State) (d_bt cr_tuple T.z_tuple bt_tuple (da_cons (d_sortKI T.ww rfl hr.u65 T.z_sorted (d_var 10)) da_nil))) (db_one (ds_ret d_bl)) db_nil)
   (db_cons (ds_set 10 sc_law.nd (d_bt (cr_dictK T.ww rfl hr.u65) T.z_dict bt_dict (da_cons (d_lcV rfl sc_law.nd (d_iter (d_bi (cr_sortKK T.ww rfl hr.u65) T.z_sorted bt_sorted (da_cons (d_var 10) da_nil))) (blkOk_by (N:=N_law) (sc:=defScope s_law) (own:=[("_law_one",15)]) (by decide +kernel)) (fun _ _ _ _ _=>(dg_name 15 sc_law.nd)) (fun _ _ _ _ _=>(dts_one (dt_cmp (op_ne' hr.u64) (d_var 15) (d_var 12)))) (fun _ _ _ _ _=>(d_tupC (da_cons (d_var 15) (da_cons (d_ixN T.ww hr.u64 (d_var 10) (d_var 15)) da_nil))))) da_nil)))
   (db_cons (ds_if (dt_cmp op_notN' (d_var 13) d_non) (db_one (ds_asg (d_var 13) (dg_subN (W:=W0) T.ww hr.u64 (d_var 10) (d_var 12)) nx_subN)) db_nil)
   (db_cons (ds_if (dw_pt (dw_or (dt_cmp (op_ne' hr.u64) (d_fld (cs:=[a.C_State]) (d_var 9) T.fl_rules_State) (d_bt cr_tuple T.z_tuple bt_tuple (da_cons (d_sortKI T.ww rfl hr.u65 T.z_sorted (d_var 10)) da_nil))) (dw_or (dt_cmp (op_ne' hr.u64) (d_bt cr_list T.z_list bt_list (da_cons (d_fld (cs:=[a.C_State]) (d_var 9) T.fl_rows_State) da_nil)) (d_var 3)) (dw_or1 (dt_cmp (op_ne' hr.u64) (d_fld (cs:=[a.C_State]) (d_var 9) T.fl_release_State) (d_var 5)))))) (db_one (ds_ret d_bl)) db_nil)
   (db_one (ds_if (dt_cmp (op_ne' hr.u64) (d_cmpS (op_eqM T.eq_State (ok_State___eq__ T) (hr.mono (by decide)) hr.u64) (eqM_no _ _ _) (d_var 14) (d_var 9)) (d_cmp (op_eq' hr.u64) (d_fld (cs:=[a.C_State]) (d_var 14) T.fl_rules_State) (d_fld (cs:=[a.C_State]) (d_var 9) T.fl_rules_State))) (db_one (ds_ret d_bl)) db_nil)))))))))
   (db_cons (ds_par 16 17 rfl sc_law.nd (da_cons (d_sortKIC T.ww rfl hr.u65 T.z_sorted (d_var 10)) (da_cons (d_lstC da_nil) da_nil)) (by decide) rfl)
   (db_cons (ds_while 100 (passes_of rfl) (dt_cmp (op_ne' hr.u64) (d_var 16) (d_lst da_nil)) (db_one (ds_expr (d_m PySem.F.plainAttrs_list PySem.F.slot_list_append PySem.F.type_list_append mt_append' (d_var 17) (da_cons (d_m PySem.F.plainAttrs_list PySem.F.slot_list_pop PySem.F.type_list_pop mt_pop' (d_var 16) (da_cons (d_call (ok_L_law_take T) T.m_L_law_take T.k_L_law_take (hr.mono (by decide)) (takes_of rfl rfl rfl rfl) (cw_pos (da_cons (d_var 2) (da_cons (d_bi cr_len T.z_len bt_len (da_cons (d_var 16) da_nil)) da_nil)))) da_nil)) da_nil)))))
   (db_cons (ds_setLcV 18 rfl sc_law.nd (sw_true rfl rfl rfl (by decide +kernel)) (d_iter (d_var 3)) (blkOk_by (N:=N_law) (sc:=defScope s_law) (own:=[("_law_row",19)]) (by decide +kernel)) (fun _ _ _ _ _=>(dg_name 19 sc_law.nd)) (fun _ _ _ _ _=>dts_nil) (fun _ _ _ _ _=>(d_ix hr.u1 (d_var 19) d_int)))
   (db_cons (ds_set 20 sc_law.nd (d_lst (da_cons (d_bt cr_str T.z_str bt_str (da_cons (d_var 5) da_nil)) (da_cons (d_bt cr_str T.z_str bt_str (da_cons (d_m PySem.F.plainAttrs_list PySem.F.slot_list_count PySem.F.type_list_count (mt_count' hr.u65) (d_var 18) (da_cons d_str da_nil)) da_nil)) (da_cons (d_bt cr_str T.z_str bt_str (da_cons (d_m PySem.F.plainAttrs_list PySem.F.slot_list_count PySem.F.type_list_count (mt_count' hr.u65) (d_var 18) (da_cons d_str da_nil)) da_nil)) da_nil)))))
   (db_cons (ds_if (dt_cmp (op_ne' hr.u64) (d_bi (cr_reprO T.me_State___repr__ (ok_State___repr__ T) (hr.mono (by decide))) T.z_repr bt_repr (da_cons (d_var 9) da_nil)) (d_op op_add' (d_op op_add' (d_op op_add' (d_op op_add' (d_op op_add' (d_op op_add' d_str (d_ix hr.u1 (d_var 20) d_int)) d_str) (d_ix hr.u1 (d_var 20) d_int)) d_str) (d_ix hr.u1 (d_var 20) d_int)) d_str)) (db_one (ds_ret d_bl)) db_nil)
   (db_cons (ds_if (dw_pt (dw_or (dt_cmpS (op_neM T.eq_State (ok_State___eq__ T) (hr.mono (by decide)) hr.u64) (neM_no _ _ _) (d_wr wFrz_ok (d_make T.mk_State (ok_State_init_3_rules T) T.m_State (hr.mono (by decide)) (takes_of rfl rfl rfl rfl) (cw_kw (da_cons (d_var 5) (da_cons (d_var 3) da_nil)) (dk_cons (d_var 17) dk_nil)))) (d_var 9)) (dw_or1 (dt_cmpS (op_eqM T.eq_State (ok_State___eq__ T) (hr.mono (by decide)) hr.u64) (eqM_no _ _ _) (d_wr wFrz_ok (d_make T.mk_State (ok_State_init_3_rules T) T.m_State (hr.mono (by decide)) (takes_of rfl rfl rfl rfl) (cw_kw (da_cons (d_op op_add' (d_var 5) d_int) (da_cons (d_var 3) da_nil)) (dk_cons (d_var 17) dk_nil)))) (d_var 9))))) (db_one (ds_ret d_bl)) db_nil)
   (db_cons (ds_for (passes_of rfl) rfl (d_iter (d_lst (da_cons d_str (da_cons d_str (da_cons d_bl (da_cons d_int (da_cons (d_tupC (da_cons d_str da_nil)) (da_cons (d_lst (da_cons d_str da_nil)) (da_cons d_str da_nil))))))))) (dg_name 21 sc_law.nd) (db_one (ds_if (dt_not (dt_truth (d_call (ok_L_law_refused T) T.m_L_law_refused T.k_L_law_refused (hr.mono (by decide)) (takes_of rfl rfl rfl rfl) (cw_pos (da_cons (d_var 9) (da_cons (d_var 21) da_nil)))))) (db_one (ds_ret d_bl)) db_nil)))
   (db_one (ds_if (dw_pt (dw_or (dt_cmpS (op_eqM T.eq_State (ok_State___eq__ T) (hr.mono (by decide)) hr.u64) (eqM_no _ _ _) (d_var 9) (d_fld (cs:=[a.C_State]) (d_var 9) T.fl_rules_State)) (dw_or (dt_cmpS (op_eqM T.eq_State (ok_State___eq__ T) (hr.mono (by decide)) hr.u64) (eqM_no _ _ _) (d_var 9) d_non) (dw_or (dt_cmpS (op_eqM T.eq_State (ok_State___eq__ T) (hr.mono (by decide)) hr.u64) (eqM_no _ _ _) (d_var 9) (d_bt cr_list T.z_list bt_list (da_cons (d_fld (cs:=[a.C_State]) (d_var 9) T.fl_rows_State) da_nil))) (dw_or1 (dt_cmpS (op_eqM T.eq_State (ok_State___eq__ T) (hr.mono (by decide)) hr.u64) (eqM_no _ _ _) (d_var 9) (d_bi (cr_reprO T.me_State___repr__ (ok_State___repr__ T) (hr.mono (by decide))) T.z_repr bt_repr (da_cons (d_var 9) da_nil)))))))) (db_one (ds_ret d_bl)) db_nil)))))))))))))))
   (db_one (ds_ret d_bl))))
end
/-- the plain facts of the classes -/
structure Kx (K : PySem.W.Frag) (a : Ad) : Prop where
 dummy : True
 xem_NoRule : PySem.W.exmOne K (.ref a.C_NoRule) (.ref a.C_NoRule) = some true
 xko_NoRule : PySem.W.kitOne K (.ref a.C_NoRule) (.type "TypeError") = some true
 xkv_NoRule : PySem.W.kitOne K (.ref a.C_NoRule) (.type "ValueError") = some false
 xi_NoneType : PySem.W.kitOne K (.type "NoneType") (.ref a.C_State) = some false
 xi_bool : PySem.W.kitOne K (.type "bool") (.ref a.C_State) = some false
 xi_int : PySem.W.kitOne K (.type "int") (.ref a.C_State) = some false
 xi_str : PySem.W.kitOne K (.type "str") (.ref a.C_State) = some false
 xi_list : PySem.W.kitOne K (.type "list") (.ref a.C_State) = some false
 xi_tuple : PySem.W.kitOne K (.type "tuple") (.ref a.C_State) = some false
noncomputable def LawOk : Prop:=∀ (K : PySem.W.Frag) (a : Ad),Kx K a → ∀ ns : List Int,ns.length ≤ 63 → ∃ st,m_law K a [.d (.scr ns)] [] = .ok (.d (.bl true)) st
noncomputable def spAll (K : PySem.W.Frag) : Sp:=fun vs H Q E=>∀ a : Ad,Kx K a → spM K 1 (m_law K a) vs H Q E
set_option maxHeartbeats 4000000 in
theorem all_mk {w : World} {K : PySem.W.Frag} {h : Heap} {mg : Str → Option Value} {fa : Addr} {l : PySem.W.OpenLaw} (X : PySem.W.Frag.In K h) (G : h.Ns mainGlobals mg) (hfa : mg "law" = some (.ref fa)) {C_State C_NoRule f_L_law_bag f_L_law_take f_L_law_rows f_L_law_names f_State_init f_State_ruled f_State___eq__ f_State___repr__ f_L_law_refused f_law f_NoRule_init E_State_init_rules : Addr} {od1 an1 od2 an2 od3 an3 od4 an4 od5 an5 kto5_rules od6 an6 od7 an7 od8 an8 od9 an9 od10 an10 od11 an11 : Option Addr} {sl1 sl2 sl3 sl4 sl5 kts5_rules sl6 sl7 sl8 sl9 sl10 sl11 : Array (Option Value)} {oc1 kV1 dc1 pm1 cd1 ct1 oc2 kV2 dc2 pm2 cd2 ct2 oc3 kV3 dc3 pm3 cd3 ct3 oc4 kV4 dc4 pm4 cd4 ct4 oc5 dc5 pm5 cd5 ct5 oc6 kV6 dc6 pm6 cd6 ct6 oc7 kV7 dc7 pm7 cd7 ct7 oc8 kV8 dc8 pm8 cd8 ct8 oc9 kV9 dc9 pm9 cd9 ct9 oc10 kV10 dc10 pm10 cd10 ct10 oc11 kV11 dc11 pm11 cd11 ct11 : Value} {kD5 : Addr} {ktn5_rules : Nat} {xnm_NoRule xq_NoRule : Str} {xN_NoRule : Addr} {xbs_NoRule : List Value} {xsn_NoRule : List Str} {xsub_NoRule : List Value} {xab_NoRule : Bool} {xcol_NoRule : Option Bool} {xdd_NoRule : Option Addr} {x0_NoRule x1_NoRule x2_NoRule x3_NoRule x5_NoRule : Option Value} {t_HELD t_OWN : Tok}
  (a1 : PySem.W.nsIn K mainGlobals "_law_bag" = some (some (.ref f_L_law_bag)))
  (l1 : K.lookup f_L_law_bag = some ⟨oc1,od1,.func (PySem.W.fnOf "_law_bag" "_law_bag" (defArgs s_L_law_bag) (defBody s_L_law_bag) (defScope s_L_law_bag) .none kV1 dc1 pm1 an1 cd1 ct1),sl1⟩)
  (c1 : PySem.W.codeIn K cd1 "_law_bag" = true)
  (k1 : PySem.W.keepIn K (.ref f_L_law_bag) = true)
  (a2 : PySem.W.nsIn K mainGlobals "_law_take" = some (some (.ref f_L_law_take)))
  (l2 : K.lookup f_L_law_take = some ⟨oc2,od2,.func (PySem.W.fnOf "_law_take" "_law_take" (defArgs s_L_law_take) (defBody s_L_law_take) (defScope s_L_law_take) .none kV2 dc2 pm2 an2 cd2 ct2),sl2⟩)
  (c2 : PySem.W.codeIn K cd2 "_law_take" = true)
  (k2 : PySem.W.keepIn K (.ref f_L_law_take) = true)
  (a3 : PySem.W.nsIn K mainGlobals "_law_rows" = some (some (.ref f_L_law_rows)))
  (l3 : K.lookup f_L_law_rows = some ⟨oc3,od3,.func (PySem.W.fnOf "_law_rows" "_law_rows" (defArgs s_L_law_rows) (defBody s_L_law_rows) (defScope s_L_law_rows) .none kV3 dc3 pm3 an3 cd3 ct3),sl3⟩)
  (c3 : PySem.W.codeIn K cd3 "_law_rows" = true)
  (k3 : PySem.W.keepIn K (.ref f_L_law_rows) = true)
  (a4 : PySem.W.nsIn K mainGlobals "_law_names" = some (some (.ref f_L_law_names)))
  (l4 : K.lookup f_L_law_names = some ⟨oc4,od4,.func (PySem.W.fnOf "_law_names" "_law_names" (defArgs s_L_law_names) (defBody s_L_law_names) (defScope s_L_law_names) .none kV4 dc4 pm4 an4 cd4 ct4),sl4⟩)
  (c4 : PySem.W.codeIn K cd4 "_law_names" = true)
  (k4 : PySem.W.keepIn K (.ref f_L_law_names) = true)
  (a5 : PySem.W.findIn K (.ref C_State) "__init__" = some (some (.ref f_State_init)))
  (i5 : PySem.W.isFn K (.ref f_State_init) = true)
  (l5 : K.lookup f_State_init = some ⟨oc5,od5,.func (PySem.W.fnOf "__init__" "State.__init__" (defArgs s_State_init) (defBody s_State_init) (defScope s_State_init) .none (.ref kD5) dc5 pm5 an5 cd5 ct5),sl5⟩)
  (kd5_rules : PySem.W.nsIn K kD5 "rules" = some (some (.ref E_State_init_rules)))
  (kt5_rules : K.lookup E_State_init_rules = some ⟨.type "tuple",kto5_rules,.seq #[] ktn5_rules,kts5_rules⟩)
  (c5 : PySem.W.codeIn K cd5 "State.__init__" = true)
  (k5 : PySem.W.keepIn K (.ref f_State_init) = true)
  (a6 : PySem.W.findIn K (.ref C_State) "ruled" = some (some (.ref f_State_ruled)))
  (i6 : PySem.W.isFn K (.ref f_State_ruled) = true)
  (l6 : K.lookup f_State_ruled = some ⟨oc6,od6,.func (PySem.W.fnOf "ruled" "State.ruled" (defArgs s_State_ruled) (defBody s_State_ruled) (defScope s_State_ruled) .none kV6 dc6 pm6 an6 cd6 ct6),sl6⟩)
  (c6 : PySem.W.codeIn K cd6 "State.ruled" = true)
  (k6 : PySem.W.keepIn K (.ref f_State_ruled) = true)
  (a7 : PySem.W.findIn K (.ref C_State) "__eq__" = some (some (.ref f_State___eq__)))
  (i7 : PySem.W.isFn K (.ref f_State___eq__) = true)
  (l7 : K.lookup f_State___eq__ = some ⟨oc7,od7,.func (PySem.W.fnOf "__eq__" "State.__eq__" (defArgs s_State___eq__) (defBody s_State___eq__) (defScope s_State___eq__) .none kV7 dc7 pm7 an7 cd7 ct7),sl7⟩)
  (c7 : PySem.W.codeIn K cd7 "State.__eq__" = true)
  (k7 : PySem.W.keepIn K (.ref f_State___eq__) = true)
  (a8 : PySem.W.findIn K (.ref C_State) "__repr__" = some (some (.ref f_State___repr__)))
  (i8 : PySem.W.isFn K (.ref f_State___repr__) = true)
  (l8 : K.lookup f_State___repr__ = some ⟨oc8,od8,.func (PySem.W.fnOf "__repr__" "State.__repr__" (defArgs s_State___repr__) (defBody s_State___repr__) (defScope s_State___repr__) .none kV8 dc8 pm8 an8 cd8 ct8),sl8⟩)
  (c8 : PySem.W.codeIn K cd8 "State.__repr__" = true)
  (k8 : PySem.W.keepIn K (.ref f_State___repr__) = true)
  (a9 : PySem.W.nsIn K mainGlobals "_law_refused" = some (some (.ref f_L_law_refused)))
  (l9 : K.lookup f_L_law_refused = some ⟨oc9,od9,.func (PySem.W.fnOf "_law_refused" "_law_refused" (defArgs s_L_law_refused) (defBody s_L_law_refused) (defScope s_L_law_refused) .none kV9 dc9 pm9 an9 cd9 ct9),sl9⟩)
  (c9 : PySem.W.codeIn K cd9 "_law_refused" = true)
  (k9 : PySem.W.keepIn K (.ref f_L_law_refused) = true)
  (a10 : PySem.W.nsIn K mainGlobals "law" = some (some (.ref f_law)))
  (l10 : K.lookup f_law = some ⟨oc10,od10,.func (PySem.W.fnOf "law" "law" (defArgs s_law) (defBody s_law) (defScope s_law) .none kV10 dc10 pm10 an10 cd10 ct10),sl10⟩)
  (c10 : PySem.W.codeIn K cd10 "law" = true)
  (k10 : PySem.W.keepIn K (.ref f_law) = true)
  (xL_NoRule : K.lookup C_NoRule = some (excClassObj xnm_NoRule xq_NoRule C_NoRule xN_NoRule xbs_NoRule [.type "TypeError",.type "Exception",.type "BaseException",.type "object"] true xsn_NoRule xsub_NoRule xab_NoRule xcol_NoRule xdd_NoRule x0_NoRule x1_NoRule x2_NoRule x3_NoRule x5_NoRule "TypeError.__new__"))
  (xs_NoRule : PySem.W.findIn K (.ref C_NoRule) "__setattr__" = some (some (.builtin "object.__setattr__")))
  (xg_NoRule : PySem.W.findIn K (.ref C_NoRule) "__getattribute__" = some (some (.builtin "BaseException.__getattribute__")))
  (xgg_NoRule : PySem.W.findIn K (.ref C_NoRule) "__getattr__" = some none)
  (xa_NoRule : PySem.W.findIn K (.ref C_NoRule) "__init__" = some (some (.ref f_NoRule_init)))
  (xty_NoRule : PySem.W.typeIn K (.ref f_NoRule_init) = some (.type "function"))
  (xno_NoRule_word : PySem.W.findIn K (.ref C_NoRule) "word" = some none)
  (xe_NoRule : PySem.W.subIn K (.ref C_NoRule) (.type "BaseException") = some true)
  (xtc_NoRule : PySem.W.typeIn K (.ref C_NoRule) = some (.type "type"))
  (xk_NoRule : PySem.W.keepIn K (.ref C_NoRule) = true)
  (xh_NoRule : PySem.W.hasDictIn K C_NoRule = true)
  (xl_NoRule : K.lookup f_NoRule_init = some ⟨oc11,od11,.func (PySem.W.fnOf "__init__" "NoRule.__init__" (defArgs s_NoRule_init) (defBody s_NoRule_init) (defScope s_NoRule_init) .none kV11 dc11 pm11 an11 cd11 ct11),sl11⟩)
  (xc_NoRule : PySem.W.codeIn K cd11 "NoRule.__init__" = true)
  (xkf_NoRule : PySem.W.keepIn K (.ref f_NoRule_init) = true)
  (z_TypeError : PySem.W.nsIn K mainGlobals "TypeError" = some none)
  (z_ValueError : PySem.W.nsIn K mainGlobals "ValueError" = some none)
  (z_abs : PySem.W.nsIn K mainGlobals "abs" = some none)
  (z_dict : PySem.W.nsIn K mainGlobals "dict" = some none)
  (z_enumerate : PySem.W.nsIn K mainGlobals "enumerate" = some none)
  (z_int : PySem.W.nsIn K mainGlobals "int" = some none)
  (z_isinstance : PySem.W.nsIn K mainGlobals "isinstance" = some none)
  (z_len : PySem.W.nsIn K mainGlobals "len" = some none)
  (z_list : PySem.W.nsIn K mainGlobals "list" = some none)
  (z_max : PySem.W.nsIn K mainGlobals "max" = some none)
  (z_min : PySem.W.nsIn K mainGlobals "min" = some none)
  (z_range : PySem.W.nsIn K mainGlobals "range" = some none)
  (z_repr : PySem.W.nsIn K mainGlobals "repr" = some none)
  (z_set : PySem.W.nsIn K mainGlobals "set" = some none)
  (z_sorted : PySem.W.nsIn K mainGlobals "sorted" = some none)
  (z_str : PySem.W.nsIn K mainGlobals "str" = some none)
  (z_tuple : PySem.W.nsIn K mainGlobals "tuple" = some none)
  (g_HELD : PySem.W.nsIn K mainGlobals "HELD" = some (some (.str "held" t_HELD)))
  (g_OWN : PySem.W.nsIn K mainGlobals "OWN" = some (some (.str "own" t_OWN)))
  (g_WORDS : gtsB K "WORDS" ["own","shipped"] = true)
  (aC_State : PySem.W.nsIn K mainGlobals "State" = some (some (.ref C_State)))
  (pg_State : PySem.W.plainGet K C_State Str.empty = true)
  (hd_State : PySem.W.hasDictIn K C_State = true)
  (po_State : PySem.W.plainOver K C_State = true)
  (sa_State : PySem.W.findIn K (.ref C_State) "__setattr__" = some (some (.builtin "object.__setattr__")))
  (mk_State : PySem.W.makesIn K C_State = true)
  (kc_State : PySem.W.keepIn K (.ref C_State) = true)
  (nf_release_State : PySem.W.findIn K (.ref C_State) "release" = some none)
  (nf_rows_State : PySem.W.findIn K (.ref C_State) "rows" = some none)
  (nf_rules_State : PySem.W.findIn K (.ref C_State) "rules" = some none)
  (aC_NoRule : PySem.W.nsIn K mainGlobals "NoRule" = some (some (.ref C_NoRule)))
  (xca_NoRule : PySem.W.findIn K (.ref C_NoRule) "__class__" = some (some (.builtin "object.__class__")))
  (xcn : PySem.W.specialIn K (.builtin "object.__class__") "__get__" = some (some (.builtin "getset_descriptor.__get__")))
  (xct : PySem.W.takesIn K (.builtin "object.__class__") = some true)
  (xcm_NoRule : PySem.W.mroIn K C_NoRule (.type "object") = some true)
  (eu_State_NoneType : PySem.W.subIn K (.type "NoneType") (.ref C_State) = some false)
  (ed_State_NoneType : PySem.W.subIn K (.ref C_State) (.type "NoneType") = some false)
  (eu_State_bool : PySem.W.subIn K (.type "bool") (.ref C_State) = some false)
  (ed_State_bool : PySem.W.subIn K (.ref C_State) (.type "bool") = some false)
  (eu_State_int : PySem.W.subIn K (.type "int") (.ref C_State) = some false)
  (ed_State_int : PySem.W.subIn K (.ref C_State) (.type "int") = some false)
  (eu_State_str : PySem.W.subIn K (.type "str") (.ref C_State) = some false)
  (ed_State_str : PySem.W.subIn K (.ref C_State) (.type "str") = some false)
  (eu_State_list : PySem.W.subIn K (.type "list") (.ref C_State) = some false)
  (ed_State_list : PySem.W.subIn K (.ref C_State) (.type "list") = some false)
  (eu_State_tuple : PySem.W.subIn K (.type "tuple") (.ref C_State) = some false)
  (ed_State_tuple : PySem.W.subIn K (.ref C_State) (.type "tuple") = some false)
  (en_State : PySem.W.findIn K (.ref C_State) "__ne__" = some (some (.builtin "object.__ne__")))
  (em_State : PySem.W.mroIn K C_State (.type "object") = some true)
  (oo2 : PySem.W.specialIn K (.builtin "object.__class__") "__get__" = some (some (.builtin "getset_descriptor.__get__")))
  (oo3 : PySem.W.takesIn K (.builtin "object.__class__") = some true)
  (o1_State : PySem.W.findIn K (.ref C_State) "__class__" = some (some (.builtin "object.__class__")))
  (o4_State : PySem.W.mroIn K C_State (.type "object") = some true)
  (xem_NoRule : PySem.W.exmOne K (.ref C_NoRule) (.ref C_NoRule) = some true)
  (xko_NoRule : PySem.W.kitOne K (.ref C_NoRule) (.type "TypeError") = some true)
  (xkv_NoRule : PySem.W.kitOne K (.ref C_NoRule) (.type "ValueError") = some false)
  (xi_NoneType : PySem.W.kitOne K (.type "NoneType") (.ref C_State) = some false)
  (xi_bool : PySem.W.kitOne K (.type "bool") (.ref C_State) = some false)
  (xi_int : PySem.W.kitOne K (.type "int") (.ref C_State) = some false)
  (xi_str : PySem.W.kitOne K (.type "str") (.ref C_State) = some false)
  (xi_list : PySem.W.kitOne K (.type "list") (.ref C_State) = some false)
  (xi_tuple : PySem.W.kitOne K (.type "tuple") (.ref C_State) = some false) :
  ∃ fd : FuncData,(∀ (s : Shared) (v : Value),BindsTo s fd { pos:=[v] } [("_law_script",v)]) ∧ ∀ base : Heap,PySem.W.Frag.In K base → base.Ns mainGlobals mg → FnG l.prog w K mg base 5 fa fd ["_law_script"] (spAll K):=by
 have e:=hfa.symm.trans (PySem.W.mg_of X G a10)
 cases e
 have KK : Kx K ⟨⟨C_State,C_NoRule,f_L_law_bag,f_L_law_take,f_L_law_rows,f_L_law_names,f_State_init,f_State_ruled,f_State___eq__,f_State___repr__,f_L_law_refused,fa,f_NoRule_init,E_State_init_rules⟩,w⟩:=⟨trivial,xem_NoRule,xko_NoRule,xkv_NoRule,xi_NoneType,xi_bool,xi_int,xi_str,xi_list,xi_tuple⟩
 refine ⟨PySem.W.fnOf "law" "law" (defArgs s_law) (defBody s_law) (defScope s_law) .none kV10 dc10 pm10 an10 cd10 ct10,fun s v=>.of_eq rfl,fun base _ _=>?_⟩
 have T : Tx w K mg base ⟨⟨C_State,C_NoRule,f_L_law_bag,f_L_law_take,f_L_law_rows,f_L_law_names,f_State_init,f_State_ruled,f_State___eq__,f_State___repr__,f_L_law_refused,fa,f_NoRule_init,E_State_init_rules⟩,w⟩:=by
  refine ⟨rfl,?_,?_,?_,?_,?_,?_,?_,?_,?_,?_,?_,?_,?_,?_,?_,?_,?_,?_,?_,?_,?_,?_,?_,?_,?_,?_,?_,?_,?_,?_,?_,?_,?_,?_,?_,?_,?_,?_,?_,?_,?_,?_,?_,?_,?_,?_,?_,?_,?_,?_,?_,?_,?_,?_,?_,?_,?_,?_,?_⟩
  ·exact PySem.W.mg_none_of X G z_TypeError
  ·exact PySem.W.mg_none_of X G z_ValueError
  ·exact PySem.W.mg_none_of X G z_abs
  ·exact PySem.W.mg_none_of X G z_dict
  ·exact PySem.W.mg_none_of X G z_enumerate
  ·exact PySem.W.mg_none_of X G z_int
  ·exact PySem.W.mg_none_of X G z_isinstance
  ·exact PySem.W.mg_none_of X G z_len
  ·exact PySem.W.mg_none_of X G z_list
  ·exact PySem.W.mg_none_of X G z_max
  ·exact PySem.W.mg_none_of X G z_min
  ·exact PySem.W.mg_none_of X G z_range
  ·exact PySem.W.mg_none_of X G z_repr
  ·exact PySem.W.mg_none_of X G z_set
  ·exact PySem.W.mg_none_of X G z_sorted
  ·exact PySem.W.mg_none_of X G z_str
  ·exact PySem.W.mg_none_of X G z_tuple
  ·exact ⟨_,PySem.W.mg_of X G g_HELD,_,rfl⟩
  ·exact ⟨_,PySem.W.mg_of X G g_OWN,_,rfl⟩
  ·exact gts_mg X G g_WORDS
  ·exact PySem.W.mg_of X G aC_State
  ·exact ⟨pg_State,hd_State,po_State,sa_State⟩
  ·exact ⟨mk_State,a5,i5,kc_State⟩
  ·exact ⟨a7,i7,k7⟩
  ·exact ⟨a8,i8,k8⟩
  ·exact ⟨a6,i6,k6⟩
  ·exact fun C hC=>by
    simp only [List.mem_cons,List.not_mem_nil,or_false] at hC
    rcases hC with rfl
    ·exact ⟨⟨pg_State,hd_State,po_State,sa_State⟩,nf_release_State⟩
  ·exact fun C hC=>by
    simp only [List.mem_cons,List.not_mem_nil,or_false] at hC
    rcases hC with rfl
    ·exact ⟨⟨pg_State,hd_State,po_State,sa_State⟩,nf_rows_State⟩
  ·exact fun C hC=>by
    simp only [List.mem_cons,List.not_mem_nil,or_false] at hC
    rcases hC with rfl
    ·exact ⟨⟨pg_State,hd_State,po_State,sa_State⟩,nf_rules_State⟩
  ·exact PySem.W.mg_of X G a1
  ·exact k1
  ·exact ⟨_,fun_mk (st:=s_L_law_bag) l1 c1 k1⟩
  ·exact PySem.W.mg_of X G a2
  ·exact k2
  ·exact ⟨_,fun_mk (st:=s_L_law_take) l2 c2 k2⟩
  ·exact PySem.W.mg_of X G a3
  ·exact k3
  ·exact ⟨_,fun_mk (st:=s_L_law_rows) l3 c3 k3⟩
  ·exact PySem.W.mg_of X G a4
  ·exact k4
  ·exact ⟨_,fun_mk (st:=s_L_law_names) l4 c4 k4⟩
  ·exact ⟨_,_,kt5_rules,rfl,rfl⟩
  ·exact ⟨_,funk_mk (st:=s_State_init) l5 c5 k5 fun q hq=>by
    simp only [List.mem_cons,List.not_mem_nil,or_false] at hq
    rcases hq with rfl
    ·exact ⟨_,kd5_rules,rfl⟩⟩
  ·exact ⟨_,fun_mk (st:=s_State_ruled) l6 c6 k6⟩
  ·exact ⟨_,fun_mk (st:=s_State___eq__) l7 c7 k7⟩
  ·exact ⟨_,fun_mk (st:=s_State___repr__) l8 c8 k8⟩
  ·exact PySem.W.mg_of X G a9
  ·exact k9
  ·exact ⟨_,fun_mk (st:=s_L_law_refused) l9 c9 k9⟩
  ·exact PySem.W.mg_of X G aC_NoRule
  ·exact ⟨⟨_,_,_,_,_,_,_,_,_,_,_,_,_,_,_,_,_,_,PySem.F.excBase_TypeError,PySem.F.store_TypeError,xL_NoRule⟩,xs_NoRule,xe_NoRule,xtc_NoRule,xk_NoRule⟩
  ·exact ⟨xg_NoRule,xgg_NoRule,xe_NoRule,xh_NoRule⟩
  ·exact xa_NoRule
  ·exact xty_NoRule
  ·exact xno_NoRule_word
  ·exact ⟨_,fun_mk (st:=s_NoRule_init) xl_NoRule xc_NoRule xkf_NoRule⟩
  ·exact ⟨⟨xg_NoRule,xgg_NoRule,xe_NoRule,xh_NoRule⟩,xca_NoRule,xcn,xct,xcm_NoRule⟩
  ·refine ⟨⟨a7,i7,k7⟩,?_,?_,en_State,em_State⟩
   ·exact fun n hn=>by
     simp only [eqTys,List.mem_cons,List.not_mem_nil,or_false] at hn
     rcases hn with rfl | rfl | rfl | rfl | rfl | rfl
     ·exact eu_State_NoneType
     ·exact eu_State_bool
     ·exact eu_State_int
     ·exact eu_State_str
     ·exact eu_State_list
     ·exact eu_State_tuple
   ·exact fun n hn=>by
     simp only [eqTys,List.mem_cons,List.not_mem_nil,or_false] at hn
     rcases hn with rfl | rfl | rfl | rfl | rfl | rfl
     ·exact ed_State_NoneType
     ·exact ed_State_bool
     ·exact ed_State_int
     ·exact ed_State_str
     ·exact ed_State_list
     ·exact ed_State_tuple
  ·exact fun C hC=>by
    simp only [Ad.own,List.mem_cons,List.not_mem_nil,or_false] at hC
    rcases hC with rfl
    ·exact ⟨⟨pg_State,hd_State,po_State,sa_State⟩,o1_State,oo2,oo3,o4_State⟩
 exact (fn_law (fun_mk (st:=s_law) l10 c10 k10) T).imp fun vs H Q E h=>h _ KK
end VL.K48
namespace VL.K48
open PySem PySem.Spec PyProof.Rows L2 VL
variable {K : PySem.W.Frag} {a : Ad} {st : Store}
local macro_rules | `(tactic| simp_all? only [$ts,*])=>`(tactic| simp only [fnM,sSeq,sRet,sRetN,sExpr,sIf,sNil,sNo,sAsg,tgN,bndS,bnd,vVar,vC,f2,f1,fB,pu,fN,vTup,vLst,fTup,fCons,fNil,fPure,fIf,fAnd,fOr,fNot,asB,asT,bAnd,bOr,bNot,fChain,fCall,fCW,gPos,gApp,R.of,R.of2,fM,pu4,tgT,tgCons,tgNil,unp,pureL,sPar,sPar3,fLstC,fFld,oFld,fMeth,insU,sFldS,setFld,fSl,oNone,oSome,tgSub,setU,fIter,fItN,fItS,sFor,getL,getT,VL.getD,keyD,tyB,lstC,oAdd,oSub,oMul,oFdiv,oMod,oPow,oNeg,oLt,oLe,oGt,oGe,oEq,oNe,oIsN,oNotN,oIn,oNotIn,oIx,oLen,oInt,oAbs,oMin,oMax,oStr,oList,oListC,oTuple,oAll,oAny,itemsU,lenN,truB,fJs,oFmt,List.map_cons,List.map_nil,List.length_cons,List.length_nil,List.replicate_succ,List.replicate_zero,List.cons_append,List.nil_append,List.append_nil,List.getElem?_cons_zero,List.getElem?_cons_succ,List.set_cons_zero,List.set_cons_succ,Nat.reduceAdd,Nat.reduceSub,Option.map_some,Option.map_none,if_true,if_false,ite_true,ite_false,Bool.false_eq_true,reduceCtorEq,true_and,and_true,and_self,Bool.not_true,Bool.not_false,Nat.zero_add,Option.bind_some,Option.bind_eq_bind,Option.pure_def,decide_true,decide_false,eq_self,Nat.reduceEqDiff,Nat.reduceLT,Nat.reduceLeDiff,Int.reduceLT,Int.reduceLE,Int.reduceEq,Bool.and_true,Bool.true_and,Bool.false_and,Bool.or_false,Bool.or_true,Bool.true_or,Bool.false_or,sz0,szl0,sz1,szl1,sz2,szl2,sz3,szl3,sz4,szl4,sz5,szl5,sz6,szl6,sz7,szl7,sz8,szl8,sz9,szl9,sz10,szl10,sz11,szl11,sz12,szl12,sz13,szl13,sz14,szl14,sz15,szl15,$ts,*])
local macro_rules | `(tactic| simp_all only [$ts,*])=>`(tactic| (refine act_e ?_; simp only [act_act,act_true,↓wp_bnd,↓wp_fPure,↓wp_vC,↓wp_f2,↓wp_f2s,↓wp_f1,↓wp_fFld,↓wp_asB,↓wp_asT,↓wp_fNot,↓wp_fIf,↓wp_bAnd,↓wp_bOr,↓wp_bNot,↓wp_fAnd,↓wp_fOr,↓wp_fChain,↓wp_fNil,↓wp_fCons,↓wp_fN,↓wp_fB,↓wp_fLstC,↓wp_fTup,↓wp_fCW,↓wp_fCall,↓wp_fMeth,↓wp_fM,↓wp_oNone,↓wp_oSome,↓wp_fSl,↓wp_fSlC,↓wp_fIter,↓wp_fItN,↓wp_fItS,↓wp_fDk,↓wp_fDnew,↓wp_fGet1,↓wp_fGet2,↓wp_fSetd,↓wp_fJs0,↓wp_fJs,↓wp_fProp,↓wps_nil,↓wps_seq,↓wps_ret,↓wps_retN,↓wps_expr,↓wps_if,↓wps_sbk,↓wps_sct,↓wps_asg,↓wps_tgN,↓wps_tgNil,↓wps_tgCons,↓wps_tgT,↓wps_tgSub,↓wps_sPar,↓wps_sPar3,↓wps_sFldS,↓wps_sFldAugM,↓wps_sAug,↓wps_sRaise,↓wps_for,↓wp_fnM,↓wp_fnX,↓wp_ok,↓wp_ex,↓wp_bad,↓wps_nx,↓wps_rt,↓wps_bk,↓wps_ct,↓wps_ex,↓wps_bad,↓wpL_nil,List.length_map,wp_Q,wp_I1,wp_I0,of_some,of2_some,of_ite,of2_ite,ite_bad,ites_bad,vVar,gPos,gApp,pu,pu4,vTup,vLst,pureL,unp,fJs,setU,getL,getT,gd_d,gd_r,gd_bl,gd_int,gd_str,gd_tup,gd_lst,gd_scr,gd_n,gd_ins,keyD,lstC,dctC,ins_d,ins_m,eqb_int,eqb_str,eqb_bl,eqb_nn,eqb_sn,eqb_ns,eqb_in,eqb_ni,Int.cast_ofNat_Int,setFld,tyB,mAppend,itV,augF,isC,wId,oAdd,oSub,oMul,oFdiv,oMod,oPow,oNeg,oLt,oLe,oGt,oGe,oEq,oNe,isn_n,isn_bl,isn_int,isn_str,isn_tup,isn_lst,isn_dct,isn_scr,isn_ins,isn_ref,nsn_n,nsn_bl,nsn_int,nsn_str,nsn_tup,nsn_lst,nsn_dct,nsn_scr,nsn_ins,nsn_ref,oIn,oNotIn,oInD,oNotInD,oIx,oLen,oInt,oAbs,oMin,oMax,oStr,oList,oListC,oTuple,oAll,oAny,itemsU,lenN,truB,oFmt,oIadd,oFld,nf_get,nf_get0,nf_set,nf_set0,nf_lt,frz_dd,wFrz,List.map_cons,List.map_nil,List.length_cons,List.length_nil,List.length_append,List.length_set,List.replicate_succ,List.replicate_zero,List.cons_append,List.nil_append,List.append_nil,List.append_assoc,List.getElem?_cons_zero,List.getElem?_cons_succ,List.set_cons_zero,List.set_cons_succ,Nat.reduceAdd,Nat.reduceSub,Option.map_some,Option.map_none,if_true,if_false,ite_true,ite_false,Bool.false_eq_true,reduceCtorEq,true_and,and_true,and_self,Bool.not_true,Bool.not_false,Nat.zero_add,Option.bind_some,Option.bind_eq_bind,Option.pure_def,decide_true,decide_false,eq_self,Nat.reduceEqDiff,Nat.reduceLT,Nat.reduceLeDiff,Int.reduceLT,Int.reduceLE,Int.reduceEq,Bool.and_true,Bool.true_and,Bool.false_and,Bool.or_false,Bool.or_true,Bool.true_or,Bool.false_or,List.mem_cons,true_or,List.not_mem_nil,or_false,Option.isSome_some,Option.isSome_none,Nat.lt_irrefl,sz0,szl0,sz1,szl1,sz2,szl2,sz3,szl3,sz4,szl4,sz5,szl5,sz6,szl6,sz7,szl7,sz8,szl8,sz9,szl9,sz10,szl10,sz11,szl11,sz12,szl12,sz13,szl13,sz14,szl14,sz15,szl15,$ts,*]; try refine act_i ?_))
theorem ev_ltake {b : Nat} (h : WF st) (hb : Bag st b) {m : Int} (h0 : 0 < m) (h1 : m < 1073741824) :
  ∃ (d : Nat) (st' : Store),m_L_law_take K a [.ref b,.d (.int m)] st = .ok (.d (.int (d : Nat))) st' ∧ (d : Int) < m ∧ Fb st st' b:=by
 obtain ⟨n,x,hb⟩:=hb
 have hs:=fun (n' x' : Int)=>set_at (o':=.lst [.d (.int n'),.d (.int x')]) hb
 by_cases hn : 0 < n
 ·have e0 : 0 ≤ n % m:=Int.emod_nonneg _ (by omega)
  have e1 : n % m < m:=Int.emod_lt_of_pos _ h0
  have fb:=fb_set h hb (n / m) x
  refine ⟨(n % m).toNat,_,?_,by omega,fb⟩
  rw [Int.toNat_of_nonneg e0]
  unfold m_L_law_take g_L_law_take
  simp_all? only [hb,at_0,at_1,decide_eq_true hn,h0,h1,ixn0]
  exact wCut_len fb.wf fb.len _
 ·have hw : (0 : Int) < 64:=by decide
  have h7 : (0 : Int) < 13 ∧ (13 : Int) < 1073741824:=⟨by decide,by decide⟩
  have h64 : (0 : Int) < 64 ∧ (64 : Int) < 1073741824:=⟨by decide,by decide⟩
  have hq1 : (0 : Int) < 2147483549:=by decide
  have hq2 : (0 : Int) < 2147483629:=by decide
  have c1 : ∀ y : Int,((-(2 ^ 64) < y ∧ y < 2 ^ 64) ∨ (-(2 ^ 64) < (61027 : Int) ∧ (61027 : Int) < 2 ^ 64)):=fun y=>.inr ⟨by decide,by decide⟩
  have c2 : ∀ y : Int,((-(2 ^ 64) < y ∧ y < 2 ^ 64) ∨ (-(2 ^ 64) < (33863 : Int) ∧ (33863 : Int) < 2 ^ 64)):=fun y=>.inr ⟨by decide,by decide⟩
  let X : Int:=(x * 61027 + 8207) % 2147483549
  let Y : Int:=X / 13 * 33863 % 2147483629 / 64
  have e0 : 0 ≤ Y % m:=Int.emod_nonneg _ (by omega)
  have e1 : Y % m < m:=Int.emod_lt_of_pos _ h0
  have fb:=fb_set h hb n X
  refine ⟨(Y % m).toNat,_,?_,by omega,fb⟩
  rw [Int.toNat_of_nonneg e0]
  simp only [X,Y] at *
  unfold m_L_law_take g_L_law_take
  simp_all? only [hb,at_0,at_1,decide_eq_false hn,h0,h7,h64,hw,hq1,hq2,c1,c2,ixn1,hs]
  exact wCut_len fb.wf fb.len _
theorem ev_bagloop {u0 u1 u2 : Option U} : ∀ (ns : List Int) (k : Nat) (x : Int) (x4 x5 : Option U),∃ (x' : Int) (y4 y5 : Option U),loopL (tgT 2 (tgCons (tgN 4) (tgCons (tgN 5) tgNil))) (b_L_law_bag_1 K a) (pairsFrom k (ns.map .int)) [u0,u1,u2,some (.d (.int x)),x4,x5] st = .ok [u0,u1,u2,some (.d (.int x')),y4,y5] .nx st
 | [],k,x,x4,x5=>⟨x,x4,x5,rfl⟩
 | n :: ns,k,x,x4,x5=>by
  have c1 : ∀ y : Int,((-(2 ^ 64) < y ∧ y < 2 ^ 64) ∨ (-(2 ^ 64) < (48017 : Int) ∧ (48017 : Int) < 2 ^ 64)):=fun y=>.inr ⟨by decide,by decide⟩
  have c2 : ∀ y : Int,((-(2 ^ 64) < (89 : Int) ∧ (89 : Int) < 2 ^ 64) ∨ (-(2 ^ 64) < y ∧ y < 2 ^ 64)):=fun y=>.inl ⟨by decide,by decide⟩
  have hq : (0 : Int) < 2147483587:=by decide
  have hq5 : (0 : Int) < 2147483563:=by decide
  obtain ⟨x',y4,y5,e⟩:=ev_bagloop (u0:=u0) (u1:=u1) (u2:=u2) ns (k + 1) ((x * 48017 + n % 2147483587 + 89 * (k : Nat) + 5) % 2147483563) (some (.d (.int (k : Nat)))) (some (.d (.int n)))
  refine ⟨x',y4,y5,?_⟩
  rw [List.map_cons,pairsFrom,loopL]
  have eb : b_L_law_bag_1 K a [u0,u1,u2,some (.d (.int x)),some (.d (.int (k : Nat))),some (.d (.int n))] st = .ok [u0,u1,u2,some (.d (.int ((x * 48017 + n % 2147483587 + 89 * (k : Nat) + 5) % 2147483563))),some (.d (.int (k : Nat))),some (.d (.int n))] .nx st:=by
   unfold b_L_law_bag_1
   simp_all? only [c1,c2,hq,hq5]
  simp_all? only [eb,e]
theorem ev_lbag (h : WF st) (ns : List Int) (hn : ns.length ≤ 63) (t : Nat) (ht : t < 64) : ∃ n x : Int,m_L_law_bag K a [.d (.scr ns),.d (.int (t : Nat))] st = .ok (.ref st.length) (st ++ [.lst [.d (.int n),.d (.int x)]]):=by
 have c1 : ((-(2 ^ 64) < (436 : Int) ∧ (436 : Int) < 2 ^ 64) ∨ (-(2 ^ 64) < ((t : Nat) : Int) ∧ ((t : Nat) : Int) < 2 ^ 64)):=.inl ⟨by decide,by decide⟩
 have c3 : (0 : Int) ≤ 18 ∧ (18 : Int) ≤ 1000000 ∧ (10 : Int).natAbs < 2 ^ 64:=⟨by decide,by decide,by decide⟩
 obtain ⟨ms,hms⟩ : ∃ ms : List Int,cutG (ns.map fun i=>U.d (.int i)) none (some 63) = ms.map fun i=>U.d (.int i):=by
  rw [cutG_map (fun i=>U.d (.int i)) ns]; exact ⟨_,rfl⟩
 have fin : ∀ (n x : Int),wKeep st.length (.ref st.length) (st ++ [.lst [.d (.int n),.d (.int x)]]) = .ok (.ref st.length) (st ++ [.lst [.d (.int n),.d (.int x)]]):=fun n x =>
  wKeep_of (ds:=[.int n,.int x]) h (by rw [new_at]; rfl) (Nat.le_refl _) fun m hm=>List.getElem?_append_left hm
 obtain ⟨c,hc0⟩ : ∃ c : Int,∀ x' y4 y5,loopL (tgT 2 (tgCons (tgN 4) (tgCons (tgN 5) tgNil))) (b_L_law_bag_1 K a) (pairsFrom 0 (ms.map .int)) [some (.d (.scr ns)),some (.d (.int (t : Nat))),some (.d (.int c)),some (.d (.int (436 * (t : Nat) + 79))),none,none] st = .ok [some (.d (.scr ns)),some (.d (.int (t : Nat))),some (.d (.int c)),some (.d (.int x')),y4,y5] .nx st →
   ∃ n x : Int,m_L_law_bag K a [.d (.scr ns),.d (.int (t : Nat))] st = .ok (.ref st.length) (st ++ [.lst [.d (.int n),.d (.int x)]]):=by
  by_cases hl : (t : Int) < (ns.length : Nat)
  ·have ha : ∃ c,atI (ns.map fun i=>U.d (.int i)) (t : Int) = some (.d (.int c)):=by
    rw [at_lt (by rw [List.length_map]; omega)]
    exact ⟨ns[t]'(by omega),by rw [List.getElem_map]⟩
   obtain ⟨c,ha⟩:=ha
   refine ⟨c,fun x' y4 y5 e=>?_⟩
   by_cases hc : (10 : Int) ^ (Int.toNat 18) ≤ (if c < 0 then -c else c)
   ·refine ⟨if c < 0 then -c else c,x',?_⟩
    unfold m_L_law_bag g_L_law_bag
    simp_all? only [List.length_map,decide_eq_true hl,ha,c1,oSl,hms,pure_ints,itE,e,c3,decide_eq_true hc]
    exact fin _ _
   ·refine ⟨0,x',?_⟩
    unfold m_L_law_bag g_L_law_bag
    simp_all? only [List.length_map,decide_eq_true hl,ha,c1,oSl,hms,pure_ints,itE,e,c3,decide_eq_false hc]
    exact fin _ _
  ·refine ⟨0,fun x' y4 y5 e=>⟨0,x',?_⟩⟩
   have hc : ¬ ((10 : Int) ^ (Int.toNat 18) ≤ (if (0 : Int) < 0 then -0 else 0)):=by decide
   unfold m_L_law_bag g_L_law_bag
   simp_all? only [List.length_map,decide_eq_false hl,c1,oSl,hms,pure_ints,itE,e,c3,decide_eq_false hc]
   exact fin _ _
 obtain ⟨x',y4,y5,e⟩:=ev_bagloop (K:=K) (a:=a) (st:=st) (u0:=some (.d (.scr ns))) (u1:=some (.d (.int (t : Nat)))) (u2:=some (.d (.int c))) ms 0 (436 * (t : Nat) + 79) none none
 exact hc0 x' y4 y5 e
section
variable {f fx fy : F U} {g g1 g2 : G} {env env1 : VEnv} {s s1 s2 : Store} {u y : U} {n p : Nat} {r : RS}
theorem asgA (e : f env s = .ok u s1) : sAsg f (tgN n) env s = .ok (env.set n (some u)) .nx s1:=by
 unfold sAsg bndS
 rw [e]
 rfl
theorem seqA (e : f env s = .ok u s1) (h : g (env.set n (some u)) s1 = r) : sSeq (sAsg f (tgN n)) g env s = r:=by
 unfold sSeq
 rw [asgA e]
 exact h
theorem seqG (e : g1 env s = .ok env1 .nx s1) (h : g2 env1 s1 = r) : sSeq g1 g2 env s = r:=by
 unfold sSeq
 rw [e]
 exact h
theorem retA (e : f env s = .ok u s1) : sRet f env s = .ok env (.rt u) s1:=by
 unfold sRet bndS
 rw [e]
theorem appE {xs : List U} (h1 : fx env s = .ok (.ref p) s) (h2 : fy env s = .ok y s1) (hg0 : s[p]? = some (.lst xs)) (hg : s1[p]? = some (.lst xs)) (hz : xs.length < sizeLine) : sExpr (fM "list" mAppend fx (fCons fy fNil)) env s = .ok env .nx (s1.set p (.lst (xs ++ [y]))):=by
 have ht : tyB "list" s (.ref p) = true:=by
  unfold tyB
  simp only [hg0]
  rfl
 have hf : fCons fy fNil env s = .ok [y] s1:=by
  unfold fCons fNil fPure bnd
  rw [h2]
 have hm : mAppend (.ref p) [y] s1 = some (.d .non,s1.set p (.lst (xs ++ [y]))):=by
  unfold mAppend lstC
  simp only [hg,if_pos hz]
 unfold sExpr bndS fM bnd
 rw [h1]
 simp only [ht,if_true,hf,hm]
 rfl
theorem loopN {us : List U} {env2 : VEnv} (h2 : g (env.set n (some u)) s = .ok env2 .nx s2) (h3 : loopL (tgN n) g us env2 s2 = r) : loopL (tgN n) g (u :: us) env s = r:=by
 have h1 : tgN n u env s = .ok (env.set n (some u)) .nx s:=rfl
 unfold loopL
 rw [h1]
 simp only
 rw [h2]
 exact h3
theorem range_shift (n k : Nat) : (List.range (n + 1)).map (fun i=>U.d (.int (((k + i : Nat)) : Int))) = U.d (.int ((k : Nat) : Int)) :: (List.range n).map (fun i=>U.d (.int (((k + 1 + i : Nat)) : Int))):=by
 rw [List.range_succ_eq_map,List.map_cons,List.map_map,Nat.add_zero]
 rw [show ((fun i=>U.d (.int (((k + i : Nat)) : Int))) ∘ Nat.succ) = fun i=>U.d (.int (((k + 1 + i : Nat)) : Int)) from funext fun i=>by
  show U.d (.int (((k + (i + 1) : Nat)) : Int)) = _
  rw [show k + (i + 1) = k + 1 + i by omega]]
theorem asgT {tg : U → G} (e : f env s = .ok u s1) (h : tg u env s1 = .ok env1 .nx s1) : sAsg f tg env s = .ok env1 .nx s1:=by
 unfold sAsg bndS
 rw [e]
 exact h
theorem f2A {o : P2} {x v : U} (h1 : fx env s = .ok x s1) (h2 : fy env s1 = .ok y s2) (h : o x y s2 = some v) : f2 o fx fy env s = .ok v s2:=by
 unfold f2 bnd
 rw [h1]
 simp only
 rw [h2]
 simp only [h,R.of]
theorem consA {fs : F (List U)} {us : List U} (h1 : fx env s = .ok u s1) (h2 : fs env s1 = .ok us s2) : fCons fx fs env s = .ok (u :: us) s2:=by
 unfold fCons bnd
 rw [h1]
 simp only
 rw [h2]
 rfl
theorem cons1 (h1 : fx env s = .ok u s1) : fCons fx fNil env s = .ok [u] s1:=consA h1 rfl
theorem callA {fs : F (List U)} {us : List U} {m : Nat} {mf : List U → M U} (h1 : fs env s = .ok us s1) (hl : us.length = m) (h : mf us s1 = .ok u s2) : fCall m 0 gPos mf (fCW fs fNil) env s = .ok u s2:=by
 have e : fCW fs fNil env s = .ok (us,[]) s1:=by
  unfold fCW bnd
  rw [h1]
  rfl
 unfold fCall bnd
 rw [e]
 simp only [hl,List.length_nil,and_self,if_true,gPos]
 exact h
theorem tupA {fs : F (List U)} {ds : List D} (h : fs env s = .ok (ds.map U.d) s1) (hz : ds.length ≤ sizeLine) : fTup fs env s = .ok (.d (.tup ds)) s1:=by
 unfold fTup bnd
 rw [h]
 simp only [pureL_map,if_pos hz]
theorem fnA {w : Wr} {us : List U} (h : g (us.map some ++ List.replicate (n - us.length) none) s = .ok env1 (.rt u) s1) : fnM n g w us s = w s.length u s1:=by
 unfold fnM
 rw [h]
theorem lstA {fs : F (List U)} {us : List U} (h : fs env s = .ok us s1) (hz : us.length ≤ sizeLine) : fLstC fs env s = .ok (.ref s1.length) (s1 ++ [.lst us]):=by
 unfold fLstC bnd
 rw [h]
 simp only [if_pos hz]
theorem itRn {m : Nat} (h : m < 1000) : itR [.d (.int ((m : Nat) : Int))] = some (.lst ((List.range m).map fun i=>U.d (.int (((0 + i : Nat)) : Int)))):=by
 rw [itR_eq h]
 congr 3
theorem f1A {o : P1} {x v : U} (h1 : fx env s = .ok x s1) (h : o x s1 = some v) : f1 o fx env s = .ok v s1:=by
 unfold f1 bnd
 rw [h1]
 simp only [h,R.of]
theorem asBA {k : Bool} (h : f env s = .ok (.d (.bl k)) s1) : asB f env s = .ok k s1:=by
 unfold asB bnd
 rw [h]
theorem bAndT {b1 b2 : F Bool} {k : Bool} (h1 : b1 env s = .ok true s1) (h2 : b2 env s1 = .ok k s2) : bAnd b1 b2 env s = .ok k s2:=by
 unfold bAnd bnd
 rw [h1]
 simp only [if_true]
 exact h2
theorem bAndF {b1 b2 : F Bool} (h1 : b1 env s = .ok false s1) : bAnd b1 b2 env s = .ok false s1:=by
 unfold bAnd bnd
 rw [h1]
 rfl
theorem ifT {c : F Bool} (h : c env s = .ok true s1) (h2 : g1 env s1 = r) : sIf c g1 g2 env s = r:=by
 unfold sIf bndS
 rw [h]
 exact h2
theorem ifF {c : F Bool} (h : c env s = .ok false s1) (h2 : g2 env s1 = r) : sIf c g1 g2 env s = r:=by
 unfold sIf bndS
 rw [h]
 exact h2
theorem parA {fs : F (List U)} {i j : Nat} {u w : U} (h : fs env s = .ok [u,w] s1) : sPar i j fs env s = .ok ((env.set i (some u)).set j (some w)) .nx s1:=by
 unfold sPar bndS
 rw [h]
theorem cwA {f g : F (List U)} {us ws : List U} (h1 : f env s = .ok us s1) (h2 : g env s1 = .ok ws s2) : fCW f g env s = .ok (us,ws) s2:=by
 unfold fCW bnd
 rw [h1]
 simp only
 rw [h2]
 rfl
theorem fnZ {us : List U} {x : D} (hw : WF s) (h : g (us.map some ++ List.replicate (n - us.length) none) s = .ok env1 (.rt (.d x)) (s ++ s1)) : fnM n g wFrz us s = .ok (.d x) s:=by
 rw [fnA h]
 unfold wFrz
 rw [frz_dd,nf_cut hw]
theorem puA {o : List U → Store → Option U} {fs : F (List U)} {us : List U} {v : U} (h1 : fs env s = .ok us s1) (h : o us s1 = some v) : fB (pu o) fs env s = .ok v s1:=by
 unfold fB bnd
 rw [h1]
 simp only [pu,h,Option.map_some]
 rfl
theorem seqR {u : U} (e : g1 env s = .ok env1 (.rt u) s1) : sSeq g1 g2 env s = .ok env1 (.rt u) s1:=by
 unfold sSeq
 rw [e]
end
section
variable {f fx fy : F U} {g g1 g2 : G} {env env1 : VEnv} {s s1 s2 : Store} {u y : U} {n p : Nat} {r : RS}
theorem fldSA {cs : List Addr} {f0 : Str} {C : Addr} {fs : List (Str × U)} (h1 : fx env s = .ok u s1) (h2 : fy env s1 = .ok (.ref n) s1) (hg : s1[n]? = some (.ins C fs)) (hc : C ∈ cs) (hz : fs.length < 1000) : sFldS cs f0 fy fx env s = .ok env .nx (s1.set n (.ins C (putFU f0 u fs))):=by
 unfold sFldS bndS
 rw [h1]
 simp only
 rw [h2]
 simp only [setFld,hg,if_pos (And.intro hc hz)]
theorem methA {C : Addr} {nm : Str} {k : Nat} {mf : List U → M U} {fs : F (List U)} {us : List U} {ws : List (Str × U)} {v : U} (h1 : fx env s = .ok u s) (hi : insU s u = some (C,ws)) (hl : ws.lookup nm = none) (h2 : fs env s = .ok us s1) (hk : us.length = k) (h : mf (u :: us) s1 = .ok v s2) : fMeth C nm k 0 gPos mf fx (fCW fs fNil) env s = .ok v s2:=by
 have e : fCW fs fNil env s = .ok (us,[]) s1:=cwA h2 rfl
 unfold fMeth bnd
 rw [h1]
 simp only [hi,hl,and_self,if_true]
 rw [e]
 simp only [hk,List.length_nil,and_self,if_true,gPos]
 exact h
theorem makeA {C : Addr} {k m : Nat} {gU : List U → List U → List U} {mf : List U → M U} {fc : F (List U × List U)} {us ws : List U} {d : D} (hf : fc env s = .ok (us,ws) s1) (hk : us.length = k ∧ ws.length = m) (h : mf (gU (.ref s1.length :: us) ws) (s1 ++ [.ins C []]) = .ok (.d .non) s2) (hz : frz s2 s.length 4 (.ref s1.length) = some d) {s3 : Store} (hc : cutS s.length s2 = some s3) : fWr wFrz (fMake C k m gU mf fc) env s = .ok (.d d) s3:=by
 have e : fMake C k m gU mf fc env s = .ok (.ref s1.length) s2:=by
  unfold fMake bnd
  rw [hf]
  simp only [hk,and_self,if_true,h]
 unfold fWr
 rw [e]
 simp only
 unfold wFrz
 rw [hz,hc]
theorem LcT {tg : U → G} {tt : F Bool} {fe : F U} {d : D} (hg : tg u env s = .ok env1 .nx s) (ht : tt env1 s = .ok true s) (hf : fe env1 s = .ok (.d d) s) : LcP tg tt fe env u s true d:=by
 unfold LcP
 rw [hg,wps_nx',wp_Q',ht,wp_ok',wp_Q']
 exact ⟨rfl,rfl,fun _=>wp_of_eq hf ⟨rfl,rfl⟩⟩
end
section
variable {f fx fy : F U} {g g1 g2 : G} {env env1 : VEnv} {s s1 s2 : Store} {u y : U}
theorem asTA {k : Bool} (h : f env s = .ok u s1) (h2 : truB s1 u = some k) : asT f env s = .ok k s1:=by
 unfold asT bnd
 rw [h]
 simp only [h2,R.of]
theorem bNotA {b : F Bool} {k : Bool} (h : b env s = .ok k s1) : bNot b env s = .ok (!k) s1:=by
 unfold bNot bnd
 rw [h]
theorem bOrF {b1 b2 : F Bool} {k : Bool} (h1 : b1 env s = .ok false s1) (h2 : b2 env s1 = .ok k s2) : bOr b1 b2 env s = .ok k s2:=by
 unfold bOr bnd
 rw [h1]
 exact h2
theorem bOrT {b1 b2 : F Bool} (h : b1 env s = .ok true s1) : bOr b1 b2 env s = .ok true s1:=by
 unfold bOr bnd
 rw [h]
 rfl
theorem andT {v : U} (h1 : fx env s = .ok (.d (.bl true)) s1) (h2 : fy env s1 = .ok v s2) : fAnd fx fy env s = .ok v s2:=by
 unfold fAnd bnd
 rw [h1]
 exact h2
theorem fMA {t : String} {h : P4} {fs : F (List U)} {us : List U} {v : U} {s3 : Store} (h1 : f env s = .ok u s1) (ht : tyB t s1 u = true) (h2 : fs env s1 = .ok us s2) (hh : h u us s2 = some (v,s3)) : fM t h f fs env s = .ok v s3:=by
 unfold fM bnd
 rw [h1]
 simp only
 rw [if_pos ht,h2]
 simp only
 rw [hh]
 rfl
theorem tyLA {xs : List U} {p : Nat} (h : s[p]? = some (.lst xs)) : tyB "list" s (.ref p) = true:=by
 unfold tyB
 simp only [h]
 decide
theorem lstDA {fs : F (List U)} {ds : List D} (h : fs env s = .ok (ds.map U.d) s1) (hz : ds.length ≤ sizeLine) : fN vLst fs env s = .ok (.d (.lst ds)) s1:=by
 unfold fN bnd
 rw [h]
 simp only [vLst,pureL_map,if_pos hz,R.of]
end
section
variable {K : PySem.W.Frag} {f fx fy fa fb fc : F U} {g g1 g2 gb : G} {o o' : P2} {tg : U → G} {env env1 env2 : VEnv} {s s1 s2 s3 : Store} {u v w x y z : U} {us : List U} {r : RS} {c : F Bool} {k : Value} {cl : Value} {xf : XF} {i n : Nat} {gs : Addr → Option Addr → Value → G} {ks : List (Value × Nat × (Addr → Option Addr → Value → G))}
theorem fIfT (h : c env s = .ok true s1) (h2 : fx env s1 = .ok u s2) : fIf c fx fy env s = .ok u s2:=by
 unfold fIf bnd
 rw [h]
 exact h2
theorem fIfF (h : c env s = .ok false s1) (h2 : fy env s1 = .ok u s2) : fIf c fx fy env s = .ok u s2:=by
 unfold fIf bnd
 rw [h]
 exact h2
theorem asgS (e : f env s = .ok u s1) (h : tg u env s1 = .ok env1 .nx s2) : sAsg f tg env s = .ok env1 .nx s2:=by
 unfold sAsg bndS
 rw [e]
 exact h
theorem iterA {ds : List D} (h : fx env s = .ok (.d (.lst ds)) s1) : fIter fx env s = .ok (.lst (ds.map U.d)) s1:=by
 unfold fIter bnd
 rw [h]
 rfl
theorem raiseA {C : Addr} {ns : List Str} {fs : F (List U)} {ds : List D} (h : fs env s = .ok (ds.map U.d) s1) (hl : ds.length = ns.length ∧ ds.length ≤ 1000) : sRaise C ns fs env s = .ex (.ref C) (some (ns.zip ds).reverse) env s1:=by
 unfold sRaise bndS
 rw [h]
 simp only [pureL_map,if_pos hl]
end
theorem LcB {tg : U → G} {tt : F Bool} {fe : F U} {env env1 : VEnv} {u : U} {s : Store} {p : Bool} {d : D} (hg : tg u env s = .ok env1 .nx s) (ht : tt env1 s = .ok p s) (hf : fe env1 s = .ok (.d d) s) : LcP tg tt fe env u s p d:=by
 unfold LcP
 rw [hg,wps_nx',wp_Q',ht,wp_ok',wp_Q']
 exact ⟨rfl,rfl,fun _=>wp_of_eq hf ⟨rfl,rfl⟩⟩
/-- a loop of which each turn ends well -/
theorem loopI {n : Nat} {g : G} (I : VEnv → Store → Prop) : ∀ (us : List U),(∀ u ∈ us,∀ (env : VEnv) (s : Store),I env s → ∃ env1 s1,g (env.set n (some u)) s = .ok env1 .nx s1 ∧ I env1 s1) → ∀ (env : VEnv) (s : Store),I env s → ∃ env1 s1,loopL (tgN n) g us env s = .ok env1 .nx s1 ∧ I env1 s1
 | [],_,env,s,i=>⟨env,s,rfl,i⟩
 | u :: us,h,env,s,i=>by
  obtain ⟨env1,s1,e1,i1⟩:=h u List.mem_cons_self env s i
  obtain ⟨env2,s2,e2,i2⟩:=loopI I us (fun v hv=>h v (List.mem_cons_of_mem _ hv)) env1 s1 i1
  exact ⟨env2,s2,loopN e1 e2,i2⟩
theorem tl_empty : TL.tl ("" : Str) = []:=rfl
theorem ltr_at : ∀ i : Fin 26,atI ("abcdefghijklmnopqrstuvwxyz" : Str).cps.toList ((i.val : Nat) : Int) = some (97 + i.val):=by decide +kernel
theorem ltr_len : ("abcdefghijklmnopqrstuvwxyz" : Str).length ≤ sizeLine:=by decide +kernel
noncomputable def chN (c : Nat) : Str:=⟨#[c]⟩
theorem tl_chN (c : Nat) : TL.tl (chN c) = [c]:=rfl
theorem tl_join0 : ∀ xs : List Str,TL.tl (Txt.join ("" : Str) xs) = xs.flatMap TL.tl:=by
 intro xs
 rw [TL.join_eq]
 induction xs with
 | nil=>exact tl_empty
 | cons x xs ih =>
  cases xs with
  | nil=>rw [List.flatMap_cons,List.flatMap_nil,List.append_nil]; rfl
  | cons y xs =>
   rw [List.flatMap_cons,← ih]
   show TL.tl (x ++ ("" : Str) ++ Str.join ("" : Str) (y :: xs)) = _
   rw [TL.tl_append,TL.tl_append,tl_empty,List.append_nil]
noncomputable def isNm (s : Str) : Bool:=decide (1 ≤ (TL.tl s).length ∧ (TL.tl s).length ≤ 8) && (TL.tl s).all fun c=>decide (97 ≤ c ∧ c ≤ 122)
theorem name_of {s : Str} (h1 : 1 ≤ (TL.tl s).length) (h2 : (TL.tl s).length ≤ 8) (h3 : ∀ c ∈ TL.tl s,97 ≤ c ∧ c ≤ 122) : isNm s = true:=by
 unfold isNm
 rw [Bool.and_eq_true,decide_eq_true_eq,List.all_eq_true]
 exact ⟨⟨h1,h2⟩,fun c hc=>decide_eq_true (h3 c hc)⟩
theorem nm_strOk {s : Str} (h : isNm s = true) : PyData.strOk s = true:=by
 unfold isNm at h
 rw [Bool.and_eq_true,List.all_eq_true] at h
 unfold PyData.strOk
 rw [← Array.all_toList,List.all_eq_true]
 intro c hc
 have:=of_decide_eq_true (h.2 c hc)
 exact decide_eq_true (by omega)
noncomputable def NmsOk (m : Nat) (xs : List Str) : Prop:=xs.length = m ∧ xs.Nodup ∧ ∀ x ∈ xs,isNm x = true
theorem sizes_at {d : Nat} (h : (d : Int) < 5) : ∃ n : Nat,atI [U.d (.int 0),.d (.int 0),.d (.int 1),.d (.int 3),.d (.int 7)] (d : Int) = some (.d (.int (n : Nat))) ∧ n ≤ 7:=by
 match d,(by omega : d < 5) with
 | 0,_=>exact ⟨0,rfl,by decide⟩
 | 1,_=>exact ⟨0,rfl,by decide⟩
 | 2,_=>exact ⟨1,rfl,by decide⟩
 | 3,_=>exact ⟨3,rfl,by decide⟩
 | 4,_=>exact ⟨7,rfl,by decide⟩
theorem chars_of {lo hi : Nat} {ds : List D} (h : ∀ x ∈ ds,∃ c : Nat,x = .str (chN c) ∧ lo ≤ c ∧ c ≤ hi) : ∃ cs : List Nat,ds = sD (cs.map chN) ∧ ∀ c ∈ cs,lo ≤ c ∧ c ≤ hi:=by
 induction ds with
 | nil=>exact ⟨[],rfl,nofun⟩
 | cons d ds ih =>
  obtain ⟨c,rfl,hc⟩:=h d List.mem_cons_self
  obtain ⟨cs,rfl,hcs⟩:=ih fun x hx=>h x (List.mem_cons_of_mem _ hx)
  refine ⟨c :: cs,rfl,fun q hq=>?_⟩
  rcases List.mem_cons.mp hq with rfl | hq
  ·exact hc
  ·exact hcs q hq
theorem chars_tl : ∀ cs : List Nat,(cs.map chN).flatMap TL.tl = cs
 | []=>rfl
 | c :: cs=>by rw [List.map_cons,List.flatMap_cons,chars_tl cs]; rfl
theorem chars_sum : ∀ cs : List Nat,((cs.map chN).map fun x=>x.length).sum = cs.length
 | []=>rfl
 | c :: cs=>by rw [List.map_cons,List.map_cons,List.sum_cons,chars_sum cs,List.length_cons]; exact Nat.add_comm _ _
theorem strsU_sD0 : ∀ xs : List Str,strsU ((sD xs).map U.d) = some xs
 | []=>rfl
 | x :: xs=>by
  have ih:=strsU_sD0 xs
  unfold strsU at ih ⊢
  show allM _ (U.d (.str x) :: (sD xs).map U.d) = _
  rw [allM,ih]
theorem ltr_ix (k s : Nat) : ∃ c,atI ("abcdefghijklmnopqrstuvwxyz" : Str).cps.toList ((((s : Nat) : Int) + 5 * ((k : Nat) : Int)) % 26) = some c ∧ c = 97 + (s + 5 * k) % 26:=by
 have e : ((((s : Nat) : Int) + 5 * ((k : Nat) : Int)) % 26) = (((s + 5 * k) % 26 : Nat) : Int):=by omega
 rw [e]
 exact ⟨_,ltr_at ⟨(s + 5 * k) % 26,Nat.mod_lt _ (by decide)⟩,rfl⟩
section
variable {x0 x1 x2 x3 x4 x5 x6 x7 x8 : Option U}
theorem nm_base {b : Nat} (w : WF st) (hb : Bag st b) : ∃ (cs : List Nat) (st' : Store),c_L_law_names_1 K a [some (.ref b),x1,some (.d (.str "abcdefghijklmnopqrstuvwxyz")),x3,x4,x5,x6,x7,x8] st = .ok (.d (.lst (sD (cs.map chN)))) st' ∧ cs.length ≤ 7 ∧ (∀ c ∈ cs,97 ≤ c ∧ c ≤ 122) ∧ Fb st st' b:=by
 obtain ⟨d,s1,e1,hd,k1⟩:=ev_ltake (K:=K) (a:=a) w hb (m:=5) (by decide) (by decide)
 obtain ⟨n,en,hn⟩:=sizes_at hd
 have hz:=ltr_len
 obtain ⟨ds,s2,e2,k2,r⟩:=fLc_fb (fi:=fItN itR (fCons (f2 oIx (fN vLst (fCons (vC (.int 0)) (fCons (vC (.int 0)) (fCons (vC (.int 1)) (fCons (vC (.int 3)) (fCons (vC (.int 7)) fNil)))))) (fCall 2 0 gPos (m_L_law_take K a) (fCW (fCons (vVar 0) (fCons (vC (.int 5)) fNil)) fNil))) fNil)) (tg:=tgN 4) (tt:=tYesB) (fe:=f2 oIx (vVar 2) (fCall 2 0 gPos (m_L_law_take K a) (fCW (fCons (vVar 0) (fCons (vC (.int 26)) fNil)) fNil))) (vs:=[4]) (env:=[some (.ref b),x1,some (.d (.str "abcdefghijklmnopqrstuvwxyz")),x3,x4,x5,x6,x7,x8]) (st0:=st)
  (fun _ x=>∃ c : Nat,x = .str (chN c) ∧ 97 ≤ c ∧ c ≤ 122) k1.wf k1.bag (us:=(List.range n).map fun i=>.d (.int (0 + (i : Nat)))) (fItN_ok (us:=[.d (.int (n : Nat))]) (by
   generalize ("abcdefghijklmnopqrstuvwxyz" : Str) = LT at *
   simp only [fnM,sSeq,sRet,sRetN,sExpr,sIf,sNil,sNo,sAsg,tgN,bndS,bnd,vVar,vC,f2,f1,fB,pu,fN,vTup,vLst,fTup,fCons,fNil,fPure,fIf,fAnd,fOr,fNot,asB,asT,bAnd,bOr,bNot,fChain,fCall,fCW,gPos,gApp,R.of,R.of2,fM,pu4,tgT,tgCons,tgNil,unp,pureL,sPar,sPar3,fLstC,fFld,oFld,fMeth,insU,sFldS,setFld,fSl,oNone,oSome,tgSub,setU,fIter,fItN,fItS,sFor,getL,getT,VL.getD,keyD,tyB,lstC,oAdd,oSub,oMul,oFdiv,oMod,oPow,oNeg,oLt,oLe,oGt,oGe,oEq,oNe,oIsN,oNotN,oIn,oNotIn,oIx,oLen,oInt,oAbs,oMin,oMax,oStr,oList,oListC,oTuple,oAll,oAny,itemsU,lenN,truB,fJs,oFmt,List.map_cons,List.map_nil,List.length_cons,List.length_nil,List.replicate_succ,List.replicate_zero,List.cons_append,List.nil_append,List.append_nil,List.getElem?_cons_zero,List.getElem?_cons_succ,List.set_cons_zero,List.set_cons_succ,Nat.reduceAdd,Nat.reduceSub,Option.map_some,Option.map_none,if_true,if_false,ite_true,ite_false,Bool.false_eq_true,reduceCtorEq,true_and,and_true,and_self,Bool.not_true,Bool.not_false,Nat.zero_add,Option.bind_some,Option.bind_eq_bind,Option.pure_def,decide_true,decide_false,eq_self,Nat.reduceEqDiff,Nat.reduceLT,Nat.reduceLeDiff,Int.reduceLT,Int.reduceLE,Int.reduceEq,Bool.and_true,Bool.true_and,Bool.false_and,Bool.or_false,Bool.or_true,Bool.true_or,Bool.false_or,sz0,szl0,sz1,szl1,sz2,szl2,sz3,szl3,sz4,szl4,sz5,szl5,sz6,szl6,sz7,szl7,sz8,szl8,sz9,szl9,sz10,szl10,sz11,szl11,sz12,szl12,sz13,szl13,sz14,szl14,sz15,szl15,e1,en]) (itR_eq (by omega))) (by rw [List.length_map,List.length_range]; exact Nat.le_trans (show n ≤ 7 by omega) (by decide)) fun u hu st' w' b'=>by
  obtain ⟨x,s5,e5,hx,k5⟩:=ev_ltake (K:=K) (a:=a) w' b' (m:=26) (by decide) (by decide)
  have hat:=ltr_at ⟨x,by omega⟩
  simp only at hat
  refine ⟨[some (.ref b),x1,some (.d (.str "abcdefghijklmnopqrstuvwxyz")),x3,some u,x5,x6,x7,x8],.str (chN (97 + x)),s5,rfl,rfl,?_,⟨97 + x,rfl,by omega,by omega⟩,k5⟩
  generalize ("abcdefghijklmnopqrstuvwxyz" : Str) = LT at *
  simp_all? only [e5,hz,hat]
  rfl
 obtain ⟨cs,rfl,hcs⟩:=chars_of fun x hx=>r.right (Q:=fun x=>∃ c : Nat,x = .str (chN c) ∧ 97 ≤ c ∧ c ≤ 122) (fun _ _ h=>h) x hx
 have hl:=r.length
 rw [List.length_map,List.length_range] at hl
 unfold sD at hl
 rw [List.length_map,List.length_map] at hl
 refine ⟨cs,s2,e2,by omega,hcs,k1.trans k2⟩
theorem nm_chars (w : WF st) {m s : Nat} (hm : m ≤ 26) : c_L_law_names_2 K a [x0,some (.d (.int (m : Nat))),some (.d (.str "abcdefghijklmnopqrstuvwxyz")),x3,x4,some (.d (.int (s : Nat))),x6,x7,x8] st = .ok (.d (.lst (sD ((List.range m).map fun k=>chN (97 + (s + 5 * k) % 26))))) st:=by
 unfold c_L_law_names_2
 have hz:=ltr_len
 have:=lc_eq1 (fi:=fItN itR (fCons (vVar 1) fNil)) (tg:=tgN 4) (tt:=tYesB) (fe:=f2 oIx (vVar 2) (f2 oMod (f2 oAdd (vVar 5) (f2 oMul (vC (.int 5)) (vVar 4))) (vC (.int 26)))) (vs:=[4]) (env:=[x0,some (.d (.int (m : Nat))),some (.d (.str "abcdefghijklmnopqrstuvwxyz")),x3,x4,some (.d (.int (s : Nat))),x6,x7,x8]) (f:=fun i : Nat=>U.d (.int (0 + (i : Nat)))) (List.range m) (fun k=>D.str (chN (97 + (s + 5 * k) % 26))) w (by rw [List.length_range]; exact Nat.le_trans hm (by decide)) (fItN_ok (us:=[.d (.int (m : Nat))]) (by
   generalize ("abcdefghijklmnopqrstuvwxyz" : Str) = LT at *
   simp only [fnM,sSeq,sRet,sRetN,sExpr,sIf,sNil,sNo,sAsg,tgN,bndS,bnd,vVar,vC,f2,f1,fB,pu,fN,vTup,vLst,fTup,fCons,fNil,fPure,fIf,fAnd,fOr,fNot,asB,asT,bAnd,bOr,bNot,fChain,fCall,fCW,gPos,gApp,R.of,R.of2,fM,pu4,tgT,tgCons,tgNil,unp,pureL,sPar,sPar3,fLstC,fFld,oFld,fMeth,insU,sFldS,setFld,fSl,oNone,oSome,tgSub,setU,fIter,fItN,fItS,sFor,getL,getT,VL.getD,keyD,tyB,lstC,oAdd,oSub,oMul,oFdiv,oMod,oPow,oNeg,oLt,oLe,oGt,oGe,oEq,oNe,oIsN,oNotN,oIn,oNotIn,oIx,oLen,oInt,oAbs,oMin,oMax,oStr,oList,oListC,oTuple,oAll,oAny,itemsU,lenN,truB,fJs,oFmt,List.map_cons,List.map_nil,List.length_cons,List.length_nil,List.replicate_succ,List.replicate_zero,List.cons_append,List.nil_append,List.append_nil,List.getElem?_cons_zero,List.getElem?_cons_succ,List.set_cons_zero,List.set_cons_succ,Nat.reduceAdd,Nat.reduceSub,Option.map_some,Option.map_none,if_true,if_false,ite_true,ite_false,Bool.false_eq_true,reduceCtorEq,true_and,and_true,and_self,Bool.not_true,Bool.not_false,Nat.zero_add,Option.bind_some,Option.bind_eq_bind,Option.pure_def,decide_true,decide_false,eq_self,Nat.reduceEqDiff,Nat.reduceLT,Nat.reduceLeDiff,Int.reduceLT,Int.reduceLE,Int.reduceEq,Bool.and_true,Bool.true_and,Bool.false_and,Bool.or_false,Bool.or_true,Bool.true_or,Bool.false_or,sz0,szl0,sz1,szl1,sz2,szl2,sz3,szl3,sz4,szl4,sz5,szl5,sz6,szl6,sz7,szl7,sz8,szl8,sz9,szl9,sz10,szl10,sz11,szl11,sz12,szl12,sz13,szl13,sz14,szl14,sz15,szl15]) (itR_eq (by omega))) fun k hk acc=>by
  obtain ⟨c,hat,rfl⟩:=ltr_ix k s
  have c1 : ((-(2 ^ 64) < (5 : Int) ∧ (5 : Int) < 2 ^ 64) ∨ (-(2 ^ 64) < ((k : Nat) : Int) ∧ ((k : Nat) : Int) < 2 ^ 64)):=.inl ⟨by decide,by decide⟩
  have c2 : (0 : Int) < 26:=by decide
  unfold LcP
  generalize ("abcdefghijklmnopqrstuvwxyz" : Str) = LT at *
  simp_all only [wipeE,tYesB,Int.zero_add]
  intro _
  simp_all only [c1,c2,hz,hat]
  rfl
 rw [this]
 unfold sD
 rw [List.map_map]
 rfl
theorem nm_ends (w : WF st) {bs : Str} (hb : bs.length ≤ 7) {q : Int} {xs : List Nat} (hl : xs.length ≤ 26) : c_L_law_names_3 K a [x0,x1,x2,some (.d (.str bs)),x4,x5,some (.d (.int q)),some (.d (.lst (sD (xs.map chN)))),x8] st = .ok (.d (.lst (sD (xs.map fun c=>if (q != 0) = true then bs ++ chN c else chN c ++ bs)))) st:=by
 unfold c_L_law_names_3
 have hi : fIter (vVar 7) [x0,x1,x2,some (.d (.str bs)),x4,x5,some (.d (.int q)),some (.d (.lst (sD (xs.map chN)))),x8] st = .ok (.lst (xs.map fun c=>U.d (.str (chN c)))) st:=by
  apply eq_of_wp
  unfold sD
  simp_all only [List.map_map]
  rfl
 have:=lc_eq1 (fi:=fIter (vVar 7)) (tg:=tgN 8) (tt:=tYesB) (fe:=fIf (asT (vVar 6)) (f2 oAdd (vVar 3) (vVar 8)) (f2 oAdd (vVar 8) (vVar 3))) (vs:=[8]) (env:=[x0,x1,x2,some (.d (.str bs)),x4,x5,some (.d (.int q)),some (.d (.lst (sD (xs.map chN)))),x8]) (f:=fun c : Nat=>U.d (.str (chN c))) xs (fun c=>D.str (if (q != 0) = true then bs ++ chN c else chN c ++ bs)) w (Nat.le_trans hl (by decide)) hi fun c hc acc=>by
  have h1 : (chN c).length = 1:=rfl
  have z1 : bs.length + (chN c).length ≤ sizeLine:=by rw [h1]; exact Nat.le_trans (show _ ≤ 8 by omega) (by decide)
  have z2 : (chN c).length + bs.length ≤ sizeLine:=by rw [h1]; exact Nat.le_trans (show _ ≤ 8 by omega) (by decide)
  unfold LcP
  generalize sD (xs.map chN) = XS at *
  generalize chN c = C at *
  cases hq : (q != 0) with
  | true =>
   simp_all only [wipeE,tYesB]
   intro _
   simp_all only [hq,z1]
  | false =>
   simp_all only [wipeE,tYesB]
   intro _
   simp_all only [hq,z2]
 rw [this]
 unfold sD
 rw [List.map_map]
 rfl
end
theorem nms_ok {cs : List Nat} {m s : Nat} {q : Int} (h7 : cs.length ≤ 7) (hc : ∀ c ∈ cs,97 ≤ c ∧ c ≤ 122) (hm : m ≤ 26) : NmsOk m (((List.range m).map fun k=>97 + (s + 5 * k) % 26).map fun c=>if (q != 0) = true then Txt.join ("" : Str) (cs.map chN) ++ chN c else chN c ++ Txt.join ("" : Str) (cs.map chN)):=by
 have ht : TL.tl (Txt.join ("" : Str) (cs.map chN)) = cs:=by rw [tl_join0,chars_tl]
 generalize Txt.join ("" : Str) (cs.map chN) = B at *
 have tlx : ∀ c,TL.tl (if (q != 0) = true then B ++ chN c else chN c ++ B) = if (q != 0) = true then cs ++ [c] else c :: cs:=fun c=>by
  split
  ·rw [TL.tl_append,ht,tl_chN]
  ·rw [TL.tl_append,ht,tl_chN]; rfl
 refine ⟨by rw [List.length_map,List.length_map,List.length_range],?_,fun x hx=>?_⟩
 ·rw [List.map_map]
  refine List.Pairwise.map _ (R:=fun i j : Nat=>i < m ∧ j < m ∧ i ≠ j) (fun i j h e=>?_) ?_
  ·obtain ⟨h1,h2,h3⟩:=h
   have:=congrArg TL.tl e
   simp only [Function.comp] at this
   rw [tlx,tlx] at this
   have e2 : 97 + (s + 5 * i) % 26 = 97 + (s + 5 * j) % 26:=by
    split at this
    ·have:=List.append_cancel_left this
     exact (List.cons.inj this).1
    ·exact (List.cons.inj this).1
   omega
  ·have hn:=List.nodup_range (n:=m)
   refine List.Pairwise.imp_of_mem (fun {i j} hi hj h=>⟨List.mem_range.mp hi,List.mem_range.mp hj,h⟩) hn
 ·obtain ⟨c,hcm,rfl⟩:=List.mem_map.mp hx
  obtain ⟨k,-,rfl⟩:=List.mem_map.mp hcm
  have hk : 97 ≤ 97 + (s + 5 * k) % 26 ∧ 97 + (s + 5 * k) % 26 ≤ 122:=by omega
  generalize 97 + (s + 5 * k) % 26 = c at *
  have hl : (if (q != 0) = true then cs ++ [c] else c :: cs).length = cs.length + 1:=by split <;> simp
  refine name_of ?_ ?_ fun d hd=>?_
  ·rw [tlx,hl]; omega
  ·rw [tlx,hl]; omega
  ·rw [tlx] at hd
   have : d ∈ cs ∨ d = c:=by
    split at hd
    ·rcases List.mem_append.mp hd with h | h
     ·exact .inl h
     ·exact .inr (List.mem_singleton.mp h)
    ·rcases List.mem_cons.mp hd with h | h
     ·exact .inr h
     ·exact .inl h
   rcases this with h | rfl
   ·exact hc d h
   ·exact hk
theorem ev_lnames {b : Nat} (w : WF st) (hb : Bag st b) {m : Nat} (hm : m ≤ 26) : ∃ (xs : List Str) (st' : Store),m_L_law_names K a [.ref b,.d (.int (m : Nat))] st = .ok (.d (.lst (sD xs))) st' ∧ NmsOk m xs ∧ Fb st st' b:=by
 obtain ⟨cs,s1,e1,h7,hc,k1⟩:=nm_base (K:=K) (a:=a) (x1:=some (.d (.int (m : Nat)))) (x3:=none) (x4:=none) (x5:=none) (x6:=none) (x7:=none) (x8:=none) w hb
 obtain ⟨s,s2,e2,hs,k2⟩:=ev_ltake (K:=K) (a:=a) k1.wf k1.bag (m:=26) (by decide) (by decide)
 obtain ⟨q,s3,e3,hq,k3⟩:=ev_ltake (K:=K) (a:=a) k2.wf k2.bag (m:=2) (by decide) (by decide)
 have hbl : (Txt.join ("" : Str) (cs.map chN)).length ≤ 7:=by rw [TL.len_tl,tl_join0,chars_tl]; exact h7
 have e4:=nm_chars (K:=K) (a:=a) (x0:=some (.ref b)) (x3:=some (.d (.str (Txt.join ("" : Str) (cs.map chN))))) (x4:=none) (x6:=some (.d (.int (q : Nat)))) (x7:=none) (x8:=none) k3.wf (m:=m) (s:=s) hm
 have hmm : ((List.range m).map fun k=>chN (97 + (s + 5 * k) % 26)) = ((List.range m).map fun k=>97 + (s + 5 * k) % 26).map chN:=by rw [List.map_map]; rfl
 rw [hmm] at e4
 have e5:=nm_ends (K:=K) (a:=a) (x0:=some (.ref b)) (x1:=some (.d (.int (m : Nat)))) (x2:=some (.d (.str "abcdefghijklmnopqrstuvwxyz"))) (x4:=none) (x5:=some (.d (.int (s : Nat)))) (x8:=none) k3.wf hbl (q:=((q : Nat) : Int)) (xs:=(List.range m).map fun k=>97 + (s + 5 * k) % 26) (by rw [List.length_map,List.length_range]; exact hm)
 have hK:=(k1.trans k2).trans k3
 refine ⟨_,s3,?_,nms_ok (q:=((q : Nat) : Int)) (s:=s) h7 hc hm,hK⟩
 have su:=strsU_sD0 (cs.map chN)
 have hsum : ((cs.map chN).map fun x=>x.length).sum + (cs.map chN).length * ("" : Str).length ≤ 16777216:=by
  rw [chars_sum]
  have : ("" : Str).length = 0:=rfl
  rw [this]
  omega
 have hcut : cutS st.length s3 = some s3:=by rw [← hK.len]; exact hK.wf.cut
 have hf : ∀ d : D,wFrz st.length (.d d) s3 = .ok (.d d) s3:=fun d=>by
  unfold wFrz
  simp only [frz_dd,hcut]
 have hj : mJoin (.d (.str "")) [.d (.lst (sD (cs.map chN)))] s1 = some (.d (.str (Txt.join ("" : Str) (cs.map chN)))):=by
  unfold mJoin
  simp only [itemsU,getL,su,hsum,if_true]
 clear hmm hsum hbl
 generalize ((List.range m).map fun k=>97 + (s + 5 * k) % 26) = XS at *
 generalize sD (XS.map fun c=>if ((q : Nat) : Int) != 0 then Txt.join ("" : Str) (cs.map chN) ++ chN c else chN c ++ Txt.join ("" : Str) (cs.map chN)) = RES at *
 generalize sD (XS.map chN) = XC at *
 generalize Txt.join ("" : Str) (cs.map chN) = JB at *
 generalize sD (cs.map chN) = CD at *
 apply eq_of_wp
 unfold m_L_law_names g_L_law_names
 generalize ("abcdefghijklmnopqrstuvwxyz" : Str) = LT at *
 simp_all only [e1,hj,e2,e3,e4,e5,hcut]
structure Dt (d : D) (p : PyData) (n : Nat) : Prop where
 to : toP d = some p
 lay : p.canLay0 = true
 dep : p.depth ≤ n
 refl : PyData.eqv p p = true
structure DtL (ds : List D) (ps : List PyData) (n : Nat) : Prop where
 to : toPs ds = some ps
 lay : PyData.canLayAll0 ps = true
 dep : PyData.depthAll ps ≤ n
 refl : PyData.eqvAll ps ps = true
theorem Dt.non (n : Nat) (h : 1 ≤ n) : Dt .non .none n:=⟨rfl,by simp [PyData.canLay0],by simp [PyData.depth]; try omega,by simp [PyData.eqv]⟩
theorem Dt.str {s : Str} (n : Nat) (h : 1 ≤ n) (hs : PyData.strOk s = true) : Dt (.str s) (.str s) n:=⟨rfl,by simp [PyData.canLay0,hs],by simp [PyData.depth]; try omega,by simp [PyData.eqv]⟩
theorem Dt.int (i : Int) (n : Nat) (h : 1 ≤ n) : Dt (.int i) (.int i) n:=⟨rfl,by simp [PyData.canLay0],by simp [PyData.depth]; try omega,by simp [PyData.eqv]⟩
theorem DtL.nil (n : Nat) : DtL [] [] n:=⟨rfl,by simp [PyData.canLayAll0],by simp [PyData.depthAll],by simp [PyData.eqvAll]⟩
theorem DtL.cons {d : D} {p : PyData} {ds : List D} {ps : List PyData} {n : Nat} (h : Dt d p n) (k : DtL ds ps n) : DtL (d :: ds) (p :: ps) n :=
 ⟨by show (match toP d,toPs ds with | some p,some ps=>some (p :: ps) | _,_=>none) = _; rw [h.to,k.to],by simp [PyData.canLayAll0,h.lay,k.lay],by have:=h.dep; have:=k.dep; simp [PyData.depthAll]; omega,by simp [PyData.eqvAll,h.refl,k.refl]⟩
theorem Dt.cons {d : D} {p : PyData} {ds : List D} {ps : List PyData} {n : Nat} (h : Dt d p n) (k : DtL ds ps n) : DtL (d :: ds) (p :: ps) n:=DtL.cons h k
theorem DtL.tup {ds : List D} {ps : List PyData} {n : Nat} (h : DtL ds ps n) : Dt (.tup ds) (.tuple ps) (n + 1) :=
 ⟨by show (toPs ds).map _ = _; rw [h.to]; rfl,by simp [PyData.canLay0,h.lay],by have:=h.dep; simp [PyData.depth]; omega,by simp [PyData.eqv,h.refl]⟩
theorem DtL.lst {ds : List D} {ps : List PyData} {n : Nat} (h : DtL ds ps n) : Dt (.lst ds) (.list ps) (n + 1) :=
 ⟨by show (toPs ds).map _ = _; rw [h.to]; rfl,by simp [PyData.canLay0,h.lay],by have:=h.dep; simp [PyData.depth]; omega,by simp [PyData.eqv,h.refl]⟩
theorem DtL.map {α : Type} {f : α → D} {g : α → PyData} {n : Nat} : ∀ {xs : List α},(∀ x ∈ xs,Dt (f x) (g x) n) → DtL (xs.map f) (xs.map g) n
 | [],_=>DtL.nil n
 | x :: xs,h=>DtL.cons (h x List.mem_cons_self) (DtL.map fun y hy=>h y (List.mem_cons_of_mem _ hy))
theorem Dt.shaped {d : D} {p : PyData} {n : Nat} (h : Dt d p n) (hn : n ≤ 40) : SeqAt.shaped p = true:=by
 unfold SeqAt.shaped
 have:=h.dep
 rw [h.lay,Bool.true_and,decide_eq_true_eq]
 omega
theorem eqB_tt {ds es : List D} {p q : PyData} {n : Nat} (h : Dt (.tup ds) p n) (k : Dt (.tup es) q n) (hn : n ≤ 40) : eqB st (.d (.tup ds)) (.d (.tup es)) = some (PyData.eqv p q):=by
 unfold eqB
 simp only [asP_d,h.to,k.to,h.shaped hn,k.shaped hn,and_self,if_true]
theorem eqB_ll {ds es : List D} {p q : PyData} {n : Nat} (h : Dt (.lst ds) p n) (k : Dt (.lst es) q n) (hn : n ≤ 40) : eqB st (.d (.lst ds)) (.d (.lst es)) = some (PyData.eqv p q):=by
 unfold eqB
 simp only [asP_d,h.to,k.to,h.shaped hn,k.shaped hn,and_self,if_true]
inductive Sc where
 | all
 | sec (x : Str)
 | set (k : Nat)
deriving DecidableEq
noncomputable def Sc.d : Sc → D
 | .all=>.tup [.str "all",.str ""]
 | .sec x=>.tup [.str "section",.str x]
 | .set k=>.tup [.str "setting",.int ((k : Nat) : Int)]
noncomputable def Sc.p : Sc → PyData
 | .all=>.tuple [.str "all",.str ""]
 | .sec x=>.tuple [.str "section",.str x]
 | .set k=>.tuple [.str "setting",.int ((k : Nat) : Int)]
noncomputable def Sc.n : Sc → NestedKey
 | .all=>.tup [.text "all",.text ""]
 | .sec x=>.tup [.text "section",.text x]
 | .set k=>.tup [.text "setting",.num ((k : Nat) : Int)]
noncomputable def Sc.ok : Sc → Prop
 | .sec x=>PyData.strOk x = true
 | _=>True
noncomputable abbrev It:=Sc × Str
noncomputable def itD (i : It) : D:=.tup [i.1.d,.str i.2]
noncomputable def itP (i : It) : PyData:=.tuple [i.1.p,.str i.2]
theorem w_as : (("all" : Str) != ("section" : Str)) = true:=by decide +kernel
theorem w_at : (("all" : Str) != ("setting" : Str)) = true:=by decide +kernel
theorem w_sa : (("section" : Str) != ("all" : Str)) = true:=by decide +kernel
theorem w_st : (("section" : Str) != ("setting" : Str)) = true:=by decide +kernel
theorem w_ta : (("setting" : Str) != ("all" : Str)) = true:=by decide +kernel
theorem w_ts : (("setting" : Str) != ("section" : Str)) = true:=by decide +kernel
theorem sc_cmp (s t : Sc) : (PySem.W.alike s.p t.p = true ∧ (s ≠ t → PyData.eqv s.p t.p = false)) ∨ sdP s.p t.p = true:=by
 cases s with
 | all =>
  cases t with
  | all=>exact .inl ⟨rfl,fun h=>absurd rfl h⟩
  | sec y=>exact .inr w_as
  | set y=>exact .inr w_at
 | sec x =>
  cases t with
  | all=>exact .inr w_sa
  | sec y =>
   refine .inl ⟨rfl,fun h=>?_⟩
   have : x ≠ y:=fun e=>h (by rw [e])
   simp [Sc.p,PyData.eqv,PyData.eqvAll,this]
  | set y=>exact .inr w_st
 | set x =>
  cases t with
  | all=>exact .inr w_ta
  | sec y=>exact .inr w_ts
  | set y =>
   refine .inl ⟨rfl,fun h=>?_⟩
   have : ¬ ((x : Nat) : Int) = ((y : Nat) : Int):=fun e=>h (by rw [Int.ofNat_inj.mp e])
   simp [Sc.p,PyData.eqv,PyData.eqvAll]
   omega
theorem sc_okP (s t : Sc) : okP s.p t.p = true:=by
 unfold okP
 rcases sc_cmp s t with h | h
 ·rw [h.1,Bool.true_or]
 ·rw [h,Bool.or_true]
theorem it_okP (i j : It) : okP (itP i) (itP j) = true:=by
 have h:=sc_okP i.1 j.1
 unfold okP itP at *
 simp only [PySem.W.alike,PySem.W.alikeAll,sdP,Bool.and_true]
 exact h
theorem sc_lex {s t : Sc} (h : s ≠ t) (l m : List (Int ⊕ List Nat)) : PyProof.Rows.lexLt itemOrd (PySem.W.keyToks s.p ++ l) (PySem.W.keyToks t.p ++ m) = PySem.W.dataLt s.p t.p:=by
 rcases sc_cmp s t with q | q
 ·exact (PySem.W.toks_eqv s.p t.p q.1).2 (q.2 h) l m
 ·exact sd_lex _ _ q l m
theorem it_lt {i j : It} (h : i.1 ≠ j.1) : PySem.W.dataLt (itP i) (itP j) = PySem.W.dataLt i.1.p j.1.p:=by
 unfold itP
 rw [PySem.W.dataLt_tuple,PySem.W.toks_all_cons,PySem.W.toks_all_cons]
 exact (lex_self (O:=itemOrd) _ _ _).trans (sc_lex h _ _)
theorem sc_toks {s t : Sc} (h : PySem.W.keyToks s.p = PySem.W.keyToks t.p) : s = t:=by
 have k1:=w_as
 have k2:=w_at
 have k3:=w_st
 rw [bne_iff_ne] at k1 k2 k3
 cases s <;> cases t <;> simp only [Sc.p,PySem.W.keyToks,PySem.W.keyToksAll,List.cons_append,List.nil_append,List.cons.injEq,Sum.inr.injEq,Sum.inl.injEq,true_and,and_true,reduceCtorEq,and_false,false_and] at h
 all_goals first
  | rfl
  | exact absurd (PySem.W.str_of_cps h.1) k1
  | exact absurd (PySem.W.str_of_cps h.1).symm k1
  | (rw [PySem.W.str_of_cps h])
  | (rw [Int.ofNat_inj.mp h])
/-- an order of keys -/
noncomputable def leQ {α : Type} (f : α → PyData) (x y : α) : Bool:=!PySem.W.dataLt (f y) (f x)
theorem leQ_total {α : Type} (f : α → PyData) (x y : α) : (leQ f x y || leQ f y x) = true:=by
 unfold leQ
 cases e1 : PySem.W.dataLt (f y) (f x) with
 | false=>rfl
 | true =>
  cases e2 : PySem.W.dataLt (f x) (f y) with
  | false=>rfl
  | true =>
   have:=lex_trans (O:=itemOrd) _ _ _ e1 e2
   rw [lex_irrefl] at this
   cases this
theorem leQ_trans {α : Type} (f : α → PyData) (x y z : α) (h1 : leQ f x y = true) (h2 : leQ f y z = true) : leQ f x z = true:=by
 unfold leQ at *
 rw [Bool.not_eq_true'] at *
 cases e : PySem.W.dataLt (f z) (f x) with
 | false=>rfl
 | true =>
  exfalso
  cases e2 : PySem.W.dataLt (f x) (f y) with
  | true =>
   have:=lex_trans (O:=itemOrd) _ _ _ e e2
   have h2' : PyProof.Rows.lexLt itemOrd (PySem.W.keyToks (f z)) (PySem.W.keyToks (f y)) = false:=h2
   rw [h2'] at this
   cases this
  | false =>
   have q:=lex_total (O:=itemOrd) _ _ e2 h1
   unfold PySem.W.dataLt at e h2
   rw [q,h2] at e
   cases e
theorem sc_anti {s t : Sc} (h1 : leQ Sc.p s t = true) (h2 : leQ Sc.p t s = true) : s = t:=by
 unfold leQ at *
 rw [Bool.not_eq_true'] at *
 exact sc_toks (lex_total (O:=itemOrd) _ _ h2 h1)
theorem le_key {i j : It} (h : leQ itP i j = true) (hne : i.1 ≠ j.1) : leQ Sc.p i.1 j.1 = true:=by
 unfold leQ at *
 rwa [it_lt (Ne.symm hne)] at h
noncomputable def sortI (L : List It) : List It:=L.mergeSort (leQ itP)
theorem sortI_perm (L : List It) : (sortI L).Perm L:=List.mergeSort_perm _ _
theorem sortI_keys (L : List It) : ((sortI L).map (·.1)).Perm (L.map (·.1)):=(sortI_perm L).map _
theorem sortI_nodup {L : List It} (h : (L.map (·.1)).Nodup) : ((sortI L).map (·.1)).Nodup:=(sortI_keys L).nodup_iff.mpr h
theorem key_inj {L : List It} (h : (L.map (·.1)).Nodup) {i j : It} (hi : i ∈ L) (hj : j ∈ L) (e : i.1 = j.1) : i = j:=by
 induction L with
 | nil=>cases hi
 | cons x L ih =>
  rw [List.map_cons,List.nodup_cons] at h
  rcases List.mem_cons.mp hi with rfl | hi' <;> rcases List.mem_cons.mp hj with rfl | hj'
  ·rfl
  ·exact absurd (List.mem_map.mpr ⟨j,hj',e.symm⟩) h.1
  ·exact absurd (List.mem_map.mpr ⟨i,hi',e⟩) h.1
  ·exact ih h.2 hi' hj'
theorem sortI_eq {L L' : List It} (h : (L.map (·.1)).Nodup) (p : L.Perm L') : sortI L = sortI L':=by
 refine List.Perm.eq_of_pairwise (le:=fun a b=>leQ itP a b = true) (fun i j hi hj h1 h2=>?_) (List.pairwise_mergeSort (leQ_trans itP) (leQ_total itP) _) (List.pairwise_mergeSort (leQ_trans itP) (leQ_total itP) _) ((sortI_perm L).trans (p.trans (sortI_perm L').symm))
 have hi':=(sortI_perm L).mem_iff.mp hi
 have hj':=p.mem_iff.mpr ((sortI_perm L').mem_iff.mp hj)
 by_cases e : i.1 = j.1
 ·exact key_inj h hi' hj' e
 ·exact absurd (sc_anti (le_key h1 e) (le_key h2 (Ne.symm e))) e
theorem sortI_map {L : List It} (h : (L.map (·.1)).Nodup) : (L.map (·.1)).mergeSort (leQ Sc.p) = (sortI L).map (·.1):=by
 refine List.Perm.eq_of_pairwise (le:=fun a b=>leQ Sc.p a b = true) (fun i j _ _ h1 h2=>sc_anti h1 h2) (List.pairwise_mergeSort (leQ_trans Sc.p) (leQ_total Sc.p) _) ?_ ((List.mergeSort_perm _ _).trans (sortI_keys L).symm)
 have hn:=sortI_nodup h
 have hs:=List.pairwise_mergeSort (leQ_trans itP) (leQ_total itP) L
 rw [List.pairwise_map]
 rw [List.nodup_iff_pairwise_ne,List.pairwise_map] at hn
 exact List.Pairwise.imp₂ (fun i j a b=>le_key a b) hs hn
theorem allM_toP {α : Type} {f : α → D} {g : α → PyData} (h : ∀ x,toP (f x) = some (g x)) : ∀ L : List α,allM toP (L.map f) = some (L.map g)
 | []=>rfl
 | x :: L=>by rw [List.map_cons,allM,h,allM_toP h L]; rfl
theorem sc_to (s : Sc) : toP s.d = some s.p:=by cases s <;> rfl
theorem it_to (i : It) : toP (itD i) = some (itP i):=by
 show (toPs [i.1.d,.str i.2]).map PyData.tuple = _
 have : toPs [i.1.d,.str i.2] = some [i.1.p,.str i.2]:=by
  show (match toP i.1.d,toPs [D.str i.2] with | some p,some ps=>some (p :: ps) | _,_=>none) = _
  rw [sc_to]
  rfl
 rw [this]
 rfl
theorem sc_depth (s : Sc) : s.p.depth ≤ 10 ∧ s.p.plain = true ∧ ∃ x r,s.p = .tuple (.str x :: r):=by
 cases s <;> exact ⟨by simp [Sc.p,PyData.depth,PyData.depthAll],by simp [Sc.p,PyData.plain,PyData.plainAll],_,_,rfl⟩
theorem it_depth (i : It) : (itP i).depth ≤ 20 ∧ (itP i).plain = true:=by
 obtain ⟨h1,h2,-⟩:=sc_depth i.1
 constructor
 ·simp only [itP,PyData.depth,PyData.depthAll]
  omega
 ·simp [itP,PyData.plain,PyData.plainAll,h2]
theorem sort_gen {α : Type} {f : α → D} {g : α → PyData} (h : ∀ x,toP (f x) = some (g x)) {T : Value} (ho : ∀ x y,okP (g x) (g y) = true) (hp : ∀ x,(g x).plain = true) (hd : ∀ x,(g x).depth ≤ 60) (ht : ∀ x,hdT (g x) = some T) (L : List α) : sortL (L.map f) = some ((L.mergeSort (leQ g)).map f):=by
 unfold sortL
 rw [allM_toP h]
 have hs : srtB (L.map g) = true ∧ ((L.map g).all fun p=>decide (p.depth ≤ 60)) = true:=by
  constructor
  ·unfold srtB
   simp only [Bool.and_eq_true,List.all_eq_true,List.mem_map]
   refine ⟨?_,?_,?_⟩
   ·rintro p ⟨x,-,rfl⟩ q ⟨y,-,rfl⟩
    exact ho x y
   ·rintro p ⟨x,-,rfl⟩
    exact hp x
   ·rintro p ⟨x,-,rfl⟩
    rw [ht]
    refine ⟨rfl,decide_eq_true ?_⟩
    rintro q hq
    obtain ⟨y,-,rfl⟩:=List.mem_map.mp hq
    exact (ht y).symm
  ·rw [List.all_eq_true]
   intro p hp
   obtain ⟨x,-,rfl⟩:=List.mem_map.mp hp
   exact decide_eq_true (hd x)
 simp only
 rw [if_pos hs]
 have e : (L.map g).zip (L.map f) = L.map fun x=>(g x,f x):=by
  clear hs
  induction L with
  | nil=>rfl
  | cons x L ih=>rw [List.map_cons,List.map_cons,List.map_cons,List.zip_cons_cons,ih]
 rw [e]
 have:=PySem.W.sort_maps (r:=leQ g) (s:=leP) (fun x : α=>(g x,f x)) (l:=L) fun b hb c hc=>rfl
 rw [← this,List.map_map]
 rfl
theorem sort_it (L : List It) : sortL (L.map itD) = some ((sortI L).map itD) :=
 sort_gen (T:=.type "tuple") it_to it_okP (fun i=>(it_depth i).2) (fun i=>Nat.le_trans (it_depth i).1 (by decide)) (fun i=>by
  obtain ⟨x,r,e⟩:=(sc_depth i.1).2.2
  show some (PySem.W.dataType i.1.p) = _
  rw [e]
  rfl) L
theorem sort_key {L : List It} (h : (L.map (·.1)).Nodup) : sortL ((L.map (·.1)).map Sc.d) = some (((sortI L).map (·.1)).map Sc.d):=by
 have:=sort_gen (T:=.type "str") (f:=Sc.d) (g:=Sc.p) sc_to sc_okP (fun i=>(sc_depth i).2.1) (fun i=>Nat.le_trans (sc_depth i).1 (by decide)) (fun i=>by
  obtain ⟨x,r,e⟩:=(sc_depth i).2.2
  rw [e]
  rfl) (L.map (·.1))
 rw [this,sortI_map h]
theorem sc_eqv (s t : Sc) : PyData.eqv s.p t.p = decide (s = t):=by
 rcases sc_cmp s t with h | h
 ·by_cases e : s = t
  ·subst e
   rw [decide_eq_true rfl]
   cases s <;> simp [Sc.p,PyData.eqv,PyData.eqvAll]
  ·rw [decide_eq_false e,h.2 e]
 ·rw [sd_eqv _ _ h]
  refine (decide_eq_false fun e=>?_).symm
  subst e
  have k1:=w_as
  cases s <;> simp [Sc.p,sdP] at h
theorem st_a : PyData.strOk ("all" : Str) = true:=by decide +kernel
theorem st_s : PyData.strOk ("section" : Str) = true:=by decide +kernel
theorem st_t : PyData.strOk ("setting" : Str) = true:=by decide +kernel
theorem st_e : PyData.strOk ("" : Str) = true:=by decide +kernel
theorem Sc.dt {s : Sc} (h : s.ok) : Dt s.d s.p 2:=by
 cases s with
 | all=>exact ((Dt.str 1 (by decide) st_a).cons ((Dt.str 1 (by decide) st_e).cons (DtL.nil 1))).tup
 | sec x=>exact ((Dt.str 1 (by decide) st_s).cons ((Dt.str 1 (by decide) h).cons (DtL.nil 1))).tup
 | set k=>exact ((Dt.str 1 (by decide) st_t).cons ((Dt.int _ 1 (by decide)).cons (DtL.nil 1))).tup
theorem Dt.up {d : D} {p : PyData} {n m : Nat} (h : Dt d p n) (hm : n ≤ m) : Dt d p m:=⟨h.to,h.lay,Nat.le_trans h.dep hm,h.refl⟩
theorem DtL.up {d : List D} {p : List PyData} {n m : Nat} (h : DtL d p n) (hm : n ≤ m) : DtL d p m:=⟨h.to,h.lay,Nat.le_trans h.dep hm,h.refl⟩
structure ItOk (i : It) : Prop where
 sc : i.1.ok
 wd : PyData.strOk i.2 = true
theorem it_dt {i : It} (h : ItOk i) : Dt (itD i) (itP i) 3:=((Sc.dt h.sc).cons ((Dt.str 2 (by decide) h.wd).cons (DtL.nil 2))).tup
theorem its_dt {R : List It} (h : ∀ i ∈ R,ItOk i) : DtL (R.map itD) (R.map itP) 3:=DtL.map fun i hi=>it_dt (h i hi)
noncomputable def stS (a : Ad) (t : D) (rows : List D) (R : List It) : D:=.ins a.C_State [("release",t),("rows",.tup rows),("rules",.tup (R.map itD))]
theorem oNe_ll {ds : List D} {p : PyData} {n : Nat} (h : Dt (.lst ds) p n) (hn : n ≤ 40) : oNe (.d (.lst ds)) (.d (.lst ds)) st = some (.d (.bl false)):=by
 unfold oNe
 rw [eqB_ll h h hn,h.refl]
 rfl
theorem oNe_tt {ds : List D} {p : PyData} {n : Nat} (h : Dt (.tup ds) p n) (hn : n ≤ 40) : oNe (.d (.tup ds)) (.d (.tup ds)) st = some (.d (.bl false)):=by
 unfold oNe
 rw [eqB_tt h h hn,h.refl]
 rfl
theorem oNe_ii (x : Int) : oNe (.d (.int x)) (.d (.int x)) st = some (.d (.bl false)):=by simp [oNe,eqB]
theorem oNe_ss (x : Str) : oNe (.d (.str x)) (.d (.str x)) st = some (.d (.bl false)):=by simp [oNe,eqB]
theorem oNe_bb (x : Bool) : oNe (.d (.bl x)) (.d (.bl x)) st = some (.d (.bl false)):=by simp [oNe,eqB]
section
variable {x0 x1 x2 x3 x4 : Option U}
theorem st_rows (w : WF st) {ru : U} {rows : List (List D)} (hl : rows.length ≤ 100) (hi : itV st ru = some (.lst ((rows.map D.tup).map U.d))) : c_State_init_1 K a [x0,x1,some ru,x3,x4] st = .ok (.d (.lst (rows.map D.tup))) st:=by
 unfold c_State_init_1
 have hfi : fIter (vVar 2) [x0,x1,some ru,x3,x4] st = .ok (.lst (rows.map fun r=>U.d (.tup r))) st:=by
  have hv : vVar 2 [x0,x1,some ru,x3,x4] st = .ok ru st:=rfl
  unfold fIter bnd
  rw [hv]
  simp only [hi,R.of,List.map_map]
  rfl
 have:=lc_eq1 (tg:=tgN 4) (tt:=tYesB) (fe:=(fB (pu oTuple) (fCons (vVar 4) fNil))) (vs:=[4]) (f:=fun r : List D=>U.d (.tup r)) rows (fun r=>D.tup r) w (Nat.le_trans hl (by decide)) hfi fun r hr acc=>by
  unfold LcP
  clear hfi
  simp_all only [wipeE,tYesB]
  intro _
  simp_all only []
 exact this
end
theorem frz_st {a : Ad} {k n : Nat} {C : Addr} {x y z : D} (hn : ¬ n < k) (hg : st[n]? = some (.ins C [("release",.d x),("rows",.d y),("rules",.d z)])) : frz st k 4 (.ref n) = some (.ins C [("release",x),("rows",y),("rules",z)]):=by
 unfold frz
 rw [if_neg hn]
 simp only [hg,allM,frz_dd,Option.map_some]
theorem oTupL {ds : List D} : oTuple [.d (.lst ds)] st = some (.d (.tup ds)):=by
 unfold oTuple
 simp only [getL,pureL_map,Option.map_some]
theorem sf0 (u : U) : putFU ("release" : Str) u [] = [(("release" : Str),u)]:=rfl
theorem sf1 (u x : U) : putFU ("rows" : Str) u [(("release" : Str),x)] = [(("release" : Str),x),(("rows" : Str),u)]:=rfl
theorem sf2 (u x y : U) : putFU ("rules" : Str) u [(("release" : Str),x),(("rows" : Str),y)] = [(("release" : Str),x),(("rows" : Str),y),(("rules" : Str),u)]:=rfl
theorem oSl {u : U} {ds ds' : List D} (h : itemsU st u = some (ds.map U.d)) (hz : ds.length < 1000) (e : sortL ds = some ds') : oSortL [u] st = some (.d (.lst ds')):=by
 unfold oSortL
 simp only [h,pureL_map,if_pos hz,e,Option.map_some]
theorem ev_stinit (w : WF st) {t : D} {ru qu : U} {rows : List (List D)} {ds ds' : List D} (hl : rows.length ≤ 100) (hi : ∀ o,itV (st ++ [o]) ru = some (.lst ((rows.map D.tup).map U.d))) (hq : ∀ o,itemsU (st ++ [o]) qu = some (ds.map U.d)) (hz : ds.length < 1000) (e : sortL ds = some ds') :
  m_State_init K a [.ref st.length,.d t,ru,qu] (st ++ [.ins a.C_State []]) = .ok (.d .non) (st ++ [.ins a.C_State [("release",.d t),("rows",.d (.tup (rows.map D.tup))),("rules",.d (.tup ds'))]]):=by
 have w1 : WF (st ++ [.ins a.C_State [(("release" : Str),U.d t)]]):=w.push rfl
 have g0 : (st ++ [O.ins a.C_State []])[st.length]? = some (.ins a.C_State []):=new_at
 have g1 : (st ++ [O.ins a.C_State [(("release" : Str),U.d t)]])[st.length]? = some (.ins a.C_State [(("release" : Str),U.d t)]):=new_at
 have g2 : (st ++ [O.ins a.C_State [(("release" : Str),U.d t),(("rows" : Str),U.d (.tup (rows.map D.tup)))]])[st.length]? = some (.ins a.C_State [(("release" : Str),U.d t),(("rows" : Str),U.d (.tup (rows.map D.tup)))]):=new_at
 have er:=st_rows (K:=K) (a:=a) (x0:=some (.ref st.length)) (x1:=some (.d t)) (x3:=some qu) (x4:=none) w1 hl (hi _)
 have w3 : WF (st ++ [.ins a.C_State [(("release" : Str),U.d t),(("rows" : Str),U.d (.tup (rows.map D.tup))),(("rules" : Str),U.d (.tup ds'))]]):=w.push rfl
 have main : g_State_init K a [some (.ref st.length),some (.d t),some ru,some qu,none] (st ++ [.ins a.C_State []]) = .ok [some (.ref st.length),some (.d t),some ru,some qu,none] .nx (st ++ [.ins a.C_State [("release",.d t),("rows",.d (.tup (rows.map D.tup))),("rules",.d (.tup ds'))]]):=by
  unfold g_State_init
  refine seqG (fldSA rfl rfl g0 List.mem_cons_self (show 0 < 1000 by decide)) ?_
  rw [nf_set0 rfl,List.set_cons_zero,sf0]
  refine seqG (fldSA (puA (cons1 er) (oTupL)) rfl g1 List.mem_cons_self (show 1 < 1000 by decide)) ?_
  rw [nf_set0 rfl,List.set_cons_zero,sf1]
  refine (fldSA (puA (cons1 (puA (cons1 rfl) (oSl (hq _) hz e))) (oTupL)) rfl g2 List.mem_cons_self (show 2 < 1000 by decide)).trans ?_
  rw [nf_set0 rfl,List.set_cons_zero,sf2]
 have hc:=w3.cut
 rw [List.length_append,List.length_singleton] at hc
 unfold m_State_init fnM
 show (match g_State_init K a [some (.ref st.length),some (.d t),some ru,some qu,none] (st ++ [.ins a.C_State []]) with
  | .ok _ (.rt u) st'=>wId _ u st'
  | .ok _ .nx st'=>wId (st ++ [O.ins a.C_State []]).length (.d .non) st'
  | .ex c fs _ st'=>match cutS (st ++ [O.ins a.C_State []]).length st' with
   | some s=>.ex c fs s
   | none=>.bad
  | _=>.bad) = _
 rw [main]
 rfl
theorem ev_state {env : VEnv} (w : WF st) {t : D} {ru qu : U} {k m : Nat} {gU : List U → List U → List U} {fc : F (List U × List U)} {us ws : List U} {rows : List (List D)} {ds ds' : List D} (hf : fc env st = .ok (us,ws) st) (hk : us.length = k ∧ ws.length = m) (hg : ∀ r,gU (r :: us) ws = [r,.d t,ru,qu]) (hl : rows.length ≤ 100) (hi : ∀ o,itV (st ++ [o]) ru = some (.lst ((rows.map D.tup).map U.d))) (hq : ∀ o,itemsU (st ++ [o]) qu = some (ds.map U.d)) (hz : ds.length < 1000) (e : sortL ds = some ds') :
  fWr wFrz (fMake a.C_State k m gU (m_State_init K a) fc) env st = .ok (.d (.ins a.C_State [("release",t),("rows",.tup (rows.map D.tup)),("rules",.tup ds')])) st:=by
 refine makeA hf hk (by rw [hg]; exact ev_stinit w hl hi hq hz e) (frz_st (a:=a) (Nat.lt_irrefl _) (by rw [nf_get0 rfl]; rfl)) (w.cutA _)
theorem ins_st (t : D) (rows : List D) (R : List It) (s0 : Store) : insU s0 (.d (stS a t rows R)) = some (a.C_State,[(("release" : Str),U.d t),(("rows" : Str),U.d (.tup rows)),(("rules" : Str),U.d (.tup (R.map itD)))]):=rfl
theorem fld_rel (t : D) (rows : List D) (R : List It) : oFld [a.C_State] "release" (.d (stS a t rows R)) st = some (.d t):=by
 unfold oFld
 rw [ins_st]
 simp only [List.mem_cons,true_or,if_true]
 rfl
theorem fld_rows (t : D) (rows : List D) (R : List It) : oFld [a.C_State] "rows" (.d (stS a t rows R)) st = some (.d (.tup rows)):=by
 unfold oFld
 rw [ins_st]
 simp only [List.mem_cons,true_or,if_true]
 rfl
theorem fld_rules (t : D) (rows : List D) (R : List It) : oFld [a.C_State] "rules" (.d (stS a t rows R)) st = some (.d (.tup (R.map itD))):=by
 unfold oFld
 rw [ins_st]
 simp only [List.mem_cons,true_or,if_true]
 rfl
theorem kit_own (C : Addr) : PySem.W.kitOne K (.ref C) (.ref C) = some true:=by
 unfold PySem.W.kitOne
 rw [if_pos]
 simp [BEq.beq]
theorem isi_own (t : D) (rows : List D) (R : List It) : oIsi K a.own [.d (stS a t rows R),.d (.obj a.C_State)] st = some (.d (.bl true)):=by
 unfold oIsi
 have : tyN a.own st (.d (stS a t rows R)) = some (.ref a.C_State):=if_pos List.mem_cons_self
 simp only [this,kit_own,Option.map_some]
section
variable {f fx fy : F U} {g g1 g2 : G} {env env1 : VEnv} {s s1 s2 : Store} {u y : U}
theorem f2sA {o : P2S} {x : U} {r : R U} (h1 : fx env s = .ok x s1) (h2 : fy env s1 = .ok y s2) (h : o x y s2 = r) : f2s o fx fy env s = r:=by
 unfold f2s bnd
 rw [h1]
 simp only
 rw [h2]
 exact h
theorem jsA {fs : List (F U)} {acc z : Str} {r : R U} (h : f env s = .ok (.d (.str z)) s) (hz : (acc ++ z).length ≤ sizeLine) (h2 : fJs fs (acc ++ z) env s = r) : fJs (f :: fs) acc env s = r:=by
 unfold fJs bnd
 rw [h]
 simp only
 rw [if_pos hz]
 exact h2
end
theorem ev_steq {x y : Int} {r r' : List D} {R R' : List It} {p q : PyData} {n : Nat} (hn : n ≤ 40) (w : WF st) (h : Dt (.tup [.int x,.tup r,.tup (R.map itD)]) p n) (k : Dt (.tup [.int y,.tup r',.tup (R'.map itD)]) q n) : m_State___eq__ K a [.d (stS a (.int x) r R),.d (stS a (.int y) r' R')] st = .ok (.d (.bl (PyData.eqv p q))) st:=by
 have e : oEq (.d (.tup [.int x,.tup r,.tup (R.map itD)])) (.d (.tup [.int y,.tup r',.tup (R'.map itD)])) st = some (.d (.bl (PyData.eqv p q))):=by
  unfold oEq
  rw [eqB_tt h k hn]
  rfl
 obtain ⟨envF,main⟩ : ∃ envF,g_State___eq__ K a [some (.d (stS a (.int x) r R)),some (.d (stS a (.int y) r' R')),none] st = .ok envF (.rt (.d (.bl (PyData.eqv p q)))) st:=by
  apply Exists.intro
  unfold g_State___eq__
  refine seqG (ifF (bNotA (asTA (puA (consA rfl (cons1 rfl)) (isi_own _ _ _)) rfl)) rfl) ?_
  refine seqA (tupA (ds:=[.int x,.tup r,.tup (R.map itD)]) (consA (f1A rfl (fld_rel _ _ _)) (consA (f1A rfl (fld_rows _ _ _)) (cons1 (f1A rfl (fld_rules _ _ _))))) (show 3 ≤ sizeLine by decide)) ?_
  exact retA (f2A rfl (tupA (ds:=[.int y,.tup r',.tup (R'.map itD)]) (consA (f1A rfl (fld_rel _ _ _)) (consA (f1A rfl (fld_rows _ _ _)) (cons1 (f1A rfl (fld_rules _ _ _))))) (show 3 ≤ sizeLine by decide)) e)
 exact fnZ (us:=[.d (stS a (.int x) r R),.d (stS a (.int y) r' R')]) (n:=3) (g:=g_State___eq__ K a) (s1:=[]) w (by rw [List.append_nil]; exact main)
theorem eqM_st {x y : Int} {r r' : List D} {R R' : List It} {b : Bool} (h : m_State___eq__ K a [.d (stS a (.int x) r R),.d (stS a (.int y) r' R')] st = .ok (.d (.bl b)) st) : eqM a.C_State eqTys (m_State___eq__ K a) (.d (stS a (.int x) r R)) (.d (stS a (.int y) r' R')) st = .ok (.d (.bl b)) st ∧ neM a.C_State eqTys (m_State___eq__ K a) (.d (stS a (.int x) r R)) (.d (stS a (.int y) r' R')) st = .ok (.d (.bl (!b))) st:=by
 have ho : okTy a.C_State eqTys st (.d (stS a (.int y) r' R')) = true:=by
  unfold okTy
  rw [ins_st]
  simp
 constructor
 ·unfold eqM eqOA
  simp only [ins_st,ho,and_self,if_true,h]
 ·unfold neM neOA
  simp only [ins_st,ho,and_self,if_true,h]
noncomputable def rpS (t o h : Nat) : Str:=((((((("State(" : Str)) ++ Str.ofString (toString ((t : Nat) : Int))) ++ (", " : Str)) ++ Str.ofString (toString ((o : Nat) : Int))) ++ (" own, " : Str)) ++ Str.ofString (toString ((h : Nat) : Int))) ++ (" held)" : Str)
theorem num_ok : ∀ t : Fin 13,(Str.ofString (toString ((t.val : Nat) : Int))).length ≤ 2 ∧ ((t.val : Nat) : Int).natAbs.log2 < 1920:=by decide +kernel
theorem len_app (x y : Str) : (x ++ y).length = x.length + y.length:=by
 rw [TL.len_tl,TL.tl_append,List.length_append,← TL.len_tl,← TL.len_tl]
noncomputable def cntW (ws : List Str) (z : Str) : Nat:=(ws.map PyData.str).countP fun y=>PyData.eqv y (.str z)
theorem cntW_le (ws : List Str) (z : Str) : cntW ws z ≤ ws.length:=by
 unfold cntW
 have:=List.countP_le_length (p:=fun y=>PyData.eqv y (.str z)) (l:=ws.map PyData.str)
 rwa [List.length_map] at this
theorem cnt_W {ws : List Str} {z : Str} (hw : ∀ x ∈ ws,PyData.strOk x = true) (hz : PyData.strOk z = true) : mCount (.d (.lst (sD ws))) [.d (.str z)] st = some (.d (.int ((cntW ws z : Nat) : Int))):=by
 have h1 : DtL (sD ws) (ws.map PyData.str) 1:=DtL.map fun x hx=>Dt.str 1 (Nat.le_refl _) (hw x hx)
 have h2:=h1.lst
 have h3:=Dt.str (s:=z) 1 (Nat.le_refl _) hz
 unfold mCount
 simp only [getL,asP_d,h2.to,h3.to,h2.shaped (by decide),h3.shaped (by decide),and_self,if_true]
 rfl
theorem keyN_sc (s : Sc) : keyN s.d = some s.n:=by
 cases s <;> simp [Sc.d,Sc.n,keyN,keyE,keyEs,NestedKey.depth,NestedKey.depthAll]
theorem scn_inj {s t : Sc} (h : s.n = t.n) : s = t:=by
 have k1:=w_as
 have k2:=w_at
 have k3:=w_st
 rw [bne_iff_ne] at k1 k2 k3
 cases s <;> cases t <;> simp only [Sc.n,NestedKey.tup.injEq,NestedKey.text.injEq,NestedKey.num.injEq,List.cons.injEq,and_true,true_and,reduceCtorEq,and_false] at h
 all_goals first
  | rfl
  | exact absurd h.1 k1
  | exact absurd h.1.symm k1
  | exact absurd h k2
  | exact absurd h.symm k2
  | exact absurd h k3
  | exact absurd h.symm k3
  | (rw [h])
  | (rw [Int.ofNat_inj.mp h])
noncomputable def kvR (L : List It) : List (D × U):=L.map fun i=>(i.1.d,U.d (.str i.2))
theorem look_R (t : Sc) : ∀ L : List It,lookN (kvR L) t.n = (L.find? fun i=>decide (i.1 = t)).map fun i=>U.d (.str i.2)
 | []=>rfl
 | i :: L=>by
  have ih:=look_R t L
  unfold lookN kvR at *
  rw [List.map_cons,List.find?_cons,List.find?_cons,keyN_sc]
  by_cases e : i.1 = t
  ·rw [decide_eq_true e,e,decide_eq_true rfl]
   rfl
  ·rw [decide_eq_false e,decide_eq_false (fun z=>e (scn_inj (Option.some.inj z)))]
   exact ih
theorem look_mem {L : List It} (hn : (L.map (·.1)).Nodup) {i : It} (hi : i ∈ L) : lookN (kvR L) i.1.n = some (.d (.str i.2)):=by
 rw [look_R]
 cases e : L.find? fun j=>decide (j.1 = i.1) with
 | none=>exact absurd (decide_eq_true rfl) (List.find?_eq_none.mp e _ hi)
 | some j =>
  have h1 : j.1 = i.1:=of_decide_eq_true (List.find?_some (p:=fun j : It=>decide (j.1 = i.1)) e)
  rw [key_inj hn (List.mem_of_find?_eq_some e) hi h1]
  rfl
theorem look_no {L : List It} {t : Sc} (h : ∀ i ∈ L,i.1 ≠ t) : lookN (kvR L) t.n = none:=by
 rw [look_R]
 cases e : L.find? fun j=>decide (j.1 = t) with
 | none=>rfl
 | some j=>exact absurd (of_decide_eq_true (List.find?_some (p:=fun j : It=>decide (j.1 = t)) e)) (h j (List.mem_of_find?_eq_some e))
theorem put_no {L : List It} {t : Sc} {w : Str} (h : ∀ i ∈ L,i.1 ≠ t) : putN (kvR L) t.d t.n (.d (.str w)) = kvR (L ++ [(t,w)]):=by
 unfold putN
 rw [look_no h]
 unfold kvR
 rw [List.map_append]
 rfl
theorem putAll_R : ∀ (L A : List It),((A ++ L).map (·.1)).Nodup → putAllN (kvR A) (L.map fun i=>(i.1.d,i.1.n,D.str i.2)) = kvR (A ++ L)
 | [],A,_=>by rw [List.append_nil]; rfl
 | i :: L,A,h=>by
  rw [List.map_cons,putAllN,put_no (L:=A) (t:=i.1) (w:=i.2)]
  ·have:=putAll_R L (A ++ [i]) (by rw [List.append_assoc]; exact h)
   rw [List.append_assoc] at this
   exact this
  ·intro j hj e
   rw [List.map_append,List.map_cons,List.nodup_append] at h
   exact h.2.2 j.1 (List.mem_map.mpr ⟨j,hj,rfl⟩) i.1 List.mem_cons_self e
theorem prN_it (i : It) : prN (.d (itD i)) = some (i.1.d,i.1.n,.str i.2):=by
 unfold prN itD
 simp only [keyN_sc,Option.map_some]
theorem prN_its : ∀ L : List It,allM prN ((L.map itD).map U.d) = some (L.map fun i=>(i.1.d,i.1.n,D.str i.2))
 | []=>rfl
 | i :: L=>by rw [List.map_cons,List.map_cons,allM,prN_it,prN_its L]; rfl
theorem dictK_R {L : List It} (hn : (L.map (·.1)).Nodup) (hz : L.length ≤ 100) (w : World) : oDictK w [.d (.lst (L.map itD))] st = some (.ref st.length,st ++ [.kdc w (kvR L)]):=by
 unfold oDictK
 have h1 : getL st (.d (.lst (L.map itD))) = some ((L.map itD).map U.d):=rfl
 simp only [h1,prN_its]
 rw [if_pos (by rw [List.length_map,List.length_map]; omega)]
 have:=putAll_R L [] hn
 rw [show kvR [] = [] from rfl,List.nil_append] at this
 rw [this]
theorem itK_R : ∀ L : List It,itK (kvR L) = some (L.map itD)
 | []=>rfl
 | i :: L=>by
  have ih:=itK_R L
  unfold kvR at *
  rw [List.map_cons,itK,ih]
  rfl
section
variable {w : World} {f : F U} {env : VEnv} {s : Store} {n : Nat} {L : List It}
theorem sortKI_R (h1 : f env st = .ok (.ref n) s) (h2 : s[n]? = some (.kdc w (kvR L))) (hz : L.length ≤ 100) : fSortKI w f env st = .ok (.d (.lst ((sortI L).map itD))) s:=by
 unfold fSortKI bnd
 rw [h1]
 simp only [kdG_ref h2,itK_R]
 rw [if_pos (by rw [List.length_map]; omega),sort_it]
 rfl
theorem sortKIC_R (h1 : f env st = .ok (.ref n) s) (h2 : s[n]? = some (.kdc w (kvR L))) (hz : L.length ≤ 100) : fSortKIC w f env st = .ok (.ref s.length) (s ++ [.lst (((sortI L).map itD).map U.d)]):=by
 unfold fSortKIC bnd
 rw [h1]
 simp only [kdG_ref h2,itK_R]
 rw [if_pos (by rw [List.length_map]; omega),sort_it]
 rfl
theorem sortKK_R (h2 : s[n]? = some (.kdc w (kvR L))) (hn : (L.map (·.1)).Nodup) (hz : L.length ≤ 100) : oSortKK w [.ref n] s = some (.d (.lst (((sortI L).map (·.1)).map Sc.d))):=by
 unfold oSortKK
 have : (kvR L).map (·.1) = (L.map (·.1)).map Sc.d:=by unfold kvR; rw [List.map_map,List.map_map]; rfl
 simp only [kdG_ref h2,this]
 rw [if_pos (by unfold kvR; rw [List.length_map]; omega),sort_key hn]
 rfl
theorem ixN_R (h2 : s[n]? = some (.kdc w (kvR L))) (hn : (L.map (·.1)).Nodup) {i : It} (hi : i ∈ L) : oIxN w (.ref n) (.d i.1.d) s = some (.d (.str i.2)):=by
 unfold oIxN
 simp only [kdG_ref h2,keyU,keyN_sc,look_mem hn hi]
theorem setN_R (h2 : s[n]? = some (.kdc w (kvR L))) {t : Sc} {x : Str} (h : ∀ i ∈ L,i.1 ≠ t) (hz : L.length ≤ 100) : setUN w (.ref n) (.d t.d) (.d (.str x)) s = some (s.set n (.kdc w (kvR (L ++ [(t,x)])))):=by
 unfold setUN
 have hl : (kvR L).length < sizeLine:=by unfold kvR; rw [List.length_map]; exact Nat.lt_of_le_of_lt hz (by decide)
 simp only [h2,keyN_sc]
 rw [if_pos ⟨trivial,hl⟩,put_no h]
end
noncomputable def ruleF (t : Sc) (w : Option Str) (R : List It) : List It:=(R.filter fun i=>decide (i.1 ≠ t)) ++ (match w with
 | none=>[]
 | some x=>[(t,x)])
theorem ruleF_nodup {t : Sc} {w : Option Str} {R : List It} (h : (R.map (·.1)).Nodup) : ((ruleF t w R).map (·.1)).Nodup:=by
 unfold ruleF
 rw [List.map_append,List.nodup_append]
 refine ⟨(List.filter_sublist.map _).nodup h,by cases w <;> simp,?_⟩
 rintro x hx y hy rfl
 obtain ⟨i,hi,rfl⟩:=List.mem_map.mp hx
 have h1:=of_decide_eq_true (List.mem_filter.mp hi).2
 cases w with
 | none=>cases hy
 | some z =>
  simp only [List.map_cons,List.map_nil,List.mem_singleton] at hy
  exact h1 hy
theorem ruleF_sub {t : Sc} {w : Option Str} {R : List It} {P : It → Prop} (h : ∀ i ∈ R,P i) (hw : ∀ x,w = some x → P (t,x)) : ∀ i ∈ ruleF t w R,P i:=by
 intro i hi
 unfold ruleF at hi
 rcases List.mem_append.mp hi with q | q
 ·exact h i (List.mem_filter.mp q).1
 ·cases w with
  | none=>cases q
  | some x=>rw [List.mem_singleton.mp q]; exact hw x rfl
noncomputable def wdU : Option Str → U
 | none=>.d .non
 | some x=>.d (.str x)
section
variable {us : List U} {fi : F Itb} {tg : U → G} {tt : F Bool} {fe : F U} {vs : List Nat} {env : VEnv}
theorem fLcC_pure (P : U → Bool) (q : U → D) (hw : WF st) (hi : fi env st = .ok (.lst us) st) (hl : us.length ≤ sizeLine)
  (h : ∀ u ∈ us,∀ st' : Store,WF st' → ∃ env1,tg u (wipeE env vs) st' = .ok env1 .nx st' ∧ tt env1 st' = .ok (P u) st' ∧ (P u = true → fe env1 st' = .ok (.d (q u)) st')) :
  fLcC fi tg tt fe vs env st = .ok (.ref st.length) (st ++ [.lst (((us.filter P).map q).map U.d)]):=by
 unfold fLcC bnd
 rw [hi]
 simp only
 have e:=lcL_pure (env0:=wipeE env vs) P q rfl hw us [] (by simpa using hl) h
 rw [show (st ++ [O.lst (([] : List D).map U.d)]) = st ++ [O.lst []] from rfl] at e
 rw [e]
 have hc:=(hw.pushL ((us.filter P).map q)).cut
 rw [List.length_append,List.length_singleton] at hc
 unfold lcEndC
 simp only [List.nil_append,new_at,hc]
end
noncomputable def neK (t : Sc) : U → Bool
 | .d (.tup [k,_])=>match toP k with
  | some p=>!PyData.eqv p t.p
  | none=>false
 | _=>false
noncomputable def unD : U → D
 | .d x=>x
 | _=>.non
theorem neK_it (t : Sc) (i : It) : neK t (.d (itD i)) = decide (i.1 ≠ t):=by
 unfold neK itD
 simp only [sc_to,sc_eqv]
 by_cases e : i.1 = t
 ·rw [decide_eq_true e,decide_eq_false (fun z=>z e)]; rfl
 ·rw [decide_eq_false e,decide_eq_true e]; rfl
theorem filt_it (t : Sc) (R : List It) : (((R.map itD).map U.d).filter (neK t)).map unD = (R.filter fun i=>decide (i.1 ≠ t)).map itD:=by
 rw [List.map_map,List.filter_map,List.map_map]
 congr 1
 exact List.filter_congr fun i _=>neK_it t i
theorem oNe_sc {s t : Sc} (hs : s.ok) (ht : t.ok) : oNe (.d s.d) (.d t.d) st = some (.d (.bl (decide (s ≠ t)))):=by
 have e : eqB st (.d s.d) (.d t.d) = some (decide (s = t)):=by
  rw [← sc_eqv]
  cases s <;> cases t <;> exact eqB_tt (Sc.dt hs) (Sc.dt ht) (by decide)
 unfold oNe
 rw [e]
 by_cases q : s = t
 ·rw [decide_eq_true q,decide_eq_false (fun z=>z q)]; rfl
 ·rw [decide_eq_false q,decide_eq_true q]; rfl
theorem in_words (x : Str) : oNotIn (.d (.str x)) (.d (.tup [.str "own",.str "shipped"])) st = some (.d (.bl (!((("own" : Str) == x) || ((("shipped" : Str) == x) || false))))):=rfl
theorem isi_s (x : Str) : oIsi K a.own [.d (.str x),.d (.ty "str")] st = some (.d (.bl true)):=by
 unfold oIsi
 simp only [tyN,isi_str,Option.map_some]
section
variable {x0 x1 x3 x4 x5 : Option U}
theorem ev_rulc (w : WF st) {tt : D} {rows : List D} {R : List It} {t : Sc} (ht : t.ok) (hR : ∀ i ∈ R,ItOk i) (hz : R.length ≤ 100) : c_State_ruled_1 K a [some (.d (stS a tt rows R)),x1,some (.d t.d),x3,x4,x5] st = .ok (.ref st.length) (st ++ [.lst (((R.filter fun i=>decide (i.1 ≠ t)).map itD).map U.d)]):=by
 unfold c_State_ruled_1
 rw [← filt_it]
 have hfi : fIter (fFld [a.C_State] "rules" (vVar 0)) [some (.d (stS a tt rows R)),x1,some (.d t.d),x3,x4,x5] st = .ok (.lst ((R.map itD).map U.d)) st:=by
  have hv : fFld [a.C_State] "rules" (vVar 0) [some (.d (stS a tt rows R)),x1,some (.d t.d),x3,x4,x5] st = .ok (.d (.tup (R.map itD))) st:=f1A rfl (fld_rules _ _ _)
  unfold fIter bnd
  rw [hv]
  rfl
 refine fLcC_pure (neK t) unD w hfi (by rw [List.length_map,List.length_map]; exact Nat.le_trans hz (by decide)) fun u hu s' w'=>?_
 obtain ⟨d,hd,rfl⟩:=List.mem_map.mp hu
 obtain ⟨i,hi,rfl⟩:=List.mem_map.mp hd
 refine ⟨[some (.d (stS a tt rows R)),x1,some (.d t.d),x3,some (.d i.1.d),some (.d (.str i.2))],rfl,?_,fun _=>tupA (ds:=[i.1.d,.str i.2]) (consA rfl (cons1 rfl)) (by show 2 ≤ sizeLine; decide)⟩
 rw [neK_it]
 exact asBA (f2A rfl rfl (oNe_sc (hR i hi).sc ht))
end
/-- what a new State is told -/
theorem ev_ruled (w : WF st) {tt : D} {rows : List (List D)} {R : List It} {t : Sc} {x : Option Str} (hx : ∀ y,x = some y → y = "own" ∨ y = "shipped") (ht : t.ok) (hR : ∀ i ∈ R,ItOk i) (hz : R.length ≤ 90) (hl : rows.length ≤ 100) :
  m_State_ruled K a [.d (stS a tt (rows.map D.tup) R),wdU x,.d t.d] st = .ok (.d (stS a tt (rows.map D.tup) (sortI (ruleF t x R)))) st:=by
 have ec:=ev_rulc (K:=K) (a:=a) (x1:=some (wdU x)) (x3:=none) (x4:=none) (x5:=none) w (tt:=tt) (rows:=rows.map D.tup) ht hR (by omega)
 have hlf : (R.filter fun i=>decide (i.1 ≠ t)).length ≤ R.length:=List.length_filter_le _ _
 have hF : ∀ y,((R.filter fun i=>decide (i.1 ≠ t)).map itD).map U.d ++ [U.d (itD (t,y))] = ((ruleF t (some y) R).map itD).map U.d:=fun y=>by
  unfold ruleF
  rw [List.map_append,List.map_append]
  rfl
 have h1 : ∀ c : Bool,asB (f2 oNotN (vVar 1) (vC .non)) [some (.d (stS a tt (rows.map D.tup) R)),some (wdU x),some (.d t.d),none,none,none] st = .ok x.isSome st:=fun _=>by
  cases x <;> exact asBA (f2A rfl rfl rfl)
 have h1' : asB (f2 oNotN (vVar 1) (vC .non)) [some (.d (stS a tt (rows.map D.tup) R)),some (wdU x),some (.d t.d),some (.ref st.length),none,none] (st ++ [.lst (((R.filter fun i=>decide (i.1 ≠ t)).map itD).map U.d)]) = .ok x.isSome (st ++ [.lst (((R.filter fun i=>decide (i.1 ≠ t)).map itD).map U.d)]):=by
  cases x <;> exact asBA (f2A rfl rfl rfl)
 have w1 : WF (st ++ [.lst (((ruleF t x R).map itD).map U.d)]):=w.pushL _
 have es:=ev_state (K:=K) (a:=a) (st:=st ++ [.lst (((ruleF t x R).map itD).map U.d)]) (env:=[some (.d (stS a tt (rows.map D.tup) R)),some (wdU x),some (.d t.d),some (.ref st.length),none,none]) w1 (t:=tt) (ru:=.d (.tup (rows.map D.tup))) (qu:=.ref st.length) (k:=2) (m:=1) (gU:=(gPl (.d .non) [.p 0,.p 1,.p 2,.k 0] [])) (fc:=(fCW (fCons (fFld [a.C_State] "release" (vVar 0)) (fCons (fFld [a.C_State] "rows" (vVar 0)) fNil)) (fCons (vVar 3) fNil))) (us:=[.d tt,.d (.tup (rows.map D.tup))]) (ws:=[.ref st.length]) (rows:=rows) (ds:=(ruleF t x R).map itD) (ds':=(sortI (ruleF t x R)).map itD)
  (cwA (consA (f1A rfl (fld_rel _ _ _)) (cons1 (f1A rfl (fld_rows _ _ _)))) (cons1 rfl)) ⟨rfl,rfl⟩ (fun r=>rfl) hl (fun o=>rfl) (fun o=>by
   have : (st ++ [O.lst (((ruleF t x R).map itD).map U.d)] ++ [o])[st.length]? = some (.lst (((ruleF t x R).map itD).map U.d)):=app_at new_at
   unfold itemsU getL
   simp only [this]) (by
   rw [List.length_map]
   unfold ruleF
   rw [List.length_append]
   cases x <;> simp only [List.length_nil,List.length_singleton] <;> omega) (sort_it _)
 obtain ⟨envF,main⟩ : ∃ envF,g_State_ruled K a [some (.d (stS a tt (rows.map D.tup) R)),some (wdU x),some (.d t.d),none,none,none] st = .ok envF (.rt (.d (stS a tt (rows.map D.tup) (sortI (ruleF t x R))))) (st ++ [.lst (((ruleF t x R).map itD).map U.d)]):=by
  refine ⟨[some (.d (stS a tt (rows.map D.tup) R)),some (wdU x),some (.d t.d),some (.ref st.length),none,none],?_⟩
  unfold g_State_ruled
  refine seqG (ifF ?_ rfl) (seqA ec ?_)
  ·cases x with
   | none=>exact bAndF (h1 true)
   | some y =>
    refine bAndT (h1 true) (bOrF (bNotA (k:=true) (asTA (puA (consA rfl (cons1 rfl)) (isi_s y)) rfl)) ?_)
    have hq : (!((("own" : Str) == y) || ((("shipped" : Str) == y) || false))) = false:=by
     rcases hx y rfl with rfl | rfl <;> decide +kernel
    have:=in_words (st:=st) y
    rw [hq] at this
    exact asBA (f2A rfl rfl this)
  ·cases x with
   | none =>
    refine seqG (ifF h1' rfl) (retA ?_)
    have he : (R.filter fun i=>decide (i.1 ≠ t)) = ruleF t none R:=by unfold ruleF; rw [List.append_nil]
    rw [he]
    exact es
   | some y =>
    refine seqG (ifT h1' (appE (y:=.d (itD (t,y))) rfl (tupA (ds:=[t.d,.str y]) (consA rfl (cons1 rfl)) (by show 2 ≤ sizeLine; decide)) new_at new_at (by rw [List.length_map,List.length_map]; exact Nat.lt_of_le_of_lt (show _ ≤ 90 by omega) (by decide)))) (retA ?_)
    rw [nf_set0 rfl,List.set_cons_zero,hF]
    exact es
 exact fnZ (us:=[.d (stS a tt (rows.map D.tup) R),wdU x,.d t.d]) (n:=6) (g:=g_State_ruled K a) (s1:=[.lst (((ruleF t x R).map itD).map U.d)]) w main
section
variable {f fx fy : F U} {env env1 : VEnv} {s s1 s2 : Store} {u : U} {c : Value} {xf : XF} {g g1 g2 : G}
theorem seqX (e : g1 env s = .ex c xf env1 s1) : sSeq g1 g2 env s = .ex c xf env1 s1:=by
 unfold sSeq
 rw [e]
theorem exprX (e : f env s = .ex c xf s1) : sExpr f env s = .ex c xf env s1:=by
 unfold sExpr bndS
 rw [e]
theorem notA {k : Bool} (h1 : fx env s = .ok (.d (.bl k)) s1) : fNot fx env s = .ok (.d (.bl (!k))) s1:=by
 unfold fNot bnd
 rw [h1]
 rfl
theorem methX {C : Addr} {nm : Str} {k : Nat} {mf : List U → M U} {fs : F (List U)} {us : List U} {ws : List (Str × U)} (h1 : fx env s = .ok u s) (hi : insU s u = some (C,ws)) (hl : ws.lookup nm = none) (h2 : fs env s = .ok us s1) (hk : us.length = k) (h : mf (u :: us) s1 = .ex c xf s2) : fMeth C nm k 0 gPos mf fx (fCW fs fNil) env s = .ex c xf s2:=by
 have e : fCW fs fNil env s = .ok (us,[]) s1:=cwA h2 rfl
 unfold fMeth bnd
 rw [h1]
 simp only [hi,hl,and_self,if_true,e,hk,List.length_nil]
 exact h
theorem tryAsX {K : PySem.W.Frag} {k : Value} {i : Nat} {gs : Addr → Option Addr → Value → G} {v : U} (e : g env s = .ex c xf env1 s1) (hx : PySem.W.exmOne K c k = some true) (hi : i < env1.length) (hg : ∀ a d,∃ e2,gs a d c (env1.set i (some (.d (.exc a d c (xf.getD []))))) s1 = .ok e2 (.rt v) s2) : sTryAs K k i g gs env s = .ok [] (.rt v) s2:=by
 have hf : (fun a d=>dropE i (gs a d c (env1.set i (some (.d (.exc a d c (xf.getD []))))) s1)) = fun _ _=>RS.ok [] (.rt v) s2:=by
  funext a d
  obtain ⟨e2,h⟩:=hg a d
  rw [h]
  rfl
 unfold sTryAs
 simp only [e,hx,if_pos hi]
 rw [hf]
 exact common_c _ _
end
theorem rep_p {x : D} {p : PyData} {t : Str} (e : toP x = some p) (hn : ∀ st : Store,oRepr [.d x] st = match asP st (.d x) with
  | some p=>if PyData.showable p = true ∧ PyData.hasDict p = false ∧ PyData.depth p ≤ 64 ∧ (PyData.shown p).length ≤ sizeLine then some (.d (.str (PyData.shown p))) else none
  | none=>none) (ht : PyData.shown p = t) (h : PyData.showable p = true ∧ PyData.hasDict p = false ∧ PyData.depth p ≤ 64) (hz : t.length ≤ sizeLine) : ∀ st : Store,oRepr [.d x] st = some (.d (.str t)):=fun st=>by
 rw [hn,asP_d,e]
 simp only
 rw [if_pos ⟨h.1,h.2.1,h.2.2,by rw [ht]; exact hz⟩,ht]
inductive Bad : D → Prop
 | a : Bad (.str "OWN")
 | b : Bad (.str "")
 | c : Bad (.bl true)
 | d : Bad (.int 0)
 | e : Bad (.tup [.str "own"])
 | f : Bad (.lst [.str "own"])
 | g : Bad (.str "held")
theorem Bad.rep {x : D} (h : Bad x) : ∃ r,∀ st : Store,oRepr [.d x] st = some (.d (.str r)):=by
 cases h with
 | a=>exact ⟨_,fun st=>if_pos (by decide +kernel)⟩
 | b=>exact ⟨reprText "",fun st=>(show (if (reprText "").length ≤ sizeLine then some (U.d (.str (reprText ""))) else none) = _ from if_pos (by decide +kernel))⟩
 | c=>exact ⟨_,fun st=>rfl⟩
 | d=>exact ⟨Str.ofString (toString (0 : Int)),fun st=>(show (if (0 : Int).natAbs.log2 < 1920 then some (U.d (.str (Str.ofString (toString (0 : Int))))) else none) = _ from if_pos (by decide))⟩
 | e=>exact ⟨_,rep_p (p:=.tuple [.str "own"]) rfl (fun st=>rfl) rfl (by refine ⟨?_,?_,?_⟩ <;> decide +kernel) (by decide +kernel)⟩
 | f=>exact ⟨_,rep_p (p:=.list [.str "own"]) rfl (fun st=>rfl) rfl (by refine ⟨?_,?_,?_⟩ <;> decide +kernel) (by decide +kernel)⟩
 | g=>exact ⟨_,fun st=>if_pos (by decide +kernel)⟩
theorem Bad.non {x : D} (h : Bad x) : oNotN (.d x) (.d .non) st = some (.d (.bl true)):=by cases h <;> rfl
theorem bad_w : ∀ z ∈ [("OWN" : Str),"","held"],(!((("own" : Str) == z) || ((("shipped" : Str) == z) || false))) = true:=by decide +kernel
theorem Bad.tst {x : D} (h : Bad x) {env : VEnv} (he : vVar 1 env st = .ok (.d x) st) : bOr (bNot (asT (fB (pu (oIsi K a.own)) (fCons (vVar 1) (fCons (vC (.ty "str")) fNil))))) (asB (f2 oNotIn (vVar 1) (vC (.tup [.str "own",.str "shipped"])))) env st = .ok true st:=by
 have e2 : PySem.W.kitOne K (.type "bool") (.type "str") = some false:=rfl
 have e3 : PySem.W.kitOne K (.type "int") (.type "str") = some false:=rfl
 have e4 : PySem.W.kitOne K (.type "tuple") (.type "str") = some false:=rfl
 have e5 : PySem.W.kitOne K (.type "list") (.type "str") = some false:=rfl
 have n1 : ∀ y : D,oIsi K a.own [.d y,.d (.ty "str")] st = some (.d (.bl false)) → vVar 1 env st = .ok (.d y) st → bNot (asT (fB (pu (oIsi K a.own)) (fCons (vVar 1) (fCons (vC (.ty "str")) fNil)))) env st = .ok true st:=fun y h1 h2 =>
  bNotA (k:=false) (asTA (puA (consA h2 (cons1 rfl)) h1) rfl)
 have n2 : ∀ y : Str,y ∈ [("OWN" : Str),"","held"] → vVar 1 env st = .ok (.d (.str y)) st → bOr (bNot (asT (fB (pu (oIsi K a.own)) (fCons (vVar 1) (fCons (vC (.ty "str")) fNil))))) (asB (f2 oNotIn (vVar 1) (vC (.tup [.str "own",.str "shipped"])))) env st = .ok true st:=fun y h1 h2=>by
  have:=in_words (st:=st) y
  rw [bad_w y h1] at this
  exact bOrF (bNotA (k:=true) (asTA (puA (consA h2 (cons1 rfl)) (isi_s y)) rfl)) (asBA (f2A h2 rfl this))
 cases h with
 | a=>exact n2 _ (by simp) he
 | b=>exact n2 _ (by simp) he
 | g=>exact n2 _ (by simp) he
 | c=>exact bOrT (n1 _ (by unfold oIsi; simp only [tyN,e2,Option.map_some]) he)
 | d=>exact bOrT (n1 _ (by unfold oIsi; simp only [tyN,e3,Option.map_some]) he)
 | e=>exact bOrT (n1 _ (by unfold oIsi; simp only [tyN,e4,Option.map_some]) he)
 | f=>exact bOrT (n1 _ (by unfold oIsi; simp only [tyN,e5,Option.map_some]) he)
theorem ev_ruledX (w : WF st) {S : U} {x t : D} (h : Bad x) : m_State_ruled K a [S,.d x,.d t] st = .ex (.ref a.C_NoRule) (some [("word",x)]) st:=by
 have main : g_State_ruled K a [some S,some (.d x),some (.d t),none,none,none] st = .ex (.ref a.C_NoRule) (some [("word",x)]) [some S,some (.d x),some (.d t),none,none,none] st:=by
  unfold g_State_ruled
  exact seqX (ifT (bAndT (asBA (f2A rfl rfl h.non)) (h.tst rfl)) (raiseA (ds:=[x]) (cons1 rfl) ⟨rfl,show 1 ≤ 1000 by decide⟩))
 have hc:=w.cut
 unfold m_State_ruled fnM
 show (match g_State_ruled K a [some S,some (.d x),some (.d t),none,none,none] st with
  | .ok _ (.rt u) st'=>wFrz st.length u st'
  | .ok _ .nx st'=>wFrz st.length (.d .non) st'
  | .ex c fs _ st'=>match cutS st.length st' with
   | some s=>.ex c fs s
   | none=>.bad
  | _=>.bad) = _
 rw [main]
 simp only [hc]
theorem ev_refused (kx : Kx K a) (w : WF st) {t : D} {rows : List D} {R : List It} {x : D} (h : Bad x) : m_L_law_refused K a [.d (stS a t rows R),.d x] st = .ok (.d (.bl true)) st:=by
 have k1:=kx.xem_NoRule
 have k2:=kx.xko_NoRule
 have k3:=kx.xkv_NoRule
 have ef:=ev_ruledX (K:=K) (a:=a) (st:=st) (S:=.d (stS a t rows R)) (t:=.tup [.str "all",.str ""]) w h
 obtain ⟨r,hr⟩:=h.rep
 have hq : eqB st (.d (.str r)) (.d (.str r)) = some true:=by simp [eqB]
 generalize hS : stS a t rows R = S at *
 have lk : List.lookup ("ruled" : Str) [(("release" : Str),U.d t),(("rows" : Str),U.d (.tup rows)),(("rules" : Str),U.d (.tup (R.map itD)))] = none:=rfl
 have hi : insU st (.d S) = some (a.C_State,[(("release" : Str),U.d t),(("rows" : Str),U.d (.tup rows)),(("rules" : Str),U.d (.tup (R.map itD)))]):=by rw [← hS]; exact ins_st _ _ _ _
 have main : ∃ e2,g_L_law_refused K a [some (.d S),some (.d x),none] st = .ok e2 (.rt (.d (.bl true))) st:=by
  refine ⟨[],?_⟩
  unfold g_L_law_refused
  have hb : sExpr (fMeth a.C_State "ruled" 2 0 gPos (m_State_ruled K a) (vVar 0) (fCW (fCons (vVar 1) (fCons (fTup (fCons (vC (.str "all")) (fCons (vC (.str "")) fNil))) fNil)) fNil)) [some (.d S),some (.d x),none] st = .ex (.ref a.C_NoRule) (some [("word",x)]) [some (.d S),some (.d x),none] st :=
   exprX (methX rfl hi lk (consA rfl (cons1 (tupA (ds:=[.str "all",.str ""]) (consA rfl (cons1 rfl)) (by show 2 ≤ sizeLine; decide)))) rfl ef)
  have ht:=tryAsX (K:=K) (k:=.ref a.C_NoRule) (i:=2) (s1:=st) (s2:=st) (xf:=some [(("word" : Str),x)]) (v:=.d (.bl true)) (gs:=(fun a0 d0 c0=>(sRet (fAnd (fB (pu (oIsX K a0 d0 c0 a.C_NoRule)) (fCons (vVar 2) (fCons (vC (.ty "TypeError")) fNil))) (fAnd (fNot (fB (pu (oIsX K a0 d0 c0 a.C_NoRule)) (fCons (vVar 2) (fCons (vC (.ty "ValueError")) fNil)))) (f2 oEq (fB (pu oRepr) (fCons (xFld a0 d0 c0 a.C_NoRule "word" 2) fNil)) (fB (pu oRepr) (fCons (vVar 1) fNil)))))))) hb k1 (show 2 < 3 by decide) fun a0 d0=>⟨_,retA (u:=.d (.bl true)) (by
   have q1 : fB (pu (oIsX K a0 d0 (.ref a.C_NoRule) a.C_NoRule)) (fCons (vVar 2) (fCons (vC (.ty "TypeError")) fNil)) [some (.d S),some (.d x),some (.d (.exc a0 d0 (.ref a.C_NoRule) [("word",x)]))] st = .ok (.d (.bl true)) st:=puA (consA rfl (cons1 rfl)) (by simp only [oIsX,and_self,if_true,clsU,clsD,k2,Option.map_some])
   have q2 : fB (pu (oIsX K a0 d0 (.ref a.C_NoRule) a.C_NoRule)) (fCons (vVar 2) (fCons (vC (.ty "ValueError")) fNil)) [some (.d S),some (.d x),some (.d (.exc a0 d0 (.ref a.C_NoRule) [("word",x)]))] st = .ok (.d (.bl false)) st:=puA (consA rfl (cons1 rfl)) (by simp only [oIsX,and_self,if_true,clsU,clsD,k3,Option.map_some])
   have q3 : xFld a0 d0 (.ref a.C_NoRule) a.C_NoRule "word" 2 [some (.d S),some (.d x),some (.d (.exc a0 d0 (.ref a.C_NoRule) [("word",x)]))] st = .ok (.d x) st:=by
    unfold xFld
    show (if a0 = a0 ∧ d0 = d0 ∧ Value.ref a.C_NoRule = .ref a.C_NoRule ∧ Value.ref a.C_NoRule = .ref a.C_NoRule then _ else _) = _
    rw [if_pos ⟨rfl,rfl,rfl,rfl⟩]
    rfl
   have q4 : f2 oEq (fB (pu oRepr) (fCons (xFld a0 d0 (.ref a.C_NoRule) a.C_NoRule "word" 2) fNil)) (fB (pu oRepr) (fCons (vVar 1) fNil)) [some (.d S),some (.d x),some (.d (.exc a0 d0 (.ref a.C_NoRule) [("word",x)]))] st = .ok (.d (.bl true)) st:=f2A (puA (cons1 q3) (hr st)) (puA (cons1 rfl) (hr st)) (by unfold oEq; rw [hq]; rfl)
   exact andT q1 (andT (notA (k:=false) q2) q4))⟩
  have h2 : ∀ g2 : G,sSeq (sTryAs K (.ref a.C_NoRule) 2 (sExpr (fMeth a.C_State "ruled" 2 0 gPos (m_State_ruled K a) (vVar 0) (fCW (fCons (vVar 1) (fCons (fTup (fCons (vC (.str "all")) (fCons (vC (.str "")) fNil))) fNil)) fNil))) (fun a0 d0 c0=>(sRet (fAnd (fB (pu (oIsX K a0 d0 c0 a.C_NoRule)) (fCons (vVar 2) (fCons (vC (.ty "TypeError")) fNil))) (fAnd (fNot (fB (pu (oIsX K a0 d0 c0 a.C_NoRule)) (fCons (vVar 2) (fCons (vC (.ty "ValueError")) fNil)))) (f2 oEq (fB (pu oRepr) (fCons (xFld a0 d0 c0 a.C_NoRule "word" 2) fNil)) (fB (pu oRepr) (fCons (vVar 1) fNil)))))))) g2 [some (.d S),some (.d x),none] st = .ok [] (.rt (.d (.bl true))) st:=fun g2=>by
   unfold sSeq
   rw [ht]
  exact h2 _
 obtain ⟨e2,main⟩:=main
 exact fnZ (us:=[.d S,.d x]) (n:=3) (g:=g_L_law_refused K a) (s1:=[]) w (by rw [List.append_nil]; exact main)
inductive Oth : D → Prop
 | non : Oth .non
 | str (x : Str) : Oth (.str x)
 | lst (xs : List D) : Oth (.lst xs)
 | tup (xs : List D) : Oth (.tup xs)
theorem isiN {x : D} {n : String} (s0 : Store) (h : tyN a.own s0 (.d x) = some (.type n)) (k : PySem.W.kitOne K (.type n) (.ref a.C_State) = some false) : oIsi K a.own [.d x,.d (.obj a.C_State)] s0 = some (.d (.bl false)):=by
 show (match tyN a.own s0 (.d x) with
  | some t=>(PySem.W.kitOne K t (.ref a.C_State)).map fun k=>U.d (.bl k)
  | none=>none) = _
 rw [h]
 simp only [k,Option.map_some]
theorem Oth.isi (Q : Kx K a) {x : D} (h : Oth x) (s0 : Store) : oIsi K a.own [.d x,.d (.obj a.C_State)] s0 = some (.d (.bl false)):=by
 cases h with
 | non=>exact isiN s0 rfl Q.xi_NoneType
 | str y=>exact isiN s0 rfl Q.xi_str
 | lst xs=>exact isiN s0 rfl Q.xi_list
 | tup xs=>exact isiN s0 rfl Q.xi_tuple
theorem Oth.eq (Q : Kx K a) {x : D} (h : Oth x) (w : WF st) {t : D} {rows : List D} {R : List It} : eqM a.C_State eqTys (m_State___eq__ K a) (.d (stS a t rows R)) (.d x) st = .ok (.d (.bl false)) st:=by
 have e : m_State___eq__ K a [.d (stS a t rows R),.d x] st = .ok (.d (.bl false)) st :=
  fnZ (us:=[.d (stS a t rows R),.d x]) (n:=3) (g:=g_State___eq__ K a) (s1:=[]) w (by
   rw [List.append_nil]
   unfold g_State___eq__
   exact seqR (ifT (bNotA (k:=false) (asTA (puA (consA rfl (cons1 rfl)) (h.isi Q st)) rfl)) (retA rfl)))
 have ho : okTy a.C_State eqTys st (.d x) = true:=by
  cases h <;> (unfold okTy; rfl)
 unfold eqM eqOA
 simp only [ins_st,ho,and_self,if_true,e]
structure Rw where
 v : Option Str
 w : Str
 ms : List Str
noncomputable def ovD : Option Str → D
 | none=>.non
 | some x=>.str x
noncomputable def ovP : Option Str → PyData
 | none=>.none
 | some x=>.str x
noncomputable def rwL (r : Rw) : List D:=[ovD r.v,.str r.w,.tup (sD r.ms)]
noncomputable def rwD (r : Rw) : D:=.tup (rwL r)
noncomputable def rwP (r : Rw) : PyData:=.tuple [ovP r.v,.str r.w,.tuple (r.ms.map .str)]
structure RwOk (r : Rw) : Prop where
 v : ∀ x,r.v = some x → PyData.strOk x = true
 w : PyData.strOk r.w = true
 ms : ∀ x ∈ r.ms,PyData.strOk x = true
theorem ov_dt {v : Option Str} (h : ∀ x,v = some x → PyData.strOk x = true) (n : Nat) (hn : 1 ≤ n) : Dt (ovD v) (ovP v) n:=by
 cases v with
 | none=>exact Dt.non n hn
 | some x=>exact Dt.str n hn (h x rfl)
theorem rw_dt {r : Rw} (h : RwOk r) : Dt (rwD r) (rwP r) 3 :=
 ((ov_dt h.v 2 (by decide)).cons ((Dt.str 2 (by decide) h.w).cons (((DtL.map (f:=D.str) (g:=PyData.str) (xs:=r.ms) fun x hx=>Dt.str 1 (Nat.le_refl _) (h.ms x hx)).tup).cons (DtL.nil 2)))).tup
theorem rws_dt {rs : List Rw} (h : ∀ r ∈ rs,RwOk r) : DtL (rs.map rwD) (rs.map rwP) 3:=DtL.map fun r hr=>rw_dt (h r hr)
theorem ixD (ds : List D) {d : Nat} (h : d < ds.length) : oIx (.d (.lst ds)) (.d (.int ((d : Nat) : Int))) st = some (.d ds[d]):=by
 have : oIx (.d (.lst ds)) (.d (.int ((d : Nat) : Int))) st = atI (ds.map U.d) ((d : Nat) : Int):=rfl
 rw [this,at_lt (by rw [List.length_map]; exact h),List.getElem_map]
section
variable {b : Nat} {x0 x1 x2 x3 x4 x5 : Option U}
theorem take3 (w : WF st) (hb : Bag st b) {env : VEnv} (he : env[0]? = some (some (.ref b))) {m : Int} (h0 : 0 < m) (h1 : m < 1073741824) : ∃ (d : Nat) (s1 : Store),(fCall 2 0 gPos (m_L_law_take K a) (fCW (fCons (vVar 0) (fCons (vC (.int m)) fNil)) fNil)) env st = .ok (.d (.int ((d : Nat) : Int))) s1 ∧ (d : Int) < m ∧ Fb st s1 b:=by
 obtain ⟨d,s1,e1,hd,k1⟩:=ev_ltake (K:=K) (a:=a) w hb h0 h1
 have hv : vVar 0 env st = .ok (.ref b) st:=by unfold vVar; rw [he]
 exact ⟨d,s1,callA (consA hv (cons1 rfl)) rfl e1,hd,k1⟩
theorem ev_rcomp (w : WF st) (hb : Bag st b) : ∃ (ms : List Str) (st' : Store),c_L_law_rows_1 K a [some (.ref b),x1,x2,x3,x4,x5] st = .ok (.d (.lst (sD ms))) st' ∧ ms.length ≤ 2 ∧ (∀ x ∈ ms,PyData.strOk x = true) ∧ Fb st st' b:=by
 obtain ⟨d,s1,e1,hd,k1⟩:=take3 (K:=K) (a:=a) w hb (env:=[some (.ref b),x1,x2,x3,x4,x5]) rfl (m:=3) (by decide) (by decide)
 obtain ⟨ds,s2,e2,k2,r⟩:=fLc_fb (fi:=fItN itR (fCons (fCall 2 0 gPos (m_L_law_take K a) (fCW (fCons (vVar 0) (fCons (vC (.int 3)) fNil)) fNil)) fNil)) (tg:=tgN 5) (tt:=tYesB) (fe:=(f2 oIx (fN vLst (fCons (vC (.str "a")) (fCons (vC (.str "b")) (fCons (vC (.str "c")) fNil)))) (fCall 2 0 gPos (m_L_law_take K a) (fCW (fCons (vVar 0) (fCons (vC (.int 3)) fNil)) fNil)))) (vs:=[5]) (env:=[some (.ref b),x1,x2,x3,x4,x5]) (st0:=st)
  (fun _ x=>∃ s : Str,x = D.str s ∧ PyData.strOk s = true) k1.wf k1.bag (us:=(List.range d).map fun i=>.d (.int (0 + (i : Nat)))) (fItN_ok (us:=[.d (.int (d : Nat))]) (cons1 e1) (itR_eq (by omega))) (by rw [List.length_map,List.length_range]; exact Nat.le_trans (show d ≤ 7 by omega) (by decide)) fun u hu st' w' b'=>by
  obtain ⟨q,s5,e5,hq,k5⟩:=take3 (K:=K) (a:=a) w' b' (env:=[some (.ref b),x1,x2,x3,x4,some u]) rfl (m:=3) (by decide) (by decide)
  have hq' : q < ([.str "a",.str "b",.str "c"] : List D).length:=by show q < 3; omega
  refine ⟨[some (.ref b),x1,x2,x3,x4,some u],([.str "a",.str "b",.str "c"] : List D)[q],s5,rfl,rfl,f2A (lstDA (ds:=[.str "a",.str "b",.str "c"]) (consA rfl (consA rfl (cons1 rfl))) (by decide)) e5 (ixD _ hq'),?_,k5⟩
  have : q = 0 ∨ q = 1 ∨ q = 2:=by omega
  rcases this with rfl | rfl | rfl
  ·exact ⟨"a",rfl,by decide +kernel⟩
  ·exact ⟨"b",rfl,by decide +kernel⟩
  ·exact ⟨"c",rfl,by decide +kernel⟩
 have hall:=fun x hx=>r.right (Q:=fun x=>∃ s : Str,x = D.str s ∧ PyData.strOk s = true) (fun _ _ h=>h) x hx
 have hl:=r.length
 rw [List.length_map,List.length_range] at hl
 obtain ⟨ms,rfl,hm⟩ : ∃ ms : List Str,ds = sD ms ∧ ∀ x ∈ ms,PyData.strOk x = true:=by
  clear r hl e2
  induction ds with
  | nil=>exact ⟨[],rfl,nofun⟩
  | cons z ds ih =>
   obtain ⟨s,rfl,hs⟩:=hall z List.mem_cons_self
   obtain ⟨ms,rfl,hms⟩:=ih fun x hx=>hall x (List.mem_cons_of_mem _ hx)
   refine ⟨s :: ms,rfl,fun x hx=>?_⟩
   rcases List.mem_cons.mp hx with rfl | hx
   ·exact hs
   ·exact hms x hx
 refine ⟨ms,s2,e2,?_,hm,k1.trans k2⟩
 unfold sD at hl
 rw [List.length_map] at hl
 omega
end
theorem strU_D (ss : List Str) : strsU ((sD ss).map U.d) = some ss:=strsU_sD0 ss
theorem str_sort {ss : List Str} (h : ss.length < 64) : oSortTT [.d (.lst (sD ss))] st = some (.d (.lst (sD (sortT ss)))):=by
 show oSortT [.d (.lst (sD ss))] st = _
 unfold oSortT
 have e : getL st (.d (.lst (sD ss))) = some ((sD ss).map .d):=rfl
 simp only [e,strU_D,h,if_true]
 rfl
structure Ri (st s : Store) (b : Nat) (rs : List Rw) : Prop where
 wf : WF s
 bag : Bag s b
 bl : b < st.length
 li : s[st.length]? = some (.lst ((rs.map rwD).map U.d))
 len : s.length = st.length + 1
 fr : ∀ n,n < st.length → n ≠ b → s[n]? = st[n]?
 ok : ∀ r ∈ rs,RwOk r
theorem Ri.fb {s s' : Store} {b : Nat} {rs : List Rw} (x : Ri st s b rs) (f : Fb s s' b) : Ri st s' b rs :=
 ⟨f.wf,f.bag,x.bl,by rw [f.fr _ (by have:=x.bl; omega)]; exact x.li,by rw [f.len]; exact x.len,fun n h1 h2=>(f.fr n h2).trans (x.fr n h1 h2),x.ok⟩
theorem Ri.add {s : Store} {b : Nat} {rs : List Rw} (x : Ri st s b rs) {r : Rw} (hr : RwOk r) : Ri st (s.set st.length (.lst (((rs ++ [r]).map rwD).map U.d))) b (rs ++ [r]) :=
 ⟨x.wf.setL _ _,x.bag.set (by have:=x.bl; omega) _,x.bl,set_at x.li,by rw [List.length_set]; exact x.len,fun n h1 h2=>by
  rw [List.getElem?_set_ne (by omega)]; exact x.fr n h1 h2,fun q hq=>by
  rcases List.mem_append.mp hq with z | z
  ·exact x.ok q z
  ·rw [List.mem_singleton.mp z]; exact hr⟩
section
variable {b : Nat} {x2 x3 x4 x5 : Option U}
theorem ev_rbody {s : Store} {rs : List Rw} (x : Ri st s b rs) (hl : rs.length ≤ 10) : ∃ (r : Rw) (y3 y4 : Option U) (s' : Store),b_L_law_rows_1 K a [some (.ref b),some (.ref st.length),x2,x3,x4,x5] s = .ok [some (.ref b),some (.ref st.length),x2,y3,y4,x5] .nx s' ∧ Ri st s' b (rs ++ [r]):=by
 obtain ⟨d,s1,e1,hd,k1⟩:=take3 (K:=K) (a:=a) x.wf x.bag (env:=[some (.ref b),some (.ref st.length),x2,x3,x4,x5]) rfl (m:=3) (by decide) (by decide)
 have hd' : d < ([.str "follows",.str "own",.str "held"] : List D).length:=by show d < 3; omega
 obtain ⟨wd,hwd,hws⟩ : ∃ wd : Str,([.str "follows",.str "own",.str "held"] : List D)[d] = .str wd ∧ PyData.strOk wd = true:=by
  have : d = 0 ∨ d = 1 ∨ d = 2:=by omega
  rcases this with rfl | rfl | rfl
  ·exact ⟨"follows",rfl,by decide +kernel⟩
  ·exact ⟨"own",rfl,by decide +kernel⟩
  ·exact ⟨"held",rfl,by decide +kernel⟩
 have i1:=ixD (st:=s1) _ hd'
 rw [hwd] at i1
 have x1:=x.fb k1
 obtain ⟨ms,s2,e2,hm,hms,k2⟩:=ev_rcomp (K:=K) (a:=a) (x1:=some (.ref st.length)) (x2:=x2) (x3:=some (.d (.str wd))) (x4:=x4) (x5:=x5) x1.wf x1.bag
 have x2':=x1.fb k2
 obtain ⟨q,s3,e3,hq,k3⟩:=take3 (K:=K) (a:=a) x2'.wf x2'.bag (env:=[some (.ref b),some (.ref st.length),x2,some (.d (.str wd)),some (.d (.lst (sD (sortT ms)))),x5]) rfl (m:=3) (by decide) (by decide)
 have x3':=x2'.fb k3
 have hq' : q < ([.non,.str "x",.str "y"] : List D).length:=by show q < 3; omega
 obtain ⟨v,hv,hvs⟩ : ∃ v : Option Str,([.non,.str "x",.str "y"] : List D)[q] = ovD v ∧ ∀ z,v = some z → PyData.strOk z = true:=by
  have : q = 0 ∨ q = 1 ∨ q = 2:=by omega
  rcases this with rfl | rfl | rfl
  ·exact ⟨none,rfl,nofun⟩
  ·exact ⟨some "x",rfl,fun z hz=>by cases hz; decide +kernel⟩
  ·exact ⟨some "y",rfl,fun z hz=>by cases hz; decide +kernel⟩
 have i3:=ixD (st:=s3) _ hq'
 rw [hv] at i3
 have hso : ∀ z ∈ sortT ms,PyData.strOk z = true:=fun z hz=>hms z (mem_sortT.mp hz)
 let r : Rw:=⟨v,wd,if wd = "follows" then [] else sortT ms⟩
 have hr : RwOk r:=⟨hvs,hws,by
  show ∀ z ∈ (if wd = "follows" then [] else sortT ms),_
  split
  ·exact nofun
  ·exact hso⟩
 have ei : fIf (asB (f2 oNe (vVar 3) (vC (.str "follows")))) (fB (pu oTuple) (fCons (vVar 4) fNil)) (fTup fNil) [some (.ref b),some (.ref st.length),x2,some (.d (.str wd)),some (.d (.lst (sD (sortT ms)))),x5] s3 = .ok (.d (.tup (sD r.ms))) s3:=by
  have h1 : oNe (.d (.str wd)) (.d (.str "follows")) s3 = some (.d (.bl (!decide (wd = "follows")))):=rfl
  by_cases e : wd = "follows"
  ·rw [decide_eq_true e] at h1
   rw [show r.ms = [] from if_pos e]
   exact fIfF (asBA (f2A rfl rfl h1)) (tupA (ds:=[]) rfl (by decide))
  ·rw [decide_eq_false e] at h1
   rw [show r.ms = sortT ms from if_neg e]
   exact fIfT (asBA (f2A rfl rfl h1)) (puA (cons1 rfl) oTupL)
 refine ⟨r,some (.d (.str wd)),some (.d (.lst (sD (sortT ms)))),s3.set st.length (.lst (((rs ++ [r]).map rwD).map U.d)),?_,x3'.add hr⟩
 unfold b_L_law_rows_1
 refine seqA (f2A (lstDA (ds:=[.str "follows",.str "own",.str "held"]) (consA rfl (consA rfl (cons1 rfl))) (by decide)) e1 i1) ?_
 refine seqA (puA (cons1 e2) (str_sort (by omega))) ?_
 have:=appE (env:=[some (.ref b),some (.ref st.length),x2,some (.d (.str wd)),some (.d (.lst (sD (sortT ms)))),x5]) (fx:=vVar 1) (fy:=(fTup (fCons (f2 oIx (fN vLst (fCons (vC .non) (fCons (vC (.str "x")) (fCons (vC (.str "y")) fNil)))) (fCall 2 0 gPos (m_L_law_take K a) (fCW (fCons (vVar 0) (fCons (vC (.int 3)) fNil)) fNil))) (fCons (vVar 3) (fCons (fIf (asB (f2 oNe (vVar 3) (vC (.str "follows")))) (fB (pu oTuple) (fCons (vVar 4) fNil)) (fTup fNil)) fNil))))) rfl (tupA (ds:=rwL r) (consA (f2A (lstDA (ds:=[.non,.str "x",.str "y"]) (consA rfl (consA rfl (cons1 rfl))) (by decide)) e3 i3) (consA rfl (cons1 ei))) (by show 3 ≤ sizeLine; decide)) x2'.li x3'.li (by rw [List.length_map,List.length_map]; exact Nat.lt_of_le_of_lt hl (by decide))
 rw [show ((rs.map rwD).map U.d ++ [U.d (.tup (rwL r))]) = ((rs ++ [r]).map rwD).map U.d by rw [List.map_append,List.map_append]; rfl] at this
 exact this
theorem ev_rloop : ∀ (us : List U) (rs : List Rw) (s : Store) (x2 x3 x4 : Option U),Ri st s b rs → rs.length + us.length ≤ 5 → ∃ (rs' : List Rw) (y2 y3 y4 : Option U) (s' : Store),loopL (tgN 2) (b_L_law_rows_1 K a) us [some (.ref b),some (.ref st.length),x2,x3,x4,x5] s = .ok [some (.ref b),some (.ref st.length),y2,y3,y4,x5] .nx s' ∧ Ri st s' b rs' ∧ rs'.length ≤ 5
 | [],rs,s,x2,x3,x4,x,hl=>⟨rs,x2,x3,x4,s,rfl,x,by simpa using hl⟩
 | u :: us,rs,s,x2,x3,x4,x,hl=>by
  rw [List.length_cons] at hl
  obtain ⟨r,y3,y4,s1,e1,x1⟩:=ev_rbody (K:=K) (a:=a) (x2:=some u) (x3:=x3) (x4:=x4) (x5:=x5) x (by omega)
  obtain ⟨rs',z2,z3,z4,s2,e2,x2',hl'⟩:=ev_rloop us (rs ++ [r]) s1 (some u) y3 y4 x1 (by rw [List.length_append,List.length_singleton]; omega)
  exact ⟨rs',z2,z3,z4,s2,loopN e1 e2,x2',hl'⟩
theorem ev_lrows (w : WF st) (hb : Bag st b) : ∃ (rs : List Rw) (st' : Store),m_L_law_rows K a [.ref b] st = .ok (.d (.lst (rs.map rwD))) st' ∧ (∀ r ∈ rs,RwOk r) ∧ rs.length ≤ 5 ∧ Fb st st' b:=by
 have hlt:=hb.lt
 have x0 : Ri st (st ++ [.lst []]) b []:=⟨w.pushL [],hb.push _,hlt,new_at,by rw [List.length_append,List.length_singleton],fun n h1 h2=>List.getElem?_append_left h1,nofun⟩
 obtain ⟨d,s1,e1,hd,k1⟩:=take3 (K:=K) (a:=a) x0.wf x0.bag (env:=[some (.ref b),some (.ref st.length),none,none,none,none]) rfl (m:=6) (by decide) (by decide)
 obtain ⟨rs,y2,y3,y4,s2,e2,x2,hl⟩:=ev_rloop (K:=K) (a:=a) (x5:=none) ((List.range d).map fun i=>U.d (.int (((0 + i : Nat)) : Int))) [] s1 none none none (x0.fb k1) (by rw [List.length_map,List.length_range,List.length_nil]; omega)
 obtain ⟨hc,hf⟩:=cut_fb w x2.bag hlt (by rw [x2.len]; omega) x2.fr
 have main : g_L_law_rows K a [some (.ref b),none,none,none,none,none] st = .ok [some (.ref b),some (.ref st.length),y2,y3,y4,none] (.rt (.ref st.length)) s2:=by
  unfold g_L_law_rows
  exact seqA (lstA (us:=[]) rfl (by decide)) (seqG ((sFor_lst (fItN_ok (us:=[.d (.int (d : Nat))]) (cons1 e1) (itRn (by omega)))).trans e2) (retA rfl))
 refine ⟨rs,s2.take st.length,?_,x2.ok,hl,hf⟩
 have:=fnA (us:=[.ref b]) (n:=6) (g:=g_L_law_rows K a) (w:=wFrz) main
 refine this.trans ?_
 unfold wFrz
 rw [frz_lst (f:=3) (Nat.lt_irrefl _) x2.li,hc]
end
theorem ev_strepr (w : WF st) {rs : List Rw} (hr : ∀ r ∈ rs,RwOk r) (hl : rs.length ≤ 5) {t : Nat} (ht : t < 13) {R : List It} : m_State___repr__ K a [.d (stS a (.int (t : Nat)) (rs.map rwD) R)] st = .ok (.d (.str (rpS t (cntW (rs.map (·.w)) "own") (cntW (rs.map (·.w)) "held")))) st:=by
 have hws : ∀ x ∈ rs.map (·.w),PyData.strOk x = true:=fun x hx=>by
  obtain ⟨r,hr',rfl⟩:=List.mem_map.mp hx
  exact (hr r hr').w
 have lo:=cntW_le (rs.map (·.w)) "own"
 have lh:=cntW_le (rs.map (·.w)) "held"
 rw [List.length_map] at lo lh
 have e1 : c_State___repr___1 K a [some (.d (stS a (.int (t : Nat)) (rs.map rwD) R)),none,none,none,none] st = .ok (.d (.lst (sD (rs.map (·.w))))) st:=by
  unfold c_State___repr___1
  have hfi : fIter (fFld [a.C_State] "rows" (vVar 0)) [some (.d (stS a (.int (t : Nat)) (rs.map rwD) R)),none,none,none,none] st = .ok (.lst (rs.map fun r=>U.d (rwD r))) st:=by
   have hv : fFld [a.C_State] "rows" (vVar 0) [some (.d (stS a (.int (t : Nat)) (rs.map rwD) R)),none,none,none,none] st = .ok (.d (.tup (rs.map rwD))) st:=f1A rfl (fld_rows _ _ _)
   unfold fIter bnd
   rw [hv]
   show VL.R.of st (some (Itb.lst ((rs.map rwD).map U.d))) = _
   rw [List.map_map]
   rfl
  have:=lc_eq1 (tg:=(tgT 3 (tgCons (tgN 2) (tgCons (tgN 3) (tgCons (tgN 4) tgNil))))) (tt:=tYesB) (fe:=vVar 3) (vs:=[2,3,4]) (f:=fun r : Rw=>U.d (rwD r)) rs (fun r=>D.str r.w) w (Nat.le_trans hl (by decide)) hfi fun r hr acc=>LcT (env1:=[some (.d (stS a (.int (t : Nat)) (rs.map rwD) R)),none,some (.d (ovD r.v)),some (.d (.str r.w)),some (.d (.tup (sD r.ms)))]) rfl rfl rfl
  rw [this]
  unfold sD
  rw [List.map_map]
  rfl
 have c1:=cnt_W (st:=st) (z:="own") hws (by decide +kernel)
 have c2:=cnt_W (st:=st) (z:="held") hws (by decide +kernel)
 generalize cntW (rs.map (·.w)) "own" = no at *
 generalize cntW (rs.map (·.w)) "held" = nh at *
 obtain ⟨t1,t2⟩:=num_ok ⟨t,ht⟩
 obtain ⟨o1,o2⟩:=num_ok ⟨no,by omega⟩
 obtain ⟨h1,h2⟩:=num_ok ⟨nh,by omega⟩
 simp only at t1 t2 o1 o2 h1 h2
 have hb : ∀ x : Str,x.length ≤ 100 → x.length ≤ sizeLine:=fun x hx=>Nat.le_trans hx (by decide)
 have l1 : ("State(" : Str).length = 6:=by decide +kernel
 have l2 : (", " : Str).length = 2:=by decide +kernel
 have l3 : (" own, " : Str).length = 6:=by decide +kernel
 have l4 : (" held)" : Str).length = 6:=by decide +kernel
 have l0 : Str.empty.length = 0:=rfl
 generalize hW : sD (rs.map (·.w)) = W at *
 obtain ⟨envF,main⟩ : ∃ envF,g_State___repr__ K a [some (.d (stS a (.int (t : Nat)) (rs.map rwD) R)),none,none,none,none] st = .ok envF (.rt (.d (.str (rpS t no nh)))) st:=by
  apply Exists.intro
  unfold g_State___repr__
  refine seqA e1 (retA ?_)
  have hcnt : ∀ {fx : F U} {env : VEnv} {z : Str} {n : Nat},fx env st = .ok (.d (.lst W)) st → mCount (.d (.lst W)) [.d (.str z)] st = some (.d (.int (n : Nat))) → fM "list" (pu4 mCount) fx (fCons (vC (.str z)) fNil) env st = .ok (.d (.int (n : Nat))) st:=fun {fx env z n} h hc =>
   fMA h rfl (cons1 rfl) (by simp only [pu4,hc,Option.map_some])
  have fm : ∀ (i : Int),i.natAbs.log2 < 1920 → oFmt (.d (.int i)) st = some (.d (.str (Str.ofString (toString i)))):=fun i hi=>if_pos hi
  refine jsA rfl (hb _ (by simp only [len_app]; omega)) ?_
  rw [show Str.empty ++ ("State(" : Str) = "State(" from rfl]
  refine jsA (f1A (f1A rfl (fld_rel _ _ _)) (fm _ t2)) (hb _ (by simp only [len_app]; omega)) ?_
  refine jsA rfl (hb _ (by simp only [len_app]; omega)) ?_
  refine jsA (f1A (hcnt rfl c1) (fm _ o2)) (hb _ (by simp only [len_app]; omega)) ?_
  refine jsA rfl (hb _ (by simp only [len_app]; omega)) ?_
  refine jsA (f1A (hcnt rfl c2) (fm _ h2)) (hb _ (by simp only [len_app]; omega)) ?_
  refine jsA rfl (hb _ (by simp only [len_app]; omega)) ?_
  rfl
 exact fnZ (us:=[.d (stS a (.int (t : Nat)) (rs.map rwD) R)]) (n:=5) (g:=g_State___repr__ K a) (s1:=[]) w (by rw [List.append_nil]; exact main)
noncomputable def wdD : Option Str → D
 | none=>.non
 | some x=>.str x
theorem wdU_eq (x : Option Str) : wdU x = .d (wdD x):=by cases x <;> rfl
section
variable {f fx fy : F U} {env env1 : VEnv} {s s1 s2 : Store} {u y : U}
theorem fBA {g : P3} {fs : F (List U)} {us : List U} {v : U} (h1 : fs env s = .ok us s1) (h : g us s1 = some (v,s2)) : fB g fs env s = .ok v s2:=by
 unfold fB bnd
 rw [h1]
 simp only [h]
 rfl
theorem oLenD (ds : List D) (hz : ds.length ≤ 100) : oLen [.d (.lst ds)] s = some (.d (.int ((ds.length : Nat) : Int))):=by
 have h : getL s (.d (.lst ds)) = some (ds.map U.d):=rfl
 unfold oLen lenN
 simp only [h,List.length_map,Option.map_some]
 rfl
theorem subNA {w : World} {fo fi : F U} {s' : Store} {o i : U} (h1 : fo env s = .ok o s) (h2 : fi env s = .ok i s) (h : setUN w o i u s = some s') : tgSubN w fo fi u env s = .ok env .nx s':=by
 unfold tgSubN
 rw [h1]
 simp only
 rw [h2]
 simp only [h]
end
theorem stT_dt {rs : List Rw} (hr : ∀ r ∈ rs,RwOk r) {R : List It} (hR : ∀ i ∈ R,ItOk i) (x : Int) : Dt (.tup [.int x,.tup (rs.map rwD),.tup (R.map itD)]) (.tuple [.int x,.tuple (rs.map rwP),.tuple (R.map itP)]) 6 :=
 ((Dt.int x 5 (by decide)).cons (((rws_dt hr).tup.up (by decide)).cons (((its_dt hR).tup.up (by decide)).cons (DtL.nil 5)))).tup
theorem stT_eqv {rs : List Rw} (hr : ∀ r ∈ rs,RwOk r) (x : Int) (P Q : List PyData) : PyData.eqv (.tuple [.int x,.tuple (rs.map rwP),.tuple P]) (.tuple [.int x,.tuple (rs.map rwP),.tuple Q]) = PyData.eqv (.tuple P) (.tuple Q):=by
 have h:=(rws_dt hr).tup.refl
 rw [eqv_tup,eqv_cons,eqv_int,beq_self_eq_true,Bool.true_and,eqv_cons,h,Bool.true_and,eqv_cons]
 simp [PyData.eqvAll]
theorem oListT (ds : List D) : oList [.d (.tup ds)] st = some (.d (.lst ds)):=by
 unfold oList itemsU
 show (match some (ds.map U.d) with | some us=>(pureL us).map fun ds=>U.d (.lst ds) | none=>none) = _
 simp only [pureL_map,Option.map_some]
theorem rows_tup (rs : List Rw) : rs.map rwD = (rs.map rwL).map D.tup:=by rw [List.map_map]; rfl
structure Jt (a : Ad) (s : Store) (b d : Nat) (L : List It) : Prop where
 wf : WF s
 bag : Bag s b
 due : s[d]? = some (.kdc a.w (kvR L))
 nd : (L.map (·.1)).Nodup
 ok : ∀ i ∈ L,ItOk i
theorem Jt.fb {s s' : Store} {b d : Nat} {L : List It} (x : Jt a s b d L) (f : Fb s s' b) : Jt a s' b d L :=
 ⟨f.wf,f.bag,by
  have : d ≠ b:=fun e=>by
   obtain ⟨n,y,hb⟩:=x.bag
   have:=x.due
   rw [e,hb] at this
   cases this
  rw [f.fr d this]; exact x.due,x.nd,x.ok⟩
theorem sort_ok {L : List It} (h : ∀ i ∈ L,ItOk i) : ∀ i ∈ sortI L,ItOk i:=fun i hi=>h i ((sortI_perm L).mem_iff.mp hi)
section
variable {b d : Nat} {x0 x1 x2 x3 x4 x5 x6 x7 x8 x9 x10 x11 x12 x13 x14 x15 x16 x17 x18 x19 x20 x21: Option U}
theorem ev_duec {s : Store} {L : List It} (x : Jt a s b d L) {t : Sc} (ht : t.ok) (hz : L.length ≤ 20) : c_law_3 K a [x0,x1,x2,x3,x4,x5,x6,x7,x8,x9,some (.ref d),x11,some (.d t.d),x13,x14,x15,x16,x17,x18,x19,x20,x21] s = .ok (.d (.lst (((sortI L).filter fun i=>decide (i.1 ≠ t)).map itD))) s:=by
 unfold c_law_3
 have hl : (sortI L).length ≤ 20:=by rw [(sortI_perm L).length_eq]; exact hz
 have hfi : fIter (fB (pu (oSortKK a.w)) (fCons (vVar 10) fNil)) [x0,x1,x2,x3,x4,x5,x6,x7,x8,x9,some (.ref d),x11,some (.d t.d),x13,x14,x15,x16,x17,x18,x19,x20,x21] s = .ok (.lst ((sortI L).map fun i=>U.d i.1.d)) s:=by
  have:=iterA (puA (fs:=fCons (vVar 10) fNil) (env:=[x0,x1,x2,x3,x4,x5,x6,x7,x8,x9,some (.ref d),x11,some (.d t.d),x13,x14,x15,x16,x17,x18,x19,x20,x21]) (cons1 rfl) (sortKK_R x.due x.nd (by omega)))
  rw [List.map_map,List.map_map] at this
  exact this
 refine lc_eq (f:=fun i : It=>U.d i.1.d) (sortI L) (fun i=>decide (i.1 ≠ t)) itD x.wf (Nat.le_trans hl (by decide)) hfi fun i hi acc=>?_
 have hm:=(sortI_perm L).mem_iff.mp hi
 exact LcB (env1:=[x0,x1,x2,x3,x4,x5,x6,x7,x8,x9,some (.ref d),x11,some (.d t.d),x13,x14,some (.d i.1.d),x16,x17,x18,x19,x20,x21]) rfl (asBA (f2A rfl rfl (oNe_sc (x.ok i hm).sc ht))) (tupA (ds:=[i.1.d,.str i.2]) (consA rfl (cons1 (f2A rfl rfl (ixN_R (app_at x.due) x.nd hm)))) (by show 2 ≤ sizeLine; decide))
theorem ev_turn {s : Store} {L : List It} (x : Jt a s b d L) (hz : L.length ≤ 15) {rs : List Rw} (hr : ∀ r ∈ rs,RwOk r) (hrl : rs.length ≤ 5) {scs : List Sc} (hs : ∀ t ∈ scs,t.ok) (hsl : 1 ≤ scs.length ∧ scs.length ≤ 20) {old : Nat} :
  ∃ (d' : Nat) (L' : List It) (y12 y13 y14 : Option U) (s' : Store),b_law_1 K a [x0,x1,some (.ref b),some (.d (.lst (rs.map rwD))),x4,some (.d (.int (old : Nat))),some (.d (.lst (scs.map Sc.d))),x7,x8,some (.d (stS a (.int (old : Nat)) (rs.map rwD) (sortI L))),some (.ref d),x11,x12,x13,x14,x15,x16,x17,x18,x19,x20,x21] s = .ok [x0,x1,some (.ref b),some (.d (.lst (rs.map rwD))),x4,some (.d (.int (old : Nat))),some (.d (.lst (scs.map Sc.d))),x7,x8,some (.d (stS a (.int (old : Nat)) (rs.map rwD) (sortI L'))),some (.ref d'),x11,y12,y13,y14,x15,x16,x17,x18,x19,x20,x21] .nx s' ∧ Jt a s' b d' L' ∧ L'.length ≤ L.length + 1:=by
 obtain ⟨k1,s1,e1,hk1,g1⟩:=ev_ltake (K:=K) (a:=a) x.wf x.bag (m:=(scs.length : Nat)) (by omega) (by omega)
 have j1:=x.fb g1
 have hk1' : k1 < (scs.map Sc.d).length:=by rw [List.length_map]; omega
 obtain ⟨t,ht,htd⟩ : ∃ t : Sc,t.ok ∧ (scs.map Sc.d)[k1] = t.d:=by
  rw [List.getElem_map]
  exact ⟨_,hs _ (List.getElem_mem _),rfl⟩
 have i1:=ixD (st:=s1) _ hk1'
 rw [htd] at i1
 obtain ⟨k2,s2,e2,hk2,g2⟩:=ev_ltake (K:=K) (a:=a) j1.wf j1.bag (m:=3) (by decide) (by decide)
 have x2':=j1.fb g2
 have hk2' : k2 < ([.str "own",.str "shipped",.non] : List D).length:=by show k2 < 3; omega
 obtain ⟨w,hw,hwo⟩ : ∃ w : Option Str,([.str "own",.str "shipped",.non] : List D)[k2] = wdD w ∧ ∀ y,w = some y → y = "own" ∨ y = "shipped":=by
  have : k2 = 0 ∨ k2 = 1 ∨ k2 = 2:=by omega
  rcases this with rfl | rfl | rfl
  ·exact ⟨some "own",rfl,fun y h=>by cases h; exact .inl rfl⟩
  ·exact ⟨some "shipped",rfl,fun y h=>by cases h; exact .inr rfl⟩
  ·exact ⟨none,rfl,nofun⟩
 have i2:=ixD (st:=s2) _ hk2'
 rw [hw] at i2
 have hsk : (sortI L).length = L.length:=(sortI_perm L).length_eq
 have er:=ev_ruled (K:=K) (a:=a) (st:=s2) (tt:=.int (old : Nat)) (rows:=rs.map rwL) (R:=sortI L) (t:=t) (x:=w) x2'.wf hwo ht (sort_ok x.ok) (by omega) (by rw [List.length_map]; omega)
 rw [← rows_tup,wdU_eq] at er
 let R:=sortI L
 let L':=ruleF t w R
 have hLok : ∀ i ∈ L',ItOk i:=ruleF_sub (P:=ItOk) (sort_ok x.ok) fun y hy=>⟨ht,(hwo y hy).elim (fun e=>by rw [e]; exact (show PyData.strOk ("own" : Str) = true by decide +kernel)) fun e=>by rw [e]; exact (show PyData.strOk ("shipped" : Str) = true by decide +kernel)⟩
 have hLnd : (L'.map (·.1)).Nodup:=ruleF_nodup (sortI_nodup x.nd)
 have hfl : (R.filter fun i=>decide (i.1 ≠ t)).length ≤ L.length:=by rw [← hsk]; exact List.length_filter_le _ _
 have hLl : L'.length ≤ L.length + 1:=by
  show (ruleF t w R).length ≤ _
  unfold ruleF
  rw [List.length_append]
  cases w <;> simp only [List.length_nil,List.length_singleton] <;> omega
 have hfnd : ((R.filter fun i=>decide (i.1 ≠ t)).map (·.1)).Nodup:=(List.filter_sublist.map _).nodup (sortI_nodup x.nd)
 have ec:=ev_duec (K:=K) (a:=a) (x0:=x0) (x1:=x1) (x2:=some (.ref b)) (x3:=some (.d (.lst (rs.map rwD)))) (x4:=x4) (x5:=some (.d (.int (old : Nat)))) (x6:=some (.d (.lst (scs.map Sc.d)))) (x7:=x7) (x8:=x8) (x9:=some (.d (stS a (.int (old : Nat)) (rs.map rwD) (sortI L')))) (x11:=x11) (x13:=some (.d (wdD w))) (x14:=some (.d (stS a (.int (old : Nat)) (rs.map rwD) (sortI L)))) (x15:=x15) (x16:=x16) (x17:=x17) (x18:=x18) (x19:=x19) (x20:=x20) (x21:=x21) x2' ht (by omega)
 have ed:=dictK_R (st:=s2) hfnd (by omega) a.w
 have dR:=(its_dt (sort_ok x.ok)).tup
 have dR':=(its_dt (sort_ok hLok)).tup
 -- the store with the new dict
 have hsrt : ∀ s3 : Store,s3[s2.length]? = some (.kdc a.w (kvR L')) → ∀ env : VEnv,env[10]? = some (some (.ref s2.length)) → fSortKI a.w (vVar 10) env s3 = .ok (.d (.lst ((sortI L').map itD))) s3:=fun s3 h env he=>sortKI_R (by unfold vVar; rw [he]) h (by omega)
 obtain ⟨s3,hs3,e3⟩ : ∃ s3 : Store,Jt a s3 b s2.length L' ∧ sIf (asB (f2 oNotN (vVar 13) (vC .non))) (sAsg (vVar 13) (tgSubN a.w (vVar 10) (vVar 12))) sNil [x0,x1,some (.ref b),some (.d (.lst (rs.map rwD))),x4,some (.d (.int (old : Nat))),some (.d (.lst (scs.map Sc.d))),x7,x8,some (.d (stS a (.int (old : Nat)) (rs.map rwD) (sortI L'))),some (.ref s2.length),x11,some (.d t.d),some (.d (wdD w)),some (.d (stS a (.int (old : Nat)) (rs.map rwD) (sortI L))),x15,x16,x17,x18,x19,x20,x21] (s2 ++ [.kdc a.w (kvR (R.filter fun i=>decide (i.1 ≠ t)))]) = .ok [x0,x1,some (.ref b),some (.d (.lst (rs.map rwD))),x4,some (.d (.int (old : Nat))),some (.d (.lst (scs.map Sc.d))),x7,x8,some (.d (stS a (.int (old : Nat)) (rs.map rwD) (sortI L'))),some (.ref s2.length),x11,some (.d t.d),some (.d (wdD w)),some (.d (stS a (.int (old : Nat)) (rs.map rwD) (sortI L))),x15,x16,x17,x18,x19,x20,x21] .nx s3:=by
  have wk : ∀ M : List It,WF (s2 ++ [.kdc a.w (kvR M)]):=fun M=>x2'.wf.push (by
   show ((kvR M).all _) = true
   unfold kvR
   rw [List.all_map,List.all_eq_true]
   intro i _
   rfl)
  have bk : ∀ M : List It,Bag (s2 ++ [.kdc a.w (kvR M)]) b:=fun M=>x2'.bag.push _
  cases w with
  | none =>
   refine ⟨_,⟨wk _,bk _,new_at,hLnd,hLok⟩,?_⟩
   have : L' = R.filter fun i=>decide (i.1 ≠ t):=by show ruleF t none R = _; unfold ruleF; rw [List.append_nil]
   rw [this]
   exact ifF (asBA (f2A rfl rfl rfl)) rfl
  | some y =>
   refine ⟨_,⟨wk _,bk _,new_at,hLnd,hLok⟩,?_⟩
   refine ifT (asBA (f2A rfl rfl rfl)) (asgS rfl (subNA rfl rfl ?_))
   have:=setN_R (s:=s2 ++ [.kdc a.w (kvR (R.filter fun i=>decide (i.1 ≠ t)))]) (w:=a.w) (n:=s2.length) (L:=R.filter fun i=>decide (i.1 ≠ t)) (t:=t) (x:=y) new_at (fun i hi=>of_decide_eq_true (List.mem_filter.mp hi).2) (by omega)
   rw [nf_set0 rfl,List.set_cons_zero] at this
   exact this
 have eq1:=eqM_st (K:=K) (a:=a) (st:=s3) (ev_steq (K:=K) (a:=a) (n:=6) (by decide) hs3.wf (stT_dt hr (sort_ok x.ok) (old : Nat)) (stT_dt hr (sort_ok hLok) (old : Nat)))
 rw [stT_eqv hr] at eq1
 refine ⟨s2.length,L',some (.d t.d),some (.d (wdD w)),some (.d (stS a (.int (old : Nat)) (rs.map rwD) (sortI L))),s3,?_,hs3,hLl⟩
 have hls : scs.length = (scs.map Sc.d).length:=(List.length_map ..).symm
 unfold b_law_1
 refine seqG (asgT (tupA (ds:=[t.d,wdD w]) (consA (f2A rfl (callA (consA rfl (cons1 (puA (cons1 rfl) (oLenD _ (by rw [← hls]; omega))))) rfl (by rw [← hls]; exact e1)) i1) (cons1 (f2A (lstDA (ds:=[.str "own",.str "shipped",.non]) (consA rfl (consA rfl (cons1 rfl))) (by decide)) (callA (consA rfl (cons1 rfl)) rfl e2) i2))) (by show 2 ≤ sizeLine; decide)) rfl) ?_
 refine seqG (parA (consA rfl (cons1 (methA rfl (ins_st _ _ _ _) rfl (consA rfl (cons1 rfl)) rfl er)))) ?_
 refine seqG (ifF (asBA (f2A (f1A rfl (fld_rules _ _ _)) (puA (cons1 (sortKI_R rfl x2'.due (by omega))) oTupL) (oNe_tt dR (by decide)))) rfl) ?_
 refine seqA (fBA (cons1 ec) ed) ?_
 refine seqG e3 ?_
 refine seqG (ifF (bOrF (asBA (f2A (f1A rfl (fld_rules _ _ _)) (puA (cons1 (hsrt s3 hs3.due _ rfl)) oTupL) (oNe_tt dR' (by decide)))) (bOrF (asBA (f2A (puA (cons1 (f1A rfl (fld_rows _ _ _))) (oListT _)) rfl (oNe_ll (rws_dt hr).lst (by decide)))) (asBA (f2A (f1A rfl (fld_rel _ _ _)) rfl (oNe_ii _))))) rfl) ?_
 refine ifF (asBA (f2A (f2sA rfl rfl eq1.1) (f2A (f1A rfl (fld_rules _ _ _)) (f1A rfl (fld_rules _ _ _)) (by unfold oEq; rw [eqB_tt dR dR' (by decide)]; rfl)) (oNe_bb _))) rfl
end
theorem erI_perm : ∀ (A : List It) {d : Nat} (hd : d < A.length),([A[d]] ++ A.eraseIdx d).Perm A
 | x :: A,0,_=>List.Perm.refl _
 | x :: A,d + 1,hd=>by
  have:=erI_perm A (d:=d) (by rw [List.length_cons] at hd; omega)
  show (A[d]'(by rw [List.length_cons] at hd; omega) :: x :: A.eraseIdx d).Perm (x :: A)
  exact (List.Perm.swap _ _ _).trans (this.cons x)
section
variable {s : Store}
theorem oLenC {i : Nat} {us : List U} (h : s[i]? = some (.lst us)) : oLen [.ref i] s = some (.d (.int ((us.length : Nat) : Int))):=by
 have h : getL s (.ref i) = some us:=by unfold getL; simp only [h]
 unfold oLen lenN
 simp only [h,Option.map_some]
 rfl
theorem popC {i d : Nat} {us : List U} (h : s[i]? = some (.lst us)) (hd : d < us.length) (hd2 : d < 1000) : mPop (.ref i) [.d (.int ((d : Nat) : Int))] s = some (us[d],s.set i (.lst (us.eraseIdx d))):=by
 have hl : lstC s (.ref i) = some (i,us):=by unfold lstC; simp only [h]
 have h63 : -2 ^ 63 ≤ ((d : Nat) : Int) ∧ ((d : Nat) : Int) < 2 ^ 63:=by omega
 unfold mPop
 simp only [hl,if_pos h63,seq_nat hd,List.getElem?_eq_getElem hd,Option.map_some]
end
theorem oNe_rl {i : Nat} {A : List It} (h : st[i]? = some (.lst ((A.map itD).map U.d))) (hA : ∀ x ∈ A,ItOk x) : oNe (.ref i) (.d (.lst [])) st = some (.d (.bl (!A.isEmpty))):=by
 have dA:=(its_dt hA).lst
 have d0:=(DtL.nil 1).lst
 have e : eqB st (.ref i) (.d (.lst [])) = some A.isEmpty:=by
  unfold eqB
  have h1 : asP st (.ref i) = some (.list (A.map itP)):=by rw [asP_ref h,(its_dt hA).to]; rfl
  simp only [h1,asP_d,d0.to,dA.shaped (by decide),d0.shaped (by decide),and_self,if_true,eqv_nil]
  cases A <;> rfl
 unfold oNe
 rw [e]
 rfl
section
variable {b i j : Nat} {x0 x1 x2 x3 x4 x5 x6 x7 x8 x9 x10 x11 x12 x13 x14 x15 x16 x17 x18 x19 x20 x21: Option U}
theorem ev_shuf (hij : i ≠ j) (hbi : b ≠ i) (hbj : b ≠ j) : ∀ (N : Nat) (A B : List It) (st : Store),A.length < N → (∀ x ∈ A,ItOk x) → st[i]? = some (.lst ((A.map itD).map U.d)) → st[j]? = some (.lst ((B.map itD).map U.d)) → B.length + A.length ≤ 100 → WF st → Bag st b →
  ∃ (B' : List It) (st' : Store),loopW (w_law_1 K a) (b_law_2 K a) N [x0,x1,some (.ref b),x3,x4,x5,x6,x7,x8,x9,x10,x11,x12,x13,x14,x15,some (.ref i),some (.ref j),x18,x19,x20,x21] st = .ok [x0,x1,some (.ref b),x3,x4,x5,x6,x7,x8,x9,x10,x11,x12,x13,x14,x15,some (.ref i),some (.ref j),x18,x19,x20,x21] .nx st' ∧ st'[j]? = some (.lst ((B'.map itD).map U.d)) ∧ B'.Perm (B ++ A) ∧ WF st' ∧ Bag st' b
 | 0,_,_,_,h,_,_,_,_,_,_=>absurd h (Nat.not_lt_zero _)
 | N + 1,A,B,st,hN,hok,hi,hj,hl,w,hb=>by
  have ew : w_law_1 K a [x0,x1,some (.ref b),x3,x4,x5,x6,x7,x8,x9,x10,x11,x12,x13,x14,x15,some (.ref i),some (.ref j),x18,x19,x20,x21] st = .ok (!A.isEmpty) st:=by
   unfold w_law_1
   exact asBA (f2A rfl (lstDA (ds:=[]) rfl (by decide)) (oNe_rl hi hok))
  cases hA : A with
  | nil =>
   subst hA
   refine ⟨B,st,?_,hj,by rw [List.append_nil],w,hb⟩
   unfold loopW
   simp only [bndS,ew,sNil,List.isEmpty_nil,Bool.not_true,Bool.false_eq_true,if_false]
  | cons a0 A0 =>
   rw [← hA]
   have hpos : 0 < A.length:=by rw [hA]; simp
   have hE : A.isEmpty = false:=by rw [hA]; rfl
   have hml : ((A.map itD).map U.d).length = A.length:=by rw [List.length_map,List.length_map]
   obtain ⟨d,st1,e1,hd,fb⟩:=ev_ltake (K:=K) (a:=a) w hb (m:=(((A.map itD).map U.d).length : Nat)) (by omega) (by omega)
   have hd' : d < A.length:=by omega
   have i1 : st1[i]? = some (.lst ((A.map itD).map U.d)):=by rw [fb.fr i hbi.symm]; exact hi
   have j1 : st1[j]? = some (.lst ((B.map itD).map U.d)):=by rw [fb.fr j hbj.symm]; exact hj
   have lj:=(List.getElem?_eq_some_iff.mp j1).1
   have li:=(List.getElem?_eq_some_iff.mp i1).1
   have w2 : WF (st1.set i (.lst (((A.eraseIdx d).map itD).map U.d))):=fb.wf.setL i _
   have j2 : (st1.set i (.lst (((A.eraseIdx d).map itD).map U.d)))[j]? = some (.lst ((B.map itD).map U.d)):=by rw [List.getElem?_set_ne hij]; exact j1
   have w3 : WF ((st1.set i (.lst (((A.eraseIdx d).map itD).map U.d))).set j (.lst (((B ++ [A[d]]).map itD).map U.d))):=w2.setL j _
   have hel : (A.eraseIdx d).length + 1 = A.length:=by rw [List.length_eraseIdx,if_pos hd']; omega
   obtain ⟨B',st',e2,k1,k2,k3,k4⟩:=ev_shuf hij hbi hbj N (A.eraseIdx d) (B ++ [A[d]]) ((st1.set i (.lst (((A.eraseIdx d).map itD).map U.d))).set j (.lst (((B ++ [A[d]]).map itD).map U.d))) (by omega) (fun x hx=>hok x (List.mem_of_mem_eraseIdx hx)) (by rw [List.getElem?_set_ne hij.symm,List.getElem?_set_self li]) (by rw [List.getElem?_set_self (by rw [List.length_set]; exact lj)]) (by rw [List.length_append,List.length_singleton]; omega) w3 (by
    obtain ⟨n,x,q⟩:=fb.bag
    exact ⟨n,x,by rw [List.getElem?_set_ne hbj.symm,List.getElem?_set_ne hbi.symm]; exact q⟩)
   refine ⟨B',st',?_,k1,?_,k3,k4⟩
   ·have eb : b_law_2 K a [x0,x1,some (.ref b),x3,x4,x5,x6,x7,x8,x9,x10,x11,x12,x13,x14,x15,some (.ref i),some (.ref j),x18,x19,x20,x21] st = .ok [x0,x1,some (.ref b),x3,x4,x5,x6,x7,x8,x9,x10,x11,x12,x13,x14,x15,some (.ref i),some (.ref j),x18,x19,x20,x21] .nx ((st1.set i (.lst (((A.eraseIdx d).map itD).map U.d))).set j (.lst (((B ++ [A[d]]).map itD).map U.d))):=by
     have hp:=popC (s:=st1) i1 (d:=d) (by rw [hml]; exact hd') (by omega)
     have hg : ((A.map itD).map U.d)[d]'(by rw [hml]; exact hd') = U.d (itD A[d]):=by rw [List.getElem_map,List.getElem_map]
     rw [hg,er_map,er_map] at hp
     unfold b_law_2
     have:=appE (env:=[x0,x1,some (.ref b),x3,x4,x5,x6,x7,x8,x9,x10,x11,x12,x13,x14,x15,some (.ref i),some (.ref j),x18,x19,x20,x21]) (fx:=vVar 17) (fy:=(fM "list" mPop (vVar 16) (fCons (fCall 2 0 gPos (m_L_law_take K a) (fCW (fCons (vVar 2) (fCons (fB (pu oLen) (fCons (vVar 16) fNil)) fNil)) fNil)) fNil))) rfl (fMA rfl (tyLA hi) (cons1 (callA (consA rfl (cons1 (puA (cons1 rfl) (oLenC hi)))) rfl e1)) hp) hj j2 (by rw [List.length_map,List.length_map]; exact Nat.lt_of_le_of_lt (show _ ≤ 100 by omega) (by decide))
     rw [show ((B.map itD).map U.d ++ [U.d (itD A[d])]) = ((B ++ [A[d]]).map itD).map U.d by rw [List.map_append,List.map_append]; rfl] at this
     exact this
    unfold loopW
    simp only [bndS,ew,hE,Bool.not_false,if_true,eb,e2]
   ·refine k2.trans ?_
    rw [List.append_assoc]
    exact List.Perm.append_left B (erI_perm A hd')
theorem ev_turns {rs : List Rw} (hr : ∀ r ∈ rs,RwOk r) (hrl : rs.length ≤ 5) {scs : List Sc} (hs : ∀ t ∈ scs,t.ok) (hsl : 1 ≤ scs.length ∧ scs.length ≤ 20) {old : Nat} : ∀ (us : List U) (L : List It) (d : Nat) (s : Store) (x11 x12 x13 x14 : Option U),Jt a s b d L → L.length + us.length ≤ 14 →
  ∃ (d' : Nat) (L' : List It) (y11 y12 y13 y14 : Option U) (s' : Store),loopL (tgN 11) (b_law_1 K a) us [x0,x1,some (.ref b),some (.d (.lst (rs.map rwD))),x4,some (.d (.int (old : Nat))),some (.d (.lst (scs.map Sc.d))),x7,x8,some (.d (stS a (.int (old : Nat)) (rs.map rwD) (sortI L))),some (.ref d),x11,x12,x13,x14,x15,x16,x17,x18,x19,x20,x21] s = .ok [x0,x1,some (.ref b),some (.d (.lst (rs.map rwD))),x4,some (.d (.int (old : Nat))),some (.d (.lst (scs.map Sc.d))),x7,x8,some (.d (stS a (.int (old : Nat)) (rs.map rwD) (sortI L'))),some (.ref d'),y11,y12,y13,y14,x15,x16,x17,x18,x19,x20,x21] .nx s' ∧ Jt a s' b d' L' ∧ L'.length ≤ 14
 | [],L,d,s,x11,x12,x13,x14,x,hl=>⟨d,L,x11,x12,x13,x14,s,rfl,x,by simpa using hl⟩
 | u :: us,L,d,s,x11,x12,x13,x14,x,hl=>by
  rw [List.length_cons] at hl
  obtain ⟨d1,L1,y12,y13,y14,s1,e1,j1,l1⟩:=ev_turn (K:=K) (x0:=x0) (x1:=x1) (x4:=x4) (x7:=x7) (x8:=x8) (x11:=some u) (x12:=x12) (x13:=x13) (x14:=x14) (x15:=x15) (x16:=x16) (x17:=x17) (x18:=x18) (x19:=x19) (x20:=x20) (x21:=x21) x (by omega) hr hrl hs hsl (old:=old)
  obtain ⟨d',L',z11,z12,z13,z14,s2,e2,j2,l2⟩:=ev_turns hr hrl hs hsl (old:=old) us L1 d1 s1 (some u) y12 y13 y14 j1 (by omega)
  exact ⟨d',L',z11,z12,z13,z14,s2,loopN e1 e2,j2,l2⟩
end
section
variable {f fx fy fz : F U} {env env1 : VEnv} {s s1 s2 : Store} {u y z : U}
theorem tupCA {fs : F (List U)} {us : List U} (h : fs env s = .ok us s1) (hp : pureL us = none) (hz : us.length ≤ sizeLine) : fTup fs env s = .ok (.ref s1.length) (s1 ++ [.tup us]):=by
 unfold fTup bnd
 rw [h]
 simp only [hp,if_pos hz]
theorem par3A {fs : F (List U)} {i j l : Nat} (h : fs env s = .ok [u,y,z] s1) : sPar3 i j l fs env s = .ok (((env.set i (some u)).set j (some y)).set l (some z)) .nx s1:=by
 unfold sPar3 bndS
 rw [h]
theorem oAddS {x y : Str} (h : x.length + y.length ≤ 100) : oAdd (.d (.str x)) (.d (.str y)) s = some (.d (.str (x ++ y))):=if_pos (Nat.le_trans h (by decide))
theorem oAddLL {xs ys : List D} (h : xs.length + ys.length ≤ 100) : oAdd (.d (.lst xs)) (.d (.lst ys)) s = some (.d (.lst (xs ++ ys))):=if_pos (Nat.le_trans h (by decide))
end
noncomputable def scsOf (xs : List Str) (n : Nat) : List Sc:=([Sc.all] ++ xs.map Sc.sec) ++ (List.range n).map Sc.set
theorem scs_ok {xs : List Str} {n : Nat} (h : ∀ x ∈ xs,PyData.strOk x = true) : ∀ t ∈ scsOf xs n,t.ok:=by
 intro t ht
 unfold scsOf at ht
 rcases List.mem_append.mp ht with q | q
 ·rcases List.mem_append.mp q with q | q
  ·rw [List.mem_singleton.mp q]; trivial
  ·obtain ⟨x,hx,rfl⟩:=List.mem_map.mp q
   exact h x hx
 ·obtain ⟨k,-,rfl⟩:=List.mem_map.mp q
  trivial
section
variable {b : Nat} {x0 x1 x2 x3 x4 x5 x6 x7 x8 x9 x10 x11 x12 x13 x14 x15 x16 x17 x18 x19 x20 x21: Option U}
theorem ev_scopes (w : WF st) {rs : List Rw} (hrl : rs.length ≤ 5) {xs : List Str} (hx : xs.length = 3) : (f2 oAdd (f2 oAdd (fN vLst (fCons (fTup (fCons (vC (.str "all")) (fCons (vC (.str "")) fNil))) fNil)) (c_law_1 K a)) (c_law_2 K a)) [x0,x1,x2,some (.d (.lst (rs.map rwD))),some (.d (.lst (sD xs))),x5,x6,x7,x8,x9,x10,x11,x12,x13,x14,x15,x16,x17,x18,x19,x20,x21] st = .ok (.d (.lst ((scsOf xs rs.length).map Sc.d))) st:=by
 have e1 : c_law_1 K a [x0,x1,x2,some (.d (.lst (rs.map rwD))),some (.d (.lst (sD xs))),x5,x6,x7,x8,x9,x10,x11,x12,x13,x14,x15,x16,x17,x18,x19,x20,x21] st = .ok (.d (.lst (xs.map fun x=>(Sc.sec x).d))) st:=by
  unfold c_law_1
  have hfi : fIter (vVar 4) [x0,x1,x2,some (.d (.lst (rs.map rwD))),some (.d (.lst (sD xs))),x5,x6,x7,x8,x9,x10,x11,x12,x13,x14,x15,x16,x17,x18,x19,x20,x21] st = .ok (.lst (xs.map fun x=>U.d (.str x))) st:=by
   have:=iterA (fx:=vVar 4) (ds:=sD xs) (env:=[x0,x1,x2,some (.d (.lst (rs.map rwD))),some (.d (.lst (sD xs))),x5,x6,x7,x8,x9,x10,x11,x12,x13,x14,x15,x16,x17,x18,x19,x20,x21]) (s:=st) (s1:=st) rfl
   unfold sD at this
   rw [List.map_map] at this
   exact this
  exact lc_eq1 (tg:=tgN 7) (tt:=tYesB) (fe:=(fTup (fCons (vC (.str "section")) (fCons (vVar 7) fNil)))) (vs:=[7]) (f:=fun x : Str=>U.d (.str x)) xs (fun x=>(Sc.sec x).d) w (by rw [hx]; decide) hfi fun x hx acc=>LcT (env1:=[x0,x1,x2,some (.d (.lst (rs.map rwD))),some (.d (.lst (sD xs))),x5,x6,some (.d (.str x)),x8,x9,x10,x11,x12,x13,x14,x15,x16,x17,x18,x19,x20,x21]) rfl rfl (tupA (ds:=[.str "section",.str x]) (consA rfl (cons1 rfl)) (by show 2 ≤ sizeLine; decide))
 have e2 : c_law_2 K a [x0,x1,x2,some (.d (.lst (rs.map rwD))),some (.d (.lst (sD xs))),x5,x6,x7,x8,x9,x10,x11,x12,x13,x14,x15,x16,x17,x18,x19,x20,x21] st = .ok (.d (.lst ((List.range rs.length).map fun k=>(Sc.set k).d))) st:=by
  unfold c_law_2
  have hfi : fItN itR (fCons (fB (pu oLen) (fCons (vVar 3) fNil)) fNil) [x0,x1,x2,some (.d (.lst (rs.map rwD))),some (.d (.lst (sD xs))),x5,x6,x7,x8,x9,x10,x11,x12,x13,x14,x15,x16,x17,x18,x19,x20,x21] st = .ok (.lst ((List.range rs.length).map fun k=>U.d (.int (0 + (k : Nat))))) st :=
   fItN_ok (us:=[.d (.int (((rs.map rwD).length : Nat) : Int))]) (cons1 (puA (cons1 rfl) (oLenD _ (by rw [List.length_map]; omega)))) (by rw [List.length_map]; exact itR_eq (by omega))
  exact lc_eq1 (tg:=tgN 8) (tt:=tYesB) (fe:=(fTup (fCons (vC (.str "setting")) (fCons (vVar 8) fNil)))) (vs:=[8]) (f:=fun k : Nat=>U.d (.int (0 + (k : Nat)))) (List.range rs.length) (fun k=>(Sc.set k).d) w (by rw [List.length_range]; exact Nat.le_trans hrl (by decide)) hfi fun k hk acc=>LcT (env1:=[x0,x1,x2,some (.d (.lst (rs.map rwD))),some (.d (.lst (sD xs))),x5,x6,x7,some (.d (.int (0 + (k : Nat)))),x9,x10,x11,x12,x13,x14,x15,x16,x17,x18,x19,x20,x21]) rfl rfl (by rw [Int.zero_add]; exact tupA (ds:=[.str "setting",.int (k : Nat)]) (consA rfl (cons1 rfl)) (by show 2 ≤ sizeLine; decide))
 refine (show _ = VL.R.ok (U.d (D.lst (([Sc.all.d] ++ xs.map fun x=>(Sc.sec x).d) ++ (List.range rs.length).map fun k=>(Sc.set k).d))) st from f2A (f2A (lstDA (ds:=[Sc.all.d]) (cons1 (tupA (ds:=[.str "all",.str ""]) (consA rfl (cons1 rfl)) (by show 2 ≤ sizeLine; decide))) (by show 1 ≤ sizeLine; decide)) e1 (oAddLL (by rw [List.length_map,hx]; show 1 + 3 ≤ 100; decide))) e2 (oAddLL (by rw [List.length_append,List.length_map,List.length_map,List.length_range,hx]; show 1 + 3 + _ ≤ 100; omega))).trans ?_
 unfold scsOf
 rw [List.map_append,List.map_append,List.map_map,List.map_map]
 rfl
theorem ev_words (w : WF st) {rs : List Rw} (hrl : rs.length ≤ 5) : c_law_4 K a [x0,x1,x2,some (.d (.lst (rs.map rwD))),x4,x5,x6,x7,x8,x9,x10,x11,x12,x13,x14,x15,x16,x17,x18,x19,x20,x21] st = .ok (.d (.lst (sD (rs.map (·.w))))) st:=by
 unfold c_law_4
 have hfi : fIter (vVar 3) [x0,x1,x2,some (.d (.lst (rs.map rwD))),x4,x5,x6,x7,x8,x9,x10,x11,x12,x13,x14,x15,x16,x17,x18,x19,x20,x21] st = .ok (.lst (rs.map fun r=>U.d (rwD r))) st:=by
  have:=iterA (fx:=vVar 3) (ds:=rs.map rwD) (env:=[x0,x1,x2,some (.d (.lst (rs.map rwD))),x4,x5,x6,x7,x8,x9,x10,x11,x12,x13,x14,x15,x16,x17,x18,x19,x20,x21]) (s:=st) (s1:=st) rfl
  rw [List.map_map] at this
  exact this
 have:=lc_eq1 (tg:=tgN 19) (tt:=tYesB) (fe:=(f2 oIx (vVar 19) (vC (.int 1)))) (vs:=[19]) (f:=fun r : Rw=>U.d (rwD r)) rs (fun r=>D.str r.w) w (Nat.le_trans hrl (by decide)) hfi fun r hr acc=>LcT (env1:=[x0,x1,x2,some (.d (.lst (rs.map rwD))),x4,x5,x6,x7,x8,x9,x10,x11,x12,x13,x14,x15,x16,x17,x18,some (.d (rwD r)),x20,x21]) rfl rfl (f2A rfl rfl rfl)
 rw [this]
 unfold sD
 rw [List.map_map]
 rfl
end
theorem stT_ne {P Q : List PyData} {x y : Int} (h : x ≠ y) : PyData.eqv (.tuple (.int x :: P)) (.tuple (.int y :: Q)) = false:=by
 rw [eqv_tup,eqv_cons,eqv_int,beq_eq_false_iff_ne.mpr h,Bool.false_and]
section
variable {b : Nat} {x0 x1 x2 x3 x4 x5 x6 x7 x8 x9 x10 x11 x12 x13 x14 x15 x16 x17 x18 x19 x20 x21: Option U}
theorem ev_end (kx : Kx K a) (w : WF st) {rs : List Rw} (hr : ∀ r ∈ rs,RwOk r) (hrl : rs.length ≤ 5) {old : Nat} (ho : old < 10) {L B : List It} (hL : ∀ i ∈ L,ItOk i) (hn : (L.map (·.1)).Nodup) (hp : B.Perm L) (hz : L.length ≤ 20) {q : Nat} (hq : st[q]? = some (.lst ((B.map itD).map U.d))) :
  ∃ y18 y20 y21 : Option U,(sSeq (sAsg (c_law_4 K a) (tgN 18))
  (sSeq (sAsg (fN vLst (fCons (fB (pu oStr) (fCons (vVar 5) fNil)) (fCons (fB (pu oStr) (fCons (fM "list" (pu4 mCount) (vVar 18) (fCons (vC (.str "own")) fNil)) fNil)) (fCons (fB (pu oStr) (fCons (fM "list" (pu4 mCount) (vVar 18) (fCons (vC (.str "held")) fNil)) fNil)) fNil)))) (tgN 20))
  (sSeq (sIf (asB (f2 oNe (fB (oReprO a.C_State (m_State___repr__ K a)) (fCons (vVar 9) fNil)) (f2 oAdd (f2 oAdd (f2 oAdd (f2 oAdd (f2 oAdd (f2 oAdd (vC (.str "State(")) (f2 oIx (vVar 20) (vC (.int 0)))) (vC (.str ", "))) (f2 oIx (vVar 20) (vC (.int 1)))) (vC (.str " own, "))) (f2 oIx (vVar 20) (vC (.int 2)))) (vC (.str " held)")))))
  (sRet (vC (.bl false)))
  sNil)
  (sSeq (sIf (bOr (asB (f2s (neM a.C_State eqTys (m_State___eq__ K a)) (fWr wFrz (fMake a.C_State 2 1 (gPl (.d .non) [.p 0,.p 1,.p 2,.k 0] []) (m_State_init K a) (fCW (fCons (vVar 5) (fCons (vVar 3) fNil)) (fCons (vVar 17) fNil)))) (vVar 9))) (asB (f2s (eqM a.C_State eqTys (m_State___eq__ K a)) (fWr wFrz (fMake a.C_State 2 1 (gPl (.d .non) [.p 0,.p 1,.p 2,.k 0] []) (m_State_init K a) (fCW (fCons (f2 oAdd (vVar 5) (vC (.int 1))) (fCons (vVar 3) fNil)) (fCons (vVar 17) fNil)))) (vVar 9))))
  (sRet (vC (.bl false)))
  sNil)
  (sSeq (sFor (fIter (fN vLst (fCons (vC (.str "OWN")) (fCons (vC (.str "")) (fCons (vC (.bl true)) (fCons (vC (.int 0)) (fCons (fTup (fCons (vC (.str "own")) fNil)) (fCons (fN vLst (fCons (vC (.str "own")) fNil)) (fCons (vC (.str "held")) fNil))))))))) (tgN 21) (b_law_3 K a))
  (sIf (bOr (asB (f2s (eqM a.C_State eqTys (m_State___eq__ K a)) (vVar 9) (fFld [a.C_State] "rules" (vVar 9)))) (bOr (asB (f2s (eqM a.C_State eqTys (m_State___eq__ K a)) (vVar 9) (vC .non))) (bOr (asB (f2s (eqM a.C_State eqTys (m_State___eq__ K a)) (vVar 9) (fB (pu oList) (fCons (fFld [a.C_State] "rows" (vVar 9)) fNil)))) (asB (f2s (eqM a.C_State eqTys (m_State___eq__ K a)) (vVar 9) (fB (oReprO a.C_State (m_State___repr__ K a)) (fCons (vVar 9) fNil)))))))
  (sRet (vC (.bl false)))
  sNil)))))) [x0,x1,x2,some (.d (.lst (rs.map rwD))),x4,some (.d (.int (old : Nat))),x6,x7,x8,some (.d (stS a (.int (old : Nat)) (rs.map rwD) (sortI L))),x10,x11,x12,x13,x14,x15,x16,some (.ref q),x18,x19,x20,x21] st = .ok [x0,x1,x2,some (.d (.lst (rs.map rwD))),x4,some (.d (.int (old : Nat))),x6,x7,x8,some (.d (stS a (.int (old : Nat)) (rs.map rwD) (sortI L))),x10,x11,x12,x13,x14,x15,x16,some (.ref q),y18,x19,y20,y21] .nx st:=by
 have hnB : (B.map (·.1)).Nodup:=(hp.map _).nodup_iff.mpr hn
 have hsB : sortI B = sortI L:=sortI_eq hnB hp
 have hBl : B.length ≤ 20:=by rw [hp.length_eq]; exact hz
 have hws : ∀ x ∈ rs.map (·.w),PyData.strOk x = true:=fun x hx=>by
  obtain ⟨r,hr',rfl⟩:=List.mem_map.mp hx
  exact (hr r hr').w
 have lo:=cntW_le (rs.map (·.w)) "own"
 have lh:=cntW_le (rs.map (·.w)) "held"
 rw [List.length_map] at lo lh
 have er:=ev_strepr (K:=K) (a:=a) (st:=st) w hr hrl (t:=old) (by omega) (R:=sortI L)
 have ew:=ev_words (K:=K) (a:=a) (x0:=x0) (x1:=x1) (x2:=x2) (x4:=x4) (x5:=some (.d (.int (old : Nat)))) (x6:=x6) (x7:=x7) (x8:=x8) (x9:=some (.d (stS a (.int (old : Nat)) (rs.map rwD) (sortI L)))) (x10:=x10) (x11:=x11) (x12:=x12) (x13:=x13) (x14:=x14) (x15:=x15) (x16:=x16) (x17:=some (.ref q)) (x18:=x18) (x19:=x19) (x20:=x20) (x21:=x21) w hrl
 have c1:=cnt_W (st:=st) (z:="own") hws (by decide +kernel)
 have c2:=cnt_W (st:=st) (z:="held") hws (by decide +kernel)
 generalize cntW (rs.map (·.w)) "own" = no at *
 generalize cntW (rs.map (·.w)) "held" = nh at *
 generalize sD (rs.map (·.w)) = W at *
 obtain ⟨t1,t2⟩:=num_ok ⟨old,by omega⟩
 obtain ⟨o1,o2⟩:=num_ok ⟨no,by omega⟩
 obtain ⟨h1,h2⟩:=num_ok ⟨nh,by omega⟩
 simp only at t1 t2 o1 o2 h1 h2
 have l1 : ("State(" : Str).length = 6:=by decide +kernel
 have l2 : (", " : Str).length = 2:=by decide +kernel
 have l3 : (" own, " : Str).length = 6:=by decide +kernel
 have l4 : (" held)" : Str).length = 6:=by decide +kernel
 have sS : ∀ i : Int,i.natAbs.log2 < 1920 → oStr [.d (.int i)] st = some (.d (.str (Str.ofString (toString i)))):=fun i hi=>if_pos hi
 have hst : ∀ {x : Int} {e : VEnv} {fx : F U},fx e st = .ok (.d (.int x)) st → e[3]? = some (some (.d (.lst (rs.map rwD)))) → e[17]? = some (some (.ref q)) → fWr wFrz (fMake a.C_State 2 1 (gPl (.d .non) [.p 0,.p 1,.p 2,.k 0] []) (m_State_init K a) (fCW (fCons fx (fCons (vVar 3) fNil)) (fCons (vVar 17) fNil))) e st = .ok (.d (stS a (.int x) (rs.map rwD) (sortI L))) st:=fun {x e fx} h3 h4 h5=>by
  have v3 : vVar 3 e st = .ok (.d (.lst (rs.map rwD))) st:=by unfold vVar; rw [h4]
  have v17 : vVar 17 e st = .ok (.ref q) st:=by unfold vVar; rw [h5]
  have:=ev_state (K:=K) (a:=a) (env:=e) w (t:=.int x) (ru:=.d (.lst (rs.map rwD))) (qu:=.ref q) (k:=2) (m:=1) (gU:=(gPl (.d .non) [.p 0,.p 1,.p 2,.k 0] [])) (fc:=(fCW (fCons fx (fCons (vVar 3) fNil)) (fCons (vVar 17) fNil))) (us:=[.d (.int x),.d (.lst (rs.map rwD))]) (ws:=[.ref q]) (rows:=rs.map rwL) (ds:=B.map itD) (ds':=(sortI B).map itD) (cwA (consA h3 (cons1 v3)) (cons1 v17)) ⟨rfl,rfl⟩ (fun r=>rfl) (by rw [List.length_map]; omega) (fun o=>by rw [rows_tup]; rfl) (fun o=>by
    have : (st ++ [o])[q]? = some (.lst ((B.map itD).map U.d)):=app_at hq
    unfold itemsU getL
    simp only [this]) (by rw [List.length_map]; omega) (sort_it _)
  rw [hsB,← rows_tup] at this
  exact this
 have dS:=stT_dt hr (sort_ok hL) ((old : Nat) : Int)
 have dS1:=stT_dt hr (sort_ok hL) (((old : Nat) : Int) + 1)
 have eqA:=(eqM_st (ev_steq (K:=K) (a:=a) (n:=6) (by decide) w dS dS)).2
 rw [dS.refl] at eqA
 have eqB:=(eqM_st (ev_steq (K:=K) (a:=a) (n:=6) (by decide) w dS1 dS)).1
 rw [stT_ne (by omega)] at eqB
 have hstO : ∀ {e : VEnv} {fx : F U},fx e st = .ok (.d (.int ((old : Nat) : Int))) st → e[3]? = some (some (.d (.lst (rs.map rwD)))) → e[17]? = some (some (.ref q)) → fWr wFrz (fMake a.C_State 2 1 (gPl (.d .non) [.p 0,.p 1,.p 2,.k 0] []) (m_State_init K a) (fCW (fCons fx (fCons (vVar 3) fNil)) (fCons (vVar 17) fNil))) e st = .ok (.d (stS a (.int ((old : Nat) : Int)) (rs.map rwD) (sortI L))) st:=fun h3 h4 h5=>hst h3 h4 h5
 generalize hS : stS a (.int (old : Nat)) (rs.map rwD) (sortI L) = S at *
 have oth : ∀ {x : D},Oth x → eqM a.C_State eqTys (m_State___eq__ K a) (.d S) (.d x) st = .ok (.d (.bl false)) st:=fun {x} h=>by rw [← hS]; exact h.eq kx w
 have fru : oFld [a.C_State] "rules" (.d S) st = some (.d (.tup ((sortI L).map itD))):=by rw [← hS]; exact fld_rules _ _ _
 have fro : oFld [a.C_State] "rows" (.d S) st = some (.d (.tup (rs.map rwD))):=by rw [← hS]; exact fld_rows _ _ _
 have erp : ∀ {e : VEnv},e[9]? = some (some (.d S)) → fB (oReprO a.C_State (m_State___repr__ K a)) (fCons (vVar 9) fNil) e st = .ok (.d (.str (rpS old no nh))) st:=fun {e} h9=>by
  have v9 : vVar 9 e st = .ok (.d S) st:=by unfold vVar; rw [h9]
  refine fBA (cons1 v9) ?_
  have hi : insU st (.d S) = some (a.C_State,[(("release" : Str),U.d (.int (old : Nat))),(("rows" : Str),U.d (.tup (rs.map rwD))),(("rules" : Str),U.d (.tup ((sortI L).map itD)))]):=by rw [← hS]; exact ins_st _ _ _ _
  unfold oReprO
  simp only [hi,if_true,er]
 let T : D:=.lst [.str (Str.ofString (toString ((old : Nat) : Int))),.str (Str.ofString (toString ((no : Nat) : Int))),.str (Str.ofString (toString ((nh : Nat) : Int)))]
 have hcnt : ∀ {fx : F U} {env : VEnv} {z : Str} {n : Nat},fx env st = .ok (.d (.lst W)) st → mCount (.d (.lst W)) [.d (.str z)] st = some (.d (.int (n : Nat))) → fM "list" (pu4 mCount) fx (fCons (vC (.str z)) fNil) env st = .ok (.d (.int (n : Nat))) st:=fun {fx env z n} h hc =>
  fMA h rfl (cons1 rfl) (by simp only [pu4,hc,Option.map_some])
 have hbad : ∀ x ∈ ([.str "OWN",.str "",.bl true,.int 0,.tup [.str "own"],.lst [.str "own"],.str "held"] : List D),Bad x:=fun x hx=>by
  simp only [List.mem_cons,List.not_mem_nil,or_false] at hx
  rcases hx with rfl | rfl | rfl | rfl | rfl | rfl | rfl
  ·exact .a
  ·exact .b
  ·exact .c
  ·exact .d
  ·exact .e
  ·exact .f
  ·exact .g
 obtain ⟨env',s',el,⟨y21,rfl,rfl⟩⟩:=loopI (n:=21) (g:=b_law_3 K a) (fun env s=>∃ y21 : Option U,env = [x0,x1,x2,some (.d (.lst (rs.map rwD))),x4,some (.d (.int (old : Nat))),x6,x7,x8,some (.d S),x10,x11,x12,x13,x14,x15,x16,some (.ref q),some (.d (.lst W)),x19,some (.d T),y21] ∧ s = st) (([.str "OWN",.str "",.bl true,.int 0,.tup [.str "own"],.lst [.str "own"],.str "held"] : List D).map U.d) (fun u hu env s ⟨y,he,h2⟩=>by
  subst he h2
  obtain ⟨x,hx,rfl⟩:=List.mem_map.mp hu
  have:=ev_refused (K:=K) (a:=a) (t:=.int (old : Nat)) (rows:=rs.map rwD) (R:=sortI L) kx w (hbad x hx)
  rw [hS] at this
  exact ⟨_,_,ifF (bNotA (k:=true) (asTA (callA (consA rfl (cons1 rfl)) rfl this) rfl)) rfl,_,rfl,rfl⟩) [x0,x1,x2,some (.d (.lst (rs.map rwD))),x4,some (.d (.int (old : Nat))),x6,x7,x8,some (.d S),x10,x11,x12,x13,x14,x15,x16,some (.ref q),some (.d (.lst W)),x19,some (.d T),x21] st ⟨_,rfl,rfl⟩
 refine ⟨some (.d (.lst W)),some (.d T),y21,?_⟩
 refine seqA ew ?_
 refine seqA (lstDA (ds:=[.str (Str.ofString (toString ((old : Nat) : Int))),.str (Str.ofString (toString ((no : Nat) : Int))),.str (Str.ofString (toString ((nh : Nat) : Int)))]) (consA (puA (cons1 rfl) (sS _ t2)) (consA (puA (cons1 (hcnt rfl c1)) (sS _ o2)) (cons1 (puA (cons1 (hcnt rfl c2)) (sS _ h2))))) (by show 3 ≤ sizeLine; decide)) ?_
 refine seqG (ifF (asBA (f2A (erp rfl) (f2A (f2A (f2A (f2A (f2A (f2A rfl (f2A rfl rfl rfl) (oAddS (by omega))) rfl (oAddS (by simp only [len_app]; omega))) (f2A rfl rfl rfl) (oAddS (by simp only [len_app]; omega))) rfl (oAddS (by simp only [len_app]; omega))) (f2A rfl rfl rfl) (oAddS (by simp only [len_app]; omega))) rfl (oAddS (by simp only [len_app]; omega))) (oNe_ss _))) rfl) ?_
 refine seqG (ifF (bOrF (asBA (f2sA (hstO rfl rfl rfl) rfl eqA)) (asBA (f2sA (hst (f2A rfl rfl rfl) rfl rfl) rfl eqB))) rfl) ?_
 refine seqG ((sFor_lst (iterA (lstDA (ds:=[.str "OWN",.str "",.bl true,.int 0,.tup [.str "own"],.lst [.str "own"],.str "held"]) (consA rfl (consA rfl (consA rfl (consA rfl (consA (tupA (ds:=[.str "own"]) (cons1 rfl) (by show 1 ≤ sizeLine; decide)) (consA (lstDA (ds:=[.str "own"]) (cons1 rfl) (by show 1 ≤ sizeLine; decide)) (cons1 rfl))))))) (by show 7 ≤ sizeLine; decide)))).trans el) ?_
 exact ifF (bOrF (asBA (f2sA rfl (f1A rfl fru) (oth (.tup _)))) (bOrF (asBA (f2sA rfl rfl (oth .non))) (bOrF (asBA (f2sA rfl (puA (cons1 (f1A rfl fro)) (oListT _)) (oth (.lst _)))) (asBA (f2sA rfl (erp rfl) (oth (.str _))))))) rfl
end
theorem ev_at (kx : Kx K a) {ns : List Int} (hn : ns.length ≤ 63) {i : Nat} (hi : i < 64) (w : WF st) {x2 x3 x4 x5 x6 x7 x8 x9 x10 x11 x12 x13 x14 x15 x16 x17 x18 x19 x20 x21: Option U} : ∃ (y2 y3 y4 y5 y6 y9 y10 y11 y12 y13 y14 y16 y17 y18 y20 y21 : Option U) (st' : Store),b_law_4 K a [some (.d (.scr ns)),some (.d (.int (i : Nat))),x2,x3,x4,x5,x6,x7,x8,x9,x10,x11,x12,x13,x14,x15,x16,x17,x18,x19,x20,x21] st = .ok [some (.d (.scr ns)),some (.d (.int (i : Nat))),y2,y3,y4,y5,y6,x7,x8,y9,y10,y11,y12,y13,y14,x15,y16,y17,y18,x19,y20,y21] .nx st' ∧ WF st':=by
 obtain ⟨n,x,e0⟩:=ev_lbag (K:=K) (a:=a) w ns hn i hi
 have w0 : WF (st ++ [.lst [.d (.int n),.d (.int x)]]):=w.pushL [.int n,.int x]
 have b0 : Bag (st ++ [.lst [.d (.int n),.d (.int x)]]) st.length:=⟨n,x,new_at⟩
 obtain ⟨rs,s1,e1,hr,hrl,k1⟩:=ev_lrows (K:=K) (a:=a) w0 b0
 obtain ⟨xs,s2,e2,hx,k2⟩:=ev_lnames (K:=K) (a:=a) k1.wf k1.bag (m:=3) (by decide)
 obtain ⟨old,s3,e3,ho,k3⟩:=ev_ltake (K:=K) (a:=a) k2.wf k2.bag (m:=7) (by decide) (by decide)
 have hxo : ∀ z ∈ xs,PyData.strOk z = true:=fun z hz=>nm_strOk (hx.2.2 z hz)
 have es:=ev_scopes (K:=K) (a:=a) (x0:=some (.d (.scr ns))) (x1:=some (.d (.int (i : Nat)))) (x2:=some (.ref st.length)) (x5:=some (.d (.int (old : Nat)))) (x6:=x6) (x7:=x7) (x8:=x8) (x9:=x9) (x10:=x10) (x11:=x11) (x12:=x12) (x13:=x13) (x14:=x14) (x15:=x15) (x16:=x16) (x17:=x17) (x18:=x18) (x19:=x19) (x20:=x20) (x21:=x21) k3.wf hrl hx.1
 have hsl : 1 ≤ (scsOf xs rs.length).length ∧ (scsOf xs rs.length).length ≤ 20:=by
  have h3:=hx.1
  unfold scsOf
  rw [List.length_append,List.length_append,List.length_map,List.length_map,List.length_range,List.length_singleton]
  omega
 have hso:=scs_ok (n:=rs.length) hxo
 generalize scsOf xs rs.length = SC at *
 have est:=ev_state (K:=K) (a:=a) (st:=s3) (env:=[some (.d (.scr ns)),some (.d (.int (i : Nat))),some (.ref st.length),some (.d (.lst (rs.map rwD))),some (.d (.lst (sD xs))),some (.d (.int (old : Nat))),some (.d (.lst (SC.map Sc.d))),x7,x8,x9,x10,x11,x12,x13,x14,x15,x16,x17,x18,x19,x20,x21]) k3.wf (t:=.int (old : Nat)) (ru:=.d (.lst (rs.map rwD))) (qu:=.d (.tup [])) (k:=2) (m:=0) (gU:=(gPl (.d .non) [.p 0,.p 1,.p 2,.e 0] [.d (.tup [])])) (fc:=(fCW (fCons (vVar 5) (fCons (vVar 3) fNil)) fNil)) (us:=[.d (.int (old : Nat)),.d (.lst (rs.map rwD))]) (ws:=[]) (rows:=rs.map rwL) (ds:=[]) (ds':=[]) (cwA (consA rfl (cons1 rfl)) rfl) ⟨rfl,rfl⟩ (fun r=>rfl) (by rw [List.length_map]; omega) (fun o=>by rw [rows_tup]; rfl) (fun o=>rfl) (by decide) (by have:=sort_it []; unfold sortI at this; rw [List.mergeSort_nil] at this; exact this)
 rw [← rows_tup] at est
 have hS0 : (D.ins a.C_State [("release",.int (old : Nat)),("rows",.tup (rs.map rwD)),("rules",.tup [])]) = stS a (.int (old : Nat)) (rs.map rwD) (sortI []):=by
  unfold stS sortI
  rw [List.mergeSort_nil]
  rfl
 rw [hS0] at est
 -- the tuple
 have w4 : WF (s3 ++ [.kdc a.w []]):=k3.wf.push rfl
 have w5 : WF (s3 ++ [.kdc a.w []] ++ [.tup [.d (stS a (.int (old : Nat)) (rs.map rwD) (sortI [])),.ref s3.length]]):=w4.push (by
  have h1 : s3.length < (s3 ++ [O.kdc a.w []]).length + 1:=by rw [List.length_append,List.length_singleton]; omega
  simp [okO,okU]
  omega)
 have j5 : Jt a (s3 ++ [.kdc a.w []] ++ [.tup [.d (stS a (.int (old : Nat)) (rs.map rwD) (sortI [])),.ref s3.length]]) st.length s3.length [] :=
  ⟨w5,(k3.bag.push _).push _,app_at new_at,List.nodup_nil,nofun⟩
 have et : fTup (fCons (fWr wFrz (fMake a.C_State 2 0 (gPl (.d .non) [.p 0,.p 1,.p 2,.e 0] [.d (.tup [])]) (m_State_init K a) (fCW (fCons (vVar 5) (fCons (vVar 3) fNil)) fNil))) (fCons (fKdc a.w) fNil)) [some (.d (.scr ns)),some (.d (.int (i : Nat))),some (.ref st.length),some (.d (.lst (rs.map rwD))),some (.d (.lst (sD xs))),some (.d (.int (old : Nat))),some (.d (.lst (SC.map Sc.d))),x7,x8,x9,x10,x11,x12,x13,x14,x15,x16,x17,x18,x19,x20,x21] s3 = .ok (.ref (s3 ++ [O.kdc a.w []]).length) (s3 ++ [.kdc a.w []] ++ [.tup [.d (stS a (.int (old : Nat)) (rs.map rwD) (sortI [])),.ref s3.length]]) :=
  tupCA (consA est (cons1 rfl)) rfl (by show 2 ≤ sizeLine; decide)
 have hun : unp (s3 ++ [.kdc a.w []] ++ [.tup [.d (stS a (.int (old : Nat)) (rs.map rwD) (sortI [])),.ref s3.length]]) (.ref (s3 ++ [O.kdc a.w []]).length) = some [.d (stS a (.int (old : Nat)) (rs.map rwD) (sortI [])),.ref s3.length]:=by
  have h:=new_at (st:=s3 ++ [O.kdc a.w []]) (o:=.tup [.d (stS a (.int (old : Nat)) (rs.map rwD) (sortI [])),.ref s3.length])
  have hg : getL (s3 ++ [.kdc a.w []] ++ [.tup [.d (stS a (.int (old : Nat)) (rs.map rwD) (sortI [])),.ref s3.length]]) (.ref (s3 ++ [O.kdc a.w []]).length) = none:=by
   unfold getL
   simp only [h]
  unfold unp
  simp only [h,hg]
 generalize s3 ++ [.kdc a.w []] ++ [.tup [.d (stS a (.int (old : Nat)) (rs.map rwD) (sortI [])),.ref s3.length]] = s4 at *
 obtain ⟨tn,s5,e5,htn,k5⟩:=ev_ltake (K:=K) (a:=a) j5.wf j5.bag (m:=13) (by decide) (by decide)
 obtain ⟨d',L',y11,y12,y13,y14,s6,e6,j6,hl6⟩:=ev_turns (K:=K) (a:=a) (b:=st.length) (x0:=some (.d (.scr ns))) (x1:=some (.d (.int (i : Nat)))) (x4:=some (.d (.lst (sD xs)))) (x7:=x7) (x8:=x8) (x15:=x15) (x16:=x16) (x17:=x17) (x18:=x18) (x19:=x19) (x20:=x20) (x21:=x21) hr hrl hso hsl (old:=old) ((List.range tn).map fun i=>U.d (.int (((0 + i : Nat)) : Int))) [] s3.length s5 x11 x12 x13 x14 (j5.fb k5) (by rw [List.length_map,List.length_range,List.length_nil]; omega)
 have w7 : WF (s6 ++ [.lst (((sortI L').map itD).map U.d)] ++ [.lst []]):=(j6.wf.pushL _).pushL []
 have b7 : Bag (s6 ++ [.lst (((sortI L').map itD).map U.d)] ++ [.lst []]) st.length:=(j6.bag.push _).push _
 have hb6:=j6.bag.lt
 have hl7 : (s6 ++ [O.lst (((sortI L').map itD).map U.d)]).length = s6.length + 1:=by rw [List.length_append,List.length_singleton]
 have hsl6 : (sortI L').length = L'.length:=(sortI_perm L').length_eq
 obtain ⟨B,s8,e8,hq,hp,w8,b8⟩:=ev_shuf (K:=K) (a:=a) (b:=st.length) (i:=s6.length) (j:=(s6 ++ [O.lst (((sortI L').map itD).map U.d)]).length) (x0:=some (.d (.scr ns))) (x1:=some (.d (.int (i : Nat)))) (x3:=some (.d (.lst (rs.map rwD)))) (x4:=some (.d (.lst (sD xs)))) (x5:=some (.d (.int (old : Nat)))) (x6:=some (.d (.lst (SC.map Sc.d)))) (x7:=x7) (x8:=x8) (x9:=some (.d (stS a (.int (old : Nat)) (rs.map rwD) (sortI L')))) (x10:=some (.ref d')) (x11:=y11) (x12:=y12) (x13:=y13) (x14:=y14) (x15:=x15) (x18:=x18) (x19:=x19) (x20:=x20) (x21:=x21) (by omega) (by omega) (by omega) 100 (sortI L') [] (s6 ++ [.lst (((sortI L').map itD).map U.d)] ++ [.lst []]) (by omega) (sort_ok j6.ok) (app_at new_at) new_at (by rw [List.length_nil]; omega) w7 b7
 rw [List.nil_append] at hp
 obtain ⟨y18,y20,y21,e9⟩:=ev_end (K:=K) (a:=a) (x0:=some (.d (.scr ns))) (x1:=some (.d (.int (i : Nat)))) (x2:=some (.ref st.length)) (x4:=some (.d (.lst (sD xs)))) (x6:=some (.d (.lst (SC.map Sc.d)))) (x7:=x7) (x8:=x8) (x10:=some (.ref d')) (x11:=y11) (x12:=y12) (x13:=y13) (x14:=y14) (x15:=x15) (x16:=some (.ref s6.length)) (x18:=x18) (x19:=x19) (x20:=x20) (x21:=x21) kx w8 hr hrl (old:=old) (by omega) (L:=L') (B:=B) j6.ok j6.nd (hp.trans (sortI_perm L')) (by omega) hq
 refine ⟨some (.ref st.length),some (.d (.lst (rs.map rwD))),some (.d (.lst (sD xs))),some (.d (.int (old : Nat))),some (.d (.lst (SC.map Sc.d))),some (.d (stS a (.int (old : Nat)) (rs.map rwD) (sortI L'))),some (.ref d'),y11,y12,y13,y14,some (.ref s6.length),some (.ref (s6 ++ [O.lst (((sortI L').map itD).map U.d)]).length),y18,y20,y21,s8,?_,w8⟩
 unfold b_law_4
 refine seqA (callA (consA rfl (cons1 rfl)) rfl e0) ?_
 refine seqG (par3A (consA (callA (cons1 rfl) rfl e1) (consA (callA (consA rfl (cons1 rfl)) rfl e2) (cons1 (callA (consA rfl (cons1 rfl)) rfl e3))))) ?_
 refine seqA es ?_
 refine seqG (asgT et (by unfold tgT; simp only [hun]; rfl)) ?_
 refine seqG ((sFor_lst (fItN_ok (us:=[.d (.int (tn : Nat))]) (cons1 (callA (consA rfl (cons1 rfl)) rfl e5)) (itRn (by omega)))).trans e6) ?_
 refine seqG (parA (consA (sortKIC_R rfl j6.due (by omega)) (cons1 (lstA (us:=[]) rfl (by decide))))) ?_
 exact seqG e8 e9
theorem minmax24 (L : Nat) : (if (if ((L : Nat) : Int) < 4 then ((L : Nat) : Int) else 4) > 2 then (if ((L : Nat) : Int) < 4 then ((L : Nat) : Int) else 4) else 2) = ((max 2 (min 4 L) : Nat) : Int):=by
 split <;> split <;> omega
theorem ev_ats (kx : Kx K a) {ns : List Int} (hn : ns.length ≤ 63) : ∀ (n k : Nat) (x1 x2 x3 x4 x5 x6 x7 x8 x9 x10 x11 x12 x13 x14 x15 x16 x17 x18 x19 x20 x21: Option U) (st : Store),n + k ≤ 64 → WF st →
  ∃ e' st',loopL (tgN 1) (b_law_4 K a) ((List.range n).map fun i=>U.d (.int (((k + i : Nat)) : Int))) [some (.d (.scr ns)),x1,x2,x3,x4,x5,x6,x7,x8,x9,x10,x11,x12,x13,x14,x15,x16,x17,x18,x19,x20,x21] st = .ok e' .nx st' ∧ WF st'
 | 0,k,x1,x2,x3,x4,x5,x6,x7,x8,x9,x10,x11,x12,x13,x14,x15,x16,x17,x18,x19,x20,x21,st,_,w=>⟨_,_,rfl,w⟩
 | n + 1,k,x1,x2,x3,x4,x5,x6,x7,x8,x9,x10,x11,x12,x13,x14,x15,x16,x17,x18,x19,x20,x21,st,hi,w=>by
  obtain ⟨y2,y3,y4,y5,y6,y9,y10,y11,y12,y13,y14,y16,y17,y18,y20,y21,s1,e1,w1⟩:=ev_at (K:=K) (a:=a) kx hn (i:=k) (by omega) w (x2:=x2) (x3:=x3) (x4:=x4) (x5:=x5) (x6:=x6) (x7:=x7) (x8:=x8) (x9:=x9) (x10:=x10) (x11:=x11) (x12:=x12) (x13:=x13) (x14:=x14) (x15:=x15) (x16:=x16) (x17:=x17) (x18:=x18) (x19:=x19) (x20:=x20) (x21:=x21)
  obtain ⟨e',s2,e2,w2⟩:=ev_ats kx hn n (k + 1) (some (.d (.int (k : Nat)))) y2 y3 y4 y5 y6 x7 x8 y9 y10 y11 y12 y13 y14 x15 y16 y17 y18 x19 y20 y21 s1 (by omega) w1
  refine ⟨e',s2,?_,w2⟩
  rw [range_shift]
  exact loopN e1 e2
theorem law_ok : LawOk:=by
 intro K a kx ns hn
 obtain ⟨e',s1,e1,w1⟩:=ev_ats (K:=K) (a:=a) kx hn (max 2 (min 4 ns.length)) 0 none none none none none none none none none none none none none none none none none none none none none [] (by omega) WF.nil
 have hfi : fItN itR (fCons (fB (pu oMax) (fCons (vC (.int 2)) (fCons (fB (pu oMin) (fCons (vC (.int 4)) (fCons (fB (pu oLen) (fCons (vVar 0) fNil)) fNil))) fNil))) fNil) [some (.d (.scr ns)),none,none,none,none,none,none,none,none,none,none,none,none,none,none,none,none,none,none,none,none,none] [] = .ok (.lst ((List.range (max 2 (min 4 ns.length))).map fun i=>U.d (.int (((0 + i : Nat)) : Int)))) []:=by
  refine fItN_ok (us:=[.d (.int ((max 2 (min 4 ns.length) : Nat) : Int))]) ?_ (itRn (by omega))
  have:=minmax24 ns.length
  simp_all? only [List.length_map,this]
 refine ⟨[],?_⟩
 have main : g_law K a [some (.d (.scr ns)),none,none,none,none,none,none,none,none,none,none,none,none,none,none,none,none,none,none,none,none,none] [] = .ok e' (.rt (.d (.bl true))) s1:=by
  unfold g_law
  exact seqG ((sFor_lst hfi).trans e1) (retA rfl)
 have:=fnZ (us:=[.d (.scr ns)]) (n:=22) (g:=g_law K a) (s:=[]) (s1:=s1) WF.nil main
 exact this
end VL.K48
namespace VL.K48
open PySem PySem.Spec PyProof.Rows L2 VL VL.Hd
noncomputable def hl0 : List Str:=["_wall","OWN","SHIPPED","__name__","NoRule","HELD","WORDS","State","_law_bag","_law_take","_law_names","_law_refused","_law_rows"]
noncomputable def hl : List Str:=hl0
noncomputable def hn0 : List Str:=["State","NoRule","_law_bag","_law_take","_law_rows","_law_names","_law_refused","law","WORDS"]
noncomputable def hn : List Str:=hn0
noncomputable def ad (K : PySem.W.Frag) : AdR where
 C_State:=He.ga K "State"
 C_NoRule:=He.ga K "NoRule"
 f_L_law_bag:=(He.ga K "_law_bag")
 f_L_law_take:=(He.ga K "_law_take")
 f_L_law_rows:=(He.ga K "_law_rows")
 f_L_law_names:=(He.ga K "_law_names")
 f_State_init:=(He.ma K (He.ga K "State") "__init__")
 f_State_ruled:=(He.ma K (He.ga K "State") "ruled")
 f_State___eq__:=(He.ma K (He.ga K "State") "__eq__")
 f_State___repr__:=(He.ma K (He.ga K "State") "__repr__")
 f_L_law_refused:=(He.ga K "_law_refused")
 f_law:=(He.ga K "law")
 f_NoRule_init:=(He.ma K (He.ga K "NoRule") "__init__")
 E_State_init_rules:=kwE K (He.ma K (He.ga K "State") "__init__") "rules"
noncomputable def fb0 (K : PySem.W.Frag) : List Bool:=[decide (PySem.W.nsIn K mainGlobals "_law_bag" = some (some (.ref (ad K).f_L_law_bag))),
 codeB K (ad K).f_L_law_bag "_law_bag",
 decide (PySem.W.keepIn K (.ref (ad K).f_L_law_bag) = true),
 decide (PySem.W.nsIn K mainGlobals "_law_take" = some (some (.ref (ad K).f_L_law_take))),
 codeB K (ad K).f_L_law_take "_law_take",
 decide (PySem.W.keepIn K (.ref (ad K).f_L_law_take) = true),
 decide (PySem.W.nsIn K mainGlobals "_law_rows" = some (some (.ref (ad K).f_L_law_rows))),
 codeB K (ad K).f_L_law_rows "_law_rows",
 decide (PySem.W.keepIn K (.ref (ad K).f_L_law_rows) = true),
 decide (PySem.W.nsIn K mainGlobals "_law_names" = some (some (.ref (ad K).f_L_law_names))),
 codeB K (ad K).f_L_law_names "_law_names",
 decide (PySem.W.keepIn K (.ref (ad K).f_L_law_names) = true),
 decide (PySem.W.findIn K (.ref (ad K).C_State) "__init__" = some (some (.ref (ad K).f_State_init))),
 decide (PySem.W.isFn K (.ref (ad K).f_State_init) = true),
 codeB K (ad K).f_State_init "State.__init__",
 kwdB K (ad K).f_State_init,
 decide (PySem.W.nsIn K (kwdAt K (ad K).f_State_init) "rules" = some (some (.ref (ad K).E_State_init_rules))),
 tup0B K (ad K).E_State_init_rules,
 decide (PySem.W.keepIn K (.ref (ad K).f_State_init) = true),
 decide (PySem.W.findIn K (.ref (ad K).C_State) "ruled" = some (some (.ref (ad K).f_State_ruled))),
 decide (PySem.W.isFn K (.ref (ad K).f_State_ruled) = true),
 codeB K (ad K).f_State_ruled "State.ruled",
 decide (PySem.W.keepIn K (.ref (ad K).f_State_ruled) = true),
 decide (PySem.W.findIn K (.ref (ad K).C_State) "__eq__" = some (some (.ref (ad K).f_State___eq__))),
 decide (PySem.W.isFn K (.ref (ad K).f_State___eq__) = true)]
noncomputable def fb1 (K : PySem.W.Frag) : List Bool:=[codeB K (ad K).f_State___eq__ "State.__eq__",
 decide (PySem.W.keepIn K (.ref (ad K).f_State___eq__) = true),
 decide (PySem.W.findIn K (.ref (ad K).C_State) "__repr__" = some (some (.ref (ad K).f_State___repr__))),
 decide (PySem.W.isFn K (.ref (ad K).f_State___repr__) = true),
 codeB K (ad K).f_State___repr__ "State.__repr__",
 decide (PySem.W.keepIn K (.ref (ad K).f_State___repr__) = true),
 decide (PySem.W.nsIn K mainGlobals "_law_refused" = some (some (.ref (ad K).f_L_law_refused))),
 codeB K (ad K).f_L_law_refused "_law_refused",
 decide (PySem.W.keepIn K (.ref (ad K).f_L_law_refused) = true),
 decide (PySem.W.nsIn K mainGlobals "law" = some (some (.ref (ad K).f_law))),
 codeB K (ad K).f_law "law",
 decide (PySem.W.keepIn K (.ref (ad K).f_law) = true),
 excB K (ad K).C_NoRule [.type "TypeError",.type "Exception",.type "BaseException",.type "object"] "TypeError.__new__",
 decide (PySem.W.findIn K (.ref (ad K).C_NoRule) "__setattr__" = some (some (.builtin "object.__setattr__"))),
 decide (PySem.W.findIn K (.ref (ad K).C_NoRule) "__getattribute__" = some (some (.builtin "BaseException.__getattribute__"))),
 decide (PySem.W.findIn K (.ref (ad K).C_NoRule) "__getattr__" = some none),
 decide (PySem.W.findIn K (.ref (ad K).C_NoRule) "__init__" = some (some (.ref (ad K).f_NoRule_init))),
 decide (PySem.W.typeIn K (.ref (ad K).f_NoRule_init) = some (.type "function")),
 decide (PySem.W.findIn K (.ref (ad K).C_NoRule) "word" = some none),
 decide (PySem.W.subIn K (.ref (ad K).C_NoRule) (.type "BaseException") = some true),
 decide (PySem.W.typeIn K (.ref (ad K).C_NoRule) = some (.type "type")),
 decide (PySem.W.keepIn K (.ref (ad K).C_NoRule) = true),
 decide (PySem.W.hasDictIn K (ad K).C_NoRule = true),
 codeB K (ad K).f_NoRule_init "NoRule.__init__",
 decide (PySem.W.keepIn K (.ref (ad K).f_NoRule_init) = true)]
noncomputable def fb2 (K : PySem.W.Frag) : List Bool:=[decide (PySem.W.nsIn K mainGlobals "TypeError" = some none),
 decide (PySem.W.nsIn K mainGlobals "ValueError" = some none),
 decide (PySem.W.nsIn K mainGlobals "abs" = some none),
 decide (PySem.W.nsIn K mainGlobals "dict" = some none),
 decide (PySem.W.nsIn K mainGlobals "enumerate" = some none),
 decide (PySem.W.nsIn K mainGlobals "int" = some none),
 decide (PySem.W.nsIn K mainGlobals "isinstance" = some none),
 decide (PySem.W.nsIn K mainGlobals "len" = some none),
 decide (PySem.W.nsIn K mainGlobals "list" = some none),
 decide (PySem.W.nsIn K mainGlobals "max" = some none),
 decide (PySem.W.nsIn K mainGlobals "min" = some none),
 decide (PySem.W.nsIn K mainGlobals "range" = some none),
 decide (PySem.W.nsIn K mainGlobals "repr" = some none),
 decide (PySem.W.nsIn K mainGlobals "set" = some none),
 decide (PySem.W.nsIn K mainGlobals "sorted" = some none),
 decide (PySem.W.nsIn K mainGlobals "str" = some none),
 decide (PySem.W.nsIn K mainGlobals "tuple" = some none),
 strB K "HELD" "held",
 strB K "OWN" "own",
 gtsB K "WORDS" ["own","shipped"],
 decide (PySem.W.nsIn K mainGlobals "State" = some (some (.ref (ad K).C_State))),
 decide (PySem.W.plainGet K (ad K).C_State Str.empty = true),
 decide (PySem.W.hasDictIn K (ad K).C_State = true),
 decide (PySem.W.plainOver K (ad K).C_State = true),
 decide (PySem.W.findIn K (.ref (ad K).C_State) "__setattr__" = some (some (.builtin "object.__setattr__")))]
noncomputable def fb3 (K : PySem.W.Frag) : List Bool:=[decide (PySem.W.makesIn K (ad K).C_State = true),
 decide (PySem.W.keepIn K (.ref (ad K).C_State) = true),
 decide (PySem.W.findIn K (.ref (ad K).C_State) "release" = some none),
 decide (PySem.W.findIn K (.ref (ad K).C_State) "rows" = some none),
 decide (PySem.W.findIn K (.ref (ad K).C_State) "rules" = some none),
 decide (PySem.W.nsIn K mainGlobals "NoRule" = some (some (.ref (ad K).C_NoRule))),
 decide (PySem.W.findIn K (.ref (ad K).C_NoRule) "__class__" = some (some (.builtin "object.__class__"))),
 decide (PySem.W.specialIn K (.builtin "object.__class__") "__get__" = some (some (.builtin "getset_descriptor.__get__"))),
 decide (PySem.W.takesIn K (.builtin "object.__class__") = some true),
 decide (PySem.W.mroIn K (ad K).C_NoRule (.type "object") = some true),
 decide (PySem.W.subIn K (.type "NoneType") (.ref (ad K).C_State) = some false),
 decide (PySem.W.subIn K (.ref (ad K).C_State) (.type "NoneType") = some false),
 decide (PySem.W.subIn K (.type "bool") (.ref (ad K).C_State) = some false),
 decide (PySem.W.subIn K (.ref (ad K).C_State) (.type "bool") = some false),
 decide (PySem.W.subIn K (.type "int") (.ref (ad K).C_State) = some false),
 decide (PySem.W.subIn K (.ref (ad K).C_State) (.type "int") = some false),
 decide (PySem.W.subIn K (.type "str") (.ref (ad K).C_State) = some false),
 decide (PySem.W.subIn K (.ref (ad K).C_State) (.type "str") = some false),
 decide (PySem.W.subIn K (.type "list") (.ref (ad K).C_State) = some false),
 decide (PySem.W.subIn K (.ref (ad K).C_State) (.type "list") = some false),
 decide (PySem.W.subIn K (.type "tuple") (.ref (ad K).C_State) = some false),
 decide (PySem.W.subIn K (.ref (ad K).C_State) (.type "tuple") = some false),
 decide (PySem.W.findIn K (.ref (ad K).C_State) "__ne__" = some (some (.builtin "object.__ne__"))),
 decide (PySem.W.mroIn K (ad K).C_State (.type "object") = some true),
 decide (PySem.W.specialIn K (.builtin "object.__class__") "__get__" = some (some (.builtin "getset_descriptor.__get__")))]
noncomputable def fb4 (K : PySem.W.Frag) : List Bool:=[decide (PySem.W.takesIn K (.builtin "object.__class__") = some true),
 decide (PySem.W.findIn K (.ref (ad K).C_State) "__class__" = some (some (.builtin "object.__class__"))),
 decide (PySem.W.mroIn K (ad K).C_State (.type "object") = some true),
 decide (PySem.W.exmOne K (.ref (ad K).C_NoRule) (.ref (ad K).C_NoRule) = some true),
 decide (PySem.W.kitOne K (.ref (ad K).C_NoRule) (.type "TypeError") = some true),
 decide (PySem.W.kitOne K (.ref (ad K).C_NoRule) (.type "ValueError") = some false),
 decide (PySem.W.kitOne K (.type "NoneType") (.ref (ad K).C_State) = some false),
 decide (PySem.W.kitOne K (.type "bool") (.ref (ad K).C_State) = some false),
 decide (PySem.W.kitOne K (.type "int") (.ref (ad K).C_State) = some false),
 decide (PySem.W.kitOne K (.type "str") (.ref (ad K).C_State) = some false),
 decide (PySem.W.kitOne K (.type "list") (.ref (ad K).C_State) = some false),
 decide (PySem.W.kitOne K (.type "tuple") (.ref (ad K).C_State) = some false)]
noncomputable def fb (K : PySem.W.Frag) : List (List Bool):=[fb0 K,fb1 K,fb2 K,fb3 K,fb4 K]
noncomputable def ff0 (K : PySem.W.Frag) : List He.FnV:=[fnV K (ad K).f_L_law_bag,fnV K (ad K).f_L_law_take,fnV K (ad K).f_L_law_rows,fnV K (ad K).f_L_law_names,fnV K (ad K).f_State_init,fnV K (ad K).f_State_ruled,fnV K (ad K).f_State___eq__,fnV K (ad K).f_State___repr__,fnV K (ad K).f_L_law_refused,fnV K (ad K).f_law,fnV K (ad K).f_NoRule_init]
noncomputable def ff (K : PySem.W.Frag) : List He.FnV:=ff0 K
noncomputable def fv0 : List He.FnV:=[fnT "_law_bag" "_law_bag" s_L_law_bag,fnT "_law_take" "_law_take" s_L_law_take,fnT "_law_rows" "_law_rows" s_L_law_rows,fnT "_law_names" "_law_names" s_L_law_names,fnT "__init__" "State.__init__" s_State_init,fnT "ruled" "State.ruled" s_State_ruled,fnT "__eq__" "State.__eq__" s_State___eq__,fnT "__repr__" "State.__repr__" s_State___repr__,fnT "_law_refused" "_law_refused" s_L_law_refused,fnT "law" "law" s_law,fnT "__init__" "NoRule.__init__" s_NoRule_init]
noncomputable def fv : List He.FnV:=fv0
noncomputable def tb (K : PySem.W.Frag) : List Addr:=[]
noncomputable abbrev hk : PySem.W.Hook:=hookV hn fb ff fv tb
noncomputable def ob (s : PySem.W.SharedT) : Al:=obsV hn fb ff tb (HandSHeadRun.getT s)
theorem ob_eq (s : PySem.W.SharedT) : ob s = hk.obs s.abs:=obsV_eq (HandSHeadRun.getT_eq s)
noncomputable abbrev RR : PySem.W.OpenRow:=PySem.W.OpenLaw.row PySem.Challenge.rw_settingsmerge_k48_rules_of_states
set_option maxHeartbeats 0 in
theorem run (w : World) : HandSHeadRun.RunEq RR (PySem.W.view RR.prog [15]) hk ob 30000 hl w:=by
 intro os
 kernel_rfl
set_option maxHeartbeats 0 in
theorem all_hd {w : World} {K : PySem.W.Frag} {h : Heap} {mg : Str → Option Value} {fa : Addr} {l : PySem.W.OpenLaw} (X : PySem.W.Frag.In K h) (G : h.Ns mainGlobals mg) (hfa : mg "law" = some (.ref fa)) (c : Says hn fb ff fv tb h K) :
  ∃ fd : FuncData,(∀ (s : Shared) (v : Value),BindsTo s fd { pos:=[v] } [("_law_script",v)]) ∧ ∀ base : Heap,PySem.W.Frag.In K base → base.Ns mainGlobals mg → FnG l.prog w K mg base 5 fa fd ["_law_script"] (spAll K):=by
 have h_a1:=of_decide_eq_true (c.at 0 0)
 obtain ⟨_,_,_,_,_,_,_,_,_,h_l1,h_c1⟩:=fn_of (show fnV K (ad K).f_L_law_bag = fnT "_law_bag" "_law_bag" s_L_law_bag from c.fn 0) (c.at 0 1)
 have h_k1:=of_decide_eq_true (c.at 0 2)
 have h_a2:=of_decide_eq_true (c.at 0 3)
 obtain ⟨_,_,_,_,_,_,_,_,_,h_l2,h_c2⟩:=fn_of (show fnV K (ad K).f_L_law_take = fnT "_law_take" "_law_take" s_L_law_take from c.fn 1) (c.at 0 4)
 have h_k2:=of_decide_eq_true (c.at 0 5)
 have h_a3:=of_decide_eq_true (c.at 0 6)
 obtain ⟨_,_,_,_,_,_,_,_,_,h_l3,h_c3⟩:=fn_of (show fnV K (ad K).f_L_law_rows = fnT "_law_rows" "_law_rows" s_L_law_rows from c.fn 2) (c.at 0 7)
 have h_k3:=of_decide_eq_true (c.at 0 8)
 have h_a4:=of_decide_eq_true (c.at 0 9)
 obtain ⟨_,_,_,_,_,_,_,_,_,h_l4,h_c4⟩:=fn_of (show fnV K (ad K).f_L_law_names = fnT "_law_names" "_law_names" s_L_law_names from c.fn 3) (c.at 0 10)
 have h_k4:=of_decide_eq_true (c.at 0 11)
 have h_a5:=of_decide_eq_true (c.at 0 12)
 have h_i5:=of_decide_eq_true (c.at 0 13)
 obtain ⟨_,_,_,_,_,_,_,_,h_l5,h_c5⟩:=fnk_of (show fnV K (ad K).f_State_init = fnT "__init__" "State.__init__" s_State_init from c.fn 4) (c.at 0 14) (c.at 0 15)
 have h_kd5_rules:=of_decide_eq_true (c.at 0 16)
 obtain ⟨_,_,_,h_kt5_rules⟩:=tup0_ok (c.at 0 17)
 have h_k5:=of_decide_eq_true (c.at 0 18)
 have h_a6:=of_decide_eq_true (c.at 0 19)
 have h_i6:=of_decide_eq_true (c.at 0 20)
 obtain ⟨_,_,_,_,_,_,_,_,_,h_l6,h_c6⟩:=fn_of (show fnV K (ad K).f_State_ruled = fnT "ruled" "State.ruled" s_State_ruled from c.fn 5) (c.at 0 21)
 have h_k6:=of_decide_eq_true (c.at 0 22)
 have h_a7:=of_decide_eq_true (c.at 0 23)
 have h_i7:=of_decide_eq_true (c.at 0 24)
 obtain ⟨_,_,_,_,_,_,_,_,_,h_l7,h_c7⟩:=fn_of (show fnV K (ad K).f_State___eq__ = fnT "__eq__" "State.__eq__" s_State___eq__ from c.fn 6) (c.at 1 0)
 have h_k7:=of_decide_eq_true (c.at 1 1)
 have h_a8:=of_decide_eq_true (c.at 1 2)
 have h_i8:=of_decide_eq_true (c.at 1 3)
 obtain ⟨_,_,_,_,_,_,_,_,_,h_l8,h_c8⟩:=fn_of (show fnV K (ad K).f_State___repr__ = fnT "__repr__" "State.__repr__" s_State___repr__ from c.fn 7) (c.at 1 4)
 have h_k8:=of_decide_eq_true (c.at 1 5)
 have h_a9:=of_decide_eq_true (c.at 1 6)
 obtain ⟨_,_,_,_,_,_,_,_,_,h_l9,h_c9⟩:=fn_of (show fnV K (ad K).f_L_law_refused = fnT "_law_refused" "_law_refused" s_L_law_refused from c.fn 8) (c.at 1 7)
 have h_k9:=of_decide_eq_true (c.at 1 8)
 have h_a10:=of_decide_eq_true (c.at 1 9)
 obtain ⟨_,_,_,_,_,_,_,_,_,h_l10,h_c10⟩:=fn_of (show fnV K (ad K).f_law = fnT "law" "law" s_law from c.fn 9) (c.at 1 10)
 have h_k10:=of_decide_eq_true (c.at 1 11)
 obtain ⟨_,_,_,_,_,_,_,_,_,_,_,_,_,_,h_xL_NoRule⟩:=exc_ok (c.at 1 12)
 have h_xs_NoRule:=of_decide_eq_true (c.at 1 13)
 have h_xg_NoRule:=of_decide_eq_true (c.at 1 14)
 have h_xgg_NoRule:=of_decide_eq_true (c.at 1 15)
 have h_xa_NoRule:=of_decide_eq_true (c.at 1 16)
 have h_xty_NoRule:=of_decide_eq_true (c.at 1 17)
 have h_xno_NoRule_word:=of_decide_eq_true (c.at 1 18)
 have h_xe_NoRule:=of_decide_eq_true (c.at 1 19)
 have h_xtc_NoRule:=of_decide_eq_true (c.at 1 20)
 have h_xk_NoRule:=of_decide_eq_true (c.at 1 21)
 have h_xh_NoRule:=of_decide_eq_true (c.at 1 22)
 obtain ⟨_,_,_,_,_,_,_,_,_,h_xl_NoRule,h_xc_NoRule⟩:=fn_of (show fnV K (ad K).f_NoRule_init = fnT "__init__" "NoRule.__init__" s_NoRule_init from c.fn 10) (c.at 1 23)
 have h_xkf_NoRule:=of_decide_eq_true (c.at 1 24)
 have h_z_TypeError:=of_decide_eq_true (c.at 2 0)
 have h_z_ValueError:=of_decide_eq_true (c.at 2 1)
 have h_z_abs:=of_decide_eq_true (c.at 2 2)
 have h_z_dict:=of_decide_eq_true (c.at 2 3)
 have h_z_enumerate:=of_decide_eq_true (c.at 2 4)
 have h_z_int:=of_decide_eq_true (c.at 2 5)
 have h_z_isinstance:=of_decide_eq_true (c.at 2 6)
 have h_z_len:=of_decide_eq_true (c.at 2 7)
 have h_z_list:=of_decide_eq_true (c.at 2 8)
 have h_z_max:=of_decide_eq_true (c.at 2 9)
 have h_z_min:=of_decide_eq_true (c.at 2 10)
 have h_z_range:=of_decide_eq_true (c.at 2 11)
 have h_z_repr:=of_decide_eq_true (c.at 2 12)
 have h_z_set:=of_decide_eq_true (c.at 2 13)
 have h_z_sorted:=of_decide_eq_true (c.at 2 14)
 have h_z_str:=of_decide_eq_true (c.at 2 15)
 have h_z_tuple:=of_decide_eq_true (c.at 2 16)
 obtain ⟨_,h_g_HELD⟩:=str_ok (c.at 2 17)
 obtain ⟨_,h_g_OWN⟩:=str_ok (c.at 2 18)
 have h_g_WORDS:=c.at 2 19
 have h_aC_State:=of_decide_eq_true (c.at 2 20)
 have h_pg_State:=of_decide_eq_true (c.at 2 21)
 have h_hd_State:=of_decide_eq_true (c.at 2 22)
 have h_po_State:=of_decide_eq_true (c.at 2 23)
 have h_sa_State:=of_decide_eq_true (c.at 2 24)
 have h_mk_State:=of_decide_eq_true (c.at 3 0)
 have h_kc_State:=of_decide_eq_true (c.at 3 1)
 have h_nf_release_State:=of_decide_eq_true (c.at 3 2)
 have h_nf_rows_State:=of_decide_eq_true (c.at 3 3)
 have h_nf_rules_State:=of_decide_eq_true (c.at 3 4)
 have h_aC_NoRule:=of_decide_eq_true (c.at 3 5)
 have h_xca_NoRule:=of_decide_eq_true (c.at 3 6)
 have h_xcn:=of_decide_eq_true (c.at 3 7)
 have h_xct:=of_decide_eq_true (c.at 3 8)
 have h_xcm_NoRule:=of_decide_eq_true (c.at 3 9)
 have h_eu_State_NoneType:=of_decide_eq_true (c.at 3 10)
 have h_ed_State_NoneType:=of_decide_eq_true (c.at 3 11)
 have h_eu_State_bool:=of_decide_eq_true (c.at 3 12)
 have h_ed_State_bool:=of_decide_eq_true (c.at 3 13)
 have h_eu_State_int:=of_decide_eq_true (c.at 3 14)
 have h_ed_State_int:=of_decide_eq_true (c.at 3 15)
 have h_eu_State_str:=of_decide_eq_true (c.at 3 16)
 have h_ed_State_str:=of_decide_eq_true (c.at 3 17)
 have h_eu_State_list:=of_decide_eq_true (c.at 3 18)
 have h_ed_State_list:=of_decide_eq_true (c.at 3 19)
 have h_eu_State_tuple:=of_decide_eq_true (c.at 3 20)
 have h_ed_State_tuple:=of_decide_eq_true (c.at 3 21)
 have h_en_State:=of_decide_eq_true (c.at 3 22)
 have h_em_State:=of_decide_eq_true (c.at 3 23)
 have h_oo2:=of_decide_eq_true (c.at 3 24)
 have h_oo3:=of_decide_eq_true (c.at 4 0)
 have h_o1_State:=of_decide_eq_true (c.at 4 1)
 have h_o4_State:=of_decide_eq_true (c.at 4 2)
 have h_xem_NoRule:=of_decide_eq_true (c.at 4 3)
 have h_xko_NoRule:=of_decide_eq_true (c.at 4 4)
 have h_xkv_NoRule:=of_decide_eq_true (c.at 4 5)
 have h_xi_NoneType:=of_decide_eq_true (c.at 4 6)
 have h_xi_bool:=of_decide_eq_true (c.at 4 7)
 have h_xi_int:=of_decide_eq_true (c.at 4 8)
 have h_xi_str:=of_decide_eq_true (c.at 4 9)
 have h_xi_list:=of_decide_eq_true (c.at 4 10)
 have h_xi_tuple:=of_decide_eq_true (c.at 4 11)
 exact all_mk X G hfa h_a1 h_l1 h_c1 h_k1 h_a2 h_l2 h_c2 h_k2 h_a3 h_l3 h_c3 h_k3 h_a4 h_l4 h_c4 h_k4 h_a5 h_i5 h_l5 h_kd5_rules h_kt5_rules h_c5 h_k5 h_a6 h_i6 h_l6 h_c6 h_k6 h_a7 h_i7 h_l7 h_c7 h_k7 h_a8 h_i8 h_l8 h_c8 h_k8 h_a9 h_l9 h_c9 h_k9 h_a10 h_l10 h_c10 h_k10 h_xL_NoRule h_xs_NoRule h_xg_NoRule h_xgg_NoRule h_xa_NoRule h_xty_NoRule h_xno_NoRule_word h_xe_NoRule h_xtc_NoRule h_xk_NoRule h_xh_NoRule h_xl_NoRule h_xc_NoRule h_xkf_NoRule h_z_TypeError h_z_ValueError h_z_abs h_z_dict h_z_enumerate h_z_int h_z_isinstance h_z_len h_z_list h_z_max h_z_min h_z_range h_z_repr h_z_set h_z_sorted h_z_str h_z_tuple h_g_HELD h_g_OWN h_g_WORDS h_aC_State h_pg_State h_hd_State h_po_State h_sa_State h_mk_State h_kc_State h_nf_release_State h_nf_rows_State h_nf_rules_State h_aC_NoRule h_xca_NoRule h_xcn h_xct h_xcm_NoRule h_eu_State_NoneType h_ed_State_NoneType h_eu_State_bool h_ed_State_bool h_eu_State_int h_ed_State_int h_eu_State_str h_ed_State_str h_eu_State_list h_ed_State_list h_eu_State_tuple h_ed_State_tuple h_en_State h_em_State h_oo2 h_oo3 h_o1_State h_o4_State h_xem_NoRule h_xko_NoRule h_xkv_NoRule h_xi_NoneType h_xi_bool h_xi_int h_xi_str h_xi_list h_xi_tuple
end VL.K48
open PySem PySem.W PySem.Calls PyProof.Rows in
set_option maxRecDepth 100000 in
set_option maxHeartbeats 0 in
theorem PySem.Challenge.cw_settingsmerge_k48_rules_of_states_holds : PySem.Challenge.rw_settingsmerge_k48_rules_of_states.Holds := by
 w_on; o_law
 refine HandSHeadRun.head_any (r:=OpenLaw.row PySem.Challenge.rw_settingsmerge_k48_rules_of_states) (q:=view (OpenLaw.row PySem.Challenge.rw_settingsmerge_k48_rules_of_states).prog [15]) (H:=VL.K48.hk) (ob:=VL.K48.ob) (M:=30000) (loose:=VL.K48.hl) (d:=HandSHeadRun.topDef (OpenLaw.row PySem.Challenge.rw_settingsmerge_k48_rules_of_states).prog 15) (kwd:=[]) VL.K48.ob_eq (by kernel_rfl) (fun s=>by kernel_rfl) VL.K48.run (by kernel_rfl) (by kernel_rfl) (by kernel_rfl) (by rfl) (by first | assumption | decide +kernel) (by decide +kernel) ⟨rfl,rfl,rfl,rfl,rfl,by decide +kernel⟩ ?hw ?hc
 case hw=>w_witness2
 case hc =>
  refine VL.walk_ofGE (l:=PySem.Challenge.rw_settingsmerge_k48_rules_of_states) (n:=63) (k:=5) (x:="_law_script") rfl (by decide) (by kernel_rfl) ⟨⟨rfl,by decide,by decide⟩,rfl⟩ ?F
  intro w mg fa h Y G hmg0
  obtain ⟨K,KX,c⟩:=Y
  have hmg : mg ("law" : PySem.Str) = some (.ref fa):=by
   have e : (HandSHeadRun.topDef (OpenLaw.row PySem.Challenge.rw_settingsmerge_k48_rules_of_states).prog 15).name = ("law" : PySem.Str):=by kernel_rfl
   rw [← e]
   exact hmg0
  obtain ⟨fd,hb,hF⟩:=VL.K48.all_hd (w:=w) (l:=PySem.Challenge.rw_settingsmerge_k48_rules_of_states) KX G hmg c
  exact ⟨K,VL.K48.spAll K,fd,KX,fun H b ns hl hO hS a hK=>VL.law_sp (VL.K48.law_ok _ a hK ns hl) hO hS,hb,hF⟩
