import PyProof.Rows.All
import Wide.All
import OpenK.AllK
import Wide.FinOn
import HandS.ForMost
import HandS.Exc
import HandS.Lambda
import KE.KDictKeyed
import KE.KeyNested
import HandS.IsInst
import HandS.TupAny
import HandS.Flow
import HandS.Deep
import HandS.More
import HandS.TryOnly
import HandS.Walk
import HandS.WordsExc
import HandS.SetKeys
import HandS.SortInts
import HandS.FStr
import HandS.Small
import HandS.StrMore
import HandS.MakeKwOnly
import HandS.Style
import HandS.ExcInit
import HandS.ExcField
import HandS.ExcIs
import KE.KExcIs
import KE.KExcInit
import HandS.GenList
import HandS.Ends
import HandS.Property
import KE.KCallOwn
import HandS.RaiseMore
import HandS.OwnEq
import HandS.EndTab
import KE.KNestM
import HandS.Star
import HandS.ClsMeth
import HandS.Iter
import KE.KDictList
import KE.GoesEnum
import HandS.Set
import HandS.SetFor
import HandS.Strs
import HandS.NoneIn
import HandS.ListItems
import HandS.Conv
import KE.KStateDown
import HandS.Head0
import HandS.Head1
import HandS.Head2
import HandS.HeadHook1
import KE.DataMinMax
import HandS.TupSets
import HandS.SetBool
import KE.SortData
import KE.DataCmp
import HandS.Zip
import KE.DataEq
import OpenK.KDescr
import HandS.Defaults
import HandS.DictComp
import HandS.Replace
import HandS.GenYield
import HandS.IterNext
import PySem.Challenge.RW_settingsmerge_k08_whole_a_file_put_toget
set_option Elab.async false
set_option linter.all false
set_option maxRecDepth 100000
set_option autoImplicit false
namespace VL
open PySem PySem.Spec PyProof.Rows L2
/-- data that does not change -/
inductive D where
 | non | bl (b : Bool) | int (i : Int) | str (x : Str) | ty (n : String) | obj (a : Addr)
 | tup (ds : List D) | lst (ds : List D) | dct (kvs : List (Key × D)) | ins (C : Addr) (fs : List (Str × D))
 | scr (ns : List Int)
 | exc (a : Addr) (d : Option Addr) (c : Value) (fs : List (Str × D))
 | kdc (w : World) (kvs : List (D × D))
/-- a value: data,or a cell -/
inductive U where
 | d (x : D) | ref (n : Nat)
/-- what a cell holds -/
inductive O where
 | lst (us : List U) | tup (us : List U) | dct (kvs : List (Key × U)) | ins (C : Addr) (fs : List (Str × U))
 | tbl (P : Addr) (q : Str)
 | lck (kvs : List (Key × U))
 | kdc (w : World) (kvs : List (D × U))
noncomputable abbrev Store:=List O
noncomputable abbrev VEnv:=List (Option U)
mutual
noncomputable def keyE : D → Option NestedKey
 | .non=>some .none
 | .int i=>some (.num i)
 | .str x=>some (.text x)
 | .tup ds=>(keyEs ds).map .tup
 | _=>none
noncomputable def keyEs : List D → Option (List NestedKey)
 | []=>some []
 | d :: ds=>match keyE d,keyEs ds with
  | some k,some ks=>some (k :: ks)
  | _,_=>none
end
noncomputable def keyN (d : D) : Option NestedKey:=match d with
 | .tup _=>match keyE d with
  | some k=>if k.depth ≤ 8 then some k else none
  | none=>none
 | _=>none
/-- an object that is known to the bit -/
noncomputable abbrev PinO (b : Addr) (o : Obj) : HO:=.ext fun h=>h.get? b = some o
/-- a dict with such keys -/
noncomputable def KdOk (w : World) (b : Addr) (o : Obj) (es : List (NestedKey × Addr × V)) : Prop:=es.length ≤ sizeLine ∧ (b == sysModules) = false ∧ ∃ xs : List (NestedKey × Addr × Value),
 Paired (fun (p : NestedKey × Addr × V) (q : NestedKey × Addr × Value)=>p.1 = q.1 ∧ p.2.1 = q.2.1 ∧ RelV p.2.2 q.2.2) es xs ∧ (xs.map (·.1)).Nodup ∧
 ∃ ents ep,o.ExactDict ∧ o.data = .dict ents ep ∧ ents.toList = xs.map fun x=>(⟨x.1.hash w,.ref x.2.1,x.2.2⟩ : DictEntry)
noncomputable def LsV (m : List Addr) (H : Hp) (a : Addr) (vs : List V) : Prop:=a ∉ m ∧ H a = some (.lst vs)
/-- the script -/
noncomputable def ScV (K : PySem.W.Frag) (m : List Addr) (H : Hp) (a : Addr) (vs : List V) : Prop:=(a ∉ m ∧ ∃ ob,H a = some (.frz ob (.lst vs))) ∨ SqL K (fun _=>none) a vs
noncomputable def TpV (K : PySem.W.Frag) (m : List Addr) (H : Hp) (a : Addr) (vs : List V) : Prop:=(a ∉ m ∧ H a = some (.tup vs)) ∨ SqT K (fun _=>none) a vs
mutual
noncomputable def RpD (K : PySem.W.Frag) (m : List Addr) (H : Hp) : D → V → Prop
 | .non,v=>v = .non
 | .bl b,v=>v = .bl b
 | .int i,v=>v = .int i
 | .str x,v=>v = .str x
 | .ty n,v=>v = .ty n
 | .obj a,v=>v = .ref a
 | .tup ds,v=>∃ a vs,v = .ref a ∧ TpV K m H a vs ∧ RpDs K m H ds vs
 | .lst ds,v=>∃ a vs,v = .ref a ∧ LsV m H a vs ∧ RpDs K m H ds vs
 | .dct kvs,v=>∃ a vs,v = .ref a ∧ (a ∉ m ∧ Rd H a (.dK vs)) ∧ RpK K m H kvs vs
 | .ins C fs,v=>∃ a dx vs,v = .ref a ∧ (a ∉ m ∧ H a = some (.ins C dx vs)) ∧ RpF K m H fs vs
 | .scr ns,v=>∃ a,v = .ref a ∧ ScV K m H a (ns.map V.int)
 | .exc a d _ fs,v=>v = .ref a ∧ (fs = [] ∨ ∃ dd vs,d = some dd ∧ (dd ∉ m ∧ H dd = some (.xd vs)) ∧ RpF K m H fs vs)
 | .kdc w kvs,v=>∃ a o es,v = .ref a ∧ (a ∉ m ∧ H a = some (PinO a o)) ∧ KdOk w a o es ∧ RpKd K m H kvs es
noncomputable def RpDs (K : PySem.W.Frag) (m : List Addr) (H : Hp) : List D → List V → Prop
 | [],vs=>vs = []
 | d :: ds,vs=>∃ v r,vs = v :: r ∧ RpD K m H d v ∧ RpDs K m H ds r
noncomputable def RpKd (K : PySem.W.Frag) (m : List Addr) (H : Hp) : List (D × D) → List (NestedKey × Addr × V) → Prop
 | [],es=>es = []
 | (k,d) :: ds,es=>∃ n b v r,es = (n,b,v) :: r ∧ keyN k = some n ∧ RpD K m H k (.ref b) ∧ RpD K m H d v ∧ RpKd K m H ds r
noncomputable def RpK (K : PySem.W.Frag) (m : List Addr) (H : Hp) : List (Key × D) → List (Key × V) → Prop
 | [],vs=>vs = []
 | (k,d) :: ds,vs=>∃ v r,vs = (k,v) :: r ∧ RpD K m H d v ∧ RpK K m H ds r
noncomputable def RpF (K : PySem.W.Frag) (m : List Addr) (H : Hp) : List (Str × D) → List (Str × V) → Prop
 | [],vs=>vs = []
 | (k,d) :: ds,vs=>∃ v r,vs = (k,v) :: r ∧ RpD K m H d v ∧ RpF K m H ds r
end
/-- what is data stays: all but dicts exactly,dicts readable -/
structure Stay (m : List Addr) (H : Hp) (m' : List Addr) (H' : Hp) : Prop where
 ex : ∀ (a : Addr) (o : HO),a ∉ m → H a = some o → (∀ kvs,o ≠ .dK kvs) → (∀ ps,o ≠ .tbl ps) → H' a = some o ∧ a ∉ m'
 dk : ∀ (a : Addr) (kvs : List (Key × V)),a ∉ m → Rd H a (.dK kvs) → Rd H' a (.dK kvs) ∧ a ∉ m'
 fz : ∀ (a : Addr) (o : Obj) (u : HO),H a = some (.frz o u) → H' a = some (.frz o u)
theorem Stay.of {m m' : List Addr} {H H' : Hp} (f : ∀ a o,a ∉ m → H a = some o → (∀ ps,o ≠ .tbl ps) → H' a = some o ∧ a ∉ m') (g : ∀ (a : Addr) (o : Obj) (u : HO),H a = some (.frz o u) → H' a = some (.frz o u)) : Stay m H m' H':=⟨fun a o n r _ nt=>f a o n r nt,fun a u n r=>by
 rcases r with r | ⟨o,r⟩
 ·exact ⟨.inl (f a _ n r fun _ z=>nomatch z).1,(f a _ n r fun _ z=>nomatch z).2⟩
 ·exact ⟨.inr ⟨o,(f a _ n r fun _ z=>nomatch z).1⟩,(f a _ n r fun _ z=>nomatch z).2⟩,g⟩
theorem Stay.trans {m m1 m2 : List Addr} {H H1 H2 : Hp} (a : Stay m H m1 H1) (b : Stay m1 H1 m2 H2) : Stay m H m2 H2 :=
 ⟨fun x o n h nd nt=>let ⟨h1,n1⟩:=a.ex x o n h nd nt; b.ex x o n1 h1 nd nt,fun x u n h=>let ⟨h1,n1⟩:=a.dk x u n h; b.dk x u n1 h1,fun x o u h=>b.fz x o u (a.fz x o u h)⟩
theorem Stay.less {m m1 m2 : List Addr} {H H1 : Hp} (a : Stay m H m1 H1) (h : ∀ b,b ∈ m2 → b ∈ m1) : Stay m H m2 H1 :=
 ⟨fun x o n q nd nt=>let ⟨h1,n1⟩:=a.ex x o n q nd nt; ⟨h1,fun z=>n1 (h x z)⟩,fun x u n q=>let ⟨h1,n1⟩:=a.dk x u n q; ⟨h1,fun z=>n1 (h x z)⟩,a.fz⟩
/-- exactly,but that a dict may be locked -/
structure Ext (m : List Addr) (H : Hp) (m' : List Addr) (H' : Hp) : Prop where
 pre : m <+: m'
 toStay : Stay m H m' H'
theorem Ext.of {m m' : List Addr} {H H' : Hp} (p : m <+: m') (f : ∀ a o,a ∉ m → H a = some o → (∀ ps,o ≠ .tbl ps) → H' a = some o ∧ a ∉ m') (g : ∀ (a : Addr) (o : Obj) (u : HO),H a = some (.frz o u) → H' a = some (.frz o u)) : Ext m H m' H':=⟨p,Stay.of f g⟩
theorem Ext.refl (m : List Addr) (H : Hp) : Ext m H m H:=.of (List.prefix_refl m) (fun _ _ n h _=>⟨h,n⟩) fun _ _ _ h=>h
theorem Ext.trans {m m1 m2 : List Addr} {H H1 H2 : Hp} (a : Ext m H m1 H1) (b : Ext m1 H1 m2 H2) : Ext m H m2 H2 :=
 ⟨a.pre.trans b.pre,a.toStay.trans b.toStay⟩
section
variable {K : PySem.W.Frag} {m m' : List Addr} {H H' : Hp}
theorem LsV.stay {a : Addr} {vs : List V} (s : Stay m H m' H') (h : LsV m H a vs) : LsV m' H' a vs:=⟨(s.ex a _ h.1 h.2 (fun _ z=>nomatch z) fun _ z=>nomatch z).2,(s.ex a _ h.1 h.2 (fun _ z=>nomatch z) fun _ z=>nomatch z).1⟩
theorem ScV.stay {a : Addr} {vs : List V} (s : Stay m H m' H') (h : ScV K m H a vs) : ScV K m' H' a vs:=by
 rcases h with ⟨n,ob,r⟩ | h
 ·exact .inl ⟨(s.ex a _ n r (fun _ z=>nomatch z) fun _ z=>nomatch z).2,ob,(s.ex a _ n r (fun _ z=>nomatch z) fun _ z=>nomatch z).1⟩
 ·exact .inr h
theorem TpV.stay {a : Addr} {vs : List V} (s : Stay m H m' H') (h : TpV K m H a vs) : TpV K m' H' a vs:=by
 rcases h with ⟨n,r⟩ | h
 ·exact .inl ⟨(s.ex a _ n r (fun _ z=>nomatch z) fun _ z=>nomatch z).2,(s.ex a _ n r (fun _ z=>nomatch z) fun _ z=>nomatch z).1⟩
 ·exact .inr h
theorem LsV.sq {a : Addr} {vs : List V} (h : LsV m H a vs) : SqL K H a vs:=.inl (.inl h.2)
theorem ScV.sq {a : Addr} {vs : List V} (h : ScV K m H a vs) : SqL K H a vs:=by
 rcases h with ⟨_,r⟩ | (r | ⟨_,r⟩) | r
 ·exact .inl (.inr r)
 ·cases r
 ·cases r
 ·exact .inr r
theorem TpV.sq {a : Addr} {vs : List V} (h : TpV K m H a vs) : SqT K H a vs:=by
 rcases h with ⟨_,r⟩ | (r | ⟨_,r⟩) | r
 ·exact .inl (.inl r)
 ·cases r
 ·cases r
 ·exact .inr r
mutual
theorem RpD.stay (s : Stay m H m' H') : ∀ (d : D) (v : V),RpD K m H d v → RpD K m' H' d v
 | .non,_,h=>h
 | .bl _,_,h=>h
 | .int _,_,h=>h
 | .str _,_,h=>h
 | .ty _,_,h=>h
 | .obj _,_,h=>h
 | .tup ds,_,⟨a,vs,e,t,r⟩=>⟨a,vs,e,t.stay s,RpDs.stay s ds vs r⟩
 | .lst ds,_,⟨a,vs,e,t,r⟩=>⟨a,vs,e,t.stay s,RpDs.stay s ds vs r⟩
 | .dct ks,_,⟨a,vs,e,t,r⟩=>⟨a,vs,e,⟨(s.dk a _ t.1 t.2).2,(s.dk a _ t.1 t.2).1⟩,RpK.stay s ks vs r⟩
 | .ins C fs,_,⟨a,dx,vs,e,t,r⟩=>⟨a,dx,vs,e,⟨(s.ex a _ t.1 t.2 (fun _ z=>nomatch z) fun _ z=>nomatch z).2,(s.ex a _ t.1 t.2 (fun _ z=>nomatch z) fun _ z=>nomatch z).1⟩,RpF.stay s fs vs r⟩
 | .scr ns,_,⟨a,e,t⟩=>⟨a,e,t.stay s⟩
 | .kdc w ks,_,⟨a,o,vs,e,t,z,r⟩=>⟨a,o,vs,e,⟨(s.ex a _ t.1 t.2 (fun _ z=>nomatch z) fun _ z=>nomatch z).2,(s.ex a _ t.1 t.2 (fun _ z=>nomatch z) fun _ z=>nomatch z).1⟩,z,RpKd.stay s ks vs r⟩
 | .exc _ _ _ fs,_,⟨e,.inl h⟩=>⟨e,.inl h⟩
 | .exc _ _ _ fs,_,⟨e,.inr ⟨dd,vs,q,t,r⟩⟩=>⟨e,.inr ⟨dd,vs,q,⟨(s.ex dd _ t.1 t.2 (fun _ z=>nomatch z) fun _ z=>nomatch z).2,(s.ex dd _ t.1 t.2 (fun _ z=>nomatch z) fun _ z=>nomatch z).1⟩,RpF.stay s fs vs r⟩⟩
theorem RpDs.stay (s : Stay m H m' H') : ∀ (ds : List D) (vs : List V),RpDs K m H ds vs → RpDs K m' H' ds vs
 | [],_,h=>h
 | d :: ds,_,⟨v,r,e,h1,h2⟩=>⟨v,r,e,RpD.stay s d v h1,RpDs.stay s ds r h2⟩
theorem RpKd.stay (s : Stay m H m' H') : ∀ (ds : List (D × D)) (vs : List (NestedKey × Addr × V)),RpKd K m H ds vs → RpKd K m' H' ds vs
 | [],_,h=>h
 | (k,d) :: ds,_,⟨n,b,v,r,e,q,h0,h1,h2⟩=>⟨n,b,v,r,e,q,RpD.stay s k _ h0,RpD.stay s d v h1,RpKd.stay s ds r h2⟩
theorem RpK.stay (s : Stay m H m' H') : ∀ (ds : List (Key × D)) (vs : List (Key × V)),RpK K m H ds vs → RpK K m' H' ds vs
 | [],_,h=>h
 | (_,d) :: ds,_,⟨v,r,e,h1,h2⟩=>⟨v,r,e,RpD.stay s d v h1,RpK.stay s ds r h2⟩
theorem RpF.stay (s : Stay m H m' H') : ∀ (ds : List (Str × D)) (vs : List (Str × V)),RpF K m H ds vs → RpF K m' H' ds vs
 | [],_,h=>h
 | (_,d) :: ds,_,⟨v,r,e,h1,h2⟩=>⟨v,r,e,RpD.stay s d v h1,RpF.stay s ds r h2⟩
end
theorem RpD.ext (e : Ext m H m' H') {d : D} {v : V} (h : RpD K m H d v) : RpD K m' H' d v:=RpD.stay e.toStay d v h
theorem RpDs.ext (e : Ext m H m' H') {d : List D} {v : List V} (h : RpDs K m H d v) : RpDs K m' H' d v:=RpDs.stay e.toStay d v h
theorem RpF.ext (e : Ext m H m' H') {d : List (Str × D)} {v : List (Str × V)} (h : RpF K m H d v) : RpF K m' H' d v:=RpF.stay e.toStay d v h
theorem RpKd.ext (e : Ext m H m' H') {d : List (D × D)} {v : List (NestedKey × Addr × V)} (h : RpKd K m H d v) : RpKd K m' H' d v:=RpKd.stay e.toStay d v h
theorem RpK.ext (e : Ext m H m' H') {d : List (Key × D)} {v : List (Key × V)} (h : RpK K m H d v) : RpK K m' H' d v:=RpK.stay e.toStay d v h
end
noncomputable def RpU (K : PySem.W.Frag) (m : List Addr) (H : Hp) : U → V → Prop
 | .d x,v=>RpD K m H x v
 | .ref n,v=>∃ a,m[n]? = some a ∧ v = .ref a
noncomputable def RpUs (K : PySem.W.Frag) (m : List Addr) (H : Hp) : List U → List V → Prop
 | [],vs=>vs = []
 | u :: us,vs=>∃ v r,vs = v :: r ∧ RpU K m H u v ∧ RpUs K m H us r
noncomputable def RpUK (K : PySem.W.Frag) (m : List Addr) (H : Hp) : List (Key × U) → List (Key × V) → Prop
 | [],vs=>vs = []
 | (k,u) :: us,vs=>∃ v r,vs = (k,v) :: r ∧ RpU K m H u v ∧ RpUK K m H us r
noncomputable def RpUKd (K : PySem.W.Frag) (m : List Addr) (H : Hp) : List (D × U) → List (NestedKey × Addr × V) → Prop
 | [],es=>es = []
 | (k,u) :: us,es=>∃ n b v r,es = (n,b,v) :: r ∧ keyN k = some n ∧ RpD K m H k (.ref b) ∧ RpU K m H u v ∧ RpUKd K m H us r
noncomputable def RpUF (K : PySem.W.Frag) (m : List Addr) (H : Hp) : List (Str × U) → List (Str × V) → Prop
 | [],vs=>vs = []
 | (k,u) :: us,vs=>∃ v r,vs = (k,v) :: r ∧ RpU K m H u v ∧ RpUF K m H us r
noncomputable def RpO (K : PySem.W.Frag) (m : List Addr) (H : Hp) (b : Addr) : O → HO → Prop
 | .lst us,o=>∃ vs,o = .lst vs ∧ RpUs K m H us vs
 | .tup us,o=>∃ vs,o = .tup vs ∧ RpUs K m H us vs
 | .dct us,o=>∃ vs,o = .dK vs ∧ RpUK K m H us vs
 | .ins C us,o=>∃ dx vs,o = .ins C dx vs ∧ RpUF K m H us vs
 | .lck us,o=>∃ ob vs,o = .frz ob (.dK vs) ∧ RpUK K m H us vs
 | .kdc w us,o=>∃ ob es,o = PinO b ob ∧ KdOk w b ob es ∧ RpUKd K m H us es
 | .tbl P q,o=>b = P ∧ ∃ ps : Array Value,o = .tbl ps ∧ TriplesOk ps.toList ∧ ∀ (pos : Pos) (cv : Value),codeAmong pos ps.toList = some cv → ∃ c,cv = .ref c ∧ c ∉ m ∧ H c = some (LamX.CodeO c q)
structure Rep (K : PySem.W.Frag) (m : List Addr) (st : Store) (H : Hp) : Prop where
 len : m.length = st.length
 nd : m.Nodup
 cell : ∀ (n : Nat) (o : O) (a : Addr),st[n]? = some o → m[n]? = some a → ∃ ho,H a = some ho ∧ RpO K m H a o ho
/-- the frame's names -/
structure RpEnv (K : PySem.W.Frag) (m : List Addr) (H : Hp) (env : VEnv) (σ : L2.St) : Prop where
 len : env.length = σ.length
 at' : ∀ (i : Nat) (u : U),env[i]? = some (some u) → ∃ v,σ[i]? = some (some v) ∧ RpU K m H u v
section
variable {K : PySem.W.Frag} {m m' : List Addr} {H H' : Hp} {st : Store}
theorem RpU.stay (p : m <+: m') (s : Stay m H m' H') : ∀ (u : U) (v : V),RpU K m H u v → RpU K m' H' u v
 | .d x,v,h=>RpD.stay s x v h
 | .ref n,v,⟨a,e,h⟩=>⟨a,by
  obtain ⟨t,rfl⟩:=p
  rw [List.getElem?_append_left (List.getElem?_eq_some_iff.mp e).1]; exact e,h⟩
theorem RpUs.stay (p : m <+: m') (s : Stay m H m' H') : ∀ (us : List U) (vs : List V),RpUs K m H us vs → RpUs K m' H' us vs
 | [],_,h=>h
 | u :: us,_,⟨v,r,e,h1,h2⟩=>⟨v,r,e,RpU.stay p s u v h1,RpUs.stay p s us r h2⟩
theorem RpUK.stay (p : m <+: m') (s : Stay m H m' H') : ∀ (us : List (Key × U)) (vs : List (Key × V)),RpUK K m H us vs → RpUK K m' H' us vs
 | [],_,h=>h
 | (_,u) :: us,_,⟨v,r,e,h1,h2⟩=>⟨v,r,e,RpU.stay p s u v h1,RpUK.stay p s us r h2⟩
theorem RpUKd.stay (p : m <+: m') (s : Stay m H m' H') : ∀ (us : List (D × U)) (vs : List (NestedKey × Addr × V)),RpUKd K m H us vs → RpUKd K m' H' us vs
 | [],_,h=>h
 | (k,u) :: us,_,⟨n,b,v,r,e,q,h0,h1,h2⟩=>⟨n,b,v,r,e,q,RpD.stay s k _ h0,RpU.stay p s u v h1,RpUKd.stay p s us r h2⟩
theorem RpUF.stay (p : m <+: m') (s : Stay m H m' H') : ∀ (us : List (Str × U)) (vs : List (Str × V)),RpUF K m H us vs → RpUF K m' H' us vs
 | [],_,h=>h
 | (_,u) :: us,_,⟨v,r,e,h1,h2⟩=>⟨v,r,e,RpU.stay p s u v h1,RpUF.stay p s us r h2⟩
theorem RpO.stay (p : m <+: m') (s : Stay m H m' H') {b : Addr} : ∀ (o : O) (ho : HO),RpO K m H b o ho → RpO K m' H' b o ho
 | .lst us,_,⟨vs,e,r⟩=>⟨vs,e,RpUs.stay p s us vs r⟩
 | .tup us,_,⟨vs,e,r⟩=>⟨vs,e,RpUs.stay p s us vs r⟩
 | .dct us,_,⟨vs,e,r⟩=>⟨vs,e,RpUK.stay p s us vs r⟩
 | .lck us,_,⟨ob,vs,e,r⟩=>⟨ob,vs,e,RpUK.stay p s us vs r⟩
 | .kdc w us,_,⟨o,vs,e,z,r⟩=>⟨o,vs,e,z,RpUKd.stay p s us vs r⟩
 | .ins C us,_,⟨dx,vs,e,r⟩=>⟨dx,vs,e,RpUF.stay p s us vs r⟩
 | .tbl P q,_,⟨e,ps,e1,e2,h⟩=>⟨e,ps,e1,e2,fun pos cv hc=>let ⟨c,g1,g2,g3⟩:=h pos cv hc; ⟨c,g1,(s.ex c _ g2 g3 (fun _ z=>by cases z) fun _ z=>by cases z).2,(s.ex c _ g2 g3 (fun _ z=>by cases z) fun _ z=>by cases z).1⟩⟩
theorem RpU.ext (e : Ext m H m' H') {u : U} {v : V} (h : RpU K m H u v) : RpU K m' H' u v:=RpU.stay e.pre e.toStay u v h
theorem RpUs.ext (e : Ext m H m' H') {u : List U} {v : List V} (h : RpUs K m H u v) : RpUs K m' H' u v:=RpUs.stay e.pre e.toStay u v h
theorem RpUK.ext (e : Ext m H m' H') {u : List (Key × U)} {v : List (Key × V)} (h : RpUK K m H u v) : RpUK K m' H' u v:=RpUK.stay e.pre e.toStay u v h
theorem RpUKd.ext (e : Ext m H m' H') {u : List (D × U)} {v : List (NestedKey × Addr × V)} (h : RpUKd K m H u v) : RpUKd K m' H' u v:=RpUKd.stay e.pre e.toStay u v h
theorem RpUF.ext (e : Ext m H m' H') {u : List (Str × U)} {v : List (Str × V)} (h : RpUF K m H u v) : RpUF K m' H' u v:=RpUF.stay e.pre e.toStay u v h
theorem RpO.ext (e : Ext m H m' H') {b : Addr} {o : O} {ho : HO} (h : RpO K m H b o ho) : RpO K m' H' b o ho:=RpO.stay e.pre e.toStay o ho h
theorem RpEnv.ext (e : Ext m H m' H') {env : VEnv} {σ : L2.St} (h : RpEnv K m H env σ) : RpEnv K m' H' env σ :=
 ⟨h.len,fun i u hi=>let ⟨v,h1,h2⟩:=h.at' i u hi; ⟨v,h1,h2.ext e⟩⟩
theorem RpEnv.set {env : VEnv} {σ : L2.St} (h : RpEnv K m H env σ) (i : Nat) {u : U} {v : V} (r : RpU K m H u v) : RpEnv K m H (env.set i (some u)) (σ.set i (some v)):=by
 refine ⟨by rw [List.length_set,List.length_set]; exact h.len,fun j w hj=>?_⟩
 by_cases e : i = j
 ·subst e
  by_cases hi : i < env.length
  ·rw [List.getElem?_set_self hi] at hj
   cases hj
   exact ⟨v,by rw [List.getElem?_set_self (by rw [← h.len]; exact hi)],r⟩
  ·rw [List.getElem?_eq_none (by rw [List.length_set]; omega)] at hj
   cases hj
 ·rw [List.getElem?_set_ne e] at hj
  obtain ⟨x,h1,h2⟩:=h.at' j w hj
  exact ⟨x,by rw [List.getElem?_set_ne e]; exact h1,h2⟩
theorem Rep.live (r : Rep K m st H) {a : Addr} (h : a ∈ m) : ∃ ho,H a = some ho:=by
 obtain ⟨n,hn,e⟩:=List.mem_iff_getElem.mp h
 have hs : n < st.length:=by rw [← r.len]; exact hn
 obtain ⟨ho,e1,_⟩:=r.cell n st[n] a (List.getElem?_eq_getElem hs) (by rw [List.getElem?_eq_getElem hn,e])
 exact ⟨ho,e1⟩
theorem Rep.fresh (r : Rep K m st H) {a : Addr} (h : H a = none) : a ∉ m:=fun q=>by
 obtain ⟨ho,e⟩:=r.live q
 rw [h] at e; cases e
/-- a new object that is data -/
theorem ext_new (r : Rep K m st H) {p : Addr} (np : H p = none) (o : HO) : Ext m H m (upd H p o) :=
 .of (List.prefix_refl m) (fun a u n h _=>⟨by rw [upd_ne (ne_of_none h np)]; exact h,n⟩) fun a ob u h=>by rw [upd_ne (ne_of_none h np)]; exact h
theorem Rep.new (r : Rep K m st H) {p : Addr} (np : H p = none) (o : HO) : Rep K m st (upd H p o) :=
 ⟨r.len,r.nd,fun n c a h1 h2=>by
  obtain ⟨ho,e,q⟩:=r.cell n c a h1 h2
  exact ⟨ho,by rw [upd_ne (ne_of_none e np)]; exact e,q.ext (ext_new r np o)⟩⟩
/-- a new cell -/
theorem ext_push (r : Rep K m st H) {p : Addr} (np : H p = none) (o : HO) : Ext m H (m ++ [p]) (upd H p o) :=
 .of (List.prefix_append m [p]) (fun a u n h _=>⟨by rw [upd_ne (ne_of_none h np)]; exact h,fun q=>by
  rcases List.mem_append.mp q with q | q
  ·exact n q
  ·rw [List.mem_singleton] at q
   subst q
   rw [np] at h; cases h⟩) fun a ob u h=>by rw [upd_ne (ne_of_none h np)]; exact h
theorem Rep.push (r : Rep K m st H) {p : Addr} (np : H p = none) {c : O} {o : HO} (q : RpO K (m ++ [p]) (upd H p o) p c o) : Rep K (m ++ [p]) (st ++ [c]) (upd H p o):=by
 refine ⟨by rw [List.length_append,List.length_append,r.len]; rfl,?_,fun n c' a h1 h2=>?_⟩
 ·rw [List.nodup_append]
  refine ⟨r.nd,by simp,fun x hx y hy=>?_⟩
  rw [List.mem_singleton] at hy
  subst hy
  exact fun e=>r.fresh np (by rw [← e]; exact hx)
 ·by_cases hn : n < st.length
  ·rw [List.getElem?_append_left hn] at h1
   rw [List.getElem?_append_left (by rw [r.len]; exact hn)] at h2
   obtain ⟨ho,e,q'⟩:=r.cell n c' a h1 h2
   exact ⟨ho,by rw [upd_ne (ne_of_none e np)]; exact e,q'.ext (ext_push r np o)⟩
  ·have hn2 : n = st.length:=by
    have:=(List.getElem?_eq_some_iff.mp h1).1
    rw [List.length_append] at this
    simp at this; omega
   subst hn2
   rw [List.getElem?_append_right (Nat.le_refl _),Nat.sub_self] at h1
   rw [← r.len,List.getElem?_append_right (Nat.le_refl _),Nat.sub_self] at h2
   cases h1; cases h2
   exact ⟨o,upd_same,q⟩
/-- what lies there is not locked -/
noncomputable def NF (H : Hp) (a : Addr) : Prop:=∀ (o : Obj) (u : HO),H a ≠ some (.frz o u)
theorem nf_l {a : Addr} {vs : List V} (h : H a = some (.lst vs)) : NF H a:=fun o u z=>by rw [h] at z; cases z
theorem nf_d {a : Addr} {vs : List (Key × V)} (h : H a = some (.dK vs)) : NF H a:=fun o u z=>by rw [h] at z; cases z
theorem nf_i {a C dx : Addr} {vs : List (Str × V)} (h : H a = some (.ins C dx vs)) : NF H a:=fun o u z=>by rw [h] at z; cases z
theorem ext_write {a : Addr} (ha : a ∈ m) (o : HO) (nf : NF H a) : Ext m H m (upd H a o) :=
 .of (List.prefix_refl m) (fun b u n h _=>⟨by rw [upd_ne (fun e=>n (by rw [e]; exact ha))]; exact h,n⟩) fun b ob u h=>by rw [upd_ne (fun e=>nf ob u (by rw [← e]; exact h))]; exact h
theorem Rep.write (r : Rep K m st H) {n : Nat} {a : Addr} {c : O} {o : HO} (hn : m[n]? = some a) (q : RpO K m (upd H a o) a c o) (nf : NF H a) : Rep K m (st.set n c) (upd H a o):=by
 have ha : a ∈ m:=List.mem_of_getElem? hn
 refine ⟨by rw [List.length_set]; exact r.len,r.nd,fun k c' b h1 h2=>?_⟩
 by_cases e : n = k
 ·subst e
  rw [hn] at h2; cases h2
  have hl : n < st.length:=by rw [← r.len]; exact (List.getElem?_eq_some_iff.mp hn).1
  rw [List.getElem?_set_self hl] at h1; cases h1
  exact ⟨o,upd_same,q⟩
 ·rw [List.getElem?_set_ne e] at h1
  obtain ⟨ho,e1,q1⟩:=r.cell k c' b h1 h2
  have hb : b ≠ a:=fun z=>by
   subst z
   obtain ⟨l1,g1⟩:=List.getElem?_eq_some_iff.mp hn
   obtain ⟨l2,g2⟩:=List.getElem?_eq_some_iff.mp h2
   exact e ((List.getElem_inj r.nd).mp (g1.trans g2.symm))
  exact ⟨ho,by rw [upd_ne hb]; exact e1,q1.ext (ext_write ha o nf)⟩
end
inductive R (α : Type) where
 | ok (a : α) (st : Store)
 | ex (c : Value) (fs : Option (List (Str × D))) (st : Store)
 | bad
noncomputable abbrev M (α : Type):=Store → R α
noncomputable abbrev F (α : Type):=VEnv → M α
inductive Fl where
 | nx | rt (u : U) | bk | ct
inductive RS where
 | ok (env : VEnv) (f : Fl) (st : Store)
 | ex (c : Value) (fs : Option (List (Str × D))) (env : VEnv) (st : Store)
 | bad
noncomputable abbrev G:=VEnv → Store → RS
noncomputable def RpX (K : PySem.W.Frag) (m : List Addr) (H : Hp) : Option (List (Str × D)) → Option Addr → Prop
 | none,none=>True
 | some fs,some d=>∃ vs,H d = some (.xd vs) ∧ d ∉ m ∧ RpF K m H fs vs
 | _,_=>False
/-- what is wanted of a value's way -/
noncomputable def PO' {α β : Type} (K : PySem.W.Frag) (m : List Addr) (H : Hp) (rel : List Addr → Hp → α → β → Prop) (Q : β → Hp → Prop) (E : XK) : R α → Prop
 | .ok u st'=>∀ v m' H',rel m' H' u v → Rep K m' st' H' → Ext m H m' H' → Q v H'
 | .ex c fs st'=>∀ d m' H',Rep K m' st' H' → Ext m H m' H' → RpX K m' H' fs d → E c d H'
 | .bad=>False
noncomputable abbrev PU (K : PySem.W.Frag) (m : List Addr) (H : Hp) (Q : VK) (E : XK) : R U → Prop:=PO' K m H (RpU K) Q E
noncomputable abbrev PUs (K : PySem.W.Frag) (m : List Addr) (H : Hp) (Q : List V → Hp → Prop) (E : XK) : R (List U) → Prop:=PO' K m H (RpUs K) Q E
noncomputable abbrev PB (K : PySem.W.Frag) (m : List Addr) (H : Hp) (Q : Bool → Hp → Prop) (E : XK) : R Bool → Prop:=PO' K m H (fun _ _ a b=>b = a) Q E
noncomputable def PS' (K : PySem.W.Frag) (m : List Addr) (H : Hp) (D : Ends) (W : WX) : RS → Prop
 | .ok env .nx st'=>∀ σ' m' H',RpEnv K m' H' env σ' → Rep K m' st' H' → Ext m H m' H' → D.nx σ' H'
 | .ok env (.rt u) st'=>∀ v m' H',RpU K m' H' u v → Rep K m' st' H' → Ext m H m' H' → D.rt v H'
 | .ok env .bk st'=>∀ σ' m' H',RpEnv K m' H' env σ' → Rep K m' st' H' → Ext m H m' H' → D.bk σ' H'
 | .ok env .ct st'=>∀ σ' m' H',RpEnv K m' H' env σ' → Rep K m' st' H' → Ext m H m' H' → D.ct σ' H'
 | .ex c fs env st'=>∀ d σ' m' H',RpEnv K m' H' env σ' → Rep K m' st' H' → Ext m H m' H' → RpX K m' H' fs d → W c d σ' H'
 | .bad=>False
theorem PO'.from {α β : Type} {K : PySem.W.Frag} {m m1 : List Addr} {H H1 : Hp} {rel : List Addr → Hp → α → β → Prop} {Q : β → Hp → Prop} {E : XK} (e : Ext m H m1 H1) : ∀ {r : R α},PO' K m H rel Q E r → PO' K m1 H1 rel Q E r
 | .ok u st',h=>fun v m' H' a b c=>h v m' H' a b (e.trans c)
 | .ex c fs st',h=>fun d m' H' a b x=>h d m' H' a (e.trans b) x
 | .bad,h=>h
theorem PO'.imp {α β : Type} {K : PySem.W.Frag} {m : List Addr} {H : Hp} {rel : List Addr → Hp → α → β → Prop} {Q Q' : β → Hp → Prop} {E : XK} (hq : ∀ v H,Q v H → Q' v H) : ∀ {r : R α},PO' K m H rel Q E r → PO' K m H rel Q' E r
 | .ok u st',h=>fun v m' H' a b c=>hq _ _ (h v m' H' a b c)
 | .ex c fs st',h=>h
 | .bad,h=>h
theorem PS'.from {K : PySem.W.Frag} {m m1 : List Addr} {H H1 : Hp} {D : Ends} {W : WX} (e : Ext m H m1 H1) : ∀ {r : RS},PS' K m H D W r → PS' K m1 H1 D W r
 | .ok env .nx st',h=>fun v m' H' a b c=>h v m' H' a b (e.trans c)
 | .ok env (.rt u) st',h=>fun v m' H' a b c=>h v m' H' a b (e.trans c)
 | .ok env .bk st',h=>fun v m' H' a b c=>h v m' H' a b (e.trans c)
 | .ok env .ct st',h=>fun v m' H' a b c=>h v m' H' a b (e.trans c)
 | .ex c fs env st',h=>fun d σ' m' H' a b x y=>h d σ' m' H' a b (e.trans x) y
 | .bad,h=>h
noncomputable def tF (K : PySem.W.Frag) (W : WX) (f : F U) : TE:=fun σ H Q=>∃ m env st,Rep K m st H ∧ RpEnv K m H env σ ∧ PU K m H Q (fun c d H'=>W c d σ H') (f env st)
noncomputable def tFB (K : PySem.W.Frag) (W : WX) (f : F Bool) : TT:=fun σ H Q=>∃ m env st,Rep K m st H ∧ RpEnv K m H env σ ∧ PB K m H Q (fun c d H'=>W c d σ H') (f env st)
noncomputable def tFs (K : PySem.W.Frag) (W : WX) (f : F (List U)) : TA:=fun σ H Q=>∃ m env st,Rep K m st H ∧ RpEnv K m H env σ ∧ PUs K m H Q (fun c d H'=>W c d σ H') (f env st)
noncomputable def tG (K : PySem.W.Frag) (W : WX) (g : G) : TS:=fun D σ H=>∃ m env st,Rep K m st H ∧ RpEnv K m H env σ ∧ PS' K m H D W (g env st)
structure DE (X : Cx) (W : WX) (e : Expr) (f : F U) : Prop where
 pe : PE X e (tF X.K W f)
structure DT (X : Cx) (W : WX) (e : Expr) (f : F Bool) : Prop where
 pt : PT X e (tFB X.K W f)
structure DW (X : Cx) (W : WX) (e : Expr) (f : F Bool) : Prop where
 pw : PW X e (tFB X.K W f)
structure DA (X : Cx) (W : WX) (es : List Expr) (f : F (List U)) : Prop where
 pa : PA X es (tFs X.K W f)
structure DS (X : Cx) (W : WX) (s : Stmt) (g : G) : Prop where
 ps : PS X s (tG X.K W g)
structure DB (X : Cx) (W : WX) (s : List Stmt) (g : G) : Prop where
 pss : PSs X s (tG X.K W g)
theorem PE.imp {X : Cx} {e : Expr} {t t' : TE} (h : PE X e t) (i : ∀ σ H Q,t' σ H Q → t σ H Q) : PE X e t':=⟨fun pins s σ H Q I q=>h.run pins s σ H Q I (i σ H Q q)⟩
theorem PT.imp {X : Cx} {e : Expr} {t t' : TT} (h : PT X e t) (i : ∀ σ H Q,t' σ H Q → t σ H Q) : PT X e t':=⟨fun pins s σ H Q I q=>h.run pins s σ H Q I (i σ H Q q)⟩
theorem PW.imp {X : Cx} {e : Expr} {t t' : TT} (h : PW X e t) (i : ∀ σ H Q,t' σ H Q → t σ H Q) : PW X e t':=⟨fun w pins s σ H Q I q=>h.run w pins s σ H Q I (i σ H Q q)⟩
theorem PA.imp {X : Cx} {e : List Expr} {t t' : TA} (h : PA X e t) (i : ∀ σ H Q,t' σ H Q → t σ H Q) : PA X e t':=⟨fun pos pins s σ H Q I q=>h.run pos pins s σ H Q I (i σ H Q q)⟩
theorem PS.imp {X : Cx} {e : Stmt} {t t' : TS} (h : PS X e t) (i : ∀ D σ H,t' D σ H → t D σ H) : PS X e t':=⟨fun pins s σ H Q I q=>h.run pins s σ H Q I (i Q σ H q)⟩
theorem PSs.imp {X : Cx} {e : List Stmt} {t t' : TS} (h : PSs X e t) (i : ∀ D σ H,t' D σ H → t D σ H) : PSs X e t':=⟨fun pins s σ H Q I q=>h.run pins s σ H Q I (i Q σ H q)⟩
end VL
namespace VL
open PySem PySem.Spec PyProof.Rows L2
noncomputable def bnd {α β : Type} (f : F α) (g : α → F β) : F β:=fun env st=>match f env st with
 | .ok a st1=>g a env st1
 | .ex c fs st1=>.ex c fs st1
 | .bad=>.bad
noncomputable def bndS {α : Type} (f : F α) (g : α → G) : G:=fun env st=>match f env st with
 | .ok a st1=>g a env st1
 | .ex c fs st1=>.ex c fs env st1
 | .bad=>.bad
/-- an operation that leaves the cells -/
noncomputable def R.of {α : Type} (st : Store) : Option α → R α
 | some a=>.ok a st
 | none=>.bad
/-- an operation that may write them -/
noncomputable def R.of2 {α : Type} : Option (α × Store) → R α
 | some (a,st)=>.ok a st
 | none=>.bad
noncomputable def fPure {α : Type} (a : α) : F α:=fun _ st=>.ok a st
section
variable {K : PySem.W.Frag} {W : WX} {m : List Addr} {env : VEnv} {st : Store} {H : Hp} {σ : L2.St} {γ δ : Type} {rel : List Addr → Hp → γ → δ → Prop} {Q : δ → Hp → Prop}
theorem tF_step {f : F U} {g : U → F γ} {Z : VK} (r : Rep K m st H) (re : RpEnv K m H env σ) (p : PO' K m H rel Q (fun c d H'=>W c d σ H') (bnd f g env st))
  (h : ∀ a st1 v m1 H1,RpU K m1 H1 a v → Rep K m1 st1 H1 → RpEnv K m1 H1 env σ → Ext m H m1 H1 → PO' K m1 H1 rel Q (fun c d H'=>W c d σ H') (g a env st1) → Z v H1) : tF K W f σ H Z :=
 ⟨m,env,st,r,re,by
  unfold bnd at p
  cases e : f env st with
  | ok a st1=>rw [e] at p; exact fun v m1 H1 h1 h2 h3=>h a st1 v m1 H1 h1 h2 (re.ext h3) h3 (p.from h3)
  | ex c fs st1=>rw [e] at p; exact p
  | bad=>rw [e] at p; exact p.elim⟩
theorem tFs_step {f : F (List U)} {g : List U → F γ} {Z : List V → Hp → Prop} (r : Rep K m st H) (re : RpEnv K m H env σ) (p : PO' K m H rel Q (fun c d H'=>W c d σ H') (bnd f g env st))
  (h : ∀ a st1 v m1 H1,RpUs K m1 H1 a v → Rep K m1 st1 H1 → RpEnv K m1 H1 env σ → Ext m H m1 H1 → PO' K m1 H1 rel Q (fun c d H'=>W c d σ H') (g a env st1) → Z v H1) : tFs K W f σ H Z :=
 ⟨m,env,st,r,re,by
  unfold bnd at p
  cases e : f env st with
  | ok a st1=>rw [e] at p; exact fun v m1 H1 h1 h2 h3=>h a st1 v m1 H1 h1 h2 (re.ext h3) h3 (p.from h3)
  | ex c fs st1=>rw [e] at p; exact p
  | bad=>rw [e] at p; exact p.elim⟩
theorem tFB_step {f : F Bool} {g : Bool → F γ} {Z : Bool → Hp → Prop} (r : Rep K m st H) (re : RpEnv K m H env σ) (p : PO' K m H rel Q (fun c d H'=>W c d σ H') (bnd f g env st))
  (h : ∀ a st1 m1 H1,Rep K m1 st1 H1 → RpEnv K m1 H1 env σ → Ext m H m1 H1 → PO' K m1 H1 rel Q (fun c d H'=>W c d σ H') (g a env st1) → Z a H1) : tFB K W f σ H Z :=
 ⟨m,env,st,r,re,by
  unfold bnd at p
  cases e : f env st with
  | ok a st1=>rw [e] at p; exact fun v m1 H1 h1 h2 h3=>by subst h1; exact h _ st1 m1 H1 h2 (re.ext h3) h3 (p.from h3)
  | ex c fs st1=>rw [e] at p; exact p
  | bad=>rw [e] at p; exact p.elim⟩
variable {Dn : Ends}
theorem sF_step {f : F U} {g : U → G} {Z : VK} (r : Rep K m st H) (re : RpEnv K m H env σ) (p : PS' K m H Dn W (bndS f g env st))
  (h : ∀ a st1 v m1 H1,RpU K m1 H1 a v → Rep K m1 st1 H1 → RpEnv K m1 H1 env σ → Ext m H m1 H1 → PS' K m1 H1 Dn W (g a env st1) → Z v H1) : tF K W f σ H Z :=
 ⟨m,env,st,r,re,by
  unfold bndS at p
  cases e : f env st with
  | ok a st1=>rw [e] at p; exact fun v m1 H1 h1 h2 h3=>h a st1 v m1 H1 h1 h2 (re.ext h3) h3 (p.from h3)
  | ex c fs st1=>rw [e] at p; exact fun d m' H' h1 h2 h3=>p d σ m' H' (re.ext h2) h1 h2 h3
  | bad=>rw [e] at p; exact p.elim⟩
theorem sFB_step {f : F Bool} {g : Bool → G} {Z : Bool → Hp → Prop} (r : Rep K m st H) (re : RpEnv K m H env σ) (p : PS' K m H Dn W (bndS f g env st))
  (h : ∀ a st1 m1 H1,Rep K m1 st1 H1 → RpEnv K m1 H1 env σ → Ext m H m1 H1 → PS' K m1 H1 Dn W (g a env st1) → Z a H1) : tFB K W f σ H Z :=
 ⟨m,env,st,r,re,by
  unfold bndS at p
  cases e : f env st with
  | ok a st1=>rw [e] at p; exact fun v m1 H1 h1 h2 h3=>by subst h1; exact h _ st1 m1 H1 h2 (re.ext h3) h3 (p.from h3)
  | ex c fs st1=>rw [e] at p; exact fun d m' H' h1 h2 h3=>p d σ m' H' (re.ext h2) h1 h2 h3
  | bad=>rw [e] at p; exact p.elim⟩
theorem sFs_step {f : F (List U)} {g : List U → G} {Z : List V → Hp → Prop} (r : Rep K m st H) (re : RpEnv K m H env σ) (p : PS' K m H Dn W (bndS f g env st))
  (h : ∀ a st1 v m1 H1,RpUs K m1 H1 a v → Rep K m1 st1 H1 → RpEnv K m1 H1 env σ → Ext m H m1 H1 → PS' K m1 H1 Dn W (g a env st1) → Z v H1) : tFs K W f σ H Z :=
 ⟨m,env,st,r,re,by
  unfold bndS at p
  cases e : f env st with
  | ok a st1=>rw [e] at p; exact fun v m1 H1 h1 h2 h3=>h a st1 v m1 H1 h1 h2 (re.ext h3) h3 (p.from h3)
  | ex c fs st1=>rw [e] at p; exact fun d m' H' h1 h2 h3=>p d σ m' H' (re.ext h2) h1 h2 h3
  | bad=>rw [e] at p; exact p.elim⟩
end
noncomputable def vVar (i : Nat) : F U:=fun env st=>match env[i]? with
 | some (some u)=>.ok u st
 | _=>.bad
noncomputable def vC (x : D) : F U:=fun _ st=>.ok (.d x) st
section
variable {X : Cx} {W : WX}
theorem d_var (i : Nat) {x : Str} {pos : Pos} (hN : X.N[i]? = some x:=by rfl) (hv : Vis X.env.scope x:=by first | exact Or.inl rfl | exact Or.inr (Or.inl rfl) | exact Or.inr (Or.inr rfl)) (hd : (x == ("__debug__" : Str)) = false:=by decide)
  (hcd : (x == ("__classdict__" : Str)) = false:=by decide) : DE X W (.Name x pos) (vVar i):=⟨PE.imp (pv i hN hv hd hcd) fun σ H Q ⟨m,env,st,r,re,p⟩=>by
 unfold vVar at p
 split at p
 ·rename_i u hu
  obtain ⟨v,h1,h2⟩:=re.at' i u hu
  exact ⟨v,h1,p v m H h2 r (Ext.refl _ _)⟩
 ·exact p.elim⟩
theorem d_con {e : Expr} {v : V} {x : D} (h : PE X e (tC v)) (hx : ∀ m H,RpD X.K m H x v) : DE X W e (vC x):=⟨PE.imp h fun σ H Q ⟨m,env,st,r,re,p⟩=>p v m H (hx m H) r (Ext.refl _ _)⟩
theorem d_int {i : Int} {j : Nat} {pos : Pos} : DE X W (.Constant (.int i) j pos) (vC (.int i)):=d_con pe_int fun _ _=>rfl
theorem d_bl {i : Bool} {j : Nat} {pos : Pos} : DE X W (.Constant (.bool i) j pos) (vC (.bl i)):=d_con pe_bl fun _ _=>rfl
theorem d_non {j : Nat} {pos : Pos} : DE X W (.Constant .none j pos) (vC .non):=d_con pe_non fun _ _=>rfl
theorem d_str {x : Str} {j : Nat} {pos : Pos} : DE X W (.Constant (.str x) j pos) (vC (.str x)):=d_con pe_str fun _ _=>rfl
/-- a constant of the module that is a number,a text -/
theorem d_glob {x : Str} {v : V} {d : D} {u : Value} {pos : Pos} (hm : X.mg x = some u) (r : RelV v u) (hx : ∀ m H,RpD X.K m H d v) (hg : Gl X x:=by rfl) (hd : (x == ("__debug__" : Str)) = false:=by decide) : DE X W (.Name x pos) (vC d) :=
 d_con (pe_glob hg hm r hd) hx
/-- a built-in class as a value -/
theorem d_ty {x : Str} {n : String} {pos : Pos} (hm : X.mg x = none) (hv : bootBuiltins x = some (.type n)) (hg : Gl X x:=by rfl) (hn : x ≠ "__name__":=by decide) (hd : (x == ("__debug__" : Str)) = false:=by decide) : DE X W (.Name x pos) (vC (.ty n)) :=
 d_con (v:=.ty n) (pe_bltn hg hm hv rfl hn hd) fun _ _=>rfl
end
noncomputable def getL (st : Store) : U → Option (List U)
 | .d (.lst ds)=>some (ds.map .d)
 | .d (.scr ns)=>some (ns.map fun i=>.d (.int i))
 | .ref n=>match st[n]? with
  | some (.lst us)=>some us
  | _=>none
 | _=>none
noncomputable def getT : U → Option (List D)
 | .d (.tup ds)=>some ds
 | _=>none
noncomputable def pureL : List U → Option (List D)
 | []=>some []
 | .d x :: r=>(pureL r).map (x :: ·)
 | _=>none
theorem pureL_map : ∀ ds : List D,pureL (ds.map .d) = some ds
 | []=>rfl
 | d :: ds=>by rw [List.map_cons,pureL,pureL_map ds]; rfl
section
variable {K : PySem.W.Frag} {m : List Addr} {H : Hp} {st : Store}
theorem RpUs.ofD : ∀ {ds : List D} {vs : List V},RpDs K m H ds vs → RpUs K m H (ds.map .d) vs
 | [],_,h=>h
 | d :: ds,_,⟨v,r,e,h1,h2⟩=>⟨v,r,e,h1,RpUs.ofD h2⟩
theorem pureL_rp : ∀ {us : List U} {vs : List V} {ds : List D},RpUs K m H us vs → pureL us = some ds → RpDs K m H ds vs
 | [],vs,ds,h,e=>by cases e; exact h
 | .d x :: r,vs,ds,⟨v,t,ev,h1,h2⟩,e=>by
  unfold pureL at e
  cases q : pureL r with
  | none=>rw [q] at e; cases e
  | some zs =>
   rw [q] at e
   cases e
   exact ⟨v,t,ev,h1,pureL_rp h2 q⟩
 | .ref n :: r,vs,ds,h,e=>by cases e
theorem RpUs.ints : ∀ (ns : List Int),RpUs K m H (ns.map fun i=>.d (.int i)) (ns.map V.int)
 | []=>rfl
 | n :: ns=>⟨.int n,_,rfl,rfl,RpUs.ints ns⟩
theorem getL_rp (r : Rep K m st H) : ∀ {u : U} {v : V} {us : List U},RpU K m H u v → getL st u = some us → ∃ a vs,v = .ref a ∧ SqL K H a vs ∧ RpUs K m H us vs
 | .d (.lst ds),v,us,⟨a,vs,e,h1,h2⟩,q=>by
  cases q
  exact ⟨a,vs,e,h1.sq,RpUs.ofD h2⟩
 | .d (.scr ns),v,us,⟨a,e,h1⟩,q=>by
  cases q
  exact ⟨a,_,e,h1.sq,RpUs.ints ns⟩
 | .ref n,v,us,⟨a,ha,e⟩,q=>by
  simp only [getL] at q
  split at q
  ·rename_i zs hs
   cases q
   obtain ⟨ho,h1,vs,e2,h2⟩:=r.cell n _ a hs ha
   rw [e2] at h1
   exact ⟨a,vs,e,.inl (.inl h1),h2⟩
  ·cases q
 | .d .non,_,_,_,q=>by cases q
 | .d (.bl _),_,_,_,q=>by cases q
 | .d (.int _),_,_,_,q=>by cases q
 | .d (.str _),_,_,_,q=>by cases q
 | .d (.ty _),_,_,_,q=>by cases q
 | .d (.obj _),_,_,_,q=>by cases q
 | .d (.tup _),_,_,_,q=>by cases q
 | .d (.dct _),_,_,_,q=>by cases q
 | .d (.ins _ _),_,_,_,q=>by cases q
 | .d (.exc _ _ _ _),_,_,_,q=>by cases q
 | .d (.kdc _ _),_,_,_,q=>by cases q
theorem getT_rp : ∀ {u : U} {v : V} {us : List D},RpU K m H u v → getT u = some us → ∃ a vs,v = .ref a ∧ TpV K m H a vs ∧ RpDs K m H us vs
 | .d (.tup ds),v,us,⟨a,vs,e,h1,h2⟩,q=>by
  cases q
  exact ⟨a,vs,e,h1,h2⟩
 | .ref n,_,_,_,q=>by cases q
 | .d .non,_,_,_,q=>by cases q
 | .d (.bl _),_,_,_,q=>by cases q
 | .d (.int _),_,_,_,q=>by cases q
 | .d (.str _),_,_,_,q=>by cases q
 | .d (.ty _),_,_,_,q=>by cases q
 | .d (.obj _),_,_,_,q=>by cases q
 | .d (.lst _),_,_,_,q=>by cases q
 | .d (.scr _),_,_,_,q=>by cases q
 | .d (.dct _),_,_,_,q=>by cases q
 | .d (.ins _ _),_,_,_,q=>by cases q
 | .d (.exc _ _ _ _),_,_,_,q=>by cases q
 | .d (.kdc _ _),_,_,_,q=>by cases q
theorem RpUs.length : ∀ {us : List U} {vs : List V},RpUs K m H us vs → vs.length = us.length
 | [],_,h=>by rw [show _ = [] from h]; rfl
 | u :: us,_,⟨v,r,e,h1,h2⟩=>by rw [e,List.length_cons,List.length_cons,RpUs.length h2]
theorem RpDs.length {us : List D} {vs : List V} (h : RpDs K m H us vs) : vs.length = us.length:=by
 have:=(RpUs.ofD h).length
 rwa [List.length_map] at this
theorem RpUs.append : ∀ {us ws : List U} {vs xs : List V},RpUs K m H us vs → RpUs K m H ws xs → RpUs K m H (us ++ ws) (vs ++ xs)
 | [],_,_,_,h,k=>by rw [show _ = [] from h]; exact k
 | u :: us,_,_,_,⟨v,r,e,h1,h2⟩,k=>by subst e; exact ⟨v,_,rfl,h1,RpUs.append h2 k⟩
theorem RpDs.append : ∀ {us ws : List D} {vs xs : List V},RpDs K m H us vs → RpDs K m H ws xs → RpDs K m H (us ++ ws) (vs ++ xs)
 | [],_,_,_,h,k=>by rw [show _ = [] from h]; exact k
 | u :: us,_,_,_,⟨v,r,e,h1,h2⟩,k=>by subst e; exact ⟨v,_,rfl,h1,RpDs.append h2 k⟩
theorem RpUs.get : ∀ {us : List U} {vs : List V} {i : Nat} {u : U},RpUs K m H us vs → us[i]? = some u → ∃ v,vs[i]? = some v ∧ RpU K m H u v
 | [],_,_,_,h,q=>by simp at q
 | u :: us,_,0,w,⟨v,r,e,h1,h2⟩,q=>by subst e; simp at q; subst q; exact ⟨v,rfl,h1⟩
 | u :: us,_,i + 1,w,⟨v,r,e,h1,h2⟩,q=>by
  subst e
  obtain ⟨x,g1,g2⟩:=RpUs.get (i:=i) h2 (by simpa using q)
  exact ⟨x,by simpa using g1,g2⟩
theorem RpUs.set : ∀ {us : List U} {vs : List V} (i : Nat) {u : U} {v : V},RpUs K m H us vs → RpU K m H u v → RpUs K m H (us.set i u) (vs.set i v)
 | [],_,_,_,_,h,_=>by rw [show _ = [] from h]; rfl
 | w :: us,_,0,u,v,⟨x,r,e,h1,h2⟩,k=>by subst e; exact ⟨v,r,rfl,k,h2⟩
 | w :: us,_,i + 1,u,v,⟨x,r,e,h1,h2⟩,k=>by subst e; exact ⟨x,r.set i v,rfl,h1,RpUs.set i h2 k⟩
theorem RpUs.take : ∀ {us : List U} {vs : List V} (n : Nat),RpUs K m H us vs → RpUs K m H (us.take n) (vs.take n)
 | _,_,0,_=>rfl
 | [],_,n + 1,h=>by rw [show _ = [] from h]; rfl
 | u :: us,_,n + 1,⟨x,r,e,h1,h2⟩=>by subst e; exact ⟨x,r.take n,rfl,h1,RpUs.take n h2⟩
theorem RpUs.drop : ∀ {us : List U} {vs : List V} (n : Nat),RpUs K m H us vs → RpUs K m H (us.drop n) (vs.drop n)
 | _,_,0,h=>h
 | [],_,n + 1,h=>by rw [show _ = [] from h]; rfl
 | u :: us,_,n + 1,⟨x,r,e,h1,h2⟩=>by subst e; exact RpUs.drop n h2
theorem RpDs.get {us : List D} {vs : List V} {i : Nat} {u : D} (h : RpDs K m H us vs) (q : us[i]? = some u) : ∃ v,vs[i]? = some v ∧ RpD K m H u v:=by
 obtain ⟨v,h1,h2⟩:=RpUs.get (RpUs.ofD h) (i:=i) (u:=.d u) (by rw [List.getElem?_map,q]; rfl)
 exact ⟨v,h1,h2⟩
theorem RpDs.toD {us : List D} {vs : List V} (h : RpUs K m H (us.map .d) vs) : RpDs K m H us vs:=pureL_rp h (pureL_map us)
/-- new data -/
theorem new_lst (r : Rep K m st H) {p : Addr} (np : H p = none) {ds : List D} {vs : List V} (h : RpDs K m H ds vs) : RpU K m (upd H p (.lst vs)) (.d (.lst ds)) (.ref p) :=
 ⟨p,vs,rfl,⟨r.fresh np,upd_same⟩,h.ext (ext_new r np _)⟩
theorem new_tup (r : Rep K m st H) {p : Addr} (np : H p = none) {ds : List D} {vs : List V} (h : RpDs K m H ds vs) : RpU K m (upd H p (.tup vs)) (.d (.tup ds)) (.ref p) :=
 ⟨p,vs,rfl,.inl ⟨r.fresh np,upd_same⟩,h.ext (ext_new r np _)⟩
end
/-- what an operation that leaves the cells gives -/
noncomputable def PV (K : PySem.W.Frag) (m : List Addr) (st : Store) (H : Hp) (Q : VK) : Option U → Prop
 | some u=>∀ v H',RpU K m H' u v → Rep K m st H' → Ext m H m H' → Q v H'
 | none=>False
theorem PV.of {K : PySem.W.Frag} {m : List Addr} {st : Store} {H : Hp} {Q : VK} {E : XK} : ∀ {o : Option U},PU K m H Q E (R.of st o) → PV K m st H Q o
 | some u,h=>fun v H' a b c=>h v m H' a b c
 | none,h=>h
noncomputable abbrev P1:=U → Store → Option U
noncomputable abbrev P2:=U → U → Store → Option U
noncomputable def rG (K : PySem.W.Frag) (g : P2) : R2:=fun x y H Q=>∃ m st a b,Rep K m st H ∧ RpU K m H a x ∧ RpU K m H b y ∧ PV K m st H Q (g a b st)
noncomputable def rG1 (K : PySem.W.Frag) (g : P1) : V → Hp → VK → Prop:=fun x H Q=>∃ m st a,Rep K m st H ∧ RpU K m H a x ∧ PV K m st H Q (g a st)
noncomputable def f2 (g : P2) (fa fb : F U) : F U:=bnd fa fun a=>bnd fb fun b=>fun _ st=>.of st (g a b st)
noncomputable def f1 (g : P1) (fa : F U) : F U:=bnd fa fun a=>fun _ st=>.of st (g a st)
section
variable {X : Cx} {W : WX} {a b : Expr} {fa fb : F U} {pos : Pos} {g : P2}
theorem t_op2 {σ : L2.St} {H : Hp} {Q : VK} (h : tF X.K W (f2 g fa fb) σ H Q) : tOp (rG X.K g) (tF X.K W fa) (tF X.K W fb) σ H Q:=by
 obtain ⟨m,env,st,r,re,p⟩:=h
 refine tF_step r re p fun a st1 v m1 H1 h1 r1 re1 e1 p1=>?_
 refine tF_step r1 re1 p1 fun b st2 w m2 H2 h2 r2 re2 e2 p2=>?_
 exact ⟨m2,st2,a,b,r2,h1.ext e2,h2,PV.of p2⟩
theorem d_op {op : Operator} (ho : OpR X (binaryOp op) (rG X.K g)) (ha : DE X W a fa) (hb : DE X W b fb) : DE X W (.BinOp a op b pos) (f2 g fa fb) :=
 ⟨PE.imp (pe_op ho ha.pe hb.pe) fun _ _ _ h=>t_op2 h⟩
theorem d_un {op : UnaryOp} {g : P1} (ho : UnR X (unaryOp op) (rG1 X.K g)) (ha : DE X W a fa) : DE X W (.UnaryOp op a pos) (f1 g fa) :=
 ⟨PE.imp (pe_un ho ha.pe) fun σ H Q ⟨m,env,st,r,re,p⟩=>tF_step r re p fun a st1 v m1 H1 h1 r1 re1 e1 p1=>⟨m1,st1,a,r1,h1,PV.of p1⟩⟩
theorem d_cmp {op : CmpOp} (ho : OpR X (compareOp op) (rG X.K g)) (ha : DE X W a fa) (hb : DE X W b fb) (hm : behindInMarks op b = false:=by first | exact nomark _ | rfl) : DE X W (.Compare a [op] [b] pos) (f2 g fa fb) :=
 ⟨PE.imp (pe_cmpR ho ha.pe hb.pe hm) fun _ _ _ h=>t_op2 h⟩
/-- a bool as a test -/
noncomputable def asB (f : F U) : F Bool:=bnd f fun u=>fun _ st=>match u with
 | .d (.bl k)=>.ok k st
 | _=>.bad
theorem PO'.imp' {K : PySem.W.Frag} {m : List Addr} {H : Hp} {Q : Bool → Hp → Prop} {E : XK} {k : Bool} {st : Store} (p : PB K m H Q E (.ok k st)) (r : Rep K m st H) : Q k H:=p k m H rfl r (Ext.refl _ _)
theorem t_asB {f : F U} {σ : L2.St} {H : Hp} {Q : Bool → Hp → Prop} (h : tFB X.K W (asB f) σ H Q) : tF X.K W f σ H (fun x H'=>∃ k,x = .bl k ∧ Q k H'):=by
 obtain ⟨m,env,st,r,re,p⟩:=h
 refine tF_step r re p fun a st1 v m1 H1 h1 r1 re1 e1 p1=>?_
 cases a with
 | ref n=>exact False.elim p1
 | d x =>
  cases x with
  | bl k=>exact ⟨k,h1,PO'.imp' p1 r1⟩
  | _=>exact False.elim p1
theorem dt_cmp {op : CmpOp} (ho : OpR X (compareOp op) (rG X.K g)) (ha : DE X W a fa) (hb : DE X W b fb) (hm : behindInMarks op b = false:=by first | exact nomark _ | rfl) : DT X W (.Compare a [op] [b] pos) (asB (f2 g fa fb)) :=
 ⟨PT.imp (pt_cmpR ho ha.pe hb.pe hm) fun _ _ _ h=>by
  have h2:=t_asB h
  exact t_op2 h2⟩
/-- a < b < c -/
noncomputable def fChain (g g' : P2) (fa fb fc : F U) : F U:=bnd fa fun a=>bnd fb fun b=>fun env st=>match g a b st with
 | some (.d (.bl true))=>bnd fc (fun c=>fun _ st=>.of st (g' b c st)) env st
 | some (.d (.bl false))=>.ok (.d (.bl false)) st
 | _=>.bad
end
end VL
namespace VL
open PySem PySem.Spec PyProof.Rows L2
mutual
noncomputable def toP : D → Option PyData
 | .non=>some .none
 | .bl b=>some (.bool b)
 | .int i=>some (.int i)
 | .str x=>some (.str x)
 | .tup ds=>(toPs ds).map .tuple
 | .lst ds=>(toPs ds).map .list
 | .scr ns=>some (.list (ns.map .int))
 | _=>none
noncomputable def toPs : List D → Option (List PyData)
 | []=>some []
 | d :: ds=>match toP d,toPs ds with
  | some p,some ps=>some (p :: ps)
  | _,_=>none
end
/-- all answers,or none -/
noncomputable def allM {α β : Type} (g : α → Option β) : List α → Option (List β)
 | []=>some []
 | a :: r=>match g a,allM g r with
  | some b,some bs=>some (b :: bs)
  | _,_=>none
/-- a value with its cells written out -/
noncomputable def deep : Nat → Store → U → Option D
 | _,_,.d x=>some x
 | 0,_,.ref _=>none
 | k + 1,st,.ref n=>match st[n]? with
  | some (.lst us)=>(allM (deep k st) us).map .lst
  | _=>none
noncomputable def asP (st : Store) (u : U) : Option PyData:=(deep 4 st u).bind toP
theorem allM_d {st : Store} {k : Nat} : ∀ ds : List D,allM (deep k st) (ds.map .d) = some ds
 | []=>rfl
 | d :: ds=>by
  rw [List.map_cons,allM,allM_d ds]
  cases k <;> rfl
section
variable {K : PySem.W.Frag} {m : List Addr} {H : Hp} {st : Store}
theorem DpAll.ints : ∀ ns : List Int,DpAll K H (ns.map V.int) (ns.map PyData.int)
 | []=>.nil
 | n :: ns=>.cons (.int n) (DpAll.ints ns)
mutual
theorem toP_dp : ∀ (d : D) (v : V) (p : PyData),RpD K m H d v → toP d = some p → Dp K H v p
 | .non,_,_,h,e=>by cases h; cases e; exact .non
 | .bl b,_,_,h,e=>by cases h; cases e; exact .bl b
 | .int i,_,_,h,e=>by cases h; cases e; exact .int i
 | .str x,_,_,h,e=>by cases h; cases e; exact .str x
 | .tup ds,_,_,h,e=>by
  obtain ⟨a,vs,e1,t,r⟩:=h
  unfold toP at e
  cases q : toPs ds with
  | none=>rw [q] at e; cases e
  | some ps=>rw [q] at e; cases e; subst e1; exact .tup t.sq (toPs_dp ds vs ps r q)
 | .lst ds,_,_,h,e=>by
  obtain ⟨a,vs,e1,t,r⟩:=h
  unfold toP at e
  cases q : toPs ds with
  | none=>rw [q] at e; cases e
  | some ps=>rw [q] at e; cases e; subst e1; exact .lst t.sq (toPs_dp ds vs ps r q)
 | .scr ns,_,_,h,e=>by
  obtain ⟨a,e1,t⟩:=h
  cases e; subst e1; exact .lst t.sq (DpAll.ints ns)
 | .ty _,_,_,_,e=>by cases e
 | .obj _,_,_,_,e=>by cases e
 | .dct _,_,_,_,e=>by cases e
 | .ins _ _,_,_,_,e=>by cases e
 | .exc ..,_,_,_,e=>by cases e
 | .kdc ..,_,_,_,e=>by cases e
theorem toPs_dp : ∀ (ds : List D) (vs : List V) (ps : List PyData),RpDs K m H ds vs → toPs ds = some ps → DpAll K H vs ps
 | [],_,_,h,e=>by cases h; cases e; exact .nil
 | d :: ds,_,_,h,e=>by
  obtain ⟨v,r,e1,h1,h2⟩:=h
  unfold toPs at e
  cases q1 : toP d with
  | none=>rw [q1] at e; cases e
  | some p =>
   cases q2 : toPs ds with
   | none=>rw [q1,q2] at e; cases e
   | some ps =>
    rw [q1,q2] at e; cases e
    subst e1
    exact .cons (toP_dp d v p h1 q1) (toPs_dp ds r ps h2 q2)
end
/-- a weaker way of lying there: cells among it -/
inductive WD (K : PySem.W.Frag) (m : List Addr) (H : Hp) : D → V → Prop
 | ofD {d : D} {v : V} (h : RpD K m H d v) : WD K m H d v
 | lst {a : Addr} {ds : List D} {vs : List V} (h : SqL K H a vs) (hl : vs.length = ds.length) (hs : ∀ (i : Nat) (d : D) (v : V),ds[i]? = some d → vs[i]? = some v → WD K m H d v) : WD K m H (.lst ds) (.ref a)
theorem allM_get {α β : Type} {g : α → Option β} : ∀ {l : List α} {r : List β},allM g l = some r → r.length = l.length ∧ ∀ (i : Nat) (b : β),r[i]? = some b → ∃ a,l[i]? = some a ∧ g a = some b
 | [],r,e=>by cases e; exact ⟨rfl,fun i b h=>by simp at h⟩
 | a :: l,r,e=>by
  unfold allM at e
  cases q1 : g a with
  | none=>rw [q1] at e; cases e
  | some b =>
   cases q2 : allM g l with
   | none=>rw [q1,q2] at e; cases e
   | some bs =>
    rw [q1,q2] at e; cases e
    obtain ⟨h1,h2⟩:=allM_get q2
    refine ⟨by rw [List.length_cons,List.length_cons,h1],fun i c h=>?_⟩
    cases i with
    | zero=>simp at h; subst h; exact ⟨a,rfl,q1⟩
    | succ i=>exact h2 i c (by simpa using h)
theorem deep_wd (r : Rep K m st H) : ∀ (k : Nat) (u : U) (v : V) (d : D),RpU K m H u v → deep k st u = some d → WD K m H d v
 | 0,.d x,v,d,h,e=>by cases e; exact .ofD h
 | k + 1,.d x,v,d,h,e=>by cases e; exact .ofD h
 | 0,.ref n,v,d,h,e=>by cases e
 | k + 1,.ref n,v,d,⟨a,ha,ev⟩,e=>by
  simp only [deep] at e
  split at e
  ·rename_i us hs
   cases q : allM (deep k st) us with
   | none=>rw [q] at e; cases e
   | some ds =>
    rw [q] at e
    cases e
    obtain ⟨ho,h1,vs,e2,h2⟩:=r.cell n _ a hs ha
    subst e2 ev
    obtain ⟨hl,hg⟩:=allM_get q
    refine .lst (.inl (.inl h1)) (by rw [h2.length,hl]) fun i d v hd hv=>?_
    obtain ⟨u,hu,e3⟩:=hg i d hd
    obtain ⟨v',hv',ru⟩:=h2.get hu
    rw [hv] at hv'; cases hv'
    exact deep_wd r k u v d ru e3
  ·cases e
theorem dpAll_of : ∀ {vs : List V} {ps : List PyData},vs.length = ps.length → (∀ (i : Nat) (v : V) (p : PyData),vs[i]? = some v → ps[i]? = some p → Dp K H v p) → DpAll K H vs ps
 | [],[],_,_=>.nil
 | v :: vs,p :: ps,hl,h=>.cons (h 0 v p rfl rfl) (dpAll_of (by simpa using hl) fun i w q hw hq=>h (i + 1) w q (by simpa using hw) (by simpa using hq))
 | [],_ :: _,hl,_=>by simp at hl
 | _ :: _,[],hl,_=>by simp at hl
theorem toPs_get : ∀ {ds : List D} {ps : List PyData},toPs ds = some ps → ps.length = ds.length ∧ ∀ (i : Nat) (p : PyData),ps[i]? = some p → ∃ d,ds[i]? = some d ∧ toP d = some p
 | [],r,e=>by cases e; exact ⟨rfl,fun i b h=>by simp at h⟩
 | d :: l,r,e=>by
  unfold toPs at e
  cases q1 : toP d with
  | none=>rw [q1] at e; cases e
  | some b =>
   cases q2 : toPs l with
   | none=>rw [q1,q2] at e; cases e
   | some bs =>
    rw [q1,q2] at e; cases e
    obtain ⟨h1,h2⟩:=toPs_get q2
    refine ⟨by rw [List.length_cons,List.length_cons,h1],fun i c h=>?_⟩
    cases i with
    | zero=>simp at h; subst h; exact ⟨d,rfl,q1⟩
    | succ i=>exact h2 i c (by simpa using h)
theorem wd_dp {d : D} {v : V} (h : WD K m H d v) : ∀ {p : PyData},toP d = some p → Dp K H v p:=by
 induction h with
 | ofD h=>exact fun e=>toP_dp _ _ _ h e
 | lst hq hl hs ih =>
  rename_i a ds vs
  intro p e
  unfold toP at e
  cases q : toPs ds with
  | none=>rw [q] at e; cases e
  | some ps =>
   rw [q] at e; cases e
   obtain ⟨h1,h2⟩:=toPs_get q
   refine .lst hq (dpAll_of (by rw [hl,h1]) fun i w p hw hp=>?_)
   obtain ⟨d,hd,e2⟩:=h2 i p hp
   exact ih i d w hd hw e2
theorem asP_dp (r : Rep K m st H) {u : U} {v : V} {p : PyData} (h : RpU K m H u v) (e : asP st u = some p) : Dp K H v p:=by
 unfold asP at e
 cases q : deep 4 st u with
 | none=>rw [q] at e; cases e
 | some d=>rw [q] at e; exact wd_dp (deep_wd r 4 u v d h q) e
end
noncomputable def oAdd : P2:=fun a b st=>match a,b with
 | .d (.int i),.d (.int j)=>some (.d (.int (i + j)))
 | .d (.str x),.d (.str y)=>if x.length + y.length ≤ sizeLine then some (.d (.str (x ++ y))) else none
 | .d (.tup xs),.d (.tup ys)=>if xs.length + ys.length ≤ sizeLine then some (.d (.tup (xs ++ ys))) else none
 | .d (.lst xs),.d (.lst ys)=>if xs.length + ys.length ≤ sizeLine then some (.d (.lst (xs ++ ys))) else none
 | _,_=>none
noncomputable def oSub : P2:=fun a b _=>match a,b with
 | .d (.int i),.d (.int j)=>some (.d (.int (i - j)))
 | _,_=>none
noncomputable def oMul : P2:=fun a b _=>match a,b with
 | .d (.int i),.d (.int j)=>if (-(2 ^ 64) < i ∧ i < 2 ^ 64) ∨ (-(2 ^ 64) < j ∧ j < 2 ^ 64) then some (.d (.int (i * j))) else none
 | _,_=>none
noncomputable def oFdiv : P2:=fun a b _=>match a,b with
 | .d (.int i),.d (.int j)=>if 0 < j ∧ j < 1073741824 then some (.d (.int (i / j))) else none
 | _,_=>none
noncomputable def oMod : P2:=fun a b _=>match a,b with
 | .d (.int i),.d (.int j)=>if 0 < j then some (.d (.int (i % j))) else none
 | _,_=>none
noncomputable def oPow : P2:=fun a b _=>match a,b with
 | .d (.int i),.d (.int j)=>if 0 ≤ j ∧ j ≤ 1000000 ∧ i.natAbs < 2 ^ 64 then some (.d (.int (i ^ j.toNat))) else none
 | _,_=>none
noncomputable def oNeg : P1:=fun a _=>match a with
 | .d (.int i)=>some (.d (.int (-i)))
 | _=>none
noncomputable def oLt : P2:=fun a b _=>match a,b with
 | .d (.int i),.d (.int j)=>some (.d (.bl (decide (i < j))))
 | _,_=>none
noncomputable def oLe : P2:=fun a b _=>match a,b with
 | .d (.int i),.d (.int j)=>some (.d (.bl (decide (i ≤ j))))
 | _,_=>none
noncomputable def oGt : P2:=fun a b _=>match a,b with
 | .d (.int i),.d (.int j)=>some (.d (.bl (decide (j < i))))
 | _,_=>none
noncomputable def oGe : P2:=fun a b _=>match a,b with
 | .d (.int i),.d (.int j)=>some (.d (.bl (decide (j ≤ i))))
 | _,_=>none
/-- scalars of one kind,or data -/
noncomputable def eqB (st : Store) (a b : U) : Option Bool:=match a,b with
 | .d (.int i),.d (.int j)=>some (decide (i = j))
 | .d (.str i),.d (.str j)=>some (decide (i = j))
 | .d (.bl i),.d (.bl j)=>some (decide (i = j))
 | .d .non,.d .non=>some true
 | .d (.str _),.d .non=>some false
 | .d .non,.d (.str _)=>some false
 | .d (.int _),.d .non=>some false
 | .d .non,.d (.int _)=>some false
 | a,b=>match asP st a,asP st b with
  | some p,some q=>if SeqAt.shaped p = true ∧ SeqAt.shaped q = true then some (PyData.eqv p q) else none
  | _,_=>none
noncomputable def oEq : P2:=fun a b st=>(eqB st a b).map fun k=>.d (.bl k)
noncomputable def oNe : P2:=fun a b st=>(eqB st a b).map fun k=>.d (.bl (!k))
noncomputable def oIsN : P2:=fun a b _=>match a,b with
 | .d .non,.d .non=>some (.d (.bl true))
 | _,.d .non=>some (.d (.bl false))
 | _,_=>none
noncomputable def oNotN : P2:=fun a b _=>match a,b with
 | .d .non,.d .non=>some (.d (.bl false))
 | _,.d .non=>some (.d (.bl true))
 | _,_=>none
/-- flat data -/
noncomputable def flatD : D → Option PyData
 | .non=>some .none
 | .bl b=>some (.bool b)
 | .int i=>some (.int i)
 | .str x=>some (.str x)
 | _=>none
noncomputable def inB (st : Store) (a b : U) : Option Bool:=match a,b with
 | .d (.str x),.d (.str y)=>some (!(Builtin.Str.occurrences y x 0 y.length 1).isEmpty)
 | .d x,.d (.tup ds)=>match flatD x,allM flatD ds with
  | some p,some qs=>some (qs.any fun q=>PyData.eqv q p)
  | _,_=>none
 | a,b=>match asP st a,asP st b with
  | some p,some (.list qs)=>if SeqAt.shaped p = true ∧ SeqAt.shaped (.list qs) = true then some (qs.any fun q=>PyData.eqv q p) else none
  | _,_=>none
noncomputable def oIn : P2:=fun a b st=>(inB st a b).map fun k=>.d (.bl k)
noncomputable def oNotIn : P2:=fun a b st=>(inB st a b).map fun k=>.d (.bl (!k))
section
variable {X : Cx}
theorem pv_flat {K : PySem.W.Frag} {m : List Addr} {st : Store} {H : Hp} {Q : VK} {u : U} {v : V} (r : Rep K m st H) (p : PV K m st H Q (some u)) (h : RpU K m H u v) : Q v H:=p v H h r (Ext.refl _ _)
theorem opg_i {f : Value → Value → Sem Value} {g : P2} {C : Int → Int → Prop} {z : Int → Int → D} (rule : ∀ (pins : List (Addr × Obj)) (s : Shared) (σ : L2.St) (H : Hp) (i j : Int) (v u : Value) (Q : VK),Inv X pins σ H s → RelV (.int i) v → RelV (.int j) u → C i j → (∀ w,RpD X.K [] H (z i j) w → Q w H) →
  wpAny (model X.prog X.w) X.A (f v u) (EP X pins σ Q) X.xe s) (hz : ∀ i j m H w,RpD X.K [] H (z i j) w → RpD X.K m H (z i j) w)
  (hg : ∀ a b st u,g a b st = some u → ∃ i j,a = .d (.int i) ∧ b = .d (.int j) ∧ C i j ∧ u = .d (z i j)) : OpR X f (rG X.K g):=by
 intro pins s σ H x y v u Q I rx ry h
 obtain ⟨m,st,a,b,r,ha,hb,p⟩:=h
 cases e : g a b st with
 | none=>rw [e] at p; exact p.elim
 | some c =>
  rw [e] at p
  obtain ⟨i,j,rfl,rfl,hc,rfl⟩:=hg a b st c e
  obtain rfl : x = .int i:=ha
  obtain rfl : y = .int j:=hb
  exact rule pins s σ H i j v u Q I rx ry hc fun w hw=>pv_flat r p (hz i j m H w hw)
theorem op_mul' : OpR X (binaryOp .Mult) (rG X.K oMul):=opg_i (C:=CMul) (z:=fun i j=>.int (i * j))
 (fun pins s σ H i j v u Q I rx ry c q=>op_mul pins s σ H _ _ v u Q I rx ry ⟨i,j,rfl,rfl,c,q _ rfl⟩) (fun _ _ _ _ _ h=>h) fun a b st u e=>by
  unfold oMul at e
  split at e
  ·split at e
   ·rename_i h; cases e; exact ⟨_,_,rfl,rfl,h,rfl⟩
   ·cases e
  ·cases e
theorem op_fdiv' : OpR X (binaryOp .FloorDiv) (rG X.K oFdiv):=opg_i (C:=CDiv) (z:=fun i j=>.int (i / j))
 (fun pins s σ H i j v u Q I rx ry c q=>op_fdiv pins s σ H _ _ v u Q I rx ry ⟨i,j,rfl,rfl,c,q _ rfl⟩) (fun _ _ _ _ _ h=>h) fun a b st u e=>by
  unfold oFdiv at e
  split at e
  ·split at e
   ·rename_i h; cases e; exact ⟨_,_,rfl,rfl,h,rfl⟩
   ·cases e
  ·cases e
theorem op_mod' : OpR X (binaryOp .Mod) (rG X.K oMod):=opg_i (C:=fun _ j=>0 < j) (z:=fun i j=>.int (i % j))
 (fun pins s σ H i j v u Q I rx ry c q=>op_mod pins s σ H _ _ v u Q I rx ry ⟨i,j,rfl,rfl,c,q _ rfl⟩) (fun _ _ _ _ _ h=>h) fun a b st u e=>by
  unfold oMod at e
  split at e
  ·split at e
   ·rename_i h; cases e; exact ⟨_,_,rfl,rfl,h,rfl⟩
   ·cases e
  ·cases e
theorem op_pow' : OpR X (binaryOp .Pow) (rG X.K oPow):=opg_i (C:=CPow) (z:=fun i j=>.int (i ^ j.toNat))
 (fun pins s σ H i j v u Q I rx ry c q=>op_pow pins s σ H _ _ v u Q I rx ry ⟨i,j,rfl,rfl,c,q _ rfl⟩) (fun _ _ _ _ _ h=>h) fun a b st u e=>by
  unfold oPow at e
  split at e
  ·split at e
   ·rename_i h; cases e; exact ⟨_,_,rfl,rfl,h,rfl⟩
   ·cases e
  ·cases e
theorem op_lt' : OpR X (compareOp .Lt) (rG X.K oLt):=opg_i (C:=fun _ _=>True) (z:=fun i j=>.bl (decide (i < j)))
 (fun pins s σ H i j v u Q I rx ry _ q=>op_lt pins s σ H _ _ v u Q I rx ry ⟨i,j,rfl,rfl,q _ rfl⟩) (fun _ _ _ _ _ h=>h) fun a b st u e=>by
  unfold oLt at e
  split at e
  ·cases e; exact ⟨_,_,rfl,rfl,trivial,rfl⟩
  ·cases e
theorem op_le' : OpR X (compareOp .LtE) (rG X.K oLe):=opg_i (C:=fun _ _=>True) (z:=fun i j=>.bl (decide (i ≤ j)))
 (fun pins s σ H i j v u Q I rx ry _ q=>op_le pins s σ H _ _ v u Q I rx ry ⟨i,j,rfl,rfl,q _ rfl⟩) (fun _ _ _ _ _ h=>h) fun a b st u e=>by
  unfold oLe at e
  split at e
  ·cases e; exact ⟨_,_,rfl,rfl,trivial,rfl⟩
  ·cases e
theorem op_gt' : OpR X (compareOp .Gt) (rG X.K oGt):=opg_i (C:=fun _ _=>True) (z:=fun i j=>.bl (decide (j < i)))
 (fun pins s σ H i j v u Q I rx ry _ q=>op_gt pins s σ H _ _ v u Q I rx ry ⟨i,j,rfl,rfl,q _ rfl⟩) (fun _ _ _ _ _ h=>h) fun a b st u e=>by
  unfold oGt at e
  split at e
  ·cases e; exact ⟨_,_,rfl,rfl,trivial,rfl⟩
  ·cases e
theorem op_ge' : OpR X (compareOp .GtE) (rG X.K oGe):=opg_i (C:=fun _ _=>True) (z:=fun i j=>.bl (decide (j ≤ i)))
 (fun pins s σ H i j v u Q I rx ry _ q=>op_ge pins s σ H _ _ v u Q I rx ry ⟨i,j,rfl,rfl,q _ rfl⟩) (fun _ _ _ _ _ h=>h) fun a b st u e=>by
  unfold oGe at e
  split at e
  ·cases e; exact ⟨_,_,rfl,rfl,trivial,rfl⟩
  ·cases e
theorem un_neg' : UnR X (unaryOp .USub) (rG1 X.K oNeg):=by
 intro pins s σ H x v Q I rx h
 obtain ⟨m,st,a,r,ha,p⟩:=h
 unfold oNeg at p
 split at p
 ·rename_i i
  obtain rfl : x = .int i:=ha
  exact un_neg pins s σ H _ v Q I rx ⟨i,rfl,pv_flat r p rfl⟩
 ·exact p.elim
theorem op_add' : OpR X (binaryOp .Add) (rG X.K oAdd):=by
 intro pins s σ H x y v u Q I rx ry h
 obtain ⟨m,st,a,b,r,ha,hb,p⟩:=h
 unfold oAdd at p
 split at p
 ·rename_i i j
  obtain rfl : x = .int i:=ha
  obtain rfl : y = .int j:=hb
  exact op_add pins s σ H _ _ v u Q I rx ry ⟨i,j,rfl,rfl,pv_flat r p rfl⟩
 ·rename_i i j
  obtain rfl : x = .str i:=ha
  obtain rfl : y = .str j:=hb
  split at p
  ·rename_i hz
   exact op_add_str pins s σ H _ _ v u Q I rx ry ⟨i,j,rfl,rfl,hz,pv_flat r p rfl⟩
  ·exact p.elim
 ·rename_i xs ys
  split at p
  ·rename_i hz
   obtain ⟨a,vs,rfl,ta,ra⟩:=ha
   obtain ⟨b,ws,rfl,tb,rb⟩:=hb
   have l1:=ra.length
   have l2:=rb.length
   refine op_catA pins s σ H _ _ v u Q I rx ry ⟨a,b,vs,ws,rfl,rfl,ta.sq,tb.sq,by omega,fun e=>?_,fun _ e=>?_,fun _ _ q hq=>?_⟩
   ·subst e
    have : xs = []:=List.length_eq_zero_iff.mp (by simpa using l1.symm)
    subst this
    exact pv_flat r p ⟨b,ws,rfl,tb,rb⟩
   ·subst e
    have : ys = []:=List.length_eq_zero_iff.mp (by simpa using l2.symm)
    subst this
    exact pv_flat r p ⟨a,vs,rfl,ta,by rw [List.append_nil]; exact ra⟩
   ·exact p _ _ (new_tup r hq (ra.append rb)) (r.new hq _) (ext_new r hq _)
  ·exact p.elim
 ·rename_i xs ys
  split at p
  ·rename_i hz
   obtain ⟨a,vs,rfl,ta,ra⟩:=ha
   obtain ⟨b,ws,rfl,tb,rb⟩:=hb
   have l1:=ra.length
   have l2:=rb.length
   exact op_cat pins s σ H _ _ v u Q I rx ry ⟨a,b,vs,ws,rfl,rfl,ta.2,tb.2,by omega,fun q hq=>p _ _ (new_lst r hq (ra.append rb)) (r.new hq _) (ext_new r hq _)⟩
  ·exact p.elim
 ·exact p.elim
theorem eqB_ok {f : Value → Value → Sem Value} {z : Bool → Bool} (hs : OpR X f (fun x y H Q=>scal x y = true ∧ Q (.bl (z (decide (x = y)))) H))
  (hd : OpR X f (fun x y H Q=>∃ d e,Dp X.K H x d ∧ Dp X.K H y e ∧ SeqAt.shaped d = true ∧ SeqAt.shaped e = true ∧ Q (.bl (z (PyData.eqv d e))) H)) :
  OpR X f (rG X.K fun a b st=>(eqB st a b).map fun k=>.d (.bl (z k))):=by
 intro pins s σ H x y v u Q I rx ry h
 obtain ⟨m,st,a,b,r,ha,hb,p⟩:=h
 replace p : PV X.K m st H Q ((eqB st a b).map fun k=>.d (.bl (z k))):=p
 have sc : ∀ {k : Bool},PV X.K m st H Q (some (.d (.bl (z k)))) → scal x y = true → decide (x = y) = k → wpAny (model X.prog X.w) X.A (f v u) (EP X pins σ Q) X.xe s:=fun {k} p h1 h2 =>
  hs pins s σ H x y v u Q I rx ry ⟨h1,by rw [h2]; exact pv_flat r p rfl⟩
 cases e : eqB st a b with
 | none=>rw [e] at p; exact p.elim
 | some k =>
  rw [e] at p
  have p' : PV X.K m st H Q (some (.d (.bl (z k)))):=p
  unfold eqB at e
  split at e
  ·cases ha; cases hb; cases e; exact sc p' rfl (by simp)
  ·cases ha; cases hb; cases e; exact sc p' rfl (by simp)
  ·cases ha; cases hb; cases e; exact sc p' rfl (by simp)
  ·cases ha; cases hb; cases e; exact sc p' rfl (by simp)
  ·cases ha; cases hb; cases e; exact sc p' rfl (by simp)
  ·cases ha; cases hb; cases e; exact sc p' rfl (by simp)
  ·cases ha; cases hb; cases e; exact sc p' rfl (by simp)
  ·cases ha; cases hb; cases e; exact sc p' rfl (by simp)
  ·split at e
   ·rename_i q1 q2
    split at e
    ·rename_i hsh
     cases e
     exact hd pins s σ H x y v u Q I rx ry ⟨_,_,asP_dp r ha q1,asP_dp r hb q2,hsh.1,hsh.2,pv_flat r p' rfl⟩
    ·cases e
   ·cases e
theorem op_eq' (hu : X.A.units + 64 < cLine) : OpR X (compareOp .Eq) (rG X.K oEq):=eqB_ok (z:=fun k=>k) op_eq (op_eqD hu)
theorem op_ne' (hu : X.A.units + 64 < cLine) : OpR X (compareOp .NotEq) (rG X.K oNe):=eqB_ok (z:=fun k=>!k) op_ne (op_neD hu)
theorem op_isN' : OpR X (compareOp .Is) (rG X.K oIsN):=by
 intro pins s σ H x y v u Q I rx ry h
 obtain ⟨m,st,a,b,r,ha,hb,p⟩:=h
 unfold oIsN at p
 split at p
 ·cases ha; cases hb
  exact op_isN pins s σ H _ _ v u Q I rx ry ⟨rfl,pv_flat r p rfl⟩
 ·rename_i hn
  cases hb
  refine op_isN pins s σ H _ _ v u Q I rx ry ⟨rfl,?_⟩
  have : decide (x = .non) = false:=decide_eq_false fun e=>by
   subst e
   cases a with
   | ref n=>obtain ⟨_,_,z⟩:=ha; cases z
   | d w=>cases w <;> first | exact hn rfl | (obtain ⟨_,z,_⟩:=ha; cases z; done) | (obtain ⟨_,_,z,_⟩:=ha; cases z; done) | (obtain ⟨_,_,_,z,_⟩:=ha; cases z; done) | (cases ha; done) | (cases ha.1; done)
  rw [this]
  exact pv_flat r p rfl
 ·exact p.elim
theorem op_notN' : OpR X (compareOp .IsNot) (rG X.K oNotN):=by
 intro pins s σ H x y v u Q I rx ry h
 obtain ⟨m,st,a,b,r,ha,hb,p⟩:=h
 unfold oNotN at p
 split at p
 ·cases ha; cases hb
  exact op_notN pins s σ H _ _ v u Q I rx ry ⟨rfl,pv_flat r p rfl⟩
 ·rename_i hn
  cases hb
  refine op_notN pins s σ H _ _ v u Q I rx ry ⟨rfl,?_⟩
  have : decide (x = .non) = false:=decide_eq_false fun e=>by
   subst e
   cases a with
   | ref n=>obtain ⟨_,_,z⟩:=ha; cases z
   | d w=>cases w <;> first | exact hn rfl | (obtain ⟨_,z,_⟩:=ha; cases z; done) | (obtain ⟨_,_,z,_⟩:=ha; cases z; done) | (obtain ⟨_,_,_,z,_⟩:=ha; cases z; done) | (cases ha; done) | (cases ha.1; done)
  rw [this]
  exact pv_flat r p rfl
 ·exact p.elim
theorem eqV_flat {K : PySem.W.Frag} {m : List Addr} {H : Hp} {d e : D} {x y : V} {p q : PyData} (h1 : RpD K m H d x) (h2 : RpD K m H e y) (e1 : flatD d = some p) (e2 : flatD e = some q) : eqV x y = PyData.eqv p q ∧ flatV x = true:=by
 cases d <;> first | (cases e1; done) | skip
 all_goals (cases e <;> first | (cases e2; done) | skip)
 all_goals (cases h1; cases h2; cases e1; cases e2; exact ⟨rfl,rfl⟩)
theorem allM_flat {K : PySem.W.Frag} {m : List Addr} {H : Hp} {d : D} {x : V} {p : PyData} (h1 : RpD K m H d x) (e1 : flatD d = some p) : ∀ {ds : List D} {vs : List V} {qs : List PyData},RpDs K m H ds vs → allM flatD ds = some qs → inV x vs = qs.any (fun q=>PyData.eqv q p) ∧ vs.all flatV = true
 | [],_,_,h,e=>by cases h; cases e; exact ⟨rfl,rfl⟩
 | d' :: ds,_,qs,⟨v,r,ev,g1,g2⟩,e=>by
  unfold allM at e
  cases q1 : flatD d' with
  | none=>rw [q1] at e; cases e
  | some b =>
   cases q2 : allM flatD ds with
   | none=>rw [q1,q2] at e; cases e
   | some bs =>
    rw [q1,q2] at e; cases e
    subst ev
    obtain ⟨i1,i2⟩:=allM_flat h1 e1 g2 q2
    obtain ⟨j1,j2⟩:=eqV_flat g1 h1 q1 e1
    refine ⟨?_,by rw [List.all_cons,j2,i2]; rfl⟩
    unfold inV at i1 ⊢
    rw [List.any_cons,List.any_cons,i1,j1]
theorem inB_ok {op : CmpOp} {z : Bool → Bool} (hs : OpR X (compareOp op) (fun x y H Q=>∃ i j,x = .str i ∧ y = .str j ∧ Q (.bl (z (!(Builtin.Str.occurrences j i 0 j.length 1).isEmpty))) H))
  (hf : OpR X (compareOp op) (fun x y H Q=>∃ p xs,y = .ref p ∧ (SqL X.K H p xs ∨ SqT X.K H p xs) ∧ flatV x = true ∧ xs.all flatV = true ∧ Q (.bl (z (inV x xs))) H))
  (hd : OpR X (compareOp op) (fun x y H Q=>∃ d ds,Dp X.K H x d ∧ Dp X.K H y (.list ds) ∧ SeqAt.shaped d = true ∧ SeqAt.shaped (.list ds) = true ∧ Q (.bl (z (ds.any fun q=>PyData.eqv q d))) H)) :
  OpR X (compareOp op) (rG X.K fun a b st=>(inB st a b).map fun k=>.d (.bl (z k))):=by
 intro pins s σ H x y v u Q I rx ry h
 obtain ⟨m,st,a,b,r,ha,hb,p⟩:=h
 replace p : PV X.K m st H Q ((inB st a b).map fun k=>.d (.bl (z k))):=p
 cases e : inB st a b with
 | none=>rw [e] at p; exact p.elim
 | some k =>
  rw [e] at p
  have p' : PV X.K m st H Q (some (.d (.bl (z k)))):=p
  unfold inB at e
  split at e
  ·cases ha; cases hb; cases e; exact hs pins s σ H _ _ v u Q I rx ry ⟨_,_,rfl,rfl,pv_flat r p' rfl⟩
  ·split at e
   ·rename_i q1 q2
    cases e
    obtain ⟨b,ws,rfl,tb,rb⟩:=hb
    obtain ⟨i1,i2⟩:=allM_flat ha q1 rb q2
    exact hf pins s σ H _ _ v u Q I rx ry ⟨b,ws,rfl,.inr tb.sq,(eqV_flat ha ha q1 q1).2,i2,by rw [i1]; exact pv_flat r p' rfl⟩
   ·cases e
  ·split at e
   ·rename_i q1 q2
    split at e
    ·rename_i hsh
     cases e
     exact hd pins s σ H x y v u Q I rx ry ⟨_,_,asP_dp r ha q1,asP_dp r hb q2,hsh.1,hsh.2,pv_flat r p' rfl⟩
    ·cases e
   ·cases e
theorem op_in' (hu : X.A.units + 65 < cLine) : OpR X (compareOp .In) (rG X.K oIn):=inB_ok (z:=fun k=>k) op_in_str op_in_seq (op_inD hu)
theorem op_notIn' (hu : X.A.units + 65 < cLine) : OpR X (compareOp .NotIn) (rG X.K oNotIn):=inB_ok (z:=fun k=>!k) op_notin_str op_notIn_seq (op_notInD hu)
noncomputable def truB (st : Store) : U → Option Bool
 | .d .non=>some false
 | .d (.bl b)=>some b
 | .d (.int i)=>some (i != 0)
 | .d (.str x)=>if x.length ≤ sizeLine then some ((x.length : Int) != 0) else none
 | .d (.tup ds)=>some (!ds.isEmpty)
 | .d (.lst ds)=>some (!ds.isEmpty)
 | .d (.scr ns)=>some (!ns.isEmpty)
 | .ref n=>match st[n]? with
  | some (.lst us)=>some (!us.isEmpty)
  | some (.dct us)=>some (!us.isEmpty)
  | _=>none
 | _=>none
end
section
variable {K : PySem.W.Frag} {m : List Addr} {H : Hp} {st : Store}
theorem RpUs.isEmpty {us : List U} {vs : List V} (h : RpUs K m H us vs) : vs.isEmpty = us.isEmpty:=by
 cases us with
 | nil=>rw [show vs = [] from h]; rfl
 | cons u us=>obtain ⟨v,r,e,_⟩:=h; rw [e]; rfl
theorem RpDs.isEmpty {us : List D} {vs : List V} (h : RpDs K m H us vs) : vs.isEmpty = us.isEmpty:=by
 cases us with
 | nil=>rw [show vs = [] from h]; rfl
 | cons u us=>obtain ⟨v,r,e,_⟩:=h; rw [e]; rfl
theorem RpUK.isEmpty {us : List (Key × U)} {vs : List (Key × V)} (h : RpUK K m H us vs) : vs.isEmpty = us.isEmpty:=by
 cases us with
 | nil=>rw [show vs = [] from h]; rfl
 | cons u us=>obtain ⟨v,r,e,_⟩:=h; rw [e]; rfl
theorem truB_ok (r : Rep K m st H) {u : U} {v : V} {k : Bool} (h : RpU K m H u v) (e : truB st u = some k) : TruV K v H k:=by
 cases u with
 | ref n =>
  obtain ⟨a,ha,rfl⟩:=h
  simp only [truB] at e
  split at e
  ·rename_i us hs
   obtain ⟨ho,h1,vs,e2,h2⟩:=r.cell n _ a hs ha
   subst e2
   cases e
   exact .inl ⟨vs,.inl (.inl h1),by rw [h2.isEmpty]⟩
  ·rename_i us hs
   obtain ⟨ho,h1,vs,e2,h2⟩:=r.cell n _ a hs ha
   subst e2
   cases e
   exact .inr (.inr ⟨vs,h1,by rw [h2.isEmpty]⟩)
  ·cases e
 | d x =>
  cases x with
  | non=>cases h; cases e; rfl
  | bl b=>cases h; cases e; rfl
  | int i=>cases h; cases e; rfl
  | str x =>
   cases h
   simp only [truB] at e
   split at e
   ·rename_i hz; cases e; exact ⟨hz,rfl⟩
   ·cases e
  | tup ds =>
   obtain ⟨a,vs,rfl,t,q⟩:=h
   cases e
   exact .inr (.inl ⟨vs,t.sq,by rw [q.isEmpty]⟩)
  | lst ds =>
   obtain ⟨a,vs,rfl,t,q⟩:=h
   cases e
   exact .inl ⟨vs,t.sq,by rw [q.isEmpty]⟩
  | scr ns =>
   obtain ⟨a,rfl,t⟩:=h
   cases e
   exact .inl ⟨_,t.sq,by cases ns <;> rfl⟩
  | _=>cases e
end
/-- a value as a test -/
noncomputable def asT (f : F U) : F Bool:=bnd f fun u=>fun _ st=>.of st (truB st u)
noncomputable def fNot (f : F U) : F U:=bnd f fun u=>fun _ st=>.of st ((truB st u).map fun k=>.d (.bl (!k)))
noncomputable def fIf (c : F Bool) (a b : F U) : F U:=bnd c fun k=>if k = true then a else b
noncomputable def fAnd (a b : F U) : F U:=bnd a fun x=>fun env st=>match x with
 | .d (.bl true)=>b env st
 | .d (.bl false)=>.ok (.d (.bl false)) st
 | _=>.bad
noncomputable def fOr (a b : F U) : F U:=bnd a fun x=>fun env st=>match x with
 | .d (.bl true)=>.ok (.d (.bl true)) st
 | .d (.bl false)=>b env st
 | _=>.bad
noncomputable def bNot (f : F Bool) : F Bool:=bnd f fun k=>fun _ st=>.ok (!k) st
noncomputable def bAnd (a b : F Bool) : F Bool:=bnd a fun k=>if k = true then b else fPure false
noncomputable def bOr (a b : F Bool) : F Bool:=bnd a fun k=>if k = true then fPure true else b
section
variable {X : Cx} {W : WX} {a b c : Expr} {rest : List Expr} {fa fb fc : F U} {ba bb bc : F Bool} {pos : Pos}
theorem t_asT {f : F U} {σ : L2.St} {H : Hp} {Q : Bool → Hp → Prop} (h : tFB X.K W (asT f) σ H Q) : tF X.K W f σ H (fun x H'=>∃ k,TruV X.K x H' k ∧ Q k H'):=by
 obtain ⟨m,env,st,r,re,p⟩:=h
 refine tF_step r re p fun a st1 v m1 H1 h1 r1 re1 e1 p1=>?_
 cases e : truB st1 a with
 | none=>rw [e] at p1; exact False.elim p1
 | some k=>rw [e] at p1; exact ⟨k,truB_ok r1 h1 e,PO'.imp' p1 r1⟩
theorem dt_truth (ha : DE X W a fa) (he : ∀ whole,isTrue a X.env whole = (do let v ← whole; standAt a.pos; holding [v] (truthy v)):=by intro _; rfl) : DT X W a (asT fa) :=
 ⟨PT.imp (pt_truth ha.pe he) fun _ _ _ h=>t_asT h⟩
theorem d_if (hc : DT X W c bc) (ha : DE X W a fa) (hb : DE X W b fb) : DE X W (.IfExp c a b pos) (fIf bc fa fb):=⟨PE.imp (pe_ifExp hc.pt ha.pe hb.pe) fun σ H Q ⟨m,env,st,r,re,p⟩ =>
 tFB_step r re p fun k st1 m1 H1 r1 re1 e1 p1=>by
  cases k with
  | true=>exact iteT ⟨m1,env,st1,r1,re1,p1⟩
  | false=>exact iteF ⟨m1,env,st1,r1,re1,p1⟩⟩
theorem d_one {op : BoolOp} (h : DE X W a fa) : DE X W (.BoolOp op [a] pos) fa:=⟨pe_one h.pe⟩
theorem d_and (ha : DE X W a fa) (hb : DE X W (.BoolOp .And (b :: rest) pos) fb) : DE X W (.BoolOp .And (a :: b :: rest) pos) (fAnd fa fb):=⟨PE.imp (pe_and ha.pe hb.pe) fun σ H Q ⟨m,env,st,r,re,p⟩ =>
 tF_step r re p fun x st1 v m1 H1 h1 r1 re1 e1 p1=>by
  cases x with
  | ref n=>exact False.elim p1
  | d x =>
   cases x with
   | bl k =>
    refine ⟨k,h1,?_⟩
    cases k with
    | true=>exact iteT ⟨m1,env,st1,r1,re1,p1⟩
    | false=>exact iteF (p1 _ m1 H1 rfl r1 (Ext.refl _ _))
   | _=>exact False.elim p1⟩
theorem d_or (ha : DE X W a fa) (hb : DE X W (.BoolOp .Or (b :: rest) pos) fb) : DE X W (.BoolOp .Or (a :: b :: rest) pos) (fOr fa fb):=⟨PE.imp (pe_or ha.pe hb.pe) fun σ H Q ⟨m,env,st,r,re,p⟩ =>
 tF_step r re p fun x st1 v m1 H1 h1 r1 re1 e1 p1=>by
  cases x with
  | ref n=>exact False.elim p1
  | d x =>
   cases x with
   | bl k =>
    refine ⟨k,h1,?_⟩
    cases k with
    | true=>exact iteT (p1 _ m1 H1 rfl r1 (Ext.refl _ _))
    | false=>exact iteF ⟨m1,env,st1,r1,re1,p1⟩
   | _=>exact False.elim p1⟩
theorem dt_not (h : DT X W a ba) : DT X W (.UnaryOp .Not a pos) (bNot ba):=⟨PT.imp (pt_not h.pt) fun σ H Q ⟨m,env,st,r,re,p⟩ =>
 tFB_step r re p fun k st1 m1 H1 r1 re1 e1 p1=>PO'.imp' p1 r1⟩
theorem dw_and1 (h : DT X W a ba) : DW X W (.BoolOp .And [a] pos) ba:=⟨pw_and1 h.pt⟩
theorem dw_or1 (h : DT X W a ba) : DW X W (.BoolOp .Or [a] pos) ba:=⟨pw_or1 h.pt⟩
theorem dw_and (ha : DT X W a ba) (hb : DW X W (.BoolOp .And (b :: rest) pos) bb) : DW X W (.BoolOp .And (a :: b :: rest) pos) (bAnd ba bb):=⟨PW.imp (pw_and ha.pt hb.pw) fun σ H Q ⟨m,env,st,r,re,p⟩ =>
 tFB_step r re p fun k st1 m1 H1 r1 re1 e1 p1=>by
  cases k with
  | true=>exact iteT ⟨m1,env,st1,r1,re1,p1⟩
  | false=>exact iteF (PO'.imp' p1 r1)⟩
theorem dw_or (ha : DT X W a ba) (hb : DW X W (.BoolOp .Or (b :: rest) pos) bb) : DW X W (.BoolOp .Or (a :: b :: rest) pos) (bOr ba bb):=⟨PW.imp (pw_or ha.pt hb.pw) fun σ H Q ⟨m,env,st,r,re,p⟩ =>
 tFB_step r re p fun k st1 m1 H1 r1 re1 e1 p1=>by
  cases k with
  | true=>exact iteT (PO'.imp' p1 r1)
  | false=>exact iteF ⟨m1,env,st1,r1,re1,p1⟩⟩
theorem dw_pt (h : DW X W a ba) : DT X W a ba:=⟨h.pw.pt⟩
theorem t_chain {g g' : P2} {σ : L2.St} {H : Hp} {Q : VK} (hg' : ∀ a b st u,g' a b st = some u → ∃ k,u = .d (.bl k)) {Z : VK} (hZ : ∀ x H,(∃ k,x = .bl k ∧ Q (.bl k) H) → Z x H) (h : tF X.K W (fChain g g' fa fb fc) σ H Q) :
  tChain (rG X.K g) (rG X.K g') (tF X.K W fa) (tF X.K W fb) (tF X.K W fc) σ H Z:=by
 obtain ⟨m,env,st,r,re,p⟩:=h
 refine tF_step r re p fun a st1 v m1 H1 h1 r1 re1 e1 p1=>?_
 refine tF_step r1 re1 p1 fun b st2 w m2 H2 h2 r2 re2 e2 p2=>?_
 refine ⟨m2,st2,a,b,r2,h1.ext e2,h2,?_⟩
 cases e : g a b st2 with
 | none=>rw [e] at p2; exact False.elim p2
 | some u =>
  rw [e] at p2
  intro z H3 hz r3 e3
  cases u with
  | ref n=>exact False.elim p2
  | d x =>
   cases x with
   | bl k =>
    refine ⟨k,hz,?_⟩
    cases k with
    | false=>exact iteF (hZ _ _ ⟨false,rfl,p2 _ m2 H3 rfl r3 e3⟩)
    | true =>
     refine iteT ?_
     refine tF_step r3 (re2.ext e3) (p2.from e3) fun c st4 t m4 H4 h4 r4 re4 e4 p4=>?_
     refine ⟨m4,st4,b,c,r4,h2.ext (e3.trans e4),h4,?_⟩
     cases e' : g' b c st4 with
     | none=>rw [e'] at p4; exact False.elim p4
     | some u =>
      rw [e'] at p4
      intro v5 H5 h5 r5 e5
      obtain ⟨k,rfl⟩:=hg' _ _ _ _ e'
      cases h5
      exact hZ _ _ ⟨k,rfl,p4 _ m4 H5 rfl r5 e5⟩
   | _=>exact False.elim p2
theorem d_chain {op op' : CmpOp} {g g' : P2} (ho : OpR X (compareOp op) (rG X.K g)) (ho' : OpR X (compareOp op') (rG X.K g')) (hg' : ∀ a b st u,g' a b st = some u → ∃ k,u = .d (.bl k)) (ha : DE X W a fa) (hb : DE X W b fb) (hc : DE X W c fc)
  (hm : lastMarks [op,op'] [b,c] = false:=by with_unfolding_all rfl) : DE X W (.Compare a [op,op'] [b,c] pos) (fChain g g' fa fb fc) :=
 ⟨PE.imp (pe_chain ho ho' ha.pe hb.pe hc.pe hm) fun σ H Q h=>t_chain hg' (fun x H ⟨k,e,q⟩=>by rw [e]; exact q) h⟩
theorem bl_le (a b : U) (st : Store) (u : U) (e : oLe a b st = some u) : ∃ k,u = .d (.bl k):=by
 unfold oLe at e; split at e <;> cases e; exact ⟨_,rfl⟩
end
end VL
namespace VL
open PySem PySem.Spec PyProof.Rows L2
noncomputable def fNil : F (List U):=fPure []
noncomputable def fCons (f : F U) (g : F (List U)) : F (List U):=bnd f fun u=>bnd g fun us=>fPure (u :: us)
noncomputable def vTup : List U → Store → Option U:=fun us _=>match pureL us with
 | some ds=>if ds.length ≤ sizeLine then some (.d (.tup ds)) else none
 | none=>none
noncomputable def vLst : List U → Store → Option U:=fun us _=>match pureL us with
 | some ds=>if ds.length ≤ sizeLine then some (.d (.lst ds)) else none
 | none=>none
noncomputable def fN (g : List U → Store → Option U) (f : F (List U)) : F U:=bnd f fun us=>fun _ st=>.of st (g us st)
/-- a display that is a cell -/
noncomputable def fLstC (f : F (List U)) : F U:=bnd f fun us=>fun _ st=>if us.length ≤ sizeLine then .ok (.ref st.length) (st ++ [.lst us]) else .bad
section
variable {X : Cx} {W : WX} {e : Expr} {es : List Expr} {fe : F U} {fs : F (List U)} {pos : Pos}
theorem da_nil : DA X W [] fNil:=⟨PA.imp pa_nil fun σ H Q ⟨m,env,st,r,re,p⟩=>p [] m H rfl r (Ext.refl _ _)⟩
theorem da_cons (he : DE X W e fe) (hs : DA X W es fs) (hst : starEach (e :: es) X.env = (false,eval e X.env) :: starEach es X.env:=by rfl) : DA X W (e :: es) (fCons fe fs) :=
 ⟨PA.imp (pa_cons he.pe hs.pa hst) fun σ H Q ⟨m,env,st,r,re,p⟩=>tF_step r re p fun u st1 v m1 H1 h1 r1 re1 e1 p1=>tFs_step r1 re1 p1 fun us st2 vs m2 H2 h2 r2 re2 e2 p2 =>
  p2 (v :: vs) m2 H2 ⟨v,vs,rfl,h1.ext e2,h2⟩ r2 (Ext.refl _ _)⟩
/-- a tuple,of data or of cells -/
noncomputable def fTup (f : F (List U)) : F U:=bnd f fun us=>fun _ st=>match pureL us with
 | some ds=>if ds.length ≤ sizeLine then .ok (.d (.tup ds)) st else .bad
 | none=>if us.length ≤ sizeLine then .ok (.ref st.length) (st ++ [.tup us]) else .bad
theorem d_tupC {k : Nat} (h : DA X W es fs) : DE X W (.Tuple es k pos) (fTup fs):=⟨PE.imp (pe_tup h.pa) fun σ H Q ⟨m,env,st,r,re,p⟩=>tFs_step r re p fun us st1 vs m1 H1 h1 r1 re1 e1 p1=>by
 split at p1
 ·rename_i ds hd
  split at p1
  ·rename_i hz
   have hr:=pureL_rp h1 hd
   exact ⟨by rw [hr.length]; exact hz,fun q hq=>p1 _ m1 _ (new_tup r1 hq hr) (r1.new hq _) (ext_new r1 hq _)⟩
  ·exact False.elim p1
 ·split at p1
  ·rename_i hz
   exact ⟨by rw [h1.length]; exact hz,fun q hq=>p1 _ (m1 ++ [q]) _ ⟨q,by rw [← r1.len]; simp,rfl⟩ (r1.push hq ⟨vs,rfl,h1.ext (ext_push r1 hq _)⟩) (ext_push r1 hq _)⟩
  ·exact False.elim p1⟩
theorem d_lst (h : DA X W es fs) : DE X W (.List es pos) (fN vLst fs):=⟨PE.imp (pe_lst h.pa) fun σ H Q ⟨m,env,st,r,re,p⟩=>tFs_step r re p fun us st1 vs m1 H1 h1 r1 re1 e1 p1=>by
 cases e : vLst us st1 with
 | none=>rw [e] at p1; exact False.elim p1
 | some u =>
  rw [e] at p1
  unfold vLst at e
  split at e
  ·rename_i ds hd
   split at e
   ·rename_i hz
    cases e
    have hr:=pureL_rp h1 hd
    exact ⟨by rw [hr.length]; exact hz,fun q hq=>p1 _ m1 _ (new_lst r1 hq hr) (r1.new hq _) (ext_new r1 hq _)⟩
   ·cases e
  ·cases e⟩
theorem push_lst {K : PySem.W.Frag} {m : List Addr} {H : Hp} {st : Store} (r : Rep K m st H) {p : Addr} (np : H p = none) {us : List U} {vs : List V} (h : RpUs K m H us vs) :
  RpU K (m ++ [p]) (upd H p (.lst vs)) (.ref st.length) (.ref p) ∧ Rep K (m ++ [p]) (st ++ [.lst us]) (upd H p (.lst vs)) :=
 ⟨⟨p,by rw [← r.len]; simp,rfl⟩,r.push np ⟨vs,rfl,h.ext (ext_push r np _)⟩⟩
theorem d_lstC (h : DA X W es fs) : DE X W (.List es pos) (fLstC fs):=⟨PE.imp (pe_lst h.pa) fun σ H Q ⟨m,env,st,r,re,p⟩=>tFs_step r re p fun us st1 vs m1 H1 h1 r1 re1 e1 p1=>by
 split at p1
 ·rename_i hz
  refine ⟨by rw [h1.length]; exact hz,fun q hq=>?_⟩
  obtain ⟨g1,g2⟩:=push_lst r1 hq h1
  exact p1 _ _ _ g1 g2 (ext_push r1 hq _)
 ·exact False.elim p1⟩
end
noncomputable def keyD : U → Option Key
 | .d (.int i)=>some (.inl i)
 | .d (.str x)=>some (.inr x)
 | _=>none
noncomputable def lookK {α : Type} (kvs : List (Key × α)) (k : Key) : Option α:=(kvs.find? fun kv=>decide (kv.1 = k)).map (·.2)
/-- a dict's pairs -/
noncomputable def getD (st : Store) : U → Option (List (Key × U))
 | .d (.dct kvs)=>some (kvs.map fun kv=>(kv.1,.d kv.2))
 | .ref n=>match st[n]? with
  | some (.dct us)=>some us
  | some (.lck us)=>some us
  | _=>none
 | _=>none
noncomputable def oIx : P2:=fun a b st=>match getD st a with
 | some kvs=>match keyD b with
  | some k=>lookK kvs k
  | none=>none
 | none=>match b with
  | .d (.int i)=>match getL st a with
   | some us=>atI us i
   | none=>match a with
    | .d (.tup ds)=>(atI ds i).map .d
    | .d (.str z)=>if z.length ≤ sizeLine then (atI z.cps.toList i).map fun c=>.d (.str ⟨#[c]⟩) else none
    | _=>none
  | _=>none
section
variable {K : PySem.W.Frag} {m : List Addr} {H : Hp} {st : Store}
theorem RpUK.ofD : ∀ {ds : List (Key × D)} {vs : List (Key × V)},RpK K m H ds vs → RpUK K m H (ds.map fun kv=>(kv.1,.d kv.2)) vs
 | [],_,h=>h
 | (k,d) :: ds,_,⟨v,r,e,h1,h2⟩=>⟨v,r,e,h1,RpUK.ofD h2⟩
theorem RpUK.toD : ∀ {ds : List (Key × D)} {vs : List (Key × V)},RpUK K m H (ds.map fun kv=>(kv.1,.d kv.2)) vs → RpK K m H ds vs
 | [],_,h=>h
 | (k,d) :: ds,_,⟨v,r,e,h1,h2⟩=>⟨v,r,e,h1,RpUK.toD h2⟩
theorem getD_rp (r : Rep K m st H) : ∀ {u : U} {v : V} {us : List (Key × U)},RpU K m H u v → getD st u = some us → ∃ a vs,v = .ref a ∧ Rd H a (.dK vs) ∧ RpUK K m H us vs
 | .d (.dct ds),v,us,⟨a,vs,e,h1,h2⟩,q=>by
  cases q
  exact ⟨a,vs,e,h1.2,RpUK.ofD h2⟩
 | .ref n,v,us,⟨a,ha,e⟩,q=>by
  simp only [getD] at q
  split at q
  ·rename_i zs hs
   cases q
   obtain ⟨ho,h1,vs,e2,h2⟩:=r.cell n _ a hs ha
   rw [e2] at h1
   exact ⟨a,vs,e,.inl h1,h2⟩
  ·rename_i zs hs
   cases q
   obtain ⟨ho,h1,ob,vs,e2,h2⟩:=r.cell n _ a hs ha
   rw [e2] at h1
   exact ⟨a,vs,e,.inr ⟨ob,h1⟩,h2⟩
  ·cases q
 | .d .non,_,_,_,q=>by cases q
 | .d (.bl _),_,_,_,q=>by cases q
 | .d (.int _),_,_,_,q=>by cases q
 | .d (.str _),_,_,_,q=>by cases q
 | .d (.ty _),_,_,_,q=>by cases q
 | .d (.obj _),_,_,_,q=>by cases q
 | .d (.tup _),_,_,_,q=>by cases q
 | .d (.lst _),_,_,_,q=>by cases q
 | .d (.scr _),_,_,_,q=>by cases q
 | .d (.ins _ _),_,_,_,q=>by cases q
 | .d (.exc _ _ _ _),_,_,_,q=>by cases q
 | .d (.kdc _ _),_,_,_,q=>by cases q
theorem lookK_rp {k : Key} : ∀ {us : List (Key × U)} {vs : List (Key × V)},RpUK K m H us vs → match lookK us k with | some u=>∃ v,valV vs k = some v ∧ RpU K m H u v | none=>valV vs k = none
 | [],_,h=>by cases h; exact rfl
 | (k',u) :: us,_,⟨v,r,e,h1,h2⟩=>by
  subst e
  have ih:=lookK_rp (k:=k) h2
  unfold lookK valV at ih ⊢
  rw [List.find?_cons,List.find?_cons]
  by_cases e : k' = k
  ·rw [decide_eq_true e]; exact ⟨v,rfl,h1⟩
  ·rw [decide_eq_false e]; exact ih
theorem keyD_rp {u : U} {v : V} {k : Key} (h : RpU K m H u v) (e : keyD u = some k) : v = kV k:=by
 unfold keyD at e
 split at e
 ·cases e; exact h
 ·cases e; exact h
 ·cases e
theorem atI_rp {us : List U} {vs : List V} (h : RpUs K m H us vs) {i : Int} {u : U} (e : atI us i = some u) : ∃ v,atI vs i = some v ∧ RpU K m H u v:=by
 unfold atI at e ⊢
 rw [h.length]
 cases q : ixN us.length i with
 | none=>rw [q] at e; cases e
 | some j =>
  rw [q] at e
  exact h.get e
end
section
variable {X : Cx} {W : WX} {a b : Expr} {fa fb : F U} {pos : Pos}
theorem ix_dict (hu : X.A.units + 1 < cLine) : IxR X (fun x y H Q=>∃ p v,x = .ref p ∧ DGet H p y (some v) ∧ Q v H):=by
 intro value slice pins s σ H x y v u Q I rx ry h hs
 obtain ⟨p,w,rfl,g,q⟩:=h
 cases rx
 exact tail_any (ops:=[.ref p,u]) (dict_typeIs I g) PySem.F.slot_dict_getitem.lookup (d_getItem hu I g ry fun w' s' I' r'=>⟨w,H,I',r',q⟩) hs
theorem ix_ok (hu : X.A.units + 1 < cLine) : IxR X (rG X.K oIx):=by
 intro value slice pins s σ H x y v u Q I rx ry h hs
 obtain ⟨m,st,a,b,r,ha,hb,p⟩:=h
 cases e : oIx a b st with
 | none=>rw [e] at p; exact p.elim
 | some w =>
  rw [e] at p
  unfold oIx at e
  split at e
  ·rename_i kvs hk
   split at e
   ·rename_i k hkk
    obtain ⟨q,vs,rfl,h1,h2⟩:=getD_rp r ha hk
    have l:=lookK_rp (k:=k) h2
    rw [e] at l
    obtain ⟨z,hz,rz⟩:=l
    have hy:=keyD_rp hb hkk
    subst hy
    exact ix_dict hu value slice pins s σ H _ _ v u Q I rx ry ⟨q,z,rfl,.inl ⟨vs,k,h1,rfl,hz.symm⟩,pv_flat r p rz⟩ hs
   ·cases e
  ·split at e
   ·cases hb
    split at e
    ·rename_i us hl
     obtain ⟨q,vs,rfl,h1,h2⟩:=getL_rp r ha hl
     obtain ⟨z,hz,rz⟩:=atI_rp h2 e
     exact ix_list value slice pins s σ H _ _ v u Q I rx ry ⟨q,vs,_,z,rfl,rfl,h1,hz,pv_flat r p rz⟩ hs
    ·split at e
     ·rename_i ds _ _
      obtain ⟨q,vs,rfl,h1,h2⟩:=ha
      cases e2 : atI ds _ with
      | none=>rw [e2] at e; cases e
      | some d0 =>
       rw [e2] at e
       cases e
       obtain ⟨z,hz,rz⟩:=atI_rp (RpUs.ofD h2) (i:=_) (u:=.d d0) (by unfold atI at e2 ⊢; rw [List.length_map]; cases q3 : ixN ds.length _ with | none=>rw [q3] at e2; cases e2 | some j=>rw [q3] at e2; show (List.map U.d ds)[j]? = _; rw [List.getElem?_map]; show Option.map _ _ = _; rw [show ds[j]? = some d0 from e2]; rfl)
       exact ix_tup value slice pins s σ H _ _ v u Q I rx ry ⟨q,vs,_,z,rfl,rfl,h1.sq,hz,pv_flat r p rz⟩ hs
     ·cases ha
      split at e
      ·rename_i hz
       cases e2 : atI (Array.toList _) _ with
       | none=>rw [e2] at e; cases e
       | some c =>
        rw [e2] at e
        cases e
        exact ix_str value slice pins s σ H _ _ v u Q I rx ry ⟨_,_,c,rfl,rfl,hz,e2,pv_flat r p rfl⟩ hs
      ·cases e
     ·cases e
   ·cases e
theorem d_ix (hu : X.A.units + 1 < cLine) (ha : DE X W a fa) (hb : DE X W b fb) (hs : PlainIx b:=by intro _ _; rfl) : DE X W (.Subscript a b pos) (f2 oIx fa fb) :=
 ⟨PE.imp (pe_ix (ix_ok hu) ha.pe hb.pe hs) fun _ _ _ h=>t_op2 h⟩
end
noncomputable def tFO (K : PySem.W.Frag) (W : WX) (f : F (Option Int)) : TO:=fun σ H Q=>∃ m env st,Rep K m st H ∧ RpEnv K m H env σ ∧ PO' K m H (fun _ _ a b=>b = a) Q (fun c d H'=>W c d σ H') (f env st)
theorem tFO_step {K : PySem.W.Frag} {W : WX} {m : List Addr} {env : VEnv} {st : Store} {H : Hp} {σ : L2.St} {γ δ : Type} {rel : List Addr → Hp → γ → δ → Prop} {Q : δ → Hp → Prop} {f : F (Option Int)} {g : Option Int → F γ} {Z : Option Int → Hp → Prop}
  (r : Rep K m st H) (re : RpEnv K m H env σ) (p : PO' K m H rel Q (fun c d H'=>W c d σ H') (bnd f g env st))
  (h : ∀ a st1 m1 H1,Rep K m1 st1 H1 → RpEnv K m1 H1 env σ → Ext m H m1 H1 → PO' K m1 H1 rel Q (fun c d H'=>W c d σ H') (g a env st1) → Z a H1) : tFO K W f σ H Z :=
 ⟨m,env,st,r,re,by
  unfold bnd at p
  cases e : f env st with
  | ok a st1=>rw [e] at p; exact fun v m1 H1 h1 h2 h3=>by subst h1; exact h _ st1 m1 H1 h2 (re.ext h3) h3 (p.from h3)
  | ex c fs st1=>rw [e] at p; exact p
  | bad=>rw [e] at p; exact p.elim⟩
structure DO (X : Cx) (W : WX) (e : Option Expr) (f : F (Option Int)) : Prop where
 po : PO X e (tFO X.K W f)
noncomputable def oNone : F (Option Int):=fPure none
noncomputable def oSome (f : F U) : F (Option Int):=bnd f fun u=>fun _ st=>match u with
 | .d (.int i)=>.ok (some i) st
 | _=>.bad
noncomputable def cutG {α : Type} (xs : List α) (lo hi : Option Int) : List α:=(xs.drop (HT.sIx xs.length 0 lo)).take (HT.sIx xs.length xs.length hi - HT.sIx xs.length 0 lo)
noncomputable def oSl (a : U) (lo hi : Option Int) (st : Store) : Option U:=match a with
 | .d (.str z)=>if z.length ≤ sizeLine then some (.d (.str (cutS z lo hi))) else none
 | .d (.tup ds)=>some (.d (.tup (cutG ds lo hi)))
 | a=>match getL st a with
  | some us=>match pureL (cutG us lo hi) with
   | some ds=>some (.d (.lst ds))
   | none=>none
  | none=>none
noncomputable def fSl (f : F U) (l h : F (Option Int)) : F U:=bnd f fun a=>bnd l fun lo=>bnd h fun hi=>fun _ st=>.of st (oSl a lo hi st)
section
variable {K : PySem.W.Frag} {m : List Addr} {H : Hp} {st : Store}
theorem cut_rp {us : List U} {vs : List V} (h : RpUs K m H us vs) (lo hi : Option Int) : RpUs K m H (cutG us lo hi) (cutV vs lo hi):=by
 unfold cutG cutV
 rw [h.length]
 exact (h.drop _).take _
theorem cutG_map {α β : Type} (f : α → β) (xs : List α) (lo hi : Option Int) : cutG (xs.map f) lo hi = (cutG xs lo hi).map f:=by
 unfold cutG
 rw [List.length_map,List.map_take,List.map_drop]
theorem cutG_whole {α : Type} {xs : List α} {lo hi : Option Int} (h : HT.sIx xs.length 0 lo = 0 ∧ HT.sIx xs.length xs.length hi = xs.length) : cutG xs lo hi = xs:=by
 unfold cutG
 rw [h.1,h.2,List.drop_zero,Nat.sub_zero,List.take_length]
end
section
variable {X : Cx} {W : WX} {a e : Expr} {fa fe : F U} {lo hi : Option Expr} {fl fh : F (Option Int)} {pos p2 : Pos}
theorem do_none : DO X W none oNone:=⟨⟨fun pins s σ H Q I h=>po_none.run pins s σ H Q I (by
 obtain ⟨m,env,st,r,re,p⟩:=h
 exact p none m H rfl r (Ext.refl _ _))⟩⟩
theorem do_some (h : DE X W e fe) : DO X W (some e) (oSome fe):=⟨⟨fun pins s σ H Q I hw=>(po_some h.pe).run pins s σ H Q I (by
 obtain ⟨m,env,st,r,re,p⟩:=hw
 refine tF_step r re p fun u st1 v m1 H1 h1 r1 re1 e1 p1=>?_
 cases u with
 | ref n=>exact False.elim p1
 | d x =>
  cases x with
  | int i=>exact ⟨i,h1,p1 _ m1 H1 rfl r1 (Ext.refl _ _)⟩
  | _=>exact False.elim p1)⟩⟩
theorem sl_ok : SlR X (fun x lo hi H Q=>∃ m st a,Rep X.K m st H ∧ RpU X.K m H a x ∧ PV X.K m st H Q (oSl a lo hi st)):=by
 intro pins s σ H x v vl vu lo hi sl Q I rx hs pl pu h
 obtain ⟨m,st,a,r,ha,p⟩:=h
 cases e : oSl a lo hi st with
 | none=>rw [e] at p; exact p.elim
 | some w =>
  rw [e] at p
  unfold oSl at e
  split at e
  ·cases ha
   split at e
   ·rename_i hz
    cases e
    exact sl_str pins s σ H _ v vl vu lo hi sl Q I rx hs pl pu ⟨_,rfl,hz,pv_flat r p rfl⟩
   ·cases e
  ·rename_i ds
   cases e
   obtain ⟨q,vs,rfl,h1,h2⟩:=ha
   have hl:=h2.length
   refine sl_tupA pins s σ H _ v vl vu lo hi sl Q I rx hs pl pu ⟨q,vs,rfl,h1.sq,fun hw=>?_,fun hw z hz=>?_⟩
   ·rw [hl] at hw
    rw [cutG_whole hw] at p
    exact pv_flat r p ⟨q,vs,rfl,h1,h2⟩
   ·have hc:=cut_rp (RpUs.ofD h2) lo hi
    rw [cutG_map] at hc
    exact p _ _ (new_tup r hz (RpDs.toD hc)) (r.new hz _) (ext_new r hz _)
  ·split at e
   ·rename_i us hl
    split at e
    ·rename_i ds hd
     cases e
     obtain ⟨q,vs,rfl,h1,h2⟩:=getL_rp r ha hl
     exact sl_list pins s σ H _ v vl vu lo hi sl Q I rx hs pl pu ⟨q,vs,rfl,h1,fun z hz=>p _ _ (new_lst r hz (pureL_rp (cut_rp h2 lo hi) hd)) (r.new hz _) (ext_new r hz _)⟩
    ·cases e
   ·cases e
theorem d_sl (ha : DE X W a fa) (hl : DO X W lo fl) (hh : DO X W hi fh) : DE X W (.Subscript a (.Slice lo hi none p2) pos) (fSl fa fl fh):=⟨PE.imp (pe_slice sl_ok ha.pe hl.po hh.po) fun σ H Q ⟨m,env,st,r,re,p⟩ =>
 tF_step r re p fun u st1 v m1 H1 h1 r1 re1 e1 p1=>tFO_step r1 re1 p1 fun lo st2 m2 H2 r2 re2 e2 p2=>tFO_step r2 re2 p2 fun hi st3 m3 H3 r3 re3 e3 p3 =>
  ⟨m3,st3,u,r3,(h1.ext e2).ext e3,PV.of p3⟩⟩
end
end VL
namespace VL
open PySem PySem.Spec PyProof.Rows L2
noncomputable def sNil : G:=fun env st=>.ok env .nx st
noncomputable def sSeq (g h : G) : G:=fun env st=>match g env st with
 | .ok env1 .nx st1=>h env1 st1
 | r=>r
noncomputable def sRet (f : F U) : G:=bndS f fun u=>fun env st=>.ok env (.rt u) st
noncomputable def sRetN : G:=fun env st=>.ok env (.rt (.d .non)) st
noncomputable def sExpr (f : F U) : G:=bndS f fun _=>sNil
noncomputable def sIf (c : F Bool) (g h : G) : G:=bndS c fun k=>if k = true then g else h
noncomputable def tgN (i : Nat) (u : U) : G:=fun env st=>.ok (env.set i (some u)) .nx st
noncomputable def sAsg (f : F U) (tg : U → G) : G:=bndS f tg
/-- not reached -/
noncomputable def sNo : G:=fun _ _=>.bad
section
variable {X : Cx} {W : WX} {st : Stmt} {sts a b : List Stmt} {g h ga gb : G} {e c : Expr} {fe : F U} {bc : F Bool} {pos : Pos}
theorem db_nil : DB X W [] sNil:=⟨PSs.imp pss_nil fun D σ H ⟨m,env,st,r,re,p⟩=>p σ m H re r (Ext.refl _ _)⟩
theorem t_seq {D : Ends} {σ : L2.St} {H : Hp} (q : tG X.K W (sSeq g h) D σ H) : tSeq (tG X.K W g) (tG X.K W h) D σ H:=by
 obtain ⟨m,env,st,r,re,p⟩:=q
 refine ⟨m,env,st,r,re,?_⟩
 unfold sSeq at p
 cases e : g env st with
 | bad=>rw [e] at p; exact p
 | ex c fs env1 st1=>rw [e] at p; exact p
 | ok env1 f st1 =>
  rw [e] at p
  cases f with
  | nx=>exact fun σ' m' H' h1 h2 h3=>⟨m',env1,st1,h2,h1,p.from h3⟩
  | rt u=>exact p
  | bk=>exact p
  | ct=>exact p
theorem db_cons (h1 : DS X W st g) (h2 : DB X W sts h) : DB X W (st :: sts) (sSeq g h):=⟨PSs.imp (pss_cons h1.ps h2.pss) fun _ _ _ q=>t_seq q⟩
theorem db_one (h1 : DS X W st g) : DB X W [st] g:=⟨pss_one h1.ps⟩
theorem ds_ret (he : DE X W e fe) : DS X W (.Return (some e) pos) (sRet fe):=⟨PS.imp (ps_ret he.pe) fun D σ H ⟨m,env,st,r,re,p⟩=>sF_step r re p fun u st1 v m1 H1 h1 r1 re1 e1 p1=>p1 v m1 H1 h1 r1 (Ext.refl _ _)⟩
theorem ds_expr (he : DE X W e fe) (hs : swapsWith e none pos.line X.env = pure false:=by rfl) : DS X W (.Expr e pos) (sExpr fe):=⟨PS.imp (ps_expr he.pe hs) fun D σ H ⟨m,env,st,r,re,p⟩=>sF_step r re p fun u st1 v m1 H1 h1 r1 re1 e1 p1=>p1 σ m1 H1 re1 r1 (Ext.refl _ _)⟩
theorem ds_no : DS X W st sNo:=⟨PS.imp (t:=tNever) ps_never fun D σ H ⟨m,env,st,r,re,p⟩=>p⟩
theorem db_no : DB X W sts sNo:=⟨PSs.imp (t:=tNever) pss_never fun D σ H ⟨m,env,st,r,re,p⟩=>p⟩
theorem ds_if (hc : DT X W c bc) (ha : DB X W a ga) (hb : DB X W b gb) : DS X W (.If c a b pos) (sIf bc ga gb):=⟨PS.imp (ps_if hc.pt ha.pss hb.pss) fun D σ H ⟨m,env,st,r,re,p⟩=>sFB_step r re p fun k st1 m1 H1 r1 re1 e1 p1=>by
 cases k with
 | true=>exact iteT ⟨m1,env,st1,r1,re1,p1⟩
 | false=>exact iteF ⟨m1,env,st1,r1,re1,p1⟩⟩
end
/-- the names at the slots is alone are new -/
noncomputable def Out (is : List Nat) (σ σ' : L2.St) : Prop:=σ'.length = σ.length ∧ ∀ i,i ∉ is → σ'[i]? = σ[i]?
theorem Out.refl (is : List Nat) (σ : L2.St) : Out is σ σ:=⟨rfl,fun _ _=>rfl⟩
theorem Out.trans {is js : List Nat} {σ σ1 σ2 : L2.St} (a : Out is σ σ1) (b : Out js σ1 σ2) : Out (is ++ js) σ σ2 :=
 ⟨b.1.trans a.1,fun i h=>(b.2 i fun z=>h (List.mem_append_right _ z)).trans (a.2 i fun z=>h (List.mem_append_left _ z))⟩
theorem Out.set {σ : L2.St} (i : Nat) (v : Option V) : Out [i] σ (σ.set i v):=⟨List.length_set,fun j h=>List.getElem?_set_ne (fun e=>h (by rw [e]; exact List.mem_singleton.mpr rfl))⟩
noncomputable def tTg (K : PySem.W.Frag) (is : List Nat) (g : U → G) : TG:=fun v σ H Q=>∃ m env st u,Rep K m st H ∧ RpEnv K m H env σ ∧ RpU K m H u v ∧ (match g u env st with
 | .ok env' .nx st'=>∀ σ' m' H',RpEnv K m' H' env' σ' → Rep K m' st' H' → Ext m H m' H' → Out is σ σ' → Q σ' H'
 | _=>False)
noncomputable def tTgs (K : PySem.W.Frag) (is : List Nat) (g : List U → G) : TGs:=fun vs σ H Q=>∃ m env st us,Rep K m st H ∧ RpEnv K m H env σ ∧ RpUs K m H us vs ∧ (match g us env st with
 | .ok env' .nx st'=>∀ σ' m' H',RpEnv K m' H' env' σ' → Rep K m' st' H' → Ext m H m' H' → Out is σ σ' → Q σ' H'
 | _=>False)
structure DG (X : Cx) (e : Expr) (is : List Nat) (g : U → G) : Prop where
 pg : PG X e (tTg X.K is g)
structure DGs (X : Cx) (es : List Expr) (is : List Nat) (g : List U → G) : Prop where
 pgs : PGs X es (tTgs X.K is g)
noncomputable def tgNil : List U → G:=fun us=>match us with
 | []=>sNil
 | _=>sNo
noncomputable def tgCons (g : U → G) (h : List U → G) : List U → G:=fun us=>match us with
 | u :: r=>sSeq (g u) (h r)
 | _=>sNo
/-- the items of a tuple,a list -/
noncomputable def unp (st : Store) : U → Option (List U)
 | .d (.tup ds)=>some (ds.map .d)
 | u=>match getL st u with
  | some us=>some us
  | none=>match u with
   | .ref n=>match st[n]? with
    | some (.tup us)=>some us
    | _=>none
   | _=>none
theorem unp_rp {K : PySem.W.Frag} {m : List Addr} {H : Hp} {st : Store} (r : Rep K m st H) {u : U} {v : V} {us : List U} (h : RpU K m H u v) (e : unp st u = some us) : ∃ a vs,v = .ref a ∧ (SqT K H a vs ∨ SqL K H a vs) ∧ RpUs K m H us vs:=by
 unfold unp at e
 split at e
 ·cases e
  obtain ⟨a,vs,rfl,h1,h2⟩:=h
  exact ⟨a,vs,rfl,.inl h1.sq,RpUs.ofD h2⟩
 ·split at e
  ·rename_i us' hl
   cases e
   obtain ⟨a,vs,e1,h1,h2⟩:=getL_rp r h hl
   exact ⟨a,vs,e1,.inr h1,h2⟩
  ·split at e
   ·split at e
    ·rename_i us' hs
     cases e
     obtain ⟨a,ha,rfl⟩:=h
     obtain ⟨ho,h1,vs,e2,h2⟩:=r.cell _ _ a hs ha
     subst e2
     exact ⟨a,vs,rfl,.inl (.inl (.inl h1)),h2⟩
    ·cases e
   ·cases e
/-- a,b,.. = a tuple (list) of that length -/
noncomputable def tgT (n : Nat) (g : List U → G) : U → G:=fun u env st=>match unp st u with
 | some us=>if us.length = n then g us env st else .bad
 | none=>.bad
theorem PG.imp {X : Cx} {e : Expr} {t t' : TG} (h : PG X e t) (i : ∀ v σ H Q,t' v σ H Q → t v σ H Q) : PG X e t':=⟨fun pins s σ H v u Q I r q=>h.run pins s σ H v u Q I r (i v σ H Q q)⟩
theorem PGs.imp {X : Cx} {e : List Expr} {t t' : TGs} (h : PGs X e t) (i : ∀ v σ H Q,t' v σ H Q → t v σ H Q) : PGs X e t':=⟨fun pins s σ H v u Q I r q=>h.run pins s σ H v u Q I r (i v σ H Q q)⟩
theorem PG.or {X : Cx} {e : Expr} {t t' : TG} (h : PG X e t) (h' : PG X e t') : PG X e (fun v σ H Q=>t v σ H Q ∨ t' v σ H Q):=⟨fun pins s σ H v u Q I r q=>by
 rcases q with q | q
 ·exact h.run pins s σ H v u Q I r q
 ·exact h'.run pins s σ H v u Q I r q⟩
section
variable {X : Cx} {W : WX} {e : Expr} {es : List Expr} {is js : List Nat} {g : U → G} {gs : List U → G} {fe : F U} {pos : Pos}
theorem dg_name (i : Nat) {x : Str} (hN : X.N.Nodup) (hi : X.N[i]? = some x:=by rfl) (hx : Loc X.env.scope x:=by first | exact Or.inl rfl | exact Or.inr rfl) (hf : X.fn x = true ∨ X.env.scope.names.lookup x = some .local:=by first | exact .inl rfl | exact .inr rfl | assumption) : DG X (.Name x pos) [i] (tgN i) :=
 ⟨PG.imp (pg_name hN hi hx hf) fun v σ H Q ⟨m,env,st,u,r,re,ru,p⟩=>p _ m H (re.set i ru) r (Ext.refl _ _) (Out.set i _)⟩
theorem dgs_nil : DGs X [] [] tgNil:=⟨PGs.imp pgs_nil fun vs σ H Q ⟨m,env,st,us,r,re,ru,p⟩=>by
 cases us with
 | nil=>exact ⟨ru,p _ m H re r (Ext.refl _ _) (Out.refl _ _)⟩
 | cons u us=>exact p.elim⟩
theorem dgs_cons (h1 : DG X e is g) (h2 : DGs X es js gs) (hs : (assignEach (e :: es) X.env).map (·.2) = assign e X.env :: (assignEach es X.env).map (·.2):=by rfl) : DGs X (e :: es) (is ++ js) (tgCons g gs) :=
 ⟨PGs.imp (pgs_cons h1.pg h2.pgs hs) fun vs σ H Q ⟨m,env,st,us,r,re,ru,p⟩=>by
  cases us with
  | nil=>exact p.elim
  | cons u us =>
   obtain ⟨v,w,rfl,r1,r2⟩:=ru
   refine ⟨v,w,rfl,m,env,st,u,r,re,r1,?_⟩
   unfold tgCons sSeq at p
   simp only at p
   cases e : g u env st with
   | bad=>rw [e] at p; exact p
   | ex c fs env1 st1=>rw [e] at p; exact p
   | ok env1 f st1 =>
    rw [e] at p
    cases f with
    | nx =>
     refine fun σ' m' H' h1 h2 h3 h4=>⟨m',env1,st1,us,h2,h1,r2.ext h3,?_⟩
     cases e2 : gs us env1 st1 with
     | bad=>simp only [e2] at p
     | ex c fs env2 st2=>simp only [e2] at p
     | ok env2 f2 st2 =>
      simp only [e2] at p
      cases f2 with
      | nx=>exact fun σ'' m'' H'' k1 k2 k3 k4=>p σ'' m'' H'' k1 k2 (h3.trans k3) (h4.trans k4)
      | rt u=>exact p
      | bk=>exact p
      | ct=>exact p
    | rt u=>exact p
    | bk=>exact p
    | ct=>exact p⟩
theorem dg_tup {k n : Nat} (hc : X.calm = true) (h : DGs X es is gs) (hn : (assignEach es X.env).length = n:=by rfl) (hst : (assignEach es X.env).findIdx? (·.1) = none:=by rfl) : DG X (.Tuple es k pos) is (tgT n gs) :=
 ⟨PG.imp (PG.or (pg_tup hc h.pgs hn hst) (pg_lst hc h.pgs hn hst)) fun v σ H Q ⟨m,env,st,u,r,re,ru,p⟩=>by
  unfold tgT at p
  cases q : unp st u with
  | none=>rw [q] at p; exact p.elim
  | some us =>
   rw [q] at p
   simp only at p
   by_cases hz : us.length = n
   ·rw [if_pos hz] at p
    obtain ⟨a,vs,rfl,h1,h2⟩:=unp_rp r ru q
    rcases h1 with h1 | h1
    ·exact .inl ⟨a,vs,rfl,h1,by rw [h2.length,hz],m,env,st,us,r,re,h2,p⟩
    ·exact .inr ⟨a,vs,rfl,h1,by rw [h2.length,hz],m,env,st,us,r,re,h2,p⟩
   ·rw [if_neg hz] at p; exact p.elim⟩
/-- what a target does ends well -/
noncomputable def TgNx (g : U → G) : Prop:=∀ u env st,match g u env st with
 | .ok _ .nx _=>True
 | .bad=>True
 | _=>False
theorem t_asg (hnx : TgNx g) {D : Ends} {σ : L2.St} {H : Hp} (q : tG X.K W (sAsg fe g) D σ H) : tAsg (tF X.K W fe) (tTg X.K is g) D σ H:=by
 obtain ⟨m,env,st,r,re,p⟩:=q
 refine sF_step r re p fun u st1 v m1 H1 h1 r1 re1 e1 p1=>⟨m1,env,st1,u,r1,re1,h1,?_⟩
 have:=hnx u env st1
 cases e : g u env st1 with
 | bad=>rw [e] at p1; exact p1.elim
 | ex c fs env1 st1=>rw [e] at this; exact this.elim
 | ok env1 f st1 =>
  rw [e] at p1 this
  cases f with
  | nx=>exact fun σ' m' H' k1 k2 k3 _=>p1 σ' m' H' k1 k2 k3
  | rt u=>exact this.elim
  | bk=>exact this.elim
  | ct=>exact this.elim
theorem nx_name (i : Nat) : TgNx (tgN i):=fun _ _ _=>trivial
theorem ds_asg {tg : Expr} (he : DE X W e fe) (hg : DG X tg is g) (hnx : TgNx g) (hs : swapsWithSole [tg] e pos.line X.env = pure false:=by rfl) (hw : swappedStores [tg] e X.env = pure none:=by rfl)
  (h1 : (assignEach [tg] X.env).map (·.2) = [assign tg X.env]:=by rfl) : DS X W (.Assign [tg] e pos) (sAsg fe g):=⟨PS.imp (ps_asg he.pe hg.pg hs hw h1) fun _ _ _ q=>t_asg hnx q⟩
theorem ds_set (i : Nat) {x : Str} {pos' : Pos} (hN : X.N.Nodup) (he : DE X W e fe) (hi : X.N[i]? = some x:=by rfl) (hx : Loc X.env.scope x:=by first | exact Or.inl rfl | exact Or.inr rfl) (hs : swapsWith e (some (.Name x pos')) pos.line X.env = pure false:=by rfl)
  (hf : X.fn x = true ∨ X.env.scope.names.lookup x = some .local:=by first | exact .inl rfl | exact .inr rfl | assumption) : DS X W (.Assign [.Name x pos'] e pos) (sAsg fe (tgN i)) :=
 ⟨PS.imp (ps_set hN hi hx he.pe hs hf) fun D σ H ⟨m,env,st,r,re,p⟩=>sF_step r re p fun u st1 v m1 H1 h1 r1 re1 e1 p1=>p1 _ m1 H1 (re1.set i h1) r1 (Ext.refl _ _)⟩
/-- a,b = x,y -/
noncomputable def sPar (i j : Nat) (fs : F (List U)) : G:=bndS fs fun us=>fun env st=>match us with
 | [u,w]=>.ok ((env.set i (some u)).set j (some w)) .nx st
 | _=>.bad
theorem ds_par (i j : Nat) {x y : Str} {a b : Expr} {fs : F (List U)} {px py pt : Pos} {kt k2 : Nat} {pt2 : Pos} (hc : X.calm = true) (hN : X.N.Nodup) (ha : DA X W [a,b] fs) (hij : i ≠ j)
  (hw : swappedStores [.Tuple [.Name x px,.Name y py] kt pt] (.Tuple [a,b] k2 pt2) X.env = pure (some [x,y])) (hi : X.N[i]? = some x:=by rfl) (hj : X.N[j]? = some y:=by rfl)
  (hx : X.env.scope.names.lookup x = some .local:=by rfl) (hy : X.env.scope.names.lookup y = some .local:=by rfl)
  (hs : swapsWithSole [.Tuple [.Name x px,.Name y py] kt pt] (.Tuple [a,b] k2 pt2) pos.line X.env = pure false:=by rfl) :
  DS X W (.Assign [.Tuple [.Name x px,.Name y py] kt pt] (.Tuple [a,b] k2 pt2) pos) (sPar i j fs):=⟨PS.imp (ps_par hc hN hi hj hij hx hy ha.pa hw hs) fun D σ H ⟨m,env,st,r,re,p⟩=>sFs_step r re p fun us st1 vs m1 H1 h1 r1 re1 e1 p1=>by
 match us,h1,p1 with
 | [],_,p1=>exact p1.elim
 | [_],_,p1=>exact p1.elim
 | _ :: _ :: _ :: _,_,p1=>exact p1.elim
 | [u,w],h1,p1 =>
  obtain ⟨v,_,rfl,g1,w',_,rfl,g2,rfl⟩:=h1
  exact ⟨v,w',rfl,p1 _ m1 H1 ((re1.set i g1).set j g2) r1 (Ext.refl _ _)⟩⟩
end
inductive Itb where
 | lst (us : List U)
 | cell (n : Nat) (f : Nat → U → Option U)
noncomputable def IsIt (K : PySem.W.Frag) (m1 : List Addr) (H1 : Hp) (J : It) : Itb → Prop
 | .lst us=>(∀ i m' st' H',i < us.length → Rep K m' st' H' → Ext m1 H1 m' H' → J.go i H') ∧ (∀ m' st' H',Rep K m' st' H' → Ext m1 H1 m' H' → J.stop us.length H') ∧
  ∀ i u m' st' H' x H'',us[i]? = some u → Rep K m' st' H' → Ext m1 H1 m' H' → J.yld i H' x H'' → Rep K m' st' H'' ∧ Ext m' H' m' H'' ∧ RpU K m' H'' u x
 | .cell n f=>∀ us m' st' H',Rep K m' st' H' → Ext m1 H1 m' H' → st'[n]? = some (.lst us) → (∀ i,i < us.length → J.go i H') ∧ (∀ i,us.length ≤ i → J.stop i H') ∧
  ∀ i u w x H'',us[i]? = some u → f i u = some w → J.yld i H' x H'' → Rep K m' st' H'' ∧ Ext m' H' m' H'' ∧ RpU K m' H'' w x
noncomputable def tI (K : PySem.W.Frag) (W : WX) (f : F Itb) : TI:=fun σ H R=>∃ m env st,Rep K m st H ∧ RpEnv K m H env σ ∧ PO' K m H (fun _ _ a b=>b = a) (fun t H1=>∀ m1 st1,f env st = .ok t st1 → Rep K m1 st1 H1 → Ext m H m1 H1 → ∀ J,IsIt K m1 H1 J t → R J H1) (fun c d H'=>W c d σ H') (f env st)
structure DI (X : Cx) (W : WX) (tg iter : Expr) (f : F Itb) : Prop where
 pi : PI X tg iter (tI X.K W f)
noncomputable def loopL (tg : U → G) (body : G) : List U → G
 | []=>sNil
 | u :: us=>fun env st=>match tg u env st with
  | .ok env1 .nx st1=>match body env1 st1 with
   | .ok env2 .nx st2=>loopL tg body us env2 st2
   | .ok env2 .ct st2=>loopL tg body us env2 st2
   | .ok env2 .bk st2=>.ok env2 .nx st2
   | r=>r
  | _=>.bad
noncomputable def loopC (tg : U → G) (body : G) (n : Nat) (f : Nat → U → Option U) : Nat → Nat → G
 | 0,_=>sNo
 | k + 1,i=>fun env st=>match st[n]? with
  | some (.lst us)=>match us[i]? with
   | none=>.ok env .nx st
   | some u=>match f i u with
    | none=>.bad
    | some w=>match tg w env st with
     | .ok env1 .nx st1=>match body env1 st1 with
      | .ok env2 .nx st2=>loopC tg body n f k (i + 1) env2 st2
      | .ok env2 .ct st2=>loopC tg body n f k (i + 1) env2 st2
      | .ok env2 .bk st2=>.ok env2 .nx st2
      | r=>r
     | _=>.bad
  | _=>.bad
noncomputable def sFor (fi : F Itb) (tg : U → G) (body : G) : G:=bndS fi fun t=>match t with
 | .lst us=>loopL tg body us
 | .cell n f=>fun env st=>match st[n]? with
  | some (.lst us)=>loopC tg body n f (us.length + 1) 0 env st
  | _=>.bad
section
variable {X : Cx} {W : WX} {tg iter : Expr} {body : List Stmt} {is : List Nat} {g : U → G} {gb : G} {fi : F Itb} {pos : Pos}
theorem step_loop {K : PySem.W.Frag} {is : List Nat} {D : Ends} {N : L2.St → Hp → Prop} {g : U → G} {gb : G} {rest : G} {u : U} {m m1 : List Addr} {env : VEnv} {st : Store} {H H1 : Hp} {σ : L2.St} {x : V} (r : Rep K m st H) (re : RpEnv K m H env σ) (ru : RpU K m H u x)
  (e0 : Ext m1 H1 m H)
  (p : PS' K m H D W (match g u env st with
   | .ok env1 .nx st1=>match gb env1 st1 with
    | .ok env2 .nx st2=>rest env2 st2
    | .ok env2 .ct st2=>rest env2 st2
    | .ok env2 .bk st2=>.ok env2 .nx st2
    | r=>r
   | _=>.bad))
  (hN : ∀ env2 st2 σ' m' H',RpEnv K m' H' env2 σ' → Rep K m' st2 H' → Ext m1 H1 m' H' → PS' K m' H' D W (rest env2 st2) → N σ' H') :
  tTg K is g x σ H fun σ2 H2=>tG K W gb { D with nx:=N,ct:=N,bk:=D.nx } σ2 H2:=by
 refine ⟨m,env,st,u,r,re,ru,?_⟩
 cases e : g u env st with
 | bad=>rw [e] at p; exact p.elim
 | ex c fs env1 st1=>rw [e] at p; exact p.elim
 | ok env1 f st1 =>
  rw [e] at p
  cases f with
  | rt u=>exact p.elim
  | bk=>exact p.elim
  | ct=>exact p.elim
  | nx =>
   refine fun σ2 m2 H2 k1 k2 k3 _=>⟨m2,env1,st1,k2,k1,?_⟩
   have p2:=PS'.from k3 p
   cases e2 : gb env1 st1 with
   | bad=>simp only [e2] at p2; exact p2
   | ex c fs env2 st2=>simp only [e2] at p2; exact p2
   | ok env2 f2 st2 =>
    simp only [e2] at p2
    cases f2 with
    | nx=>exact fun σ' m' H' j1 j2 j3=>hN env2 st2 σ' m' H' j1 j2 (e0.trans (k3.trans j3)) (p2.from j3)
    | ct=>exact fun σ' m' H' j1 j2 j3=>hN env2 st2 σ' m' H' j1 j2 (e0.trans (k3.trans j3)) (p2.from j3)
    | bk=>exact p2
    | rt u=>exact p2
theorem t_for {D : Ends} {σ : L2.St} {H : Hp} (q : tG X.K W (sFor fi g gb) D σ H) : tFor (tI X.K W fi) (tTg X.K is g) (tG X.K W gb) D σ H:=by
 obtain ⟨m,env,st,r,re,p⟩:=q
 refine ⟨m,env,st,r,re,?_⟩
 unfold sFor bndS at p
 cases e : fi env st with
 | bad=>rw [e] at p; exact p.elim
 | ex c fs st1=>rw [e] at p; exact fun d m' H' h1 h2 h3=>p d σ m' H' (re.ext h2) h1 h2 h3
 | ok t st1 =>
  rw [e] at p
  intro t' m0 H0 ht r0 e0 m1 st1' he r1 e1 J hJ
  subst ht
  cases he
  have re1:=re.ext e1
  have p1:=PS'.from e1 p
  cases t' with
  | lst us =>
   obtain ⟨go,stop,yld⟩:=hJ
   refine ⟨fun i k σ H=>∃ m' env' st',Rep X.K m' st' H ∧ RpEnv X.K m' H env' σ ∧ Ext m1 H0 m' H ∧ k = us.length - i ∧ i ≤ us.length ∧ PS' X.K m' H D W (loopL g gb (us.drop i) env' st'),
    ⟨us.length,m1,env,st1,r1,re1,Ext.refl _ _,by simp,Nat.zero_le _,p1⟩,?_⟩
   rintro i k σ' H' ⟨m',env',st',r',re',e',rfl,hi,p'⟩
   by_cases hlt : i < us.length
   ·have hu : us[i]? = some us[i]:=List.getElem?_eq_getElem hlt
    rw [List.drop_eq_getElem_cons hlt] at p'
    refine .inr ⟨go i m' st' H' hlt r' e',fun σ2 H2=>∃ m2 env2 st2,Rep X.K m2 st2 H2 ∧ RpEnv X.K m2 H2 env2 σ2 ∧ Ext m1 H0 m2 H2 ∧ PS' X.K m2 H2 D W (loopL g gb (us.drop (i + 1)) env2 st2),?_,?_⟩
    ·rintro σ2 H2 ⟨m2,env2,st2,r2,re2,e2,p2⟩
     exact ⟨us.length - (i + 1),by omega,m2,env2,st2,r2,re2,e2,rfl,hlt,p2⟩
    ·intro x H'' hy
     obtain ⟨r2,e2,ru⟩:=yld i _ m' st' H' x H'' hu r' e' hy
     exact step_loop r2 (re'.ext e2) ru (e'.trans e2) (PS'.from e2 p') fun env2 st2 σ2 m2 H2 k1 k2 k3 k4=>⟨m2,env2,st2,k2,k1,k3,k4⟩
   ·have : i = us.length:=by omega
    subst this
    rw [List.drop_length] at p'
    exact .inl ⟨stop m' st' H' r' e',p' σ' m' H' re' r' (Ext.refl _ _)⟩
  | cell n f =>
   simp only at p1
   split at p1
   ·rename_i us0 hs0
    refine ⟨fun i k σ H=>∃ m' env' st',Rep X.K m' st' H ∧ RpEnv X.K m' H env' σ ∧ Ext m1 H0 m' H ∧ PS' X.K m' H D W (loopC g gb n f k i env' st'),
     ⟨us0.length + 1,m1,env,st1,r1,re1,Ext.refl _ _,p1⟩,?_⟩
    rintro i k σ' H' ⟨m',env',st',r',re',e',p'⟩
    cases k with
    | zero=>exact p'.elim
    | succ k =>
     unfold loopC at p'
     split at p'
     ·rename_i us hs
      obtain ⟨go,stop,yld⟩:=hJ us m' st' H' r' e' hs
      cases hu : us[i]? with
      | none =>
       simp only [hu] at p'
       exact .inl ⟨stop i (List.getElem?_eq_none_iff.mp hu),p' σ' m' H' re' r' (Ext.refl _ _)⟩
      | some u =>
       simp only [hu] at p'
       cases hf : f i u with
       | none=>simp only [hf] at p'; exact p'.elim
       | some w =>
        simp only [hf] at p'
        refine .inr ⟨go i (List.getElem?_eq_some_iff.mp hu).1,fun σ2 H2=>∃ m2 env2 st2,Rep X.K m2 st2 H2 ∧ RpEnv X.K m2 H2 env2 σ2 ∧ Ext m1 H0 m2 H2 ∧ PS' X.K m2 H2 D W (loopC g gb n f k (i + 1) env2 st2),?_,?_⟩
        ·rintro σ2 H2 ⟨m2,env2,st2,r2,re2,e2,p2⟩
         exact ⟨k,Nat.lt_succ_self k,m2,env2,st2,r2,re2,e2,p2⟩
        ·intro x H'' hy
         obtain ⟨r2,e2,ru⟩:=yld i u w x H'' hu hf hy
         exact step_loop r2 (re'.ext e2) ru (e'.trans e2) (PS'.from e2 p') fun env2 st2 σ2 m2 H2 k1 k2 k3 k4=>⟨m2,env2,st2,k2,k1,k3,k4⟩
     ·exact p'.elim
   ·exact p1.elim
theorem ds_for (hp : PassesOwn (model X.prog X.w) X.A X.env X.xe) (hc : X.calm = true) (hi : DI X W tg iter fi) (hg : DG X tg is g) (hb : DB X W body gb) (hs : ∀ x,foldedSetIterable iter X.env x = pure x:=by intro _; rfl) :
  DS X W (.For tg iter body [] pos) (sFor fi g gb):=⟨PS.imp (ps_for hp hc hi.pi hg.pg hb.pss hs) fun _ _ _ q=>t_for q⟩
end
end VL
namespace VL
open PySem PySem.Spec PyProof.Rows L2
noncomputable def itV (st : Store) (u : U) : Option Itb:=match u with
 | .d (.lst ds)=>some (.lst (ds.map .d))
 | .d (.scr ns)=>some (.lst (ns.map fun i=>.d (.int i)))
 | .d (.tup ds)=>some (.lst (ds.map .d))
 | .d (.str z)=>some (.lst (z.cps.toList.map fun c=>.d (.str ⟨#[c]⟩)))
 | .ref n=>match st[n]? with
  | some (.lst us)=>some (.cell n fun _ u=>some u)
  | _=>none
 | _=>none
noncomputable def fIter (f : F U) : F Itb:=bnd f fun u=>fun _ st=>.of st (itV st u)
theorem PI.or {X : Cx} {tg e : Expr} {t t' : TI} (h : PI X tg e t) (h' : PI X tg e t') : PI X tg e (fun σ H R=>t σ H R ∨ t' σ H R):=⟨fun pins s σ H R I q=>by
 rcases q with q | q
 ·exact h.run pins s σ H R I q
 ·exact h'.run pins s σ H R I q⟩
theorem PI.imp {X : Cx} {tg e : Expr} {t t' : TI} (h : PI X tg e t) (i : ∀ σ H R,t' σ H R → t σ H R) : PI X tg e t':=⟨fun pins s σ H R I q=>h.run pins s σ H R I (i σ H R q)⟩
section
variable {K : PySem.W.Frag} {m : List Addr} {H : Hp} {st : Store}
theorem isIt_lst {a : Addr} {us : List U} {vs : List V} (hs : ∀ m' H',Ext m H m' H' → SqL K H' a vs) (hr : RpUs K m H us vs) : IsIt K m H (Itl K a) (.lst us):=by
 have hl:=hr.length
 refine ⟨fun i m' st' H' hi r e=>⟨vs,vs[i]'(by omega),hs m' H' e,by simp [hl,hi]⟩,fun m' st' H' r e=>⟨vs,hs m' H' e,by omega⟩,fun i u m' st' H' x H'' hu r e y=>?_⟩
 obtain ⟨rfl,y⟩:=y
 obtain ⟨v,hv,rv⟩:=hr.get hu
 have:=(y vs (hs m' _ e)).symm.trans hv
 cases this
 exact ⟨r,Ext.refl _ _,rv.ext e⟩
theorem isIt_tup {a : Addr} {us : List U} {vs : List V} (hs : ∀ m' H',Ext m H m' H' → SqT K H' a vs) (hr : RpUs K m H us vs) : IsIt K m H (Itt K a) (.lst us):=by
 have hl:=hr.length
 refine ⟨fun i m' st' H' hi r e=>⟨vs,vs[i]'(by omega),hs m' H' e,by simp [hl,hi]⟩,fun m' st' H' r e=>⟨vs,hs m' H' e,by omega⟩,fun i u m' st' H' x H'' hu r e y=>?_⟩
 obtain ⟨rfl,y⟩:=y
 obtain ⟨v,hv,rv⟩:=hr.get hu
 have:=(y vs (hs m' _ e)).symm.trans hv
 cases this
 exact ⟨r,Ext.refl _ _,rv.ext e⟩
theorem isIt_cell {a : Addr} {n : Nat} (hn : m[n]? = some a) : IsIt K m H (Itl K a) (.cell n fun _ u=>some u):=by
 intro us m' st' H' r e hs
 have hn' : m'[n]? = some a:=by
  obtain ⟨t,rfl⟩:=e.pre
  rw [List.getElem?_append_left (List.getElem?_eq_some_iff.mp hn).1]; exact hn
 obtain ⟨ho,h1,vs,e2,h2⟩:=r.cell n _ a hs hn'
 subst e2
 have hl:=h2.length
 have hq : SqL K H' a vs:=.inl (.inl h1)
 refine ⟨fun i hi=>⟨vs,vs[i]'(by omega),hq,by simp [hl,hi]⟩,fun i hi=>⟨vs,hq,by omega⟩,fun i u w x H'' hu hw y=>?_⟩
 cases hw
 obtain ⟨rfl,y⟩:=y
 obtain ⟨v,hv,rv⟩:=h2.get hu
 have:=(y vs hq).symm.trans hv
 cases this
 exact ⟨r,Ext.refl _ _,rv⟩
theorem str_items {z : Str} {i : Nat} {c : Nat} (h : z.cps[i]? = some c) : (z.cps.toList.map fun c=>U.d (.str ⟨#[c]⟩))[i]? = some (.d (.str ⟨#[c]⟩)):=by
 rw [List.getElem?_map,Array.getElem?_toList,h]; rfl
theorem isIt_str {z : Str} : IsIt K m H (Its z) (.lst (z.cps.toList.map fun c=>.d (.str ⟨#[c]⟩))):=by
 have hl : (z.cps.toList.map fun c=>U.d (.str ⟨#[c]⟩)).length = z.cps.size:=by rw [List.length_map,Array.length_toList]
 refine ⟨fun i m' st' H' hi r e=>(by rw [hl] at hi; exact hi),fun m' st' H' r e=>(by rw [hl]; exact Nat.le_refl _),fun i u m' st' H' x H'' hu r e y=>?_⟩
 obtain ⟨rfl,c,hc,rfl⟩:=y
 rw [str_items hc] at hu
 cases hu
 exact ⟨r,Ext.refl _ _,rfl⟩
theorem isIt_rng {lo : Int} {n : Nat} : IsIt K m H (Itr lo n) (.lst ((List.range n).map fun i=>.d (.int (lo + (i : Nat))))):=by
 have hl : ((List.range n).map fun i=>U.d (.int (lo + (i : Nat)))).length = n:=by rw [List.length_map,List.length_range]
 refine ⟨fun i m' st' H' hi r e=>(by rw [hl] at hi; exact hi),fun m' st' H' r e=>(by rw [hl]; exact Nat.le_refl _),fun i u m' st' H' x H'' hu r e y=>?_⟩
 obtain ⟨rfl,rfl⟩:=y
 have hi : i < n:=by have:=(List.getElem?_eq_some_iff.mp hu).1; rw [hl] at this; exact this
 rw [List.getElem?_map,List.getElem?_range hi] at hu
 cases hu
 exact ⟨r,Ext.refl _ _,rfl⟩
end
section
variable {X : Cx} {W : WX} {tg e : Expr} {es : List Expr} {fe : F U} {fs : F (List U)} {pos p : Pos}
theorem d_iter (he : DE X W e fe) : DI X W tg e (fIter fe):=⟨PI.imp (PI.or (pi_list he.pe) (PI.or (pi_tup he.pe) (pi_str he.pe))) fun σ H R ⟨m,env,st,r,re,p⟩=>by
 unfold fIter at p
 have run : ∀ (Z : VK),(∀ a st1 v m1 H1,fe env st = .ok a st1 → RpU X.K m1 H1 a v → Rep X.K m1 st1 H1 → RpEnv X.K m1 H1 env σ → Ext m H m1 H1 → Z v H1) → tF X.K W fe σ H Z:=fun Z hz=>by
  refine ⟨m,env,st,r,re,?_⟩
  unfold bnd at p
  cases e : fe env st with
  | ok a st1=>exact fun v m1 H1 h1 h2 h3=>hz a st1 v m1 H1 e h1 h2 (re.ext h3) h3
  | ex c fs st1=>simp only [e] at p; exact p
  | bad=>simp only [e] at p; exact p.elim
 cases e : fe env st with
 | bad=>unfold bnd at p; simp only [e] at p; exact p.elim
 | ex c fs st1=>exact .inl (run _ fun a st2 v m1 H1 q=>by rw [e] at q; cases q)
 | ok u st1 =>
  have e2 : ∀ {t : Itb},itV st1 u = some t → bnd fe (fun u=>fun _ st=>VL.R.of st (itV st u)) env st = .ok t st1:=fun {t} h=>by unfold bnd; simp only [e,h]; rfl
  cases hi : itV st1 u with
  | none=>unfold bnd at p; simp only [e,hi] at p; exact p.elim
  | some t =>
   rw [e2 hi] at p
   have fin : ∀ {m1 H1},Rep X.K m1 st1 H1 → Ext m H m1 H1 → ∀ J,IsIt X.K m1 H1 J t → R J H1:=fun {m1 H1} r1 e1 J hJ=>p t m1 H1 rfl r1 e1 m1 st1 rfl r1 e1 J hJ
   unfold itV at hi
   split at hi
   ·cases hi
    exact .inl (run _ fun a st2 v m1 H1 q h1 h2 h3 h4=>by
     rw [e] at q; cases q
     obtain ⟨b,vs,rfl,g1,g2⟩:=h1
     exact ⟨b,rfl,⟨vs,g1.sq⟩,fin h2 h4 _ (isIt_lst (fun m' H' e'=>(g1.stay e'.toStay).sq) (RpUs.ofD g2))⟩)
   ·cases hi
    exact .inl (run _ fun a st2 v m1 H1 q h1 h2 h3 h4=>by
     rw [e] at q; cases q
     obtain ⟨b,rfl,g1⟩:=h1
     exact ⟨b,rfl,⟨_,g1.sq⟩,fin h2 h4 _ (isIt_lst (fun m' H' e'=>(g1.stay e'.toStay).sq) (RpUs.ints _))⟩)
   ·cases hi
    exact .inr (.inl (run _ fun a st2 v m1 H1 q h1 h2 h3 h4=>by
     rw [e] at q; cases q
     obtain ⟨b,vs,rfl,g1,g2⟩:=h1
     exact ⟨b,rfl,⟨vs,g1.sq⟩,fin h2 h4 _ (isIt_tup (fun m' H' e'=>(g1.stay e'.toStay).sq) (RpUs.ofD g2))⟩))
   ·cases hi
    exact .inr (.inr (run _ fun a st2 v m1 H1 q h1 h2 h3 h4=>by
     rw [e] at q; cases q
     exact ⟨_,h1,fin h2 h4 _ isIt_str⟩))
   ·split at hi
    ·rename_i us hs
     cases hi
     exact .inl (run _ fun a st2 v m1 H1 q h1 h2 h3 h4=>by
      rw [e] at q; cases q
      obtain ⟨b,hb,rfl⟩:=h1
      obtain ⟨ho,k1,vs,k2,k3⟩:=h2.cell _ _ b hs hb
      subst k2
      exact ⟨b,rfl,⟨vs,.inl (.inl k1)⟩,fin h2 h4 _ (isIt_cell hb)⟩)
    ·cases hi
   ·cases hi⟩
/-- range(n),range(a,b) -/
noncomputable def itR (us : List U) : Option Itb:=match us with
 | [.d (.int j)]=>if -(2 ^ 62) ≤ j ∧ j < 2 ^ 62 then some (.lst ((List.range j.toNat).map fun i=>.d (.int (0 + (i : Nat))))) else none
 | _=>none
noncomputable def fItN (g : List U → Option Itb) (f : F (List U)) : F Itb:=bnd f fun us=>fun _ st=>.of st (g us)
theorem t_itN {g : List U → Option Itb} {σ : L2.St} {H : Hp} {R : It → Hp → Prop} (h : tI X.K W (fItN g fs) σ H R) {Z : List V → Hp → Prop}
  (hz : ∀ us vs m1 st1 H1 t,RpUs X.K m1 H1 us vs → Rep X.K m1 st1 H1 → g us = some t → (∀ J,IsIt X.K m1 H1 J t → R J H1) → Z vs H1) : tFs X.K W fs σ H Z:=by
 obtain ⟨m,env,st,r,re,p⟩:=h
 refine ⟨m,env,st,r,re,?_⟩
 unfold fItN at p
 cases e : fs env st with
 | bad=>unfold bnd at p; simp only [e] at p; exact p.elim
 | ex c fs st1=>unfold bnd at p; simp only [e] at p; exact p
 | ok us st1 =>
  intro vs m1 H1 h1 r1 e1
  cases hi : g us with
  | none=>unfold bnd at p; simp only [e,hi] at p; exact p.elim
  | some t =>
   have e2 : bnd fs (fun us=>fun _ st=>VL.R.of st (g us)) env st = .ok t st1:=by unfold bnd; simp only [e,hi]; rfl
   rw [e2] at p
   exact hz us vs m1 st1 H1 t h1 r1 hi fun J hJ=>p t m1 H1 rfl r1 e1 m1 st1 rfl r1 e1 J hJ
theorem d_range1 {a : Expr} (hm : X.mg "range" = none) (ha : DA X W [a] fs) (hg : Gl X "range":=by rfl) (hs : starEach [a] X.env = [(false,eval a X.env)]:=by rfl) : DI X W tg (.Call (.Name "range" p) [a] [] pos) (fItN itR fs) :=
 ⟨PI.imp (pi_range1 hg hm ha.pa hs) fun σ H R h=>t_itN h fun us vs m1 st1 H1 t h1 r1 ht q=>by
  unfold itR at ht
  split at ht
  ·split at ht
   ·rename_i hb
    cases ht
    obtain ⟨v,_,rfl,rfl,rfl⟩:=h1
    exact ⟨_,rfl,hb.1,hb.2,q _ isIt_rng⟩
   ·cases ht
  ·cases ht⟩
end
/-- pairs of an index,an item -/
noncomputable def pairsFrom : Nat → List D → List U
 | _,[]=>[]
 | i,d :: ds=>.d (.tup [.int (i : Nat),d]) :: pairsFrom (i + 1) ds
theorem pairsFrom_get : ∀ (ds : List D) (k i : Nat) (u : U),(pairsFrom k ds)[i]? = some u → ∃ d,ds[i]? = some d ∧ u = .d (.tup [.int ((k + i : Nat) : Int),d])
 | [],k,i,u,h=>by simp [pairsFrom] at h
 | d :: ds,k,0,u,h=>by simp [pairsFrom] at h; exact ⟨d,rfl,h.symm⟩
 | d :: ds,k,i + 1,u,h=>by
  obtain ⟨d',h1,h2⟩:=pairsFrom_get ds (k + 1) i u (by simpa [pairsFrom] using h)
  exact ⟨d',by simpa using h1,by rw [h2]; congr 4; simp; omega⟩
theorem pairsFrom_length : ∀ (ds : List D) (k : Nat),(pairsFrom k ds).length = ds.length
 | [],_=>rfl
 | d :: ds,k=>by rw [pairsFrom,List.length_cons,List.length_cons,pairsFrom_length]
noncomputable def itE (st : Store) (us : List U) : Option Itb:=match us with
 | [.d (.lst ds)]=>some (.lst (pairsFrom 0 ds))
 | [.d (.scr ns)]=>some (.lst (pairsFrom 0 (ns.map .int)))
 | [.ref n]=>match st[n]? with
  | some (.lst _)=>some (.cell n fun i u=>match u with
   | .d x=>some (.d (.tup [.int (i : Nat),x]))
   | _=>none)
  | _=>none
 | _=>none
section
variable {K : PySem.W.Frag} {m : List Addr} {H : Hp} {st : Store}
theorem pair_new (r : Rep K m st H) {T : Addr} (nT : H T = none) {a b : D} {x y : V} (h1 : RpD K m H a x) (h2 : RpD K m H b y) : Rep K m st (upd H T (.tup [x,y])) ∧ Ext m H m (upd H T (.tup [x,y])) ∧ RpU K m (upd H T (.tup [x,y])) (.d (.tup [a,b])) (.ref T) :=
 ⟨r.new nT _,ext_new r nT _,new_tup r nT ⟨x,_,rfl,h1,y,_,rfl,h2,rfl⟩⟩
theorem isIt_enum {a : Addr} {ds : List D} {vs : List V} (hs : ∀ m' H',Ext m H m' H' → SqL K H' a vs) (hr : RpDs K m H ds vs) : IsIt K m H (Ite K a) (.lst (pairsFrom 0 ds)):=by
 have hl:=hr.length
 have hl2:=pairsFrom_length ds 0
 refine ⟨fun i m' st' H' hi r e=>(walk_enum (K:=K) (a:=a) (xs:=vs)).goes i H' (by omega) (hs m' H' e),fun m' st' H' r e=>(by rw [hl2,← hl]; exact (walk_enum (K:=K) (a:=a) (xs:=vs)).stops H' (hs m' H' e)),fun i u m' st' H' x H'' hu r e y=>?_⟩
 have hi:=(List.getElem?_eq_some_iff.mp hu).1
 obtain ⟨T,x1,y1,rfl,nT,rfl,e1,e2⟩:=(walk_enum (K:=K) (a:=a) (xs:=vs)).yields i H' x H'' (by omega) (hs m' H' e) y
 cases e1
 obtain ⟨d,hd,rfl⟩:=pairsFrom_get ds 0 i u hu
 obtain ⟨v,hv,rv⟩:=hr.get hd
 cases hv.symm.trans e2
 rw [Nat.zero_add]
 exact pair_new r nT (a:=.int (i : Nat)) rfl (rv.ext e)
theorem isIt_enumC {a : Addr} {n : Nat} (hn : m[n]? = some a) : IsIt K m H (Ite K a) (.cell n fun i u=>match u with
  | .d x=>some (.d (.tup [.int (i : Nat),x]))
  | _=>none):=by
 intro us m' st' H' r e hs
 have hn' : m'[n]? = some a:=by
  obtain ⟨t,rfl⟩:=e.pre
  rw [List.getElem?_append_left (List.getElem?_eq_some_iff.mp hn).1]; exact hn
 obtain ⟨ho,h1,vs,e2,h2⟩:=r.cell n _ a hs hn'
 subst e2
 have hl:=h2.length
 have hq : SqL K H' a vs:=.inl (.inl h1)
 refine ⟨fun i hi=>(walk_enum (K:=K) (a:=a) (xs:=vs)).goes i H' (by omega) hq,fun i hi=>?_,fun i u w x H'' hu hw y=>?_⟩
 ·exact ⟨vs,hq,by omega⟩
 ·have hi:=(List.getElem?_eq_some_iff.mp hu).1
  obtain ⟨T,x1,y1,rfl,nT,rfl,e1,e2⟩:=(walk_enum (K:=K) (a:=a) (xs:=vs)).yields i H' x H'' (by omega) hq y
  cases e1
  obtain ⟨v,hv,rv⟩:=h2.get hu
  cases hv.symm.trans e2
  cases u with
  | ref k=>cases hw
  | d z=>cases hw; exact pair_new r nT (a:=.int (i : Nat)) rfl rv
end
section
variable {X : Cx} {W : WX} {e e2 : Expr} {fs : F (List U)} {pos p tpos : Pos} {elts : List Expr} {kk : Nat}
noncomputable def fItS (g : Store → List U → Option Itb) (f : F (List U)) : F Itb:=bnd f fun us=>fun _ st=>.of st (g st us)
theorem t_itS {g : Store → List U → Option Itb} {σ : L2.St} {H : Hp} {R : It → Hp → Prop} (h : tI X.K W (fItS g fs) σ H R) {Z : List V → Hp → Prop}
  (hz : ∀ us vs m1 st1 H1 t,RpUs X.K m1 H1 us vs → Rep X.K m1 st1 H1 → g st1 us = some t → (∀ J,IsIt X.K m1 H1 J t → R J H1) → Z vs H1) : tFs X.K W fs σ H Z:=by
 obtain ⟨m,env,st,r,re,p⟩:=h
 refine ⟨m,env,st,r,re,?_⟩
 unfold fItS at p
 cases e : fs env st with
 | bad=>unfold bnd at p; simp only [e] at p; exact p.elim
 | ex c fs st1=>unfold bnd at p; simp only [e] at p; exact p
 | ok us st1 =>
  intro vs m1 H1 h1 r1 e1
  cases hi : g st1 us with
  | none=>unfold bnd at p; simp only [e,hi] at p; exact p.elim
  | some t =>
   have e2 : bnd fs (fun us=>fun _ st=>VL.R.of st (g st us)) env st = .ok t st1:=by unfold bnd; simp only [e,hi]; rfl
   rw [e2] at p
   exact hz us vs m1 st1 H1 t h1 r1 hi fun J hJ=>p t m1 H1 rfl r1 e1 m1 st1 rfl r1 e1 J hJ
theorem d_enum (hm : X.mg "enumerate" = none) (ha : DA X W [e] fs) (hg : Gl X "enumerate":=by rfl) (hs : starEach [e] X.env = [(false,eval e X.env)]:=by rfl) : DI X W (.Tuple elts kk tpos) (.Call (.Name "enumerate" p) [e] [] pos) (fItS itE fs) :=
 ⟨PI.imp (pi_enum hg hm ha.pa hs) fun σ H R h=>t_itS h fun us vs m1 st1 H1 t h1 r1 ht q=>by
  unfold itE at ht
  split at ht
  ·cases ht
   obtain ⟨v,_,rfl,⟨a,ws,rfl,g1,g2⟩,rfl⟩:=h1
   exact ⟨a,ws,rfl,g1.sq,q _ (isIt_enum (fun m' H' e'=>(g1.stay e'.toStay).sq) g2)⟩
  ·cases ht
   rename_i ns
   obtain ⟨v,_,rfl,⟨a,rfl,g1⟩,rfl⟩:=h1
   exact ⟨a,_,rfl,g1.sq,q _ (isIt_enum (fun m' H' e'=>(g1.stay e'.toStay).sq) (RpDs.toD (by rw [List.map_map]; exact RpUs.ints ns)))⟩
  ·split at ht
   ·rename_i us hs
    cases ht
    obtain ⟨v,_,rfl,⟨a,ha,rfl⟩,rfl⟩:=h1
    obtain ⟨ho,k1,ws,k2,k3⟩:=r1.cell _ _ a hs ha
    subst k2
    exact ⟨a,ws,rfl,.inl (.inl k1),q _ (isIt_enumC ha)⟩
   ·cases ht
  ·cases ht⟩
end
end VL
namespace VL
open PySem PySem.Spec PyProof.Rows L2
noncomputable def okU (k : Nat) : U → Bool
 | .d _=>true
 | .ref n=>decide (n < k)
noncomputable def okO (k : Nat) : O → Bool
 | .lst us=>us.all (okU k)
 | .tup us=>us.all (okU k)
 | .dct us=>us.all fun p=>okU k p.2
 | .ins _ us=>us.all fun p=>okU k p.2
 | .tbl _ _=>true
 | .lck us=>us.all fun p=>okU k p.2
 | .kdc _ us=>us.all fun p=>okU k p.2
/-- no cell speaks of one that is not there -/
noncomputable def wfB (st : Store) : Bool:=st.all (okO st.length)
noncomputable def cutS (k : Nat) (st : Store) : Option Store:=if (st.take k).all (okO k) = true then some (st.take k) else none
theorem RpD.less {K : PySem.W.Frag} {m m' : List Addr} {H : Hp} (h : ∀ a,a ∉ m → a ∉ m') {d : D} {v : V} (r : RpD K m H d v) : RpD K m' H d v :=
 RpD.stay ⟨fun a o n e _ _=>⟨e,h a n⟩,fun a kvs n e=>⟨e,h a n⟩,fun _ _ _ e=>e⟩ d v r
section
variable {K : PySem.W.Frag} {m : List Addr} {H : Hp} {st : Store} {k : Nat}
theorem okU_rp {u : U} {v : V} (h : okU k u = true) (r : RpU K m H u v) : RpU K (m.take k) H u v:=by
 cases u with
 | d x=>exact RpD.less (fun a n z=>n (List.mem_of_mem_take z)) r
 | ref n =>
  obtain ⟨a,ha,e⟩:=r
  exact ⟨a,by rw [List.getElem?_take_of_lt (of_decide_eq_true h)]; exact ha,e⟩
theorem okUs_rp : ∀ {us : List U} {vs : List V},us.all (okU k) = true → RpUs K m H us vs → RpUs K (m.take k) H us vs
 | [],_,_,r=>r
 | u :: us,_,h,⟨v,t,e,h1,h2⟩=>by
  rw [List.all_cons,Bool.and_eq_true] at h
  exact ⟨v,t,e,okU_rp h.1 h1,okUs_rp h.2 h2⟩
theorem okUK_rp : ∀ {us : List (Key × U)} {vs : List (Key × V)},(us.all fun p=>okU k p.2) = true → RpUK K m H us vs → RpUK K (m.take k) H us vs
 | [],_,_,r=>r
 | (_,u) :: us,_,h,⟨v,t,e,h1,h2⟩=>by
  rw [List.all_cons,Bool.and_eq_true] at h
  exact ⟨v,t,e,okU_rp h.1 h1,okUK_rp h.2 h2⟩
theorem okUKd_rp : ∀ {us : List (D × U)} {vs : List (NestedKey × Addr × V)},(us.all fun p=>okU k p.2) = true → RpUKd K m H us vs → RpUKd K (m.take k) H us vs
 | [],_,_,r=>r
 | (_,u) :: us,_,h,⟨n,b,v,t,e,q,h0,h1,h2⟩=>by
  rw [List.all_cons,Bool.and_eq_true] at h
  exact ⟨n,b,v,t,e,q,RpD.less (fun a n z=>n (List.mem_of_mem_take z)) h0,okU_rp h.1 h1,okUKd_rp h.2 h2⟩
theorem okUF_rp : ∀ {us : List (Str × U)} {vs : List (Str × V)},(us.all fun p=>okU k p.2) = true → RpUF K m H us vs → RpUF K (m.take k) H us vs
 | [],_,_,r=>r
 | (_,u) :: us,_,h,⟨v,t,e,h1,h2⟩=>by
  rw [List.all_cons,Bool.and_eq_true] at h
  exact ⟨v,t,e,okU_rp h.1 h1,okUF_rp h.2 h2⟩
theorem okO_rp {b : Addr} {c : O} {o : HO} (h : okO k c = true) (r : RpO K m H b c o) : RpO K (m.take k) H b c o:=by
 cases c with
 | lst us=>obtain ⟨vs,e,q⟩:=r; exact ⟨vs,e,okUs_rp h q⟩
 | tup us=>obtain ⟨vs,e,q⟩:=r; exact ⟨vs,e,okUs_rp h q⟩
 | dct us=>obtain ⟨vs,e,q⟩:=r; exact ⟨vs,e,okUK_rp h q⟩
 | ins C us=>obtain ⟨dx,vs,e,q⟩:=r; exact ⟨dx,vs,e,okUF_rp h q⟩
 | lck us=>obtain ⟨ob,vs,e,q⟩:=r; exact ⟨ob,vs,e,okUK_rp h q⟩
 | kdc w us=>obtain ⟨o,vs,e,z,q⟩:=r; exact ⟨o,vs,e,z,okUKd_rp h q⟩
 | tbl P q=>obtain ⟨e,ps,e1,e2,g⟩:=r; exact ⟨e,ps,e1,e2,fun pos cv hc=>let ⟨c,g1,g2,g3⟩:=g pos cv hc; ⟨c,g1,fun z=>g2 (List.mem_of_mem_take z),g3⟩⟩
theorem Rep.cut (r : Rep K m st H) {s : Store} (e : cutS k st = some s) : Rep K (m.take k) s H:=by
 unfold cutS at e
 split at e
 ·rename_i h
  cases e
  refine ⟨by rw [List.length_take,List.length_take,r.len],r.nd.sublist (List.take_sublist _ _),fun n c a h1 h2=>?_⟩
  have hn : n < k:=by
   have:=(List.getElem?_eq_some_iff.mp h1).1
   rw [List.length_take] at this
   omega
  rw [List.getElem?_take_of_lt hn] at h1 h2
  obtain ⟨ho,e1,q⟩:=r.cell n c a h1 h2
  have hc : okO k c = true:=List.all_eq_true.mp h c (List.mem_of_getElem? (i:=n) (by rw [List.getElem?_take_of_lt hn]; exact h1))
  exact ⟨ho,e1,okO_rp hc q⟩
 ·cases e
theorem ext_cut {m0 : List Addr} {H0 : Hp} (e : Ext m0 H0 m H) (hk : m0.length ≤ k) : Ext m0 H0 (m.take k) H:=by
 refine ⟨?_,e.toStay.less fun _ z=>List.mem_of_mem_take z⟩
 obtain ⟨t,rfl⟩:=e.pre
 rw [List.take_append,List.take_of_length_le hk]
 exact List.prefix_append _ _
end
noncomputable def wipeE (env : VEnv) : List Nat → VEnv
 | []=>env
 | v :: vs=>(wipeE env vs).set v none
noncomputable def lcStep (k : Nat) (tg : U → G) (tt : F Bool) (fe : F U) (env0 : VEnv) (u : U) : Store → R Unit:=fun st=>match tg u env0 st with
 | .ok env1 .nx st1=>match tt env1 st1 with
  | .ok true st2=>match fe env1 st2 with
   | .ok x st3=>match st3[k]? with
    | some (.lst acc)=>if acc.length < sizeLine then .ok () (st3.set k (.lst (acc ++ [x]))) else .bad
    | _=>.bad
   | _=>.bad
  | .ok false st2=>.ok () st2
  | _=>.bad
 | _=>.bad
noncomputable def lcL (k : Nat) (tg : U → G) (tt : F Bool) (fe : F U) (env0 : VEnv) : List U → Store → R Unit
 | []=>fun st=>.ok () st
 | u :: us=>fun st=>match lcStep k tg tt fe env0 u st with
  | .ok _ st1=>lcL k tg tt fe env0 us st1
  | _=>.bad
noncomputable def lcC (k : Nat) (tg : U → G) (tt : F Bool) (fe : F U) (env0 : VEnv) (n : Nat) (f : Nat → U → Option U) : Nat → Nat → Store → R Unit
 | 0,_=>fun _=>.bad
 | j + 1,i=>fun st=>match st[n]? with
  | some (.lst us)=>match us[i]? with
   | none=>.ok () st
   | some u=>match f i u with
    | none=>.bad
    | some w=>match lcStep k tg tt fe env0 w st with
     | .ok _ st1=>lcC k tg tt fe env0 n f j (i + 1) st1
     | _=>.bad
  | _=>.bad
noncomputable def lcEnd (k : Nat) : R Unit → R U
 | .ok _ st=>match st[k]? with
  | some (.lst us)=>match pureL us,cutS k st with
   | some ds,some s=>.ok (.d (.lst ds)) s
   | _,_=>.bad
  | _=>.bad
 | _=>.bad
noncomputable def fLc (fi : F Itb) (tg : U → G) (tt : F Bool) (fe : F U) (vs : List Nat) : F U:=bnd fi fun t=>fun env st=>match t with
 | .lst us=>lcEnd st.length (lcL st.length tg tt fe (wipeE env vs) us (st ++ [.lst []]))
 | .cell n f=>match st[n]? with
  | some (.lst us)=>lcEnd st.length (lcC st.length tg tt fe (wipeE env vs) n f (us.length + 1) 0 (st ++ [.lst []]))
  | _=>.bad
noncomputable def tYesB : F Bool:=fPure true
section
variable {K : PySem.W.Frag} {m : List Addr} {H : Hp} {st : Store}
theorem RpEnv.wipe {env : VEnv} {σ : L2.St} (h : RpEnv K m H env σ) : ∀ vs : List Nat,RpEnv K m H (wipeE env vs) (wipe σ vs)
 | []=>h
 | v :: vs=>by
  have ih:=RpEnv.wipe h vs
  refine ⟨by show ((wipeE env vs).set v none).length = ((L2.wipe σ vs).set v none).length; rw [List.length_set,List.length_set]; exact ih.len,fun i u hi=>?_⟩
  have hi' : ((wipeE env vs).set v none)[i]? = some (some u):=hi
  by_cases e : v = i
  ·subst e
   by_cases hv : v < (wipeE env vs).length
   ·rw [List.getElem?_set_self hv] at hi'; cases hi'
   ·rw [List.getElem?_eq_none (by rw [List.length_set]; omega)] at hi'; cases hi'
  ·rw [List.getElem?_set_ne e] at hi'
   obtain ⟨x,h1,h2⟩:=ih.at' i u hi'
   exact ⟨x,by show ((L2.wipe σ vs).set v none)[i]? = _; rw [List.getElem?_set_ne e]; exact h1,h2⟩
theorem wipe_get {σ : L2.St} : ∀ {vs : List Nat} {i : Nat},(L2.wipe σ vs)[i]? = if i ∈ vs then (σ[i]?).map (fun _=>none) else σ[i]?
 | [],i=>by simp [L2.wipe]
 | v :: vs,i=>by
  show ((L2.wipe σ vs).set v none)[i]? = _
  by_cases e : v = i
  ·subst e
   rw [if_pos (List.mem_cons_self)]
   by_cases hv : v < σ.length
   ·rw [List.getElem?_set_self (by rw [wipe_length]; exact hv),List.getElem?_eq_getElem hv]; rfl
   ·rw [List.getElem?_eq_none (by rw [List.length_set,wipe_length]; omega),List.getElem?_eq_none (by omega)]; rfl
  ·rw [List.getElem?_set_ne e,wipe_get]
   have : (i ∈ v :: vs) ↔ i ∈ vs:=by simp [Ne.symm e]
   by_cases h : i ∈ vs
   ·rw [if_pos h,if_pos (this.mpr h)]
   ·rw [if_neg h,if_neg (fun z=>h (this.mp z))]
theorem wipe_out {is vs : List Nat} {σ σ' : L2.St} (h : ∀ i ∈ is,i ∈ vs) (o : Out is (L2.wipe σ vs) σ') : L2.wipe σ' vs = L2.wipe σ vs:=by
 apply List.ext_getElem?
 intro i
 rw [wipe_get]
 by_cases hi : i ∈ vs
 ·rw [if_pos hi,wipe_get,if_pos hi]
  have hl : σ'.length = σ.length:=by rw [o.1,wipe_length]
  by_cases h2 : i < σ.length
  ·rw [List.getElem?_eq_getElem h2,List.getElem?_eq_getElem (by omega)]; rfl
  ·rw [List.getElem?_eq_none (by omega),List.getElem?_eq_none (by omega)]
 ·rw [if_neg hi]
  exact o.2 i fun z=>hi (h i z)
end
/-- a clause's tests -/
structure DTs (X : Cx) (W : WX) (es : List Expr) (f : F Bool) : Prop where
 pts : PTs X es (tFB X.K W f)
section
variable {X : Cx} {W : WX} {c : Expr} {fc : F Bool}
theorem dts_nil : DTs X W [] tYesB:=⟨⟨fun pins s σ H Q I ⟨m,env,st,r,re,p⟩=>pts_nil.run pins s σ H Q I (p true m H rfl r (Ext.refl _ _))⟩⟩
theorem dts_one (h : DT X W c fc) : DTs X W [c] fc:=⟨pts_one h.pt⟩
end
noncomputable def W0 : WX:=fun _ _ _ _=>False
section
variable {X : Cx} {W : WX} {elt tg iter : Expr} {ifs : List Expr} {scope : Scope} {own : List (Str × Nat)} {pos : Pos} {is : List Nat} {g : U → G} {gt : F Bool} {fe : F U} {fi : F Itb}
theorem pre_get {α : Type} {m m' : List α} (p : m <+: m') {k : Nat} {a : α} (h : m[k]? = some a) : m'[k]? = some a:=by
 obtain ⟨t,rfl⟩:=p
 rw [List.getElem?_append_left (List.getElem?_eq_some_iff.mp h).1]; exact h
/-- what holds between two turns -/
structure LcI (K : PySem.W.Frag) (m1 : List Addr) (H1 : Hp) (k : Nat) (D0 : Addr) (m' : List Addr) (st' : Store) (H' : Hp) : Prop where
 rep : Rep K m' st' H'
 ext : Ext m1 H1 m' H'
 at' : m'[k]? = some D0
/-- one turn -/
theorem lc_turn {K : PySem.W.Frag} {σ : L2.St} {env : VEnv} {m1 m' : List Addr} {H1 H'' : Hp} {st' : Store} {u : U} {x : V} {k : Nat} {D0 : Addr} {Nx : Hp → Prop} {vs is : List Nat} {rest : Store → R Unit} {Q : VK} {E : XK}
  (hvs : ∀ i ∈ is,i ∈ vs) (I : LcI K m1 H1 k D0 m' st' H'') (hk : k = m1.length) (h0 : H1 D0 = none) (re : RpEnv K m' H'' (wipeE env vs) (L2.wipe σ vs)) (ru : RpU K m' H'' u x)
  (p : PU K m1 H1 Q E (lcEnd k (match lcStep k g gt fe (wipeE env vs) u st' with
   | .ok _ st1=>rest st1
   | _=>.bad)))
  (hN : ∀ m2 st2 H2,LcI K m1 H1 k D0 m2 st2 H2 → RpEnv K m2 H2 (wipeE env vs) (L2.wipe σ vs) → PU K m1 H1 Q E (lcEnd k (rest st2)) → Nx H2) :
  tTg K is g x (L2.wipe σ vs) H'' fun σ2 H2=>L2.wipe σ2 vs = L2.wipe σ vs ∧ tFB K W0 gt σ2 H2 fun b H3 =>
   if b = true then tF K W0 fe σ2 H3 fun y H4=>∃ acc,H4 D0 = some (.lst acc) ∧ acc.length < sizeLine ∧ Nx (upd H4 D0 (.lst (acc ++ [y]))) else Nx H3:=by
 refine ⟨m',_,st',u,I.rep,re,ru,?_⟩
 unfold lcStep at p
 split
 ·rename_i env1 st1 e1
  simp only [e1] at p
  intro σ2 m2 H2 re2 r2 x2 o2
  refine ⟨wipe_out hvs o2,m2,env1,st1,r2,re2,?_⟩
  cases e2 : gt env1 st1 with
  | bad=>simp only [e2] at p; exact p.elim
  | ex c fs st2=>simp only [e2] at p; exact p.elim
  | ok b st2 =>
   simp only [e2] at p
   intro b' m3 H3 hb r3 x3
   subst hb
   cases b' with
   | false =>
    refine iteF (hN m3 st2 H3 ⟨r3,I.ext.trans (x2.trans x3),pre_get (x2.trans x3).pre I.at'⟩ (re.ext (x2.trans x3)) p)
   | true =>
    refine iteT ⟨m3,env1,st2,r3,re2.ext x3,?_⟩
    cases e3 : fe env1 st2 with
    | bad=>simp only [e3] at p; exact p.elim
    | ex c fs st3=>simp only [e3] at p; exact p.elim
    | ok z st3 =>
     simp only [e3] at p
     intro y m4 H4 ry r4 x4
     have x24:=x2.trans (x3.trans x4)
     have hat:=pre_get x24.pre I.at'
     cases hacc : st3[k]? with
     | none=>simp only [hacc] at p; exact p.elim
     | some cell =>
     cases cell with
     | dct _=>simp only [hacc] at p; exact p.elim
     | tup _=>simp only [hacc] at p; exact p.elim
     | ins _ _=>simp only [hacc] at p; exact p.elim
     | lck _=>simp only [hacc] at p; exact p.elim
     | kdc _ _=>simp only [hacc] at p; exact p.elim
     | tbl _ _=>simp only [hacc] at p; exact p.elim
     | lst acc =>
      simp only [hacc] at p
      by_cases hlen : acc.length < sizeLine
      ·rw [if_pos hlen] at p
       obtain ⟨ho,g1,ws,g2,g3⟩:=r4.cell k _ D0 hacc hat
       subst g2
       refine ⟨ws,g1,by rw [g3.length]; exact hlen,?_⟩
       have hm : D0 ∈ m4:=List.mem_of_getElem? hat
       have rW : Rep K m4 (st3.set k (.lst (acc ++ [z]))) (upd H4 D0 (.lst (ws ++ [y]))) :=
        r4.write hat ⟨_,rfl,(g3.append (show RpUs K m4 H4 [z] [y] from ⟨y,_,rfl,ry,rfl⟩)).ext (ext_write hm _ (nf_l g1))⟩ (nf_l g1)
       have eW : Ext m1 H1 m4 (upd H4 D0 (.lst (ws ++ [y]))):=(I.ext.trans x24).trans (ext_write hm _ (nf_l g1))
       exact hN m4 _ _ ⟨rW,eW,hat⟩ ((re.ext x24).ext (ext_write hm _ (nf_l g1))) p
      ·rw [if_neg hlen] at p; exact p.elim
 ·rename_i hn
  split at p
  ·rename_i q
   split at q
   ·rename_i env1 st1 e1
    exact (hn env1 st1 e1).elim
   ·cases q
  ·exact p.elim
theorem lc_fin {K : PySem.W.Frag} {m1 m' : List Addr} {H1 H' : Hp} {st' : Store} {k : Nat} {D0 : Addr} {Q : VK} {E : XK} (I : LcI K m1 H1 k D0 m' st' H') (hk : k = m1.length) (p : PU K m1 H1 Q E (lcEnd k (.ok () st'))) : Q (.ref D0) H':=by
 unfold lcEnd at p
 simp only at p
 split at p
 ·rename_i us hus
  split at p
  ·rename_i ds s hd hs
   obtain ⟨ho,g1,ws,g2,g3⟩:=I.rep.cell k _ D0 hus I.at'
   subst g2
   have hnot : D0 ∉ m'.take k:=fun z=>by
    obtain ⟨j,hj,e⟩:=List.mem_iff_getElem.mp z
    rw [List.length_take] at hj
    rw [List.getElem_take] at e
    obtain ⟨hk',e'⟩:=List.getElem?_eq_some_iff.mp I.at'
    have:=(List.getElem_inj I.rep.nd).mp (e.trans e'.symm)
    omega
   refine p _ (m'.take k) H' ⟨D0,ws,rfl,⟨hnot,g1⟩,?_⟩ (I.rep.cut hs) (ext_cut I.ext (by omega))
   have:=pureL_rp g3 hd
   exact RpDs.stay ⟨fun a o n e _ _=>⟨e,fun z=>n (List.mem_of_mem_take z)⟩,fun a kvs n e=>⟨e,fun z=>n (List.mem_of_mem_take z)⟩,fun _ _ _ e=>e⟩ _ _ this
  ·exact p.elim
 ·exact p.elim
theorem t_lc {vs : List Nat} (hvs : ∀ i ∈ is,i ∈ vs) {σ : L2.St} {H : Hp} {Q : VK} (q : tF X.K W (fLc fi g gt fe vs) σ H Q) :
  tLc (tI X.K W fi) (tTg X.K is g) (tFB X.K W0 gt) (tF X.K W0 fe) vs σ H Q:=by
 obtain ⟨m,env,st,r,re,p⟩:=q
 refine ⟨m,env,st,r,re,?_⟩
 unfold fLc bnd at p
 cases e : fi env st with
 | bad=>rw [e] at p; exact p.elim
 | ex c fs st1=>rw [e] at p; exact p
 | ok t st1 =>
  rw [e] at p
  intro t' m0 H0 ht r0 e0 m1 st1' he r1 e1 J hJ D0 hD0
  subst ht
  cases he
  have re1:=re.ext e1
  have p1:=PO'.from e1 p
  have hpush:=push_lst r1 hD0 (us:=[]) (vs:=[]) rfl
  have start : LcI X.K m1 H0 m1.length D0 (m1 ++ [D0]) (st1 ++ [.lst []]) (upd H0 D0 (.lst [])):=⟨hpush.2,ext_push r1 hD0 _,by simp⟩
  have reS : RpEnv X.K (m1 ++ [D0]) (upd H0 D0 (.lst [])) (wipeE env vs) (L2.wipe σ vs):=(re1.ext (ext_push r1 hD0 _)).wipe vs
  have hlen:=r1.len
  cases t' with
  | lst us =>
   simp only [← hlen] at p1
   obtain ⟨go,stop,yld⟩:=hJ
   refine ⟨fun i n H=>∃ m' st',LcI X.K m1 H0 m1.length D0 m' st' H ∧ RpEnv X.K m' H (wipeE env vs) (L2.wipe σ vs) ∧ n = us.length - i ∧ i ≤ us.length ∧ PU X.K m1 H0 Q (fun c d H'=>W c d σ H') (lcEnd m1.length (lcL m1.length g gt fe (wipeE env vs) (us.drop i) st')),
    ⟨us.length,_,_,start,reS,by simp,Nat.zero_le _,p1⟩,?_⟩
   rintro i n H' ⟨m',st',I,re',rfl,hi,p'⟩
   by_cases hlt : i < us.length
   ·have hu : us[i]? = some us[i]:=List.getElem?_eq_getElem hlt
    rw [List.drop_eq_getElem_cons hlt] at p'
    refine .inr ⟨go i m' st' H' hlt I.rep I.ext,fun H2=>∃ m2 st2,LcI X.K m1 H0 m1.length D0 m2 st2 H2 ∧ RpEnv X.K m2 H2 (wipeE env vs) (L2.wipe σ vs) ∧ PU X.K m1 H0 Q (fun c d H'=>W c d σ H') (lcEnd m1.length (lcL m1.length g gt fe (wipeE env vs) (us.drop (i + 1)) st2)),?_,?_⟩
    ·rintro H2 ⟨m2,st2,I2,re2,p2⟩
     exact ⟨us.length - (i + 1),by omega,m2,st2,I2,re2,rfl,hlt,p2⟩
    ·intro x H'' hy
     obtain ⟨r2,e2,ru⟩:=yld i _ m' st' H' x H'' hu I.rep I.ext hy
     exact lc_turn hvs ⟨r2,I.ext.trans e2,I.at'⟩ rfl hD0 (re'.ext e2) ru p' fun m2 st2 H2 I2 re2 p2=>⟨m2,st2,I2,re2,p2⟩
   ·have : i = us.length:=by omega
    subst this
    rw [List.drop_length] at p'
    exact .inl ⟨stop m' st' H' I.rep I.ext,lc_fin I rfl p'⟩
  | cell n f =>
   simp only at p1
   split at p1
   ·rename_i us0 hs0
    simp only [← hlen] at p1
    refine ⟨fun i j H=>∃ m' st',LcI X.K m1 H0 m1.length D0 m' st' H ∧ RpEnv X.K m' H (wipeE env vs) (L2.wipe σ vs) ∧ PU X.K m1 H0 Q (fun c d H'=>W c d σ H') (lcEnd m1.length (lcC m1.length g gt fe (wipeE env vs) n f j i st')),
     ⟨us0.length + 1,_,_,start,reS,p1⟩,?_⟩
    rintro i j H' ⟨m',st',I,re',p'⟩
    cases j with
    | zero=>exact p'.elim
    | succ j =>
     unfold lcC at p'
     split at p'
     ·rename_i us hs
      obtain ⟨go,stop,yld⟩:=hJ us m' st' H' I.rep I.ext hs
      cases hu : us[i]? with
      | none =>
       simp only [hu] at p'
       exact .inl ⟨stop i (List.getElem?_eq_none_iff.mp hu),lc_fin I rfl p'⟩
      | some u =>
       simp only [hu] at p'
       cases hf : f i u with
       | none=>simp only [hf] at p'; exact p'.elim
       | some w =>
        simp only [hf] at p'
        refine .inr ⟨go i (List.getElem?_eq_some_iff.mp hu).1,fun H2=>∃ m2 st2,LcI X.K m1 H0 m1.length D0 m2 st2 H2 ∧ RpEnv X.K m2 H2 (wipeE env vs) (L2.wipe σ vs) ∧ PU X.K m1 H0 Q (fun c d H'=>W c d σ H') (lcEnd m1.length (lcC m1.length g gt fe (wipeE env vs) n f j (i + 1) st2)),?_,?_⟩
        ·rintro H2 ⟨m2,st2,I2,re2,p2⟩
         exact ⟨j,Nat.lt_succ_self j,m2,st2,I2,re2,p2⟩
        ·intro x H'' hy
         obtain ⟨r2,e2,ru⟩:=yld i u w x H'' hu hf hy
         exact lc_turn hvs ⟨r2,I.ext.trans e2,I.at'⟩ rfl hD0 (re'.ext e2) ru p' fun m2 st2 H2 I2 re2 p2=>⟨m2,st2,I2,re2,p2⟩
     ·exact p'.elim
   ·exact p1.elim
theorem d_lc (hc : X.calm = true) (hN : X.N.Nodup) (hi : DI X W tg iter fi) (ok : BlkOk X.N X.env.scope scope own)
  (hg : ∀ (s : Shared) (H : Hp) (C : Addr) (cl : List (Str × Addr)) (fp : List Addr),DG (X.blk s H scope (compEnvC scope cl C X.env) fp) tg is g)
  (ht : ∀ (s : Shared) (H : Hp) (C : Addr) (cl : List (Str × Addr)) (fp : List Addr),DTs (X.blk s H scope (compEnvC scope cl C X.env) fp) W0 ifs gt)
  (he : ∀ (s : Shared) (H : Hp) (C : Addr) (cl : List (Str × Addr)) (fp : List Addr),DE (X.blk s H scope (compEnvC scope cl C X.env) fp) W0 elt fe)
  (hvs : ∀ i ∈ is,i ∈ own.map (·.2):=by decide) (hs : ∀ x,foldedSetIterable iter X.env x = pure x:=by intro _; rfl) :
  DE X W (.ListComp elt [⟨tg,iter,ifs,0⟩] scope pos) (fLc fi g gt fe (own.map (·.2))) :=
 ⟨PE.imp (pe_lc hc hN hi.pi ok (fun s H C cl fp=>(hg s H C cl fp).pg) (fun s H C cl fp=>(ht s H C cl fp).pts) (fun s H C cl fp=>(he s H C cl fp).pe) hs) fun _ _ _ q=>t_lc hvs q⟩
end
end VL
namespace VL
open PySem PySem.Spec PyProof.Rows L2
noncomputable def loopW (c : F Bool) (body : G) : Nat → G
 | 0=>sNo
 | n + 1=>bndS c fun k=>if k = true then fun env st=>match body env st with
   | .ok env2 .nx st2=>loopW c body n env2 st2
   | .ok env2 .ct st2=>loopW c body n env2 st2
   | .ok env2 .bk st2=>.ok env2 .nx st2
   | r=>r
  else sNil
section
variable {X : Cx} {W : WX} {c : Expr} {body : List Stmt} {bc : F Bool} {gb : G} {pos : Pos}
theorem ds_while (N : Nat) (hp : PassesOwn (model X.prog X.w) X.A X.env X.xe) (hc : DT X W c bc) (hb : DB X W body gb) : DS X W (.While c body [] pos) (loopW bc gb N):=⟨PS.imp (ps_while hp hc.pt hb.pss) fun D σ H ⟨m,env,st,r,re,p⟩=>by
 refine ⟨fun k σ' H'=>∃ m' env' st',Rep X.K m' st' H' ∧ RpEnv X.K m' H' env' σ' ∧ Ext m H m' H' ∧ PS' X.K m' H' D W (loopW bc gb k env' st'),⟨N,m,env,st,r,re,Ext.refl _ _,p⟩,?_⟩
 rintro k σ' H' ⟨m',env',st',r',re',e',p'⟩
 cases k with
 | zero=>exact p'.elim
 | succ k =>
  refine sFB_step r' re' p' fun b st1 m1 H1 r1 re1 e1 p1=>?_
  cases b with
  | false=>exact iteF (p1 σ' m1 H1 re1 r1 (Ext.refl _ _))
  | true =>
   refine iteT ⟨fun σ2 H2=>∃ m2 env2 st2,Rep X.K m2 st2 H2 ∧ RpEnv X.K m2 H2 env2 σ2 ∧ Ext m H m2 H2 ∧ PS' X.K m2 H2 D W (loopW bc gb k env2 st2),?_,m1,env',st1,r1,re1,?_⟩
   ·rintro σ2 H2 ⟨m2,env2,st2,h⟩
    exact ⟨k,Nat.lt_succ_self k,m2,env2,st2,h⟩
   ·simp only [if_true] at p1
    cases e2 : gb env' st1 with
    | bad=>simp only [e2] at p1; exact p1
    | ex c fs env2 st2=>simp only [e2] at p1; exact p1
    | ok env2 f st2 =>
     simp only [e2] at p1
     cases f with
     | nx=>exact fun σ2 m2 H2 k1 k2 k3=>⟨m2,env2,st2,k2,k1,e'.trans (e1.trans k3),p1.from k3⟩
     | ct=>exact fun σ2 m2 H2 k1 k2 k3=>⟨m2,env2,st2,k2,k1,e'.trans (e1.trans k3),p1.from k3⟩
     | bk=>exact p1
     | rt u=>exact p1⟩
end
noncomputable abbrev Wr:=Nat → U → Store → R U
noncomputable def wId : Wr:=fun _ u st=>.ok u st
noncomputable def wCut : Wr:=fun k u st=>match u with
 | .d x=>match cutS k st with
  | some s=>.ok (.d x) s
  | none=>.bad
 | .ref n=>if n < k then match cutS k st with
  | some s=>.ok (.ref n) s
  | none=>.bad
  else .bad
noncomputable def frz (st : Store) (k : Nat) : Nat → U → Option D
 | _,.d x=>some x
 | 0,.ref _=>none
 | f + 1,.ref n=>if n < k then none else match st[n]? with
  | some (.lst us)=>(allM (frz st k f) us).map .lst
  | some (.tup us)=>(allM (frz st k f) us).map .tup
  | some (.dct us)=>(allM (fun p=>(frz st k f p.2).map fun d=>(p.1,d)) us).map .dct
  | some (.ins C us)=>(allM (fun p=>(frz st k f p.2).map fun d=>(p.1,d)) us).map (.ins C)
  | some (.lck us)=>(allM (fun p=>(frz st k f p.2).map fun d=>(p.1,d)) us).map .dct
  | some (.kdc w us)=>(allM (fun p=>(frz st k f p.2).map fun d=>(p.1,d)) us).map (.kdc w)
  | some (.tbl _ _)=>none
  | none=>none
noncomputable def wFrz : Wr:=fun k u st=>match frz st k 4 u,cutS k st with
 | some x,some s=>.ok (.d x) s
 | _,_=>.bad
noncomputable def wKeep : Wr:=fun k u st=>match u with
 | .d _=>.bad
 | .ref n=>if n < k then .bad else match st[n]? with
  | some o=>if okO k o = true then match cutS k st with
   | some s=>if s.length = k then .ok (.ref k) (s ++ [o]) else .bad
   | none=>.bad
   else .bad
  | none=>.bad
structure WOk (w : Wr) : Prop where
 ok : ∀ (K : PySem.W.Frag) (k : Nat) (u : U) (st : Store) (m : List Addr) (H : Hp) (v : V),Rep K m st H → RpU K m H u v → k ≤ m.length → match w k u st with
  | .ok u' st'=>∃ m',Rep K m' st' H ∧ RpU K m' H u' v ∧ m.take k <+: m' ∧ ∀ a,a ∈ m' → a ∈ m
  | .ex _ _ _=>False
  | .bad=>True
theorem wId_ok : WOk wId:=⟨fun K k u st m H v r ru hk=>⟨m,r,ru,List.take_prefix _ _,fun _ h=>h⟩⟩
theorem wCut_ok : WOk wCut:=⟨fun K k u st m H v r ru hk=>by
 unfold wCut
 cases u with
 | d x =>
  simp only
  cases e : cutS k st with
  | none=>trivial
  | some s=>exact ⟨m.take k,r.cut e,okU_rp (u:=.d x) rfl ru,List.prefix_refl _,fun _ h=>List.mem_of_mem_take h⟩
 | ref n =>
  simp only
  by_cases hn : n < k
  ·rw [if_pos hn]
   cases e : cutS k st with
   | none=>trivial
   | some s=>exact ⟨m.take k,r.cut e,okU_rp (u:=.ref n) (decide_eq_true hn) ru,List.prefix_refl _,fun _ h=>List.mem_of_mem_take h⟩
  ·rw [if_neg hn]; trivial⟩
section
variable {K : PySem.W.Frag} {m : List Addr} {H : Hp} {st : Store} {k : Nat}
theorem not_take (r : Rep K m st H) {n : Nat} {a : Addr} (hn : ¬ n < k) (ha : m[n]? = some a) : a ∉ m.take k:=fun z=>by
 obtain ⟨j,hj,e⟩:=List.mem_iff_getElem.mp z
 rw [List.length_take] at hj
 rw [List.getElem_take] at e
 obtain ⟨hk',e'⟩:=List.getElem?_eq_some_iff.mp ha
 have:=(List.getElem_inj r.nd).mp (e.trans e'.symm)
 omega
theorem frz_rp (r : Rep K m st H) : ∀ (f : Nat) (u : U) (v : V) (d : D),RpU K m H u v → frz st k f u = some d → RpD K (m.take k) H d v:=by
 intro f
 induction f with
 | zero =>
  intro u v d h e
  cases u with
  | d x=>cases e; exact RpD.less (fun a n z=>n (List.mem_of_mem_take z)) h
  | ref n=>cases e
 | succ f ih =>
  intro u v d h e
  cases u with
  | d x=>cases e; exact RpD.less (fun a n z=>n (List.mem_of_mem_take z)) h
  | ref n =>
   obtain ⟨a,ha,rfl⟩:=h
   unfold frz at e
   by_cases hn : n < k
   ·rw [if_pos hn] at e; cases e
   ·rw [if_neg hn] at e
    have na:=not_take (k:=k) r hn ha
    have all1 : ∀ {us : List U} {vs : List V} {ds : List D},RpUs K m H us vs → allM (frz st k f) us = some ds → RpDs K (m.take k) H ds vs:=by
     intro us
     induction us with
     | nil=>intro vs ds h e; cases e; exact h
     | cons u us ih2 =>
      intro vs ds h e
      obtain ⟨v,t,rfl,h1,h2⟩:=h
      unfold allM at e
      cases q1 : frz st k f u with
      | none=>rw [q1] at e; cases e
      | some x =>
       cases q2 : allM (frz st k f) us with
       | none=>rw [q1,q2] at e; cases e
       | some xs=>rw [q1,q2] at e; cases e; exact ⟨v,t,rfl,ih u v x h1 q1,ih2 h2 q2⟩
    have all2 : ∀ {us : List (Key × U)} {vs : List (Key × V)} {ds : List (Key × D)},RpUK K m H us vs → allM (fun p=>(frz st k f p.2).map fun d=>(p.1,d)) us = some ds → RpK K (m.take k) H ds vs:=by
     intro us
     induction us with
     | nil=>intro vs ds h e; cases e; exact h
     | cons u us ih2 =>
      obtain ⟨kk,u⟩:=u
      intro vs ds h e
      obtain ⟨v,t,rfl,h1,h2⟩:=h
      unfold allM at e
      cases q1 : frz st k f u with
      | none=>simp only [q1] at e; cases e
      | some x =>
       cases q2 : allM (fun p : Key × U=>(frz st k f p.2).map fun d=>(p.1,d)) us with
       | none=>simp only [q1,q2] at e; cases e
       | some xs=>simp only [q1,q2] at e; cases e; exact ⟨v,t,rfl,ih u v x h1 q1,ih2 h2 q2⟩
    have all3 : ∀ {us : List (Str × U)} {vs : List (Str × V)} {ds : List (Str × D)},RpUF K m H us vs → allM (fun p=>(frz st k f p.2).map fun d=>(p.1,d)) us = some ds → RpF K (m.take k) H ds vs:=by
     intro us
     induction us with
     | nil=>intro vs ds h e; cases e; exact h
     | cons u us ih2 =>
      obtain ⟨kk,u⟩:=u
      intro vs ds h e
      obtain ⟨v,t,rfl,h1,h2⟩:=h
      unfold allM at e
      cases q1 : frz st k f u with
      | none=>simp only [q1] at e; cases e
      | some x =>
       cases q2 : allM (fun p : Str × U=>(frz st k f p.2).map fun d=>(p.1,d)) us with
       | none=>simp only [q1,q2] at e; cases e
       | some xs=>simp only [q1,q2] at e; cases e; exact ⟨v,t,rfl,ih u v x h1 q1,ih2 h2 q2⟩
    have all4 : ∀ {us : List (D × U)} {vs : List (NestedKey × Addr × V)} {ds : List (D × D)},RpUKd K m H us vs → allM (fun p=>(frz st k f p.2).map fun d=>(p.1,d)) us = some ds → RpKd K (m.take k) H ds vs:=by
     intro us
     induction us with
     | nil=>intro vs ds h e; cases e; exact h
     | cons u us ih2 =>
      obtain ⟨kk,u⟩:=u
      intro vs ds h e
      obtain ⟨n,b,v,t,rfl,q,h0,h1,h2⟩:=h
      unfold allM at e
      cases q1 : frz st k f u with
      | none=>simp only [q1] at e; cases e
      | some x =>
       cases q2 : allM (fun p : D × U=>(frz st k f p.2).map fun d=>(p.1,d)) us with
       | none=>simp only [q1,q2] at e; cases e
       | some xs=>simp only [q1,q2] at e; cases e; exact ⟨n,b,v,t,rfl,q,RpD.less (fun a n z=>n (List.mem_of_mem_take z)) h0,ih u v x h1 q1,ih2 h2 q2⟩
    split at e
    ·rename_i us hs
     obtain ⟨ho,g1,vs,g2,g3⟩:=r.cell n _ a hs ha
     subst g2
     cases q : allM (frz st k f) us with
     | none=>rw [q] at e; cases e
     | some ds=>rw [q] at e; cases e; exact ⟨a,vs,rfl,⟨na,g1⟩,all1 g3 q⟩
    ·rename_i us hs
     obtain ⟨ho,g1,vs,g2,g3⟩:=r.cell n _ a hs ha
     subst g2
     cases q : allM (frz st k f) us with
     | none=>rw [q] at e; cases e
     | some ds=>rw [q] at e; cases e; exact ⟨a,vs,rfl,.inl ⟨na,g1⟩,all1 g3 q⟩
    ·rename_i us hs
     obtain ⟨ho,g1,vs,g2,g3⟩:=r.cell n _ a hs ha
     subst g2
     cases q : allM (fun p : Key × U=>(frz st k f p.2).map fun d=>(p.1,d)) us with
     | none=>rw [q] at e; cases e
     | some ds=>rw [q] at e; cases e; exact ⟨a,vs,rfl,⟨na,.inl g1⟩,all2 g3 q⟩
    ·rename_i C us hs
     obtain ⟨ho,g1,dx,vs,g2,g3⟩:=r.cell n _ a hs ha
     subst g2
     cases q : allM (fun p : Str × U=>(frz st k f p.2).map fun d=>(p.1,d)) us with
     | none=>rw [q] at e; cases e
     | some ds=>rw [q] at e; cases e; exact ⟨a,dx,vs,rfl,⟨na,g1⟩,all3 g3 q⟩
    ·rename_i us hs
     obtain ⟨ho,g1,ob,vs,g2,g3⟩:=r.cell n _ a hs ha
     subst g2
     cases q : allM (fun p : Key × U=>(frz st k f p.2).map fun d=>(p.1,d)) us with
     | none=>rw [q] at e; cases e
     | some ds=>rw [q] at e; cases e; exact ⟨a,vs,rfl,⟨na,.inr ⟨ob,g1⟩⟩,all2 g3 q⟩
    ·rename_i ww us hs
     obtain ⟨ho,g1,ob,vs,g2,gk,g3⟩:=r.cell n _ a hs ha
     subst g2
     cases q : allM (fun p : D × U=>(frz st k f p.2).map fun d=>(p.1,d)) us with
     | none=>rw [q] at e; cases e
     | some ds=>rw [q] at e; cases e; exact ⟨a,ob,vs,rfl,⟨na,g1⟩,gk,all4 g3 q⟩
    ·cases e
    ·cases e
end
theorem wFrz_ok : WOk wFrz:=⟨fun K k u st m H v r ru hk=>by
 unfold wFrz
 cases e1 : frz st k 4 u with
 | none=>trivial
 | some x =>
  cases e : cutS k st with
  | none=>trivial
  | some s=>exact ⟨m.take k,r.cut e,frz_rp r 4 u v x ru e1,List.prefix_refl _,fun _ h=>List.mem_of_mem_take h⟩⟩
theorem wKeep_ok : WOk wKeep:=⟨fun K k u st m H v r ru hk=>by
 unfold wKeep
 cases u with
 | d x=>trivial
 | ref n =>
  simp only
  by_cases hn : n < k
  ·rw [if_pos hn]; trivial
  ·rw [if_neg hn]
   cases e0 : st[n]? with
   | none=>trivial
   | some o =>
    simp only
    by_cases ho : okO k o = true
    ·rw [if_pos ho]
     cases e : cutS k st with
     | none=>trivial
     | some s =>
      simp only
      by_cases hs : s.length = k
      ·rw [if_pos hs]
       obtain ⟨a,ha,rfl⟩:=ru
       have rc:=r.cut e
       have na:=not_take (k:=k) r hn ha
       have hl : (m.take k).length = k:=by rw [rc.len,hs]
       have less : ∀ b,b ∉ m.take k ++ [a] → b ∉ m.take k:=fun b h z=>h (List.mem_append_left _ z)
       refine ⟨m.take k ++ [a],⟨by rw [List.length_append,List.length_append,rc.len]; rfl,?_,fun j c b h1 h2=>?_⟩,⟨a,by rw [List.getElem?_append_right (by omega),hl,Nat.sub_self]; rfl,rfl⟩,List.prefix_append _ _,fun b hb=>?_⟩
       ·rw [List.nodup_append]
        refine ⟨rc.nd,by simp,fun x hx y hy=>?_⟩
        rw [List.mem_singleton] at hy
        subst hy
        exact fun e=>na (by rw [← e]; exact hx)
       ·-- the cells
        have st0 : Stay m H (m.take k ++ [a]) H:=⟨fun b o nb e _ _=>⟨e,fun z=>by
          rcases List.mem_append.mp z with z | z
          ·exact nb (List.mem_of_mem_take z)
          ·rw [List.mem_singleton] at z; subst z; exact nb (List.mem_of_getElem? ha)⟩,
         fun b kvs nb e=>⟨e,fun z=>by
          rcases List.mem_append.mp z with z | z
          ·exact nb (List.mem_of_mem_take z)
          ·rw [List.mem_singleton] at z; subst z; exact nb (List.mem_of_getElem? ha)⟩,fun _ _ _ e=>e⟩
        have upU : ∀ {u : U} {v : V},okU k u = true → RpU K m H u v → RpU K (m.take k ++ [a]) H u v:=fun {u v} h h2=>by
         cases u with
         | d x=>exact RpD.stay st0 _ _ h2
         | ref j =>
          obtain ⟨b,hb,e⟩:=h2
          have hj : j < k:=of_decide_eq_true h
          exact ⟨b,by rw [List.getElem?_append_left (by omega),List.getElem?_take_of_lt hj]; exact hb,e⟩
        have upO : ∀ {b : Addr} {c : O} {ho : HO},okO k c = true → RpO K m H b c ho → RpO K (m.take k ++ [a]) H b c ho:=fun {b c ho} h h2=>by
         cases c with
         | lst us =>
          obtain ⟨vs,e,q⟩:=h2
          refine ⟨vs,e,?_⟩
          clear e
          induction us generalizing vs with
          | nil=>exact q
          | cons u us ih =>
           obtain ⟨v,t,rfl,h1,h2⟩:=q
           have h' : okU k u = true ∧ us.all (okU k) = true:=by simpa [okO] using h
           exact ⟨v,t,rfl,upU h'.1 h1,ih h'.2 t h2⟩
         | tup us =>
          obtain ⟨vs,e,q⟩:=h2
          refine ⟨vs,e,?_⟩
          clear e
          induction us generalizing vs with
          | nil=>exact q
          | cons u us ih =>
           obtain ⟨v,t,rfl,h1,h2⟩:=q
           have h' : okU k u = true ∧ us.all (okU k) = true:=by simpa [okO] using h
           exact ⟨v,t,rfl,upU h'.1 h1,ih h'.2 t h2⟩
         | dct us =>
          obtain ⟨vs,e,q⟩:=h2
          refine ⟨vs,e,?_⟩
          clear e
          induction us generalizing vs with
          | nil=>exact q
          | cons u us ih =>
           obtain ⟨kk,u⟩:=u
           obtain ⟨v,t,rfl,h1,h2⟩:=q
           have h' : okU k u = true ∧ (us.all fun p=>okU k p.2) = true:=by simpa [okO] using h
           exact ⟨v,t,rfl,upU h'.1 h1,ih h'.2 t h2⟩
         | ins C us =>
          obtain ⟨dx,vs,e,q⟩:=h2
          refine ⟨dx,vs,e,?_⟩
          clear e
          induction us generalizing vs with
          | nil=>exact q
          | cons u us ih =>
           obtain ⟨kk,u⟩:=u
           obtain ⟨v,t,rfl,h1,h2⟩:=q
           have h' : okU k u = true ∧ (us.all fun p=>okU k p.2) = true:=by simpa [okO] using h
           exact ⟨v,t,rfl,upU h'.1 h1,ih h'.2 t h2⟩
         | lck us =>
          obtain ⟨ob,vs,e,q⟩:=h2
          refine ⟨ob,vs,e,?_⟩
          clear e
          induction us generalizing vs with
          | nil=>exact q
          | cons u us ih =>
           obtain ⟨kk,u⟩:=u
           obtain ⟨v,t,rfl,h1,h2⟩:=q
           have h' : okU k u = true ∧ (us.all fun p=>okU k p.2) = true:=by simpa [okO] using h
           exact ⟨v,t,rfl,upU h'.1 h1,ih h'.2 t h2⟩
         | kdc w us =>
          obtain ⟨ob,vs,e,z,q⟩:=h2
          refine ⟨ob,vs,e,z,?_⟩
          clear e z
          induction us generalizing vs with
          | nil=>exact q
          | cons u us ih =>
           obtain ⟨kk,u⟩:=u
           obtain ⟨n,b,v,t,rfl,q,h0,h1,h2⟩:=q
           have h' : okU k u = true ∧ (us.all fun p=>okU k p.2) = true:=by simpa [okO] using h
           exact ⟨n,b,v,t,rfl,q,RpD.stay st0 _ _ h0,upU h'.1 h1,ih h'.2 t h2⟩
         | tbl P q =>
          obtain ⟨e,ps,e1,e2,g⟩:=h2
          exact ⟨e,ps,e1,e2,fun pos cv hc=>let ⟨c,g1,g2,g3⟩:=g pos cv hc
           ⟨c,g1,fun z=>(List.mem_append.mp z).elim (fun z=>g2 (List.mem_of_mem_take z)) fun z=>g2 (by rw [List.mem_singleton.mp z]; exact List.mem_of_getElem? ha),g3⟩⟩
        by_cases hj : j < k
        ·rw [List.getElem?_append_left (by omega)] at h1 h2
         unfold cutS at e
         split at e
         ·rename_i hall
          cases e
          rw [List.getElem?_take_of_lt hj] at h1 h2
          obtain ⟨ho',e1,q⟩:=r.cell j c b h1 h2
          exact ⟨ho',e1,upO (List.all_eq_true.mp hall c (List.mem_of_getElem? (i:=j) (by rw [List.getElem?_take_of_lt hj]; exact h1))) q⟩
         ·cases e
        ·have hjk : j = k:=by
          have:=(List.getElem?_eq_some_iff.mp h1).1
          rw [List.length_append,hs] at this
          simp at this
          omega
         subst hjk
         rw [List.getElem?_append_right (by omega),hs,Nat.sub_self] at h1
         rw [List.getElem?_append_right (by omega),hl,Nat.sub_self] at h2
         cases h1; cases h2
         obtain ⟨ho',e1,q⟩:=r.cell n o a e0 ha
         exact ⟨ho',e1,upO ho q⟩
       ·rcases List.mem_append.mp hb with z | z
        ·exact List.mem_of_mem_take z
        ·rw [List.mem_singleton] at z; subst z; exact List.mem_of_getElem? ha
      ·rw [if_neg hs]; trivial
    ·rw [if_neg ho]; trivial⟩
/-- a def's mirror from its body's -/
noncomputable def fnM (n : Nat) (g : G) (w : Wr) : List U → M U:=fun us st=>match g (us.map some ++ List.replicate (n - us.length) none) st with
 | .ok _ (.rt u) st'=>w st.length u st'
 | .ok _ .nx st'=>w st.length (.d .non) st'
 | .ex c fs _ st'=>match cutS st.length st' with
  | some s=>.ex c fs s
  | none=>.bad
 | _=>.bad
noncomputable def spM (K : PySem.W.Frag) (n : Nat) (mf : List U → M U) : Sp:=fun vs H Q E=>vs.length = n ∧ ∃ m st us,Rep K m st H ∧ RpUs K m H us vs ∧ PU K m H Q E (mf us st)
theorem start_env {K : PySem.W.Frag} {m : List Addr} {H : Hp} {N : List Str} {us : List U} {vs : List V} (h : RpUs K m H us vs) : RpEnv K m H (us.map some ++ List.replicate (N.length - us.length) none) (L2.start N vs):=by
 have hl:=h.length
 refine ⟨by unfold L2.start; rw [List.length_append,List.length_append,List.length_map,List.length_map,List.length_replicate,List.length_replicate]; omega,fun i u hi=>?_⟩
 by_cases hlt : i < us.length
 ·rw [List.getElem?_append_left (by rw [List.length_map]; exact hlt),List.getElem?_map] at hi
  cases q : us[i]? with
  | none=>rw [q] at hi; cases hi
  | some w =>
   rw [q] at hi; cases hi
   obtain ⟨v,hv,rv⟩:=h.get q
   exact ⟨v,by unfold L2.start; rw [List.getElem?_append_left (by rw [List.length_map]; omega),List.getElem?_map,hv]; rfl,rv⟩
 ·rw [List.getElem?_append_right (by rw [List.length_map]; omega),List.getElem?_replicate] at hi
  split at hi <;> cases hi
end VL
namespace VL
open PySem PySem.Spec PyProof.Rows L2
/-- what an operation that may write cells gives -/
noncomputable def PV2 (K : PySem.W.Frag) (m : List Addr) (H : Hp) (Q : VK) : Option (U × Store) → Prop
 | some (u,st')=>∀ v m' H',RpU K m' H' u v → Rep K m' st' H' → Ext m H m' H' → Q v H'
 | none=>False
theorem PV2.of {K : PySem.W.Frag} {m : List Addr} {H : Hp} {Q : VK} {E : XK} : ∀ {o : Option (U × Store)},PU K m H Q E (R.of2 o) → PV2 K m H Q o
 | some (u,st'),h=>h
 | none,h=>h
noncomputable abbrev P3:=List U → Store → Option (U × Store)
noncomputable abbrev P4:=U → List U → Store → Option (U × Store)
/-- leaves the cells -/
noncomputable def pu (g : List U → Store → Option U) : P3:=fun us st=>(g us st).map fun u=>(u,st)
noncomputable def pu4 (g : U → List U → Store → Option U) : P4:=fun u us st=>(g u us st).map fun u=>(u,st)
noncomputable def rM (K : PySem.W.Frag) (g : P3) : List V → Hp → VK → Prop:=fun vs H Q=>∃ m st us,Rep K m st H ∧ RpUs K m H us vs ∧ PV2 K m H Q (g us st)
noncomputable def mM (K : PySem.W.Frag) (g : P4) : V → List V → Hp → VK → Prop:=fun x vs H Q=>∃ m st u us,Rep K m st H ∧ RpU K m H u x ∧ RpUs K m H us vs ∧ PV2 K m H Q (g u us st)
noncomputable def fB (g : P3) (fs : F (List U)) : F U:=bnd fs fun us=>fun _ st=>.of2 (g us st)
section
variable {K : PySem.W.Frag} {m : List Addr} {H : Hp} {st : Store} {Q : VK}
theorem PV2.here {u : U} {v : V} (r : Rep K m st H) (p : PV2 K m H Q (some (u,st))) (h : RpU K m H u v) : Q v H:=p v m H h r (Ext.refl _ _)
theorem PV2.pu {g : List U → Store → Option U} {us : List U} (p : PV2 K m H Q (VL.pu g us st)) : ∃ u,g us st = some u ∧ PV2 K m H Q (some (u,st)):=by
 unfold VL.pu at p
 cases e : g us st with
 | none=>rw [e] at p; exact p.elim
 | some u=>rw [e] at p; exact ⟨u,rfl,p⟩
theorem PV2.pu4 {g : U → List U → Store → Option U} {x : U} {us : List U} (p : PV2 K m H Q (VL.pu4 g x us st)) : ∃ u,g x us st = some u ∧ PV2 K m H Q (some (u,st)):=by
 unfold VL.pu4 at p
 cases e : g x us st with
 | none=>rw [e] at p; exact p.elim
 | some u=>rw [e] at p; exact ⟨u,rfl,p⟩
theorem RpUs.one {u : U} {vs : List V} (h : RpUs K m H [u] vs) : ∃ v,vs = [v] ∧ RpU K m H u v:=by
 obtain ⟨v,_,rfl,h1,rfl⟩:=h
 exact ⟨v,rfl,h1⟩
theorem RpUs.two {u w : U} {vs : List V} (h : RpUs K m H [u,w] vs) : ∃ v x,vs = [v,x] ∧ RpU K m H u v ∧ RpU K m H w x:=by
 obtain ⟨v,_,rfl,h1,x,_,rfl,h2,rfl⟩:=h
 exact ⟨v,x,rfl,h1,h2⟩
end
theorem CallR.imp {X : Cx} {f : Value} {r r' : List V → Hp → VK → Prop} (h : CallR X f r) (i : ∀ vs H Q,r' vs H Q → r vs H Q) : CallR X f r':=fun pins s σ H xs us Q I rv q=>h pins s σ H xs us Q I rv (i xs H Q q)
theorem MtR.imp {X : Cx} {id : String} {r r' : V → List V → Hp → VK → Prop} (h : MtR X id r) (i : ∀ x vs H Q,r' x vs H Q → r x vs H Q) : MtR X id r':=fun pins s σ H x xs v us Q I rx rv q=>h pins s σ H x xs v us Q I rx rv (i x xs H Q q)
section
variable {X : Cx} {W : WX} {x : Str} {p pos : Pos} {e : Expr} {es : List Expr} {fs : F (List U)} {g : P3}
theorem t_fB {σ : L2.St} {H : Hp} {Q : VK} (h : tF X.K W (fB g fs) σ H Q) : tCB (rM X.K g) (tFs X.K W fs) σ H Q:=by
 obtain ⟨m,env,st,r,re,p⟩:=h
 exact tFs_step r re p fun us st1 vs m1 H1 h1 r1 re1 e1 p1=>⟨m1,st1,us,r1,h1,PV2.of p1⟩
/-- len(e),.. -/
theorem d_bi {id : String} (h : CallR X (.builtin id) (rM X.K g)) (hm : X.mg x = none) (hb : bootBuiltins x = some (.builtin id)) (ha : DA X W (e :: es) fs) (hg : Gl X x:=by rfl) (hn : x ≠ "__name__":=by decide) (hd : (x == ("__debug__" : Str)) = false:=by decide)
  (he : starEach (e :: es) X.env = (false,eval e X.env) :: starEach es X.env:=by rfl) (hpl : (backTo pos (starEach es X.env)).any (·.1) = false:=by rfl) : DE X W (.Call (.Name x p) (e :: es) [] pos) (fB g fs) :=
 ⟨PE.imp (pe_callB h hg hm hb ha.pa hn hd he hpl) fun _ _ _ q=>t_fB q⟩
/-- int(e),.. -/
theorem d_bt {T : String} (h : CallR X (.type T) (rM X.K g)) (hm : X.mg x = none) (hb : bootBuiltins x = some (.type T)) (ha : DA X W (e :: es) fs) (hg : Gl X x:=by rfl) (hn : x ≠ "__name__":=by decide) (hd : (x == ("__debug__" : Str)) = false:=by decide)
  (he : starEach (e :: es) X.env = (false,eval e X.env) :: starEach es X.env:=by rfl) (hpl : (backTo pos (starEach es X.env)).any (·.1) = false:=by rfl) : DE X W (.Call (.Name x p) (e :: es) [] pos) (fB g fs) :=
 ⟨PE.imp (pe_callTy h hg hm hb ha.pa hn hd he hpl) fun _ _ _ q=>t_fB q⟩
end
noncomputable def lenN (st : Store) (u : U) : Option Nat:=match u with
 | .d (.str x)=>if x.length ≤ sizeLine then some x.length else none
 | .d (.tup ds)=>some ds.length
 | u=>match getL st u with
  | some us=>some us.length
  | none=>(getD st u).map (·.length)
noncomputable def oLen : List U → Store → Option U:=fun us st=>match us with
 | [u]=>(lenN st u).map fun n=>.d (.int n)
 | _=>none
noncomputable def oInt : List U → Store → Option U:=fun us _=>match us with
 | [.d (.int i)]=>some (.d (.int i))
 | [.d (.bl k)]=>some (.d (.int (if k = true then 1 else 0)))
 | [.d (.str a)]=>if a.length ≤ 640 then (intText? a).map fun n=>.d (.int n) else none
 | _=>none
noncomputable def oAbs : List U → Store → Option U:=fun us _=>match us with
 | [.d (.int i)]=>some (.d (.int (if i < 0 then -i else i)))
 | _=>none
noncomputable def oMin : List U → Store → Option U:=fun us _=>match us with
 | [.d (.int i),.d (.int j)]=>some (.d (.int (if j < i then j else i)))
 | _=>none
noncomputable def oMax : List U → Store → Option U:=fun us _=>match us with
 | [.d (.int i),.d (.int j)]=>some (.d (.int (if j > i then j else i)))
 | _=>none
noncomputable def oStr : List U → Store → Option U:=fun us _=>match us with
 | [.d (.int i)]=>if i.natAbs.log2 < 1920 then some (.d (.str (Str.ofString (toString i)))) else none
 | _=>none
noncomputable def itemsU (st : Store) (u : U) : Option (List U):=match getL st u with
 | some us=>some us
 | none=>(getT u).map fun ds=>ds.map .d
/-- list(x): data -/
noncomputable def oList : List U → Store → Option U:=fun us st=>match us with
 | [u]=>match itemsU st u with
  | some us=>(pureL us).map fun ds=>.d (.lst ds)
  | none=>none
 | _=>none
/-- list(x): a cell -/
noncomputable def oListC : P3:=fun us st=>match us with
 | [u]=>match itemsU st u with
  | some us=>some (.ref st.length,st ++ [.lst us])
  | none=>none
 | _=>none
noncomputable def oTuple : List U → Store → Option U:=fun us st=>match us with
 | [.d (.tup ds)]=>some (.d (.tup ds))
 | [u]=>match getL st u with
  | some us=>(pureL us).map fun ds=>.d (.tup ds)
  | none=>none
 | _=>none
noncomputable def blsU : List U → Option (List Bool):=allM fun u=>match u with
 | .d (.bl k)=>some k
 | _=>none
noncomputable def strsU : List U → Option (List Str):=allM fun u=>match u with
 | .d (.str k)=>some k
 | _=>none
noncomputable def oAll : List U → Store → Option U:=fun us st=>match us with
 | [u]=>match getL st u with
  | some us=>(blsU us).map fun ks=>.d (.bl (ks.all id))
  | none=>none
 | _=>none
noncomputable def oAny : List U → Store → Option U:=fun us st=>match us with
 | [u]=>match getL st u with
  | some us=>(blsU us).map fun ks=>.d (.bl (ks.any id))
  | none=>none
 | _=>none
/-- a value's class -/
noncomputable def tyN (cs : List Addr) (st : Store) : U → Option Value
 | .d .non=>some (.type "NoneType")
 | .d (.bl _)=>some (.type "bool")
 | .d (.int _)=>some (.type "int")
 | .d (.str _)=>some (.type "str")
 | .d (.tup _)=>some (.type "tuple")
 | .d (.lst _)=>some (.type "list")
 | .d (.scr _)=>some (.type "list")
 | .d (.dct _)=>some (.type "dict")
 | .d (.ins C _)=>if C ∈ cs then some (.ref C) else none
 | .ref n=>match st[n]? with
  | some (.lst _)=>some (.type "list")
  | some (.tup _)=>some (.type "tuple")
  | some (.dct _)=>some (.type "dict")
  | some (.ins C _)=>if C ∈ cs then some (.ref C) else none
  | some (.tbl _ _)=>none
  | some (.lck _)=>none
  | some (.kdc _ _)=>none
  | none=>none
 | _=>none
noncomputable def oIsi (K : PySem.W.Frag) (cs : List Addr) : List U → Store → Option U:=fun us st=>match us with
 | [u,.d (.ty n)]=>match tyN cs st u with
  | some t=>(PySem.W.kitOne K t (.type n)).map fun k=>.d (.bl k)
  | none=>none
 | [u,.d (.obj C)]=>match tyN cs st u with
  | some t=>(PySem.W.kitOne K t (.ref C)).map fun k=>.d (.bl k)
  | none=>none
 | _=>none
section
variable {K : PySem.W.Frag} {m : List Addr} {H : Hp} {st : Store}
theorem RpUK.length : ∀ {us : List (Key × U)} {vs : List (Key × V)},RpUK K m H us vs → vs.length = us.length
 | [],_,h=>by rw [show _ = [] from h]; rfl
 | (k,u) :: us,_,⟨v,r,e,h1,h2⟩=>by rw [e,List.length_cons,List.length_cons,RpUK.length h2]
theorem lenN_rp (r : Rep K m st H) {u : U} {v : V} {n : Nat} (h : RpU K m H u v) (e : lenN st u = some n) : LenV K v H n ∨ ∃ a kvs,v = .ref a ∧ Rd H a (.dK kvs) ∧ kvs.length = n:=by
 unfold lenN at e
 split at e
 ·rename_i x
  cases h
  split at e
  ·rename_i hz; cases e; exact .inl ⟨hz,rfl⟩
  ·cases e
 ·rename_i ds
  obtain ⟨a,vs,rfl,t,q⟩:=h
  cases e
  exact .inl (.inr ⟨vs,t.sq,q.length.symm⟩)
 ·split at e
  ·rename_i us hl
   obtain ⟨a,vs,rfl,t,q⟩:=getL_rp r h hl
   cases e
   exact .inl (.inl ⟨vs,t,q.length.symm⟩)
  ·cases q : getD st u with
   | none=>rw [q] at e; cases e
   | some kvs =>
    rw [q] at e; cases e
    obtain ⟨a,vs,rfl,t,q⟩:=getD_rp r h q
    refine .inr ⟨a,vs,rfl,t,?_⟩
    exact q.length
theorem bls_rp : ∀ {us : List U} {vs : List V} {ns : List Bool},RpUs K m H us vs → blsU us = some ns → vs = ns.map V.bl
 | [],vs,ns,h,e=>by cases e; exact h
 | u :: us,vs,ns,⟨v,r,ev,h1,h2⟩,e=>by
  subst ev
  unfold blsU allM at e
  split at e
  ·rename_i b bs q1 q2
   cases e
   rw [List.map_cons,← bls_rp h2 q2]
   split at q1
   ·cases q1; rw [show v = V.bl b from h1]
   ·cases q1
  ·cases e
theorem strs_rp : ∀ {us : List U} {vs : List V} {ns : List Str},RpUs K m H us vs → strsU us = some ns → vs = ns.map V.str
 | [],vs,ns,h,e=>by cases e; exact h
 | u :: us,vs,ns,⟨v,r,ev,h1,h2⟩,e=>by
  subst ev
  unfold strsU allM at e
  split at e
  ·rename_i b bs q1 q2
   cases e
   rw [List.map_cons,← strs_rp h2 q2]
   split at q1
   ·cases q1; rw [show v = V.str b from h1]
   ·cases q1
  ·cases e
theorem RpDs.ints : ∀ (ns : List Int),RpDs K m H (ns.map .int) (ns.map V.int)
 | []=>rfl
 | n :: ns=>⟨.int n,_,rfl,rfl,RpDs.ints ns⟩
theorem RpDs.strs : ∀ (ns : List Str),RpDs K m H (ns.map .str) (ns.map V.str)
 | []=>rfl
 | n :: ns=>⟨.str n,_,rfl,rfl,RpDs.strs ns⟩
theorem itemsU_rp (r : Rep K m st H) {u : U} {v : V} {us : List U} (h : RpU K m H u v) (e : itemsU st u = some us) : ∃ a vs,v = .ref a ∧ (SqL K H a vs ∨ SqT K H a vs) ∧ RpUs K m H us vs:=by
 unfold itemsU at e
 split at e
 ·rename_i us' hl
  cases e
  obtain ⟨a,vs,e1,t,q⟩:=getL_rp r h hl
  exact ⟨a,vs,e1,.inl t,q⟩
 ·cases q : getT u with
  | none=>rw [q] at e; cases e
  | some ds =>
   rw [q] at e; cases e
   obtain ⟨a,vs,e1,t,q⟩:=getT_rp h q
   exact ⟨a,vs,e1,.inr t.sq,RpUs.ofD q⟩
/-- the class of an own class's instances,as the model asks it -/
structure ClsTy (K : PySem.W.Frag) (C : Addr) : Prop where
 cl : Cls K C
 f1 : PySem.W.findIn K (.ref C) "__class__" = some (some (.builtin "object.__class__"))
 f2 : PySem.W.specialIn K (.builtin "object.__class__") "__get__" = some (some (.builtin "getset_descriptor.__get__"))
 f3 : PySem.W.takesIn K (.builtin "object.__class__") = some true
 f4 : PySem.W.mroIn K C (.type "object") = some true
theorem ktup_ty {a : Addr} {vs : List V} (h : TpV K m H a vs) : TyX K H (.ref a) (.type "tuple"):=by
 rcases h with ⟨_,r⟩ | (r | ⟨_,r⟩) | ⟨o,its,n,h1,h2,_⟩
 ·exact .base (.tup r)
 ·cases r
 ·cases r
 ·exact .kTuple h1 h2
theorem scV_ty {a : Addr} {vs : List V} (h : ScV K m H a vs) : TyX K H (.ref a) (.type "list"):=by
 rcases h with ⟨_,ob,r⟩ | (r | ⟨_,r⟩) | ⟨o,its,n,h1,h2,_⟩
 ·exact .base (.frz r)
 ·cases r
 ·cases r
 ·exact .kList h1 h2
/-- the own classes whose instances are asked for their class -/
noncomputable def Own (K : PySem.W.Frag) (cs : List Addr) : Prop:=∀ C ∈ cs,ClsTy K C
theorem tyN_rp {cs : List Addr} (r : Rep K m st H) (hC : Own K cs) {u : U} {v : V} {t : Value} (h : RpU K m H u v) (e : tyN cs st u = some t) : TyX K H v t:=by
 cases u with
 | ref n =>
  obtain ⟨a,ha,rfl⟩:=h
  simp only [tyN] at e
  split at e
  ·rename_i us hs
   obtain ⟨ho,h1,vs,e2,h2⟩:=r.cell n _ a hs ha
   subst e2; cases e; exact .base (.lst h1)
  ·rename_i us hs
   obtain ⟨ho,h1,vs,e2,h2⟩:=r.cell n _ a hs ha
   subst e2; cases e; exact .base (.tup h1)
  ·rename_i us hs
   obtain ⟨ho,h1,vs,e2,h2⟩:=r.cell n _ a hs ha
   subst e2; cases e; exact .base (.dK h1)
  ·rename_i C us hs
   obtain ⟨ho,h1,dx,vs,e2,h2⟩:=r.cell n _ a hs ha
   split at e
   ·rename_i hc
    subst e2; cases e
    have c:=hC C hc
    exact .base (.ins h1 c.cl c.f1 c.f2 c.f3 c.f4)
   ·cases e
  ·cases e
  ·cases e
  ·cases e
  ·cases e
 | d x =>
  cases x with
  | non=>cases h; cases e; exact .base .non
  | bl b=>cases h; cases e; exact .base (.bl b)
  | int i=>cases h; cases e; exact .base (.int i)
  | str x=>cases h; cases e; exact .base (.str x)
  | tup ds =>
   obtain ⟨a,vs,rfl,t,q⟩:=h
   cases e
   exact ktup_ty t
  | lst ds =>
   obtain ⟨a,vs,rfl,t,q⟩:=h
   cases e
   exact .base (.lst t.2)
  | scr ns =>
   obtain ⟨a,rfl,t⟩:=h
   cases e
   exact scV_ty t
  | dct kvs =>
   obtain ⟨a,vs,rfl,t,q⟩:=h
   cases e
   rcases t.2 with t | ⟨o,t⟩
   ·exact .base (.dK t)
   ·exact .fDict t
  | ins C fs =>
   obtain ⟨a,dx,vs,rfl,t,q⟩:=h
   simp only [tyN] at e
   split at e
   ·rename_i hc
    cases e
    have c:=hC C hc
    exact .base (.ins t.2 c.cl c.f1 c.f2 c.f3 c.f4)
   ·cases e
  | _=>cases e
end
section
variable {X : Cx}
theorem cr_len : CallR X (.builtin "len") (rM X.K (pu oLen)):=by
 have h2 : CallR X (.builtin "len") (fun xs H Q=>∃ a kvs,xs = [V.ref a] ∧ Rd H a (.dK kvs) ∧ Q (.int (kvs.length : Nat)) H):=by
  intro pins s σ H xs us Q I r h
  obtain ⟨a,kvs,rfl,ha,q⟩:=h
  obtain ⟨u,rfl,ru⟩:=L2.vals1 r
  cases ru
  exact L2.d_len I ha fun t s' I'=>⟨.int (kvs.length : Nat),H,I',⟨t,rfl⟩,q⟩
 refine CallR.imp (call_len.or h2) fun vs H Q ⟨m,st,us,r,ru,p⟩=>?_
 obtain ⟨u,e,p⟩:=p.pu
 unfold oLen at e
 split at e
 ·rename_i x
  obtain ⟨v,rfl,hv⟩:=ru.one
  cases q : lenN st x with
  | none=>rw [q] at e; cases e
  | some n =>
   rw [q] at e; cases e
   rcases lenN_rp r hv q with h | ⟨a,kvs,rfl,h,rfl⟩
   ·exact .inl ⟨v,n,rfl,h,p.here r rfl⟩
   ·exact .inr ⟨a,kvs,rfl,h,p.here r rfl⟩
 ·cases e
theorem cr_int : CallR X (.type "int") (rM X.K (pu oInt)):=by
 refine CallR.imp (call_int1.or call_int_str) fun vs H Q ⟨m,st,us,r,ru,p⟩=>?_
 obtain ⟨u,e,p⟩:=p.pu
 unfold oInt at e
 split at e
 ·obtain ⟨v,rfl,hv⟩:=ru.one
  cases hv; cases e
  exact .inl (.inl ⟨_,rfl,p.here r rfl⟩)
 ·obtain ⟨v,rfl,hv⟩:=ru.one
  cases hv; cases e
  exact .inl (.inr ⟨_,rfl,p.here r rfl⟩)
 ·obtain ⟨v,rfl,hv⟩:=ru.one
  cases hv
  split at e
  ·rename_i hz
   cases q : intText? _ with
   | none=>rw [q] at e; cases e
   | some n=>rw [q] at e; cases e; exact .inr ⟨_,n,rfl,q,hz,p.here r rfl⟩
  ·cases e
 ·cases e
theorem cr_abs : CallR X (.builtin "abs") (rM X.K (pu oAbs)):=by
 refine CallR.imp call_abs fun vs H Q ⟨m,st,us,r,ru,p⟩=>?_
 obtain ⟨u,e,p⟩:=p.pu
 unfold oAbs at e
 split at e
 ·obtain ⟨v,rfl,hv⟩:=ru.one
  cases hv; cases e
  exact ⟨_,rfl,p.here r rfl⟩
 ·cases e
theorem cr_min (hc : X.calm = true) : CallR X (.builtin "min") (rM X.K (pu oMin)):=by
 refine CallR.imp (call_min2 hc) fun vs H Q ⟨m,st,us,r,ru,p⟩=>?_
 obtain ⟨u,e,p⟩:=p.pu
 unfold oMin at e
 split at e
 ·obtain ⟨v,x,rfl,hv,hx⟩:=ru.two
  cases hv; cases hx; cases e
  exact ⟨_,_,rfl,p.here r rfl⟩
 ·cases e
theorem cr_max (hc : X.calm = true) : CallR X (.builtin "max") (rM X.K (pu oMax)):=by
 refine CallR.imp (call_max2 hc) fun vs H Q ⟨m,st,us,r,ru,p⟩=>?_
 obtain ⟨u,e,p⟩:=p.pu
 unfold oMax at e
 split at e
 ·obtain ⟨v,x,rfl,hv,hx⟩:=ru.two
  cases hv; cases hx; cases e
  exact ⟨_,_,rfl,p.here r rfl⟩
 ·cases e
theorem cr_str : CallR X (.type "str") (rM X.K (pu oStr)):=by
 refine CallR.imp call_str_int fun vs H Q ⟨m,st,us,r,ru,p⟩=>?_
 obtain ⟨u,e,p⟩:=p.pu
 unfold oStr at e
 split at e
 ·obtain ⟨v,rfl,hv⟩:=ru.one
  cases hv
  split at e
  ·rename_i hz; cases e
   exact ⟨_,rfl,hz,p.here r rfl⟩
  ·cases e
 ·cases e
theorem cr_listC : CallR X (.type "list") (rM X.K oListC):=by
 refine CallR.imp call_list_of fun vs H Q ⟨m,st,us,r,ru,p⟩=>?_
 unfold oListC at p
 split at p
 ·obtain ⟨v,rfl,hv⟩:=ru.one
  split at p
  ·rename_i us hl
   obtain ⟨a,ws,rfl,t,q⟩:=itemsU_rp r hv hl
   refine ⟨a,ws,rfl,t,fun l hl=>?_⟩
   obtain ⟨g1,g2⟩:=push_lst r hl q
   exact p _ _ _ g1 g2 (ext_push r hl _)
  ·exact p.elim
 ·exact p.elim
theorem cr_all' (hc : X.calm = true) : CallR X (.builtin "all") (rM X.K (pu oAll)):=by
 refine CallR.imp (cr_all hc) fun vs H Q ⟨m,st,us,r,ru,p⟩=>?_
 obtain ⟨u,e,p⟩:=p.pu
 unfold oAll at e
 split at e
 ·obtain ⟨v,rfl,hv⟩:=ru.one
  split at e
  ·rename_i us hl
   obtain ⟨a,ws,rfl,t,q⟩:=getL_rp r hv hl
   cases q2 : blsU us with
   | none=>rw [q2] at e; cases e
   | some ds =>
    rw [q2] at e; cases e
    have:=bls_rp q q2
    subst this
    exact ⟨a,ds,rfl,t,p.here r rfl⟩
  ·cases e
 ·cases e
theorem cr_isi {cs : List Addr} (hC : Own X.K cs) : CallR X (.builtin "isinstance") (rM X.K (pu (oIsi X.K cs))):=by
 refine CallR.imp call_isi fun vs H Q ⟨m,st,us,r,ru,p⟩=>?_
 obtain ⟨u,e,p⟩:=p.pu
 unfold oIsi at e
 split at e
 ·obtain ⟨v,x,rfl,hv,hx⟩:=ru.two
  cases hx
  split at e
  ·rename_i t ht
   cases q : PySem.W.kitOne X.K t (.type _) with
   | none=>rw [q] at e; cases e
   | some k =>
    rw [q] at e; cases e
    exact ⟨v,_,t,_,k,rfl,.ty _,tyN_rp r hC hv ht,q,p.here r rfl⟩
  ·cases e
 ·obtain ⟨v,x,rfl,hv,hx⟩:=ru.two
  cases hx
  split at e
  ·rename_i t ht
   cases q : PySem.W.kitOne X.K t (.ref _) with
   | none=>rw [q] at e; cases e
   | some k =>
    rw [q] at e; cases e
    exact ⟨v,_,t,_,k,rfl,.own _,tyN_rp r hC hv ht,q,p.here r rfl⟩
  ·cases e
 ·cases e
end
end VL
namespace VL
open PySem PySem.Spec PyProof.Rows L2
noncomputable def tyB (T : String) (st : Store) (u : U) : Bool:=match u with
 | .d (.str _)=>decide (T = "str")
 | .ref n=>match st[n]? with
  | some (.lst _)=>decide (T = "list")
  | some (.dct _)=>decide (T = "dict")
  | _=>false
 | u=>decide (T = "list") && (getL st u).isSome
noncomputable def fM (T : String) (g : P4) (fo : F U) (fs : F (List U)) : F U:=bnd fo fun u=>fun env st=>if tyB T st u = true then bnd fs (fun us=>fun _ st=>.of2 (g u us st)) env st else .bad
section
variable {K : PySem.W.Frag} {m : List Addr} {H : Hp} {st : Store}
theorem tyB_rp {T : String} (r : Rep K m st H) {u : U} {v : V} (h : RpU K m H u v) (e : tyB T st u = true) : tyV K T v H:=by
 unfold tyB at e
 split at e
 ·cases h; exact (of_decide_eq_true e : T = "str")
 ·obtain ⟨a,ha,rfl⟩:=h
  split at e
  ·rename_i us hs
   obtain ⟨ho,h1,vs,e2,h2⟩:=r.cell _ _ a hs ha
   subst e2
   exact .inl ⟨of_decide_eq_true e,vs,.inl (.inl h1)⟩
  ·rename_i us hs
   obtain ⟨ho,h1,vs,e2,h2⟩:=r.cell _ _ a hs ha
   subst e2
   exact .inr (.inr (.inl ⟨of_decide_eq_true e,.inl ⟨vs,h1⟩⟩))
  ·cases e
 ·rw [Bool.and_eq_true] at e
  obtain ⟨e1,e2⟩:=e
  obtain ⟨us,hus⟩:=Option.isSome_iff_exists.mp e2
  obtain ⟨a,vs,rfl,t,q⟩:=getL_rp r h hus
  exact .inl ⟨of_decide_eq_true e1,vs,t⟩
end
section
variable {X : Cx} {W : WX} {pos apos cpos : Pos} {o e : Expr} {es : List Expr} {fo : F U} {fs : F (List U)} {g : P4} {T id : String} {name : Str}
theorem t_fM {σ : L2.St} {H : Hp} {Q : VK} (h : tF X.K W (fM T g fo fs) σ H Q) : tBM X.K T (mM X.K g) (tF X.K W fo) (tFs X.K W fs) σ H Q:=by
 obtain ⟨m,env,st,r,re,p⟩:=h
 refine tF_step r re p fun u st1 v m1 H1 h1 r1 re1 e1 p1=>?_
 by_cases ht : tyB T st1 u = true
 ·simp only [ht,if_true] at p1
  exact ⟨tyB_rp r1 h1 ht,tFs_step r1 re1 p1 fun us st2 vs m2 H2 h2 r2 re2 e2 p2=>⟨m2,st2,u,us,r2,h1.ext e2,h2,PV2.of p2⟩⟩
 ·rw [if_neg ht] at p1; exact p1.elim
theorem d_m (hp : PlainAttrs T) (hs : Slot T name id) (ht : typeOf (.builtin id) = pure (.type "method_descriptor")) (h : MtR X id (mM X.K g)) (ho : DE X W o fo) (ha : DA X W (e :: es) fs)
  (h1 : attributeBase o name X.env (eval o X.env) = eval o X.env:=by rfl)
  (h2 : (((backTo cpos (starEach (e :: es) X.env)).all (fun x=>!x.1) && (backToKw cpos (keywordEach [] X.env)).all (fun x=>x.1.isSome)) && decide ((e :: es).length + ([] : List Keyword).length + (if ([] : List Keyword).isEmpty = true then 0 else 1) < 30)) = true:=by rfl)
  (h3 : (apos.endLine == cpos.line) = true:=by rfl) (h4 : starEach (e :: es) X.env = (false,eval e X.env) :: starEach es X.env:=by rfl) (h5 : (backTo cpos (starEach es X.env)).any (fun x=>x.1) = false:=by rfl) :
  DE X W (.Call (.Attribute o name apos) (e :: es) [] cpos) (fM T g fo fs):=⟨PE.imp (pe_bm hp hs ht h ho.pe ha.pa h1 h2 h3 h4 h5) fun _ _ _ q=>t_fM q⟩
end
noncomputable def lstC (st : Store) : U → Option (Nat × List U)
 | .ref n=>match st[n]? with
  | some (.lst us)=>some (n,us)
  | _=>none
 | _=>none
noncomputable def mAppend : P4:=fun u us st=>match lstC st u,us with
 | some (n,xs),[y]=>if xs.length < sizeLine then some (.d .non,st.set n (.lst (xs ++ [y]))) else none
 | _,_=>none
noncomputable def mPop : P4:=fun u us st=>match lstC st u,us with
 | some (n,xs),[]=>(xs[xs.length - 1]?).map fun y=>(y,st.set n (.lst xs.dropLast))
 | some (n,xs),[.d (.int i)]=>if -2 ^ 63 ≤ i ∧ i < 2 ^ 63 then match seqIndex? i xs.length with
   | some k=>(xs[k]?).map fun y=>(y,st.set n (.lst (xs.eraseIdx k)))
   | none=>none
  else none
 | _,_=>none
noncomputable def mSplit : U → List U → Store → Option U:=fun u us _=>match u,us with
 | .d (.str a),[.d (.str b)]=>if (b.length == 0) = false ∧ a.length + 2 ≤ sizeLine then some (.d (.lst ((Txt.split a b).map .str))) else none
 | _,_=>none
noncomputable def mPartition : U → List U → Store → Option U:=fun u us _=>match u,us with
 | .d (.str a),[.d (.str b)]=>if (b.length == 0) = false ∧ a.length ≤ sizeLine then some (.d (.tup [.str (Txt.partition a b).1,.str (Txt.partition a b).2.1,.str (Txt.partition a b).2.2])) else none
 | _,_=>none
noncomputable def mJoin : U → List U → Store → Option U:=fun u us st=>match u,us with
 | .d (.str a),[b]=>match itemsU st b with
  | some us=>match strsU us with
   | some ys=>if (ys.map fun x=>x.length).sum + ys.length * a.length ≤ 16777216 then some (.d (.str (Txt.join a ys))) else none
   | none=>none
  | none=>none
 | _,_=>none
noncomputable def mStarts : U → List U → Store → Option U:=fun u us _=>match u,us with
 | .d (.str a),[.d (.str b)]=>some (.d (.bl (Txt.startswith a b)))
 | _,_=>none
section
variable {K : PySem.W.Frag} {m : List Addr} {H : Hp} {st : Store}
theorem lstC_rp (r : Rep K m st H) {u : U} {v : V} {n : Nat} {us : List U} (h : RpU K m H u v) (e : lstC st u = some (n,us)) :
  ∃ a vs,v = .ref a ∧ H a = some (.lst vs) ∧ RpUs K m H us vs ∧ (∀ us' vs',RpUs K m H us' vs' → Rep K m (st.set n (.lst us')) (upd H a (.lst vs')) ∧ Ext m H m (upd H a (.lst vs'))):=by
 cases u with
 | d x=>cases e
 | ref k =>
  obtain ⟨a,ha,rfl⟩:=h
  simp only [lstC] at e
  split at e
  ·rename_i zs hs
   cases e
   obtain ⟨ho,h1,vs,e2,h2⟩:=r.cell _ _ a hs ha
   subst e2
   have ma : a ∈ m:=List.mem_of_getElem? ha
   exact ⟨a,vs,rfl,h1,h2,fun us' vs' q=>⟨r.write ha ⟨vs',rfl,q.ext (ext_write ma _ (nf_l h1))⟩ (nf_l h1),ext_write ma _ (nf_l h1)⟩⟩
  ·cases e
theorem RpUs.snoc {us : List U} {vs : List V} {u : U} {v : V} (h : RpUs K m H us vs) (k : RpU K m H u v) : RpUs K m H (us ++ [u]) (vs ++ [v]):=h.append ⟨v,[],rfl,k,rfl⟩
theorem RpUs.erase : ∀ {us : List U} {vs : List V} (i : Nat),RpUs K m H us vs → RpUs K m H (us.eraseIdx i) (vs.eraseIdx i)
 | [],_,_,h=>by rw [show _ = [] from h]; rfl
 | u :: us,_,0,⟨x,r,e,h1,h2⟩=>by subst e; exact h2
 | u :: us,_,i + 1,⟨x,r,e,h1,h2⟩=>by subst e; exact ⟨x,r.eraseIdx i,rfl,h1,RpUs.erase i h2⟩
theorem RpUs.dropLast : ∀ {us : List U} {vs : List V},RpUs K m H us vs → RpUs K m H us.dropLast vs.dropLast
 | [],_,h=>by rw [show _ = [] from h]; rfl
 | [u],_,⟨x,r,e,h1,h2⟩=>by cases h2; subst e; rfl
 | u :: w :: us,_,⟨x,r,e,h1,⟨y,t,e2,h3,h4⟩⟩=>by subst e; subst e2; exact ⟨x,_,rfl,h1,RpUs.dropLast (us:=w :: us) ⟨y,t,rfl,h3,h4⟩⟩
theorem RpUs.nil {vs : List V} (h : RpUs K m H [] vs) : vs = []:=h
end
section
variable {X : Cx}
theorem mt_append' : MtR X "list.append" (mM X.K mAppend):=by
 refine MtR.imp mt_append fun x vs H Q ⟨m,st,u,us,r,ru,rus,p⟩=>?_
 unfold mAppend at p
 split at p
 ·rename_i n xs y hl
  split at p
  ·rename_i hz
   obtain ⟨a,ws,rfl,h1,h2,h3⟩:=lstC_rp r ru hl
   obtain ⟨v,rfl,hv⟩:=rus.one
   obtain ⟨g1,g2⟩:=h3 _ _ (h2.snoc hv)
   exact ⟨a,ws,v,rfl,rfl,h1,by rw [h2.length]; exact hz,p _ m _ rfl g1 g2⟩
  ·exact p.elim
 ·exact p.elim
theorem mt_pop' : MtR X "list.pop" (mM X.K mPop):=by
 have hor : MtR X "list.pop" (fun x vs H Q=>rPop x vs H Q ∨ rPopAt x vs H Q):=fun pins s σ H x xs v us Q I rx rv q=>by
  rcases q with q | q
  ·exact mt_pop pins s σ H x xs v us Q I rx rv q
  ·exact mt_popAt pins s σ H x xs v us Q I rx rv q
 refine MtR.imp hor fun x vs H Q ⟨m,st,u,us,r,ru,rus,p⟩=>?_
 unfold mPop at p
 split at p
 ·rename_i n xs hl
  cases q : xs[xs.length - 1]? with
  | none=>rw [q] at p; exact p.elim
  | some y =>
   rw [q] at p
   obtain ⟨a,ws,rfl,h1,h2,h3⟩:=lstC_rp r ru hl
   obtain ⟨g1,g2⟩:=h3 _ _ h2.dropLast
   obtain ⟨z,hz,rz⟩:=h2.get q
   exact .inl ⟨a,ws,z,rfl,rus.nil,h1,by rw [h2.length]; exact hz,p _ m _ (rz.ext g2) g1 g2⟩
 ·rename_i n xs i hl
  split at p
  ·rename_i hi
   split at p
   ·rename_i k hk
    cases q : xs[k]? with
    | none=>rw [q] at p; exact p.elim
    | some y =>
     rw [q] at p
     obtain ⟨a,ws,rfl,h1,h2,h3⟩:=lstC_rp r ru hl
     obtain ⟨v,rfl,hv⟩:=rus.one
     obtain ⟨g1,g2⟩:=h3 _ _ (h2.erase k)
     obtain ⟨z,hz,rz⟩:=h2.get q
     cases hv
     exact .inr ⟨a,ws,i,k,z,rfl,rfl,h1,hi.1,hi.2,by rw [h2.length]; exact hk,hz,p _ m _ (rz.ext g2) g1 g2⟩
   ·exact p.elim
  ·exact p.elim
 ·exact p.elim
theorem mt_split' : MtR X "str.split" (mM X.K (pu4 mSplit)):=by
 refine MtR.imp mt_split fun x vs H Q ⟨m,st,u,us,r,ru,rus,p⟩=>?_
 obtain ⟨w,e,p⟩:=p.pu4
 unfold mSplit at e
 split at e
 ·rename_i a b
  obtain ⟨v,rfl,hv⟩:=rus.one
  cases ru; cases hv
  split at e
  ·rename_i hz; cases e
   exact ⟨a,b,rfl,rfl,hz.1,hz.2,fun l hl=>p _ m _ (new_lst r hl (RpDs.strs _)) (r.new hl _) (ext_new r hl _)⟩
  ·cases e
 ·cases e
theorem mt_partition' : MtR X "str.partition" (mM X.K (pu4 mPartition)):=by
 refine MtR.imp mt_partition fun x vs H Q ⟨m,st,u,us,r,ru,rus,p⟩=>?_
 obtain ⟨w,e,p⟩:=p.pu4
 unfold mPartition at e
 split at e
 ·rename_i a b
  obtain ⟨v,rfl,hv⟩:=rus.one
  cases ru; cases hv
  split at e
  ·rename_i hz; cases e
   exact ⟨a,b,rfl,rfl,hz.1,hz.2,fun l hl=>p _ m _ (new_tup r hl (RpDs.strs [_,_,_])) (r.new hl _) (ext_new r hl _)⟩
  ·cases e
 ·cases e
theorem mt_join' : MtR X "str.join" (mM X.K (pu4 mJoin)):=by
 refine MtR.imp mt_join fun x vs H Q ⟨m,st,u,us,r,ru,rus,p⟩=>?_
 obtain ⟨w,e,p⟩:=p.pu4
 unfold mJoin at e
 split at e
 ·rename_i a b
  obtain ⟨v,rfl,hv⟩:=rus.one
  cases ru
  split at e
  ·rename_i zs hz
   obtain ⟨l,ws,rfl,t,q⟩:=itemsU_rp r hv hz
   split at e
   ·rename_i ys hy
    have:=strs_rp q hy
    subst this
    split at e
    ·rename_i hs; cases e
     exact ⟨a,l,ys,rfl,rfl,t,hs,p.here r rfl⟩
    ·cases e
   ·cases e
  ·cases e
 ·cases e
theorem mt_starts' : MtR X "str.startswith" (mM X.K (pu4 mStarts)):=by
 refine MtR.imp mt_startswith fun x vs H Q ⟨m,st,u,us,r,ru,rus,p⟩=>?_
 obtain ⟨w,e,p⟩:=p.pu4
 unfold mStarts at e
 split at e
 ·obtain ⟨v,rfl,hv⟩:=rus.one
  cases ru; cases hv; cases e
  exact ⟨_,_,rfl,rfl,p.here r rfl⟩
 ·cases e
end
noncomputable def putU (kvs : List (Key × U)) (k : Key) (v : U) : List (Key × U) :=
 if (kvs.any fun kv=>decide (kv.1 = k)) = true then kvs.map fun kv=>if kv.1 = k then (kv.1,v) else kv else kvs ++ [(k,v)]
noncomputable def setU (o i u : U) (st : Store) : Option Store:=match o with
 | .ref n=>match st[n]? with
  | some (.lst us)=>match i with
   | .d (.int j)=>(ixN us.length j).map fun k=>st.set n (.lst (us.set k u))
   | _=>none
  | some (.dct kvs)=>match keyD i with
   | some k=>if kvs.length < sizeLine then some (st.set n (.dct (putU kvs k u))) else none
   | none=>none
  | _=>none
 | _=>none
noncomputable def tgSub (fo fi : F U) : U → G:=fun u env st=>match fo env st with
 | .ok o st1=>match fi env st1 with
  | .ok i st2=>match setU o i u st2 with
   | some st'=>.ok env .nx st'
   | none=>.bad
  | _=>.bad
 | _=>.bad
section
variable {K : PySem.W.Frag} {m : List Addr} {H : Hp} {st : Store}
theorem RpUK.any {k : Key} : ∀ {us : List (Key × U)} {vs : List (Key × V)},RpUK K m H us vs → (us.any fun kv=>decide (kv.1 = k)) = (vs.any fun kv=>decide (kv.1 = k))
 | [],_,h=>by rw [show _ = [] from h]; rfl
 | (k',u) :: us,_,⟨v,r,e,h1,h2⟩=>by subst e; rw [List.any_cons,List.any_cons,RpUK.any h2]
theorem RpUK.mapP {k : Key} {w : U} {x : V} (hw : RpU K m H w x) : ∀ {us : List (Key × U)} {vs : List (Key × V)},RpUK K m H us vs → RpUK K m H (us.map fun kv=>if kv.1 = k then (kv.1,w) else kv) (vs.map fun kv=>if kv.1 = k then (kv.1,x) else kv)
 | [],_,h=>by rw [show _ = [] from h]; rfl
 | (k',u) :: us,_,⟨v,r,e,h1,h2⟩=>by
  subst e
  rw [List.map_cons,List.map_cons]
  by_cases hk : k' = k
  ·subst hk; simp only [if_true]; exact ⟨x,_,rfl,hw,RpUK.mapP hw h2⟩
  ·simp only [hk,if_false]; exact ⟨v,_,rfl,h1,RpUK.mapP hw h2⟩
theorem RpUK.snoc {k : Key} {w : U} {x : V} (hw : RpU K m H w x) : ∀ {us : List (Key × U)} {vs : List (Key × V)},RpUK K m H us vs → RpUK K m H (us ++ [(k,w)]) (vs ++ [(k,x)])
 | [],_,h=>by rw [show _ = [] from h]; exact ⟨x,[],rfl,hw,rfl⟩
 | (k',u) :: us,_,⟨v,r,e,h1,h2⟩=>by subst e; exact ⟨v,_,rfl,h1,RpUK.snoc hw h2⟩
theorem RpUK.put {us : List (Key × U)} {vs : List (Key × V)} (h : RpUK K m H us vs) (k : Key) {w : U} {x : V} (hw : RpU K m H w x) : RpUK K m H (putU us k w) (putK vs k x):=by
 unfold putU putK
 rw [h.any]
 split
 ·exact h.mapP hw
 ·exact h.snoc hw
noncomputable def dctC (st : Store) : U → Option (Nat × List (Key × U))
 | .ref n=>match st[n]? with
  | some (.dct us)=>some (n,us)
  | _=>none
 | _=>none
theorem dctC_rp (r : Rep K m st H) {u : U} {v : V} {n : Nat} {us : List (Key × U)} (h : RpU K m H u v) (e : dctC st u = some (n,us)) :
  ∃ a vs,v = .ref a ∧ H a = some (.dK vs) ∧ RpUK K m H us vs ∧ (∀ us' vs',RpUK K m H us' vs' → Rep K m (st.set n (.dct us')) (upd H a (.dK vs')) ∧ Ext m H m (upd H a (.dK vs'))):=by
 cases u with
 | d x=>cases e
 | ref k =>
  obtain ⟨a,ha,rfl⟩:=h
  simp only [dctC] at e
  split at e
  ·rename_i zs hs
   cases e
   obtain ⟨ho,h1,vs,e2,h2⟩:=r.cell _ _ a hs ha
   subst e2
   have ma : a ∈ m:=List.mem_of_getElem? ha
   exact ⟨a,vs,rfl,h1,h2,fun us' vs' q=>⟨r.write ha ⟨vs',rfl,q.ext (ext_write ma _ (nf_d h1))⟩ (nf_d h1),ext_write ma _ (nf_d h1)⟩⟩
  ·cases e
end
section
variable {X : Cx} {W : WX} {o i : Expr} {fo fi : F U} {pos : Pos}
noncomputable def tSetU (K : PySem.W.Frag) : TSet:=fun o i v H Q=>∃ m st a b u,Rep K m st H ∧ RpU K m H a o ∧ RpU K m H b i ∧ RpU K m H u v ∧ (match setU a b u st with
 | some st'=>∀ H',Rep K m st' H' → Ext m H m H' → Q H'
 | none=>False)
theorem set_ok (hu : X.A.units + 1 < cLine) : PSet X (tSetU X.K):=by
 intro pins s σ H o i v ov iv u Q I ro ri rv h
 obtain ⟨m,st,a,b,w,r,ha,hb,hw,p⟩:=h
 have run : (rSetL o i v H Q ∨ rSetD o i v H Q) → wpAny (model X.prog X.w) X.A (setItem ov iv u) (fun x s'=>∃ H',L2.Inv X pins σ H' s' ∧ Q H') X.xe s:=fun h=>by
  rcases h with h | h
  ·exact set_list pins s σ H o i v ov iv u Q I ro ri rv h
  ·exact set_dict hu pins s σ H o i v ov iv u Q I ro ri rv h
 refine run ?_
 cases e : setU a b w st with
 | none=>rw [e] at p; exact p.elim
 | some st' =>
  rw [e] at p
  unfold setU at e
  split at e
  ·rename_i n
   split at e
   ·rename_i us hs
    split at e
    ·rename_i j
     cases q : ixN us.length j with
     | none=>rw [q] at e; cases e
     | some k =>
      rw [q] at e; cases e
      obtain ⟨l,vs,rfl,h1,h2,h3⟩:=lstC_rp r ha (show lstC st (.ref n) = some (n,us) by simp only [lstC,hs])
      cases hb
      obtain ⟨g1,g2⟩:=h3 _ _ (h2.set k hw)
      exact .inl ⟨l,vs,j,k,rfl,rfl,h1,by rw [h2.length]; exact q,p _ g1 g2⟩
    ·cases e
   ·rename_i us hs
    split at e
    ·rename_i k hk
     split at e
     ·rename_i hz
      cases e
      obtain ⟨l,vs,rfl,h1,h2,h3⟩:=dctC_rp r ha (show dctC st (.ref n) = some (n,us) by simp only [dctC,hs])
      obtain ⟨g1,g2⟩:=h3 _ _ (h2.put k hw)
      have hy:=keyD_rp hb hk
      subst hy
      exact .inr ⟨l,_,rfl,.inl ⟨vs,k,h1,rfl,by rw [h2.length]; exact hz,rfl⟩,p _ g1 g2⟩
     ·cases e
    ·cases e
   ·cases e
  ·cases e
theorem dg_sub (hu : X.A.units + 1 < cLine) (ho : DE X W o fo) (hi : DE X W i fi)
  (ha : ∀ (v : Value),assign (Expr.Subscript o i pos) X.env v = (do
    let ov ← holding [v] (eval o X.env)
    let iv ← holding [v,ov] (eval i X.env)
    standAt pos
    holding [v,ov,iv] (setItem ov iv v)
    release [v,ov,iv] []):=by intro _; rfl) : DG X (.Subscript o i pos) [] (tgSub fo fi) :=
 ⟨PG.imp (pg_sub ho.pe hi.pe (set_ok hu) ha) fun v σ H Q ⟨m,env,st,u,r,re,ru,p⟩=>by
  cases e1 : fo env st with
  | bad=>simp only [tgSub,e1] at p
  | ex c fs st1=>simp only [tgSub,e1] at p
  | ok a st1 =>
   simp only [tgSub,e1] at p
   refine ⟨m,env,st,r,re,?_⟩
   rw [e1]
   intro ov m1 H1 h1 r1 x1
   refine ⟨m1,env,st1,r1,re.ext x1,?_⟩
   cases e2 : fi env st1 with
   | bad=>simp only [e2] at p
   | ex c fs st1=>simp only [e2] at p
   | ok b st2 =>
    simp only [e2] at p
    intro iv m2 H2 h2 r2 x2
    refine ⟨m2,st2,a,b,u,r2,h1.ext x2,h2,(ru.ext x1).ext x2,?_⟩
    cases e3 : setU a b u st2 with
    | none=>simp only [e3] at p
    | some st3 =>
     simp only [e3] at p
     exact fun H' r3 x3=>p σ m2 H' (re.ext (x1.trans (x2.trans x3))) r3 (x1.trans (x2.trans x3)) (Out.refl _ _)⟩
theorem nx_sub : TgNx (tgSub fo fi):=fun u env st=>by
 unfold tgSub
 cases fo env st with
 | bad=>trivial
 | ex c fs st1=>trivial
 | ok a st1 =>
  simp only
  cases fi env st1 with
  | bad=>trivial
  | ex c fs st1=>trivial
  | ok b st2 =>
   simp only
   cases setU a b u st2 with
   | none=>trivial
   | some st3=>trivial
end
end VL
namespace VL
open PySem PySem.Spec PyProof.Rows L2
structure RoomG (k : Nat) (A : Around) : Prop where
 rm : Room k A
 gd : A.guards = some []
theorem RoomG.deeper {k : Nat} {A : Around} (r : RoomG (k + 1) A) (env : Env) : RoomG k (A.deeper env):=⟨r.rm.deeper env,r.gd⟩
theorem RoomG.mono {j k : Nat} {A : Around} (r : RoomG k A) (h : j ≤ k) : RoomG j A:=⟨r.rm.mono h,r.gd⟩
theorem RoomG.make {k : Nat} {A : Around} (r : RoomG (k + 1) A) (C : Addr) (us : List Value) (kw : List (Str × Value)) : RoomG k (A.under (.builtin "type.__call__" { pos:=Value.ref C :: us,kw:=kw })) :=
 ⟨r.rm.make C us kw,r.gd⟩
structure FnG (P : Program) (w : World) (K : PySem.W.Frag) (mg : Str → Option Value) (base : Heap) (k : Nat) (f : Addr) (fd : FuncData) (ps : List Str) (sp : Sp) : Prop where
 len : ∀ (vs : List V) (H : Hp) (Q : VK) (E : XK),sp vs H Q E → vs.length = ps.length
 run : ∀ (A : Around) (outer : List Env) (s : Shared) (H : Hp) (args : Args) (us : List Value) (vs : List V) (Q : VK) (E : XK),RoomG k A → Env0 P w K mg base A outer s H → BindsTo s fd args (ps.zip us) → Vals vs us → sp vs H Q E →
  codeAny (model P w) A (.call (.ref f) args) (CR (L2.CX P w) outer P w H s Q E) s
section
variable {P : Program} {w : World} {K : PySem.W.Frag} {mg : Str → Option Value} {base : Heap}
theorem FnG.mono {j k : Nat} {f : Addr} {fd : FuncData} {ps : List Str} {sp : Sp} (F : FnG P w K mg base j f fd ps sp) (h : j ≤ k) : FnG P w K mg base k f fd ps sp :=
 ⟨F.len,fun A outer s H args us vs Q E r=>F.run A outer s H args us vs Q E (r.mono h)⟩
theorem fn_ofG {k : Nat} {f : Addr} {name qual : Str} {params : Arguments} {body : List Stmt} {scope : Scope} {dV kV doc pm cdv ct oc : Value} {an od : Option Addr} {osl : Array (Option Value)} {N ps : List Str} {sp : Sp}
  (lk : K.lookup f = some { cls:=oc,dict:=od,data:=.func (PySem.W.fnOf name qual params body scope dV kV doc pm an cdv ct),slots:=osl }) (hcd : PySem.W.codeIn K cdv qual = true) (S : FnScope N ps scope)
  (len : ∀ (vs : List V) (H : Hp) (Q : VK) (E : XK),sp vs H Q E → vs.length = ps.length)
  (hbody : ∀ (A : Around) (outer : List Env) (s : Shared) (H : Hp) (vs : List V) (Q : VK) (E : XK),RoomG k (A.deeper (envOfC qual scope s.heap.objs.size f cdv)) → sp vs H Q E →
   ∃ t,PSs (cxOf (L2.CX P w) P w K mg base N qual scope f cdv A outer s H E) body t ∧ t { nx:=fun _ H'=>Q .non H',rt:=Q } (L2.start N vs) H) :
  FnG P w K mg base (k + 1) f (PySem.W.fnOf name qual params body scope dV kV doc pm an cdv ct) ps sp:=⟨len,fun A outer s H args us vs Q E hr e0 hb r hsp=>by
 have hl:=len vs H Q E hsp
 have KX : PySem.W.Frag.In K s.heap:=PySem.W.Frag.In.keeps e0.mod.kin fun b o e=>(e0.bs b o e).1
 have lim:=Heap.NoLimit.keeps e0.mod.nolimit fun b o e=>(e0.bs b o e).1
 have hkind : ∀ x ∈ ps.zip us,scope.names.lookup x.1 = some .local ∨ scope.names.lookup x.1 = some .cell ∧ ((cellsFrom (s.heap.objs.size + 1) scope.names []).lookup x.1).isSome = true:=fun x hy=>by
  obtain ⟨n,v⟩:=x
  rcases S.par n (List.of_mem_zip hy).1 with q | q
  ·exact .inl q
  ·exact .inr ⟨q,PySem.W.cellsFrom_some scope.names (s.heap.objs.size + 1) [] (.inl q)⟩
 refine codeAny_call_function hr.rm.depth (KX f _ lk) rfl S.co S.gen rfl (PySem.W.codeRec_of KX hcd) (hb (model P w) A.in1 _ _ ?_)
 refine wpAny_newFunctionEnv_cells S.kind hkind fun env he s1 x=>?_
 subst he
 refine ⟨Heap.NoLimit.keeps lim x.toInCall.keep,codeAny_func ?_⟩
 obtain ⟨t,ht,hq⟩:=hbody A outer s H vs Q E (hr.deeper _) hsp
 have I:=inv_start (CX:=L2.CX P w) (mg:=mg) (E:=E) S hr.rm.hd e0 hl r x
 refine wpAny_mono (ht.run [] s1 (L2.start N vs) H { nx:=fun _ H'=>Q .non H',rt:=Q } I hq) (fun fl s' hs=>?_) fun e s' hs=>hs
 cases fl with
 | next =>
  obtain ⟨σ',H',J,q⟩:=hs
  exact ⟨.non,H',J.os,J.bare,J.base,J.hok,rfl,q⟩
 | brk=>obtain ⟨_,_,_,q⟩:=hs; exact q.elim
 | cont=>obtain ⟨_,_,_,q⟩:=hs; exact q.elim
 | ret u =>
  obtain ⟨v,σ',H',J,rv,q⟩:=hs
  exact ⟨v,H',J.os,J.bare,J.base,J.hok,rv,q⟩⟩
theorem law_callG {mb : Str → Option Value} {k : Nat} {fa a : Addr} {fd : FuncData} {x : Str} {sp : Sp} {s₁ : Shared} {vs : List Value} {ns : List Int} (KX : PySem.W.Frag.In K s₁.heap) (hns : s₁.heap.Ns mainGlobals mg) (hb : s₁.heap.Ns builtinsNs mb)
  (hbb : ∀ x : Str,x ≠ "__name__" → mb x = bootBuiltins x) (hlim : s₁.heap.NoLimit) (hg : s₁.gens = #[]) (ha : s₁.heap.get? a = some { cls:=.type "list",data:=.seq vs.toArray }) (hi : IntsAre vs ns) (hl : ns.length ≤ sizeLine)
  (hr : RoomG k callerA) (F : ∀ base : Heap,PySem.W.Frag.In K base → base.Ns mainGlobals mg → FnG P w K mg base k fa fd [x] sp) (hbind : ∀ (s : Shared) (u : Value),BindsTo s fd { pos:=[u] } [(x,u)])
  (hsp : ∀ H : Hp,Only H → SqL K H a (ns.map V.int) → sp [.ref a] H (fun v _=>v = .bl true) fun _ _ _=>False) :
  codeAny (model P w) callerA (.call (.ref fa) { pos:=[.ref a] }) (fun r s'=>r = .ok (.ret (.bool true)) ∧ OldK s₁.heap s'.heap ∧ s'.os = s₁.os ∧ AllBare s'.gens) s₁:=by
 have rv:=vals_ints hi
 have lenV:=hi.length
 have core : ∀ H : Hp,Only H → SqL K H a (ns.map V.int) → HOk P w H s₁.heap → (∀ b,H b ≠ none → b = a) → (H a ≠ none → K.lookup a = none) →
   codeAny (model P w) callerA (.call (.ref fa) { pos:=[.ref a] }) (fun r s'=>r = .ok (.ret (.bool true)) ∧ OldK s₁.heap s'.heap ∧ s'.os = s₁.os ∧ AllBare s'.gens) s₁:=fun H hO hS hok hA hK=>by
  have noA : ∀ {b : Addr} {o : Obj} {es : _} {ep : _},s₁.heap.get? b = some o → o.data = .dict es ep → H b = none:=fun {b o es ep} e d=>by
   cases q : H b with
   | none=>rfl
   | some u =>
    have e':=hA b (by rw [q]; exact fun z=>nomatch z)
    subst e'
    rw [ha] at e
    cases e
    cases d
  have nsK : ∀ {b : Addr} {m : Str → Option Value},s₁.heap.Ns b m → (hidT s₁.heap H).Ns b m:=fun {b m} x=>by
   obtain ⟨o,es,ep,e,d,r⟩:=x
   exact ⟨o,es,ep,hidT_get e (noA e d),d,r⟩
  have hKb : PySem.W.Frag.In K (hidT s₁.heap H):=fun b o e=>hidT_get (KX b o e) (by
   cases q : H b with
   | none=>rfl
   | some u =>
    have e':=hA b (by rw [q]; exact fun z=>nomatch z)
    subst e'
    rw [hK (by rw [q]; exact fun z=>nomatch z)] at e
    cases e)
  have hM : L2.Mod K mg (hidT s₁.heap H):=⟨hKb,nsK hns,⟨mb,nsK hb,hbb⟩,by
   obtain ⟨mc,h1,h2⟩:=hlim
   exact ⟨mc,nsK h1,h2⟩⟩
  have e0 : Env0 P w K mg (hidT s₁.heap H) callerA [] s₁ H :=
   { frames:=rfl,mod:=hM,bs:=fun b o e=>of_hidT e,bsz:=Nat.le_of_eq (hidT_size s₁.heap H),funs:=trivial,frf:=fun b hb=>absurd hb List.not_mem_nil,hok:=hok,bare:=AllBare.of_eq hg }
  refine codeAny_mono ((F (hidT s₁.heap H) hKb (nsK hns)).run callerA [] s₁ H { pos:=[.ref a] } [.ref a] [.ref a] (fun v _=>v = .bl true) (fun _ _ _=>False) hr e0 (hbind s₁ (.ref a)) (.cons rfl .nil) (hsp H hO hS)) fun r s' h=>?_
  cases r with
  | error e =>
   obtain ⟨_,_,_,_,_,_,_,_,_,_,_,_,h⟩:=h
   exact h.elim
  | ok fl =>
   cases fl with
   | next=>exact False.elim h
   | brk=>exact False.elim h
   | cont=>exact False.elim h
   | ret u =>
    obtain ⟨v,H',os,bare,un,hok',r',q⟩:=h
    have q' : v = .bl true:=q
    subst q'
    have r2 : u = .bool true:=r'
    subst r2
    refine ⟨rfl,OldK.of_keep fun b o e=>?_,os,bare⟩
    cases q : H b with
    | none=>exact un.keep b o e q List.not_mem_nil List.not_mem_nil
    | some u =>
     rcases hO b with z | ⟨ob,xs,z⟩
     ·rw [q] at z; cases z
     ·have z2:=un.frzs b ob _ z
      have h1:=hok b _ z
      have h2:=hok' b _ z2
      obtain ⟨e1,_⟩:=h1
      obtain ⟨e2,_⟩:=h2
      rw [e] at e1
      cases e1
      exact e2
 cases hk : K.lookup a with
 | none =>
  refine core (fun b=>if b = a then some (.frz { cls:=.type "list",data:=.seq vs.toArray } (.lst (ns.map V.int))) else none) (fun b=>?_) (.inl (.inr ⟨_,if_pos rfl⟩)) (fun b u z=>?_) (fun b z=>?_) fun _=>hk
  ·by_cases hb : b = a
   ·exact .inr ⟨_,_,if_pos hb⟩
   ·exact .inl (if_neg hb)
  ·by_cases hb : b = a
   ·subst hb
    have z':=(if_pos rfl).symm.trans z
    cases z'
    exact ⟨ha,by rw [List.length_map]; exact hl,vs,0,rv,ha⟩
   ·have z':=(if_neg hb).symm.trans z
    cases z'
  ·by_cases hb : b = a
   ·exact hb
   ·exact absurd (if_neg hb) z
 | some o =>
  have e:=KX a o hk
  rw [ha] at e
  cases e
  refine core (fun _=>none) (fun _=>.inl rfl) (.inr ⟨_,vs.toArray,0,hk,rfl,rfl,rfl,?_,rv⟩) (fun b u z=>by cases z) (fun b z=>absurd rfl z) fun z=>absurd rfl z
  rw [List.size_toArray,lenV]; exact hl
end
end VL
namespace VL
open PySem PySem.Spec PyProof.Rows L2
section
variable {P : Program} {w : World} {K : PySem.W.Frag} {mg : Str → Option Value} {base : Heap}
theorem okG {x qual : Str} {st : Stmt} {f : Addr} {fd : FuncData} {N ps : List Str} {k : Nat} {sp : Sp} (Fn : Fun K x qual st f fd) (S : FnScope N ps (defScope st)) (len : ∀ (vs : List V) (H : Hp) (Q : VK) (E : XK),sp vs H Q E → vs.length = ps.length)
  (hbody : ∀ (cdv : Value),fd.code = cdv → ∀ (A : Around) (outer : List Env) (s : Shared) (H : Hp) (vs : List V) (Q : VK) (E : XK),RoomG k (A.deeper (envOfC qual (defScope st) s.heap.objs.size f cdv)) → sp vs H Q E →
   ∃ t,PSs (cxOf (L2.CX P w) P w K mg base N qual (defScope st) f cdv A outer s H E) (defBody st) t ∧ t { nx:=fun _ H'=>Q .non H',rt:=Q } (L2.start N vs) H) : FnG P w K mg base (k + 1) f fd ps sp:=by
 obtain ⟨oc,od,kV,doc,pm,an,cdv,ct,osl,rfl,lk,hcd⟩:=Fn.ex
 exact fn_ofG lk hcd S len fun A outer s H vs Q E hr hsp=>hbody cdv rfl A outer s H vs Q E hr hsp
/-- THE RULE for a def -/
theorem fn_okC {x qual : Str} {st : Stmt} {f : Addr} {fd : FuncData} {N ps : List Str} {k : Nat} {g : G} {wr : Wr} (Fn : Fun K x qual st f fd) (S : FnScope N ps (defScope st)) (hw : WOk wr)
  (hbody : ∀ (cdv : Value),fd.code = cdv → ∀ (A : Around) (outer : List Env) (s : Shared) (H : Hp) (E : XK),RoomG k (A.deeper (envOfC qual (defScope st) s.heap.objs.size f cdv)) →
   DB (cxOf (L2.CX P w) P w K mg base N qual (defScope st) f cdv A outer s H E) (fun c d _ H'=>E c d H') (defBody st) g) : FnG P w K mg base (k + 1) f fd ps (spM K ps.length (fnM N.length g wr)):=by
 refine okG Fn S (fun vs H Q E h=>h.1) fun cdv hcv A outer s H vs Q E hr h=>?_
 obtain ⟨hl,m,st,us,r,ru,p⟩:=h
 refine ⟨tG K (fun c d _ H'=>E c d H') g,(hbody cdv hcv A outer s H E hr).pss,m,_,st,r,start_env ru,?_⟩
 unfold fnM at p
 have fin : ∀ {u : U} {st' : Store},PU K m H Q E (wr st.length u st') → ∀ v m' H',RpU K m' H' u v → Rep K m' st' H' → Ext m H m' H' → Q v H':=fun {u st'} p v m' H' h1 h2 h3=>by
  have hk : st.length ≤ m'.length:=by rw [← r.len]; exact h3.pre.length_le
  have:=hw.ok K st.length u st' m' H' v h2 h1 hk
  cases e : wr st.length u st' with
  | bad=>rw [e] at p; exact p.elim
  | ex c fs s=>rw [e] at this; exact this.elim
  | ok u' s =>
   rw [e] at p this
   obtain ⟨m2,g1,g2,g3,g4⟩:=this
   refine p v m2 H' g2 g1 ⟨?_,h3.toStay.less g4⟩
   obtain ⟨t,ht⟩:=h3.pre
   have : m'.take st.length = m:=by rw [← ht,← r.len]; simp
   rw [this] at g3
   exact g3
 cases e : g (us.map some ++ List.replicate (N.length - us.length) none) st with
 | bad=>rw [e] at p; exact p
 | ex c fs env2 st2 =>
  rw [e] at p
  simp only at p
  intro d σ' m' H' h0 h1 h2 h3
  cases q : cutS st.length st2 with
  | none=>simp only [q] at p; exact p.elim
  | some s2 =>
   simp only [q] at p
   refine p d (m'.take st.length) H' (h1.cut q) (ext_cut h2 (by rw [r.len]; exact Nat.le_refl _)) ?_
   cases fs with
   | none=>cases d with
    | none=>trivial
    | some d=>exact h3.elim
   | some fs=>cases d with
    | none=>exact h3.elim
    | some d =>
     obtain ⟨vs,g1,g2,g3⟩:=h3
     exact ⟨vs,g1,fun z=>g2 (List.mem_of_mem_take z),RpF.stay ⟨fun a o n e _ _=>⟨e,fun z=>n (List.mem_of_mem_take z)⟩,fun a kvs n e=>⟨e,fun z=>n (List.mem_of_mem_take z)⟩,fun _ _ _ e=>e⟩ _ _ g3⟩
 | ok env2 fl st2 =>
  rw [e] at p
  cases fl with
  | nx=>exact fun σ' m' H' h0 h1 h2=>fin p .non m' H' rfl h1 h2
  | rt u=>exact fun v m' H' h0 h1 h2=>fin p v m' H' h0 h1 h2
  | bk=>exact p.elim
  | ct=>exact p.elim
end
section
variable {P : Program} {w : World} {K : PySem.W.Frag} {mg : Str → Option Value} {base : Heap}
theorem fn_ok {x qual : Str} {st : Stmt} {f : Addr} {fd : FuncData} {N ps : List Str} {k : Nat} {g : G} {wr : Wr} (Fn : Fun K x qual st f fd) (S : FnScope N ps (defScope st)) (hw : WOk wr)
  (hbody : ∀ (cdv : Value) (A : Around) (outer : List Env) (s : Shared) (H : Hp) (E : XK),RoomG k (A.deeper (envOfC qual (defScope st) s.heap.objs.size f cdv)) →
   DB (cxOf (L2.CX P w) P w K mg base N qual (defScope st) f cdv A outer s H E) (fun c d _ H'=>E c d H') (defBody st) g) : FnG P w K mg base (k + 1) f fd ps (spM K ps.length (fnM N.length g wr)) :=
 fn_okC Fn S hw fun cdv _ A outer s H E hr=>hbody cdv A outer s H E hr
end
theorem PK.imp {X : Cx} {e : List Keyword} {t t' : TA} (h : PK X e t) (i : ∀ σ H Q,t' σ H Q → t σ H Q) : PK X e t':=⟨fun pos pins s σ H Q I q=>h.run pos pins s σ H Q I (i σ H Q q)⟩
noncomputable def fCW (f g : F (List U)) : F (List U × List U):=bnd f fun us=>bnd g fun ws=>fPure (us,ws)
noncomputable def rel2 (K : PySem.W.Frag) (m : List Addr) (H : Hp) (a : List U × List U) (b : List V × List V) : Prop:=RpUs K m H a.1 b.1 ∧ RpUs K m H a.2 b.2
noncomputable def tFs2 (K : PySem.W.Frag) (W : WX) (f : F (List U × List U)) (σ : L2.St) (H : Hp) (Z : List V × List V → Hp → Prop) : Prop:=∃ m env st,Rep K m st H ∧ RpEnv K m H env σ ∧ PO' K m H (rel2 K) Z (fun c d H'=>W c d σ H') (f env st)
theorem tFs2_step {K : PySem.W.Frag} {W : WX} {m : List Addr} {env : VEnv} {st : Store} {H : Hp} {σ : L2.St} {γ δ : Type} {rel : List Addr → Hp → γ → δ → Prop} {Q : δ → Hp → Prop} {f : F (List U × List U)} {g : List U × List U → F γ} {Z : List V × List V → Hp → Prop}
  (r : Rep K m st H) (re : RpEnv K m H env σ) (p : PO' K m H rel Q (fun c d H'=>W c d σ H') (bnd f g env st))
  (h : ∀ a st1 v m1 H1,rel2 K m1 H1 a v → Rep K m1 st1 H1 → RpEnv K m1 H1 env σ → Ext m H m1 H1 → PO' K m1 H1 rel Q (fun c d H'=>W c d σ H') (g a env st1) → Z v H1) : tFs2 K W f σ H Z :=
 ⟨m,env,st,r,re,by
  unfold bnd at p
  cases e : f env st with
  | ok a st1=>rw [e] at p; exact fun v m1 H1 h1 h2 h3=>h a st1 v m1 H1 h1 h2 (re.ext h3) h3 (p.from h3)
  | ex c fs st1=>rw [e] at p; exact p
  | bad=>rw [e] at p; exact p.elim⟩
/-- a call's arguments,by place and by name -/
structure DCW (X : Cx) (W : WX) (pos : Pos) (args : List Expr) (kws : List Keyword) (ks : List Str) (f : F (List U × List U)) : Prop where
 run : ∀ (pins : List (Addr × Obj)) (s : Shared) (σ : L2.St) (H : Hp) (c : Value) (first : List Value) (Q : Value → Shared → Prop) (Z : List V × List V → Hp → Prop),Inv X pins σ H s → PySem.W.keepIn X.K c = true → tFs2 X.K W f σ H Z →
  (∀ (vs zs : List V) (us ws : List Value) (H' : Hp) (s' : Shared),Inv X pins σ H' s' → Vals vs us → Vals zs ws → Z (vs,zs) H' → wpAny (model X.prog X.w) X.A (call c (first ++ us) (ks.zip ws)) Q X.xe s') →
  wpAny (model X.prog X.w) X.A (callWith pos c first (backTo pos (starEach args X.env)) (backToKw pos (keywordEach kws X.env))) Q X.xe s
section
variable {X : Cx} {W : WX} {e : Expr} {es : List Expr} {kws : List Keyword} {ks : List Str} {fs fk : F (List U)} {pos : Pos}
theorem split2 {σ : L2.St} {H : Hp} {Z : List V × List V → Hp → Prop} (h : tFs2 X.K W (fCW fs fk) σ H Z) : tFs X.K W fs σ H fun vs H1=>tFs X.K W fk σ H1 fun zs H2=>Z (vs,zs) H2:=by
 obtain ⟨m,env,st,r,re,p⟩:=h
 exact tFs_step r re p fun us st1 vs m1 H1 h1 r1 re1 e1 p1=>tFs_step r1 re1 p1 fun ws st2 zs m2 H2 h2 r2 re2 e2 p2=>p2 (vs,zs) m2 H2 ⟨h1.ext e2,h2⟩ r2 (Ext.refl _ _)
theorem tNilF {σ : L2.St} {H : Hp} {Z : List V → Hp → Prop} (h : tFs X.K W fNil σ H Z) : Z [] H:=by
 obtain ⟨m,env,st,r,re,p⟩:=h
 exact p [] m H rfl r (Ext.refl _ _)
theorem cw_pos (ha : DA X W (e :: es) fs) (he : starEach (e :: es) X.env = (false,eval e X.env) :: starEach es X.env:=by rfl) (hpl : (backTo pos (starEach es X.env)).any (·.1) = false:=by rfl) : DCW X W pos (e :: es) [] [] (fCW fs fNil) :=
 ⟨fun pins s σ H c first Q Z I hk t k=>PySem.W.callWith_K (Mod.kin I.ok.mod) hk (thn (ha.pa.run pos pins s σ H _ I (split2 t)) fun us s1 ⟨vs,H1,I1,rv,q⟩=>⟨I1.kIn,k vs [] us [] H1 s1 I1 rv .nil (tNilF q)⟩) he hpl⟩
theorem cw_none : DCW X W pos [] [] [] (fCW fNil fNil) :=
 ⟨fun pins s σ H c first Q Z I hk t k=>PySem.W.callWith_K0 I.kIn hk (k [] [] [] [] H s I .nil .nil (tNilF (tNilF (split2 t))))⟩
end
structure Bd (K : PySem.W.Frag) (fd : FuncData) (ps : List Str) (n : Nat) (ks : List Str) (g : List Value → List Value → List Value) (gV : List V → List V → List V) (gU : List U → List U → List U) : Prop where
 to : ∀ (s : Shared) (us ws : List Value),PySem.W.Frag.In K s.heap → us.length = n → ws.length = ks.length → BindsTo s fd { pos:=us,kw:=ks.zip ws } (ps.zip (g us ws))
 relV : ∀ {vs : List V} {us : List Value} {zs : List V} {ws : List Value},vs.length = n → zs.length = ks.length → Vals vs us → Vals zs ws → Vals (gV vs zs) (g us ws)
 relU : ∀ {m : List Addr} {H : Hp} {us ws : List U} {vs zs : List V},us.length = n → ws.length = ks.length → RpUs K m H us vs → RpUs K m H ws zs → RpUs K m H (gU us ws) (gV vs zs)
 len : ∀ {us ws : List U},us.length = n → ws.length = ks.length → (gU us ws).length = ps.length
noncomputable def gPos {α : Type} (us _ws : List α) : List α:=us
theorem bd_pos {K : PySem.W.Frag} {fd : FuncData} {ps : List Str} (b : Binds K fd ps []) : Bd K fd ps ps.length [] gPos gPos gPos :=
 ⟨fun s us ws KX h1 h2=>by
  have:=b s us KX (by rw [List.append_nil]; exact h1)
  rw [List.append_nil] at this
  exact this,fun _ _ r _=>r,fun _ _ r _=>r,fun h _=>h⟩
/-- a def as its callers see it -/
structure Fd (P : Program) (w : World) (K : PySem.W.Frag) (mg : Str → Option Value) (base : Heap) (f : Addr) (k n : Nat) (ks : List Str) (gU : List U → List U → List U) (mf : List U → M U) : Prop where
 run : ∀ (A : Around) (outer : List Env) (s : Shared) (H : Hp) (us ws : List Value) (vs zs : List V) (m : List Addr) (st : Store) (as bs : List U) (Q : VK) (E : XK),RoomG k A → Env0 P w K mg base A outer s H → Vals vs us → Vals zs ws →
  Rep K m st H → RpUs K m H as vs → RpUs K m H bs zs → as.length = n → bs.length = ks.length → PU K m H Q E (mf (gU as bs) st) →
  codeAny (model P w) A (.call (.ref f) { pos:=us,kw:=ks.zip ws }) (CR (L2.CX P w) outer P w H s Q E) s
theorem env0_in {P : Program} {w : World} {K : PySem.W.Frag} {mg : Str → Option Value} {base : Heap} {A : Around} {outer : List Env} {s : Shared} {H : Hp} (e0 : Env0 P w K mg base A outer s H) : PySem.W.Frag.In K s.heap :=
 PySem.W.Frag.In.keeps e0.mod.kin fun b o e=>(e0.bs b o e).1
theorem Fd.of {P : Program} {w : World} {K : PySem.W.Frag} {mg : Str → Option Value} {base : Heap} {f : Addr} {k n : Nat} {ks : List Str} {gU : List U → List U → List U} {mf : List U → M U} {fd : FuncData} {ps : List Str} {g : List Value → List Value → List Value} {gV : List V → List V → List V}
  (F : FnG P w K mg base k f fd ps (spM K ps.length mf)) (b : Bd K fd ps n ks g gV gU) : Fd P w K mg base f k n ks gU mf:=⟨fun A outer s H us ws vs zs m st as bs Q E hr e0 rv rz r ra rb la lb h=>by
 have l1 : vs.length = n:=ra.length.trans la
 have l2 : zs.length = ks.length:=rb.length.trans lb
 have rg:=b.relU la lb ra rb
 exact F.run A outer s H { pos:=us,kw:=ks.zip ws } (g us ws) (gV vs zs) Q E hr e0 (b.to s us ws (env0_in e0) (by rw [← l1]; exact (Vals.length rv).symm) (by rw [← l2]; exact (Vals.length rz).symm)) (b.relV l1 l2 rv rz)
  ⟨rg.length.trans (b.len la lb),m,st,gU as bs,r,rg,h⟩⟩
theorem Fd.mono {P : Program} {w : World} {K : PySem.W.Frag} {mg : Str → Option Value} {base : Heap} {f : Addr} {j k n : Nat} {ks : List Str} {gU : List U → List U → List U} {mf : List U → M U} (h : Fd P w K mg base f j n ks gU mf) (hk : j ≤ k) : Fd P w K mg base f k n ks gU mf :=
 ⟨fun A outer s H us ws vs zs m st as bs Q E hr=>h.run A outer s H us ws vs zs m st as bs Q E (hr.mono hk)⟩
section
variable {X : Cx} {W : WX}
theorem run_g {k n : Nat} {f : Addr} {ks : List Str} {gU : List U → List U → List U} {mf : List U → M U} {pins : List (Addr × Obj)} {σ : L2.St} {H : Hp} {s : Shared} {Q : VK} {us ws : List Value} {vs zs : List V} {m : List Addr} {st : Store} {as bs : List U} (F : Fd X.prog X.w X.K X.mg X.base f k n ks gU mf) (hr : RoomG k X.A) (tk : Takes X W) (I : Inv X pins σ H s)
  (rv : Vals vs us) (rz : Vals zs ws) (r : Rep X.K m st H) (ra : RpUs X.K m H as vs) (rb : RpUs X.K m H bs zs) (la : as.length = n) (lb : bs.length = ks.length) (h : PU X.K m H Q (fun c d H'=>W c d σ H') (mf (gU as bs) st)) :
  wpAny (model X.prog X.w) X.A (call (.ref f) us (ks.zip ws)) (EP X pins σ Q) X.xe s:=by
 refine wpAny_call (codeAny_mono (F.run X.A X.stack s H us ws vs zs m st as bs Q (fun c d H'=>W c d σ H') hr I.env0 rv rz r ra rb la lb h) fun r s' hq=>?_)
 cases r with
 | error e=>exact passAt tk σ pins H s e s' I hq
 | ok fl =>
  cases fl with
  | next=>exact False.elim hq
  | brk=>exact False.elim hq
  | cont=>exact False.elim hq
  | ret u=>exact Inv.after I hq
noncomputable def fCall (n m : Nat) (gU : List U → List U → List U) (mf : List U → M U) (f : F (List U × List U)) : F U:=bnd f fun p=>fun _ st=>if p.1.length = n ∧ p.2.length = m then mf (gU p.1 p.2) st else .bad
/-- f(..) -/
theorem d_call {x : Str} {p pos : Pos} {args : List Expr} {kws : List Keyword} {ks : List Str} {k n : Nat} {f : Addr} {gU : List U → List U → List U} {mf : List U → M U} {fc : F (List U × List U)} (Fn : Fd X.prog X.w X.K X.mg X.base f k n ks gU mf) (hm : X.mg x = some (.ref f)) (hk : PySem.W.keepIn X.K (.ref f) = true) (hr : RoomG k X.A) (tk : Takes X W) (ha : DCW X W pos args kws ks fc)
  (hg : Gl X x:=by rfl) (hdb : (x == ("__debug__" : Str)) = false:=by decide) : DE X W (.Call (.Name x p) args kws pos) (fCall n ks.length gU mf fc) :=
 ⟨⟨fun pins s σ H Q I q=>wpAny_Call_Name_kw (ld_glob I hg hm (by
  obtain ⟨m,env,st,r,re,p⟩:=q
  refine ha.run pins s σ H (.ref f) [] _ (fun v H1=>∃ m1 st1 as bs,Rep X.K m1 st1 H1 ∧ RpUs X.K m1 H1 as v.1 ∧ RpUs X.K m1 H1 bs v.2 ∧ as.length = n ∧ bs.length = ks.length ∧ PU X.K m1 H1 Q (fun c d H'=>W c d σ H') (mf (gU as bs) st1)) I hk (tFs2_step r re p fun a st1 v m1 H1 h1 r1 re1 e1 p1=>?_) ?_
  ·by_cases hl : a.1.length = n ∧ a.2.length = ks.length
   ·rw [if_pos hl] at p1
    exact ⟨m1,st1,a.1,a.2,r1,h1.1,h1.2,hl.1,hl.2,p1⟩
   ·rw [if_neg hl] at p1; exact p1.elim
  ·rintro vs zs us ws H' s' I' rv rz ⟨m1,st1,as,bs,r1,h1,h2,la,lb,p1⟩
   exact run_g Fn hr tk I' rv rz r1 h1 h2 la lb p1) hdb)⟩⟩
theorem run_makeG {k n : Nat} {f C : Addr} {ks : List Str} {gU : List U → List U → List U} {mf : List U → M U} {pins : List (Addr × Obj)} {σ : L2.St} {H : Hp} {s : Shared} {Q : VK} {us ws : List Value} {vs zs : List V} {m : List Addr} {st : Store} {as bs : List U} (Mc : Mk X.K C f) (F : Fd X.prog X.w X.K X.mg X.base f k (n + 1) ks gU mf) (hr : RoomG (k + 1) X.A) (tk : Takes X W) (I : Inv X pins σ H s)
  (rv : Vals vs us) (rz : Vals zs ws) (r : Rep X.K m st H) (ra : RpUs X.K m H as vs) (rb : RpUs X.K m H bs zs) (la : as.length = n) (lb : bs.length = ks.length)
  (h : PU X.K m H Q (fun c d H'=>W c d σ H') (match mf (gU (.ref st.length :: as) bs) (st ++ [.ins C []]) with
   | .ok (.d .non) st'=>.ok (.ref st.length) st'
   | .ok _ _=>.bad
   | .ex c fs st'=>.ex c fs st'
   | .bad=>.bad)) :
  wpAny (model X.prog X.w) X.A (call (.ref C) us (ks.zip ws)) (EP X pins σ Q) X.xe s:=by
 have nx : H (s.heap.objs.size + 1) = none:=HOk.fresh I.hok (Nat.le_succ _)
 have nd : H s.heap.objs.size = none:=HOk.fresh I.hok (Nat.le_refl _)
 have ne : s.heap.objs.size ≠ s.heap.objs.size + 1:=Nat.ne_of_lt (Nat.lt_succ_self _)
 have I2:=Inv.made (C:=C) I
 have e1:=ext_new r nd (.own (s.heap.objs.size + 1))
 have r1:=r.new nd (.own (s.heap.objs.size + 1))
 have nx1 : (upd H s.heap.objs.size (.own (s.heap.objs.size + 1))) (s.heap.objs.size + 1) = none:=by rw [upd_ne ne.symm]; exact nx
 have e2:=ext_push r1 nx1 (.ins C s.heap.objs.size [])
 have r2:=r1.push nx1 (c:=.ins C []) (o:=.ins C s.heap.objs.size []) ⟨_,[],rfl,rfl⟩
 have e12:=e1.trans e2
 have l1 : vs.length = n:=ra.length.trans la
 have l2 : zs.length = ks.length:=rb.length.trans lb
 have rx : RpUs X.K (m ++ [s.heap.objs.size + 1]) (upd (upd H s.heap.objs.size (.own (s.heap.objs.size + 1))) (s.heap.objs.size + 1) (.ins C s.heap.objs.size [])) (.ref st.length :: as) (.ref (s.heap.objs.size + 1) :: vs):=⟨_,_,rfl,⟨_,by rw [← r.len]; simp,rfl⟩,ra.ext e12⟩
 refine wpAny_call (make_map I.kIn Mc.makes Mc.init (beq_iff_eq.mp Mc.fn) (codeAny_mono (F.run _ X.stack _ _ (.ref (s.heap.objs.size + 1) :: us) ws (.ref (s.heap.objs.size + 1) :: vs) zs _ _ (.ref st.length :: as) bs (fun v H2=>v = .non ∧ Q (.ref (s.heap.objs.size + 1)) H2) (fun c d H'=>W c d σ H')
  (hr.make C us _) (Env0.make I2.env0 C us _) (.cons rfl rv) rz r2 rx (rb.ext e12) (by rw [List.length_cons,la]) lb ?_) fun r s' hq=>?_))
 ·cases e : mf (gU (.ref st.length :: as) bs) (st ++ [.ins C []]) with
  | bad=>rw [e] at h; exact h.elim
  | ex c fs st'=>rw [e] at h; exact fun d m' H' g1 g2 g3=>h d m' H' g1 (e12.trans g2) g3
  | ok u st' =>
   rw [e] at h
   intro v m' H' g1 g2 g3
   split at h
   ·rename_i st'' he
    cases he
    cases g1
    refine ⟨rfl,h (.ref (s.heap.objs.size + 1)) m' H' ⟨_,pre_get g3.pre ?_,rfl⟩ g2 (e12.trans g3)⟩
    rw [← r.len]; simp
   ·exact h.elim
   ·rename_i he; cases he
   ·rename_i he; cases he
 ·cases r with
  | error e=>exact passAt tk σ pins _ _ e s' I2 hq
  | ok fl =>
   cases fl with
   | next=>exact False.elim hq
   | brk=>exact False.elim hq
   | cont=>exact False.elim hq
   | ret u =>
    obtain ⟨v,H',I3,rv,ev,q3⟩:=Inv.after I2 hq
    subst ev
    exact ⟨rv,.ref (s.heap.objs.size + 1),H',I3,rfl,q3⟩
noncomputable def fMake (C : Addr) (n m : Nat) (gU : List U → List U → List U) (mf : List U → M U) (f : F (List U × List U)) : F U:=bnd f fun p=>fun _ st=>if p.1.length = n ∧ p.2.length = m then (match mf (gU (.ref st.length :: p.1) p.2) (st ++ [.ins C []]) with
   | .ok (.d .non) st'=>.ok (.ref st.length) st'
   | .ok _ _=>.bad
   | .ex c fs st'=>.ex c fs st'
   | .bad=>.bad) else .bad
theorem d_make {x : Str} {p pos : Pos} {args : List Expr} {kws : List Keyword} {ks : List Str} {k n : Nat} {f C : Addr} {gU : List U → List U → List U} {mf : List U → M U} {fc : F (List U × List U)} (Mc : Mk X.K C f) (Fn : Fd X.prog X.w X.K X.mg X.base f k (n + 1) ks gU mf) (hm : X.mg x = some (.ref C)) (hr : RoomG (k + 1) X.A) (tk : Takes X W) (ha : DCW X W pos args kws ks fc)
  (hg : Gl X x:=by rfl) (hdb : (x == ("__debug__" : Str)) = false:=by decide) : DE X W (.Call (.Name x p) args kws pos) (fMake C n ks.length gU mf fc) :=
 ⟨⟨fun pins s σ H Q I q=>wpAny_Call_Name_kw (ld_glob I hg hm (by
  obtain ⟨m,env,st,r,re,p⟩:=q
  refine ha.run pins s σ H (.ref C) [] _ (fun v H1=>∃ m1 st1 as bs,Rep X.K m1 st1 H1 ∧ RpUs X.K m1 H1 as v.1 ∧ RpUs X.K m1 H1 bs v.2 ∧ as.length = n ∧ bs.length = ks.length ∧ PU X.K m1 H1 Q (fun c d H'=>W c d σ H') (match mf (gU (.ref st1.length :: as) bs) (st1 ++ [.ins C []]) with
   | .ok (.d .non) st'=>.ok (.ref st1.length) st'
   | .ok _ _=>.bad
   | .ex c fs st'=>.ex c fs st'
   | .bad=>.bad)) I Mc.kp (tFs2_step r re p fun a st1 v m1 H1 h1 r1 re1 e1 p1=>?_) ?_
  ·by_cases hl : a.1.length = n ∧ a.2.length = ks.length
   ·rw [if_pos hl] at p1
    exact ⟨m1,st1,a.1,a.2,r1,h1.1,h1.2,hl.1,hl.2,p1⟩
   ·rw [if_neg hl] at p1; exact p1.elim
  ·rintro vs zs us ws H' s' I' rv rz ⟨m1,st1,as,bs,r1,h1,h2,la,lb,p1⟩
   exact run_makeG Mc Fn hr tk I' rv rz r1 h1 h2 la lb p1) hdb)⟩⟩
/-- an instance's class and fields -/
noncomputable def insU (st : Store) : U → Option (Addr × List (Str × U))
 | .d (.ins C fs)=>some (C,fs.map fun p=>(p.1,.d p.2))
 | .ref n=>match st[n]? with
  | some (.ins C us)=>some (C,us)
  | _=>none
 | _=>none
end
section
variable {K : PySem.W.Frag} {m : List Addr} {H : Hp} {st : Store}
theorem RpUF.ofD : ∀ {ds : List (Str × D)} {vs : List (Str × V)},RpF K m H ds vs → RpUF K m H (ds.map fun p=>(p.1,.d p.2)) vs
 | [],_,h=>h
 | (k,d) :: ds,_,⟨v,r,e,h1,h2⟩=>⟨v,r,e,h1,RpUF.ofD h2⟩
theorem RpUF.lookup {f : Str} : ∀ {us : List (Str × U)} {vs : List (Str × V)},RpUF K m H us vs → match us.lookup f with | some u=>∃ v,vs.lookup f = some v ∧ RpU K m H u v | none=>vs.lookup f = none
 | [],_,h=>by cases h; exact rfl
 | (k,u) :: us,_,⟨v,r,e,h1,h2⟩=>by
  subst e
  have ih:=RpUF.lookup (f:=f) h2
  rw [List.lookup_cons,List.lookup_cons]
  by_cases e : (f == k) = true
  ·rw [e]; exact ⟨v,rfl,h1⟩
  ·rw [Bool.not_eq_true] at e; rw [e]; exact ih
theorem insU_rp (r : Rep K m st H) {u : U} {v : V} {C : Addr} {us : List (Str × U)} (h : RpU K m H u v) (e : insU st u = some (C,us)) : ∃ a dx vs,v = .ref a ∧ H a = some (.ins C dx vs) ∧ RpUF K m H us vs:=by
 cases u with
 | ref n =>
  obtain ⟨a,ha,rfl⟩:=h
  simp only [insU] at e
  split at e
  ·rename_i C' us' hs
   cases e
   obtain ⟨ho,h1,dx,vs,e2,h2⟩:=r.cell n _ a hs ha
   subst e2
   exact ⟨a,dx,vs,rfl,h1,h2⟩
  ·cases e
 | d x =>
  cases x with
  | ins C' fs =>
   obtain ⟨a,dx,vs,rfl,t,q⟩:=h
   cases e
   exact ⟨a,dx,vs,rfl,t.2,RpUF.ofD q⟩
  | _=>cases e
end
section
variable {X : Cx} {W : WX} {o e : Expr} {fo fe : F U} {pos apos cpos : Pos} {f : Str}
noncomputable def fMeth (C : Addr) (nm : Str) (n m : Nat) (gU : List U → List U → List U) (mf : List U → M U) (fo : F U) (fc : F (List U × List U)) : F U:=bnd fo fun u=>fun env st=>match insU st u with
 | some (C',us)=>if C' = C ∧ us.lookup nm = none then bnd fc (fun p=>fun _ st=>if p.1.length = n ∧ p.2.length = m then mf (gU (u :: p.1) p.2) st else .bad) env st else .bad
 | none=>.bad
/-- o.m(..) -/
theorem d_meth {nm : Str} {args : List Expr} {kws : List Keyword} {ks : List Str} {k n : Nat} {g C : Addr} {gU : List U → List U → List U} {mf : List U → M U} {fc : F (List U × List U)} {pl : Sem Bool} (ho : DE X W o fo) (hC : Cls X.K C) (hM : Meth X.K C nm g) (Fn : Fd X.prog X.w X.K X.mg X.base g k (n + 1) ks gU mf) (hr : RoomG k X.A) (tk : Takes X W) (ha : DCW X W cpos args kws ks fc)
  (hev : eval (.Call (.Attribute o nm apos) args kws cpos) X.env = (do
     let ov ← eval o X.env
     standAt (Pos.atName apos)
     let __x ← holding [ov] (getMethod ov nm pl)
     match __x with
      | (f,first)=>callWith cpos f first (backTo cpos (starEach args X.env)) (backToKw cpos (keywordEach kws X.env))):=by rfl) :
  DE X W (.Call (.Attribute o nm apos) args kws cpos) (fMeth C nm n ks.length gU mf fo fc) :=
 ⟨⟨fun pins s σ H Q I q=>PySem.W.methodCall_KW (by
  obtain ⟨m,env,st,r,re,p⟩:=q
  refine thn (ho.pe.run pins s σ H (fun x H1=>∃ a dx vs,x = .ref a ∧ H1 a = some (.ins C dx vs) ∧ vs.lookup nm = none ∧ tFs2 X.K W fc σ H1 fun v H2=>∃ m2 st2 u as bs,Rep X.K m2 st2 H2 ∧ RpU X.K m2 H2 u x ∧ RpUs X.K m2 H2 as v.1 ∧ RpUs X.K m2 H2 bs v.2 ∧ as.length = n ∧ bs.length = ks.length ∧ PU X.K m2 H2 Q (fun c d H'=>W c d σ H') (mf (gU (u :: as) bs) st2)) I (tF_step r re p fun u st1 v m1 H1 h1 r1 re1 e1 p1=>?_)) ?_
  ·split at p1
   ·rename_i C' us hi
    split at p1
    ·rename_i hc
     obtain ⟨a,dx,vs,rfl,ha,rf⟩:=insU_rp r1 h1 hi
     have hlk:=rf.lookup (f:=nm)
     rw [hc.2] at hlk
     rw [hc.1] at ha
     refine ⟨a,dx,vs,rfl,ha,hlk,tFs2_step r1 re1 p1 fun b st2 w m2 H2 h2 r2 re2 e2 p2=>?_⟩
     by_cases hl : b.1.length = n ∧ b.2.length = ks.length
     ·rw [if_pos hl] at p2
      exact ⟨m2,st2,u,b.1,b.2,r2,h1.ext e2,h2.1,h2.2,hl.1,hl.2,p2⟩
     ·rw [if_neg hl] at p2; exact p2.elim
    ·exact p1.elim
   ·exact p1.elim
  ·rintro ov s1 ⟨x,H1,I1,rx,a,dx,vs,rfl,hins,hlk,ht⟩
   cases rx
   refine getmeth_ok I1 hins hC hM hlk ?_
   refine ha.run pins s1 σ H1 (.ref g) [.ref a] _ _ I1 hM.kp ht ?_
   rintro vs' zs us ws H' s' I' rv rz ⟨m2,st2,u,as,bs,r2,ru,h1,h2,la,lb,p2⟩
   exact run_g (vs:=.ref a :: vs') (as:=u :: as) Fn hr tk I' (.cons rfl rv) rz r2 ⟨_,_,rfl,ru,h1⟩ h2 (by rw [List.length_cons,la]) lb p2) hev⟩⟩
noncomputable def Flds (K : PySem.W.Frag) (cs : List Addr) (f : Str) : Prop:=∀ C ∈ cs,Cls K C ∧ NoAttr K C f
noncomputable def oFld (cs : List Addr) (f : Str) (u : U) (st : Store) : Option U:=match insU st u with
 | some (C,us)=>if C ∈ cs then us.lookup f else none
 | none=>none
noncomputable def fFld (cs : List Addr) (f : Str) (fo : F U) : F U:=f1 (oFld cs f) fo
theorem d_fld {cs : List Addr} (ho : DE X W o fo) (hc : Flds X.K cs f) (hb : attributeBase o f X.env (eval o X.env) = eval o X.env:=by rfl) : DE X W (.Attribute o f pos) (fFld cs f fo) :=
 ⟨PE.imp (pe_fld ho.pe hb) fun σ H Q ⟨m,env,st,r,re,p⟩=>tF_step (f:=fo) (g:=fun a=>fun _ st=>.of st (oFld cs f a st)) (rel:=RpU X.K) (Q:=Q) r re p fun u st1 v m1 H1 h1 r1 re1 e1 p1=>by
  cases e : oFld cs f u st1 with
  | none=>rw [e] at p1; exact False.elim p1
  | some w =>
   rw [e] at p1
   unfold oFld at e
   split at e
   ·rename_i C us hi
    split at e
    ·rename_i hC
     obtain ⟨a,dx,vs,rfl,ha,rf⟩:=insU_rp r1 h1 hi
     have hlk:=rf.lookup (f:=f)
     rw [e] at hlk
     obtain ⟨x,hx,rx⟩:=hlk
     exact ⟨a,C,dx,vs,x,rfl,ha,(hc C hC).1,(hc C hC).2,hx,p1 x m1 H1 rx r1 (Ext.refl _ _)⟩
    ·cases e
   ·cases e⟩
noncomputable def putFU (f : Str) (u : U) : List (Str × U) → List (Str × U)
 | []=>[(f,u)]
 | (k,w) :: r=>if k = f then (k,u) :: r else (k,w) :: putFU f u r
theorem RpUF.put {K : PySem.W.Frag} {m : List Addr} {H : Hp} {f : Str} {w : U} {x : V} (hw : RpU K m H w x) : ∀ {us : List (Str × U)} {vs : List (Str × V)},RpUF K m H us vs → RpUF K m H (putFU f w us) (putF f x vs)
 | [],_,h=>by rw [show _ = [] from h]; exact ⟨x,[],rfl,hw,rfl⟩
 | (k,u) :: us,_,⟨v,r,e,h1,h2⟩=>by
  subst e
  unfold putFU putF
  by_cases hk : k = f
  ·rw [if_pos hk,if_pos hk]; exact ⟨x,r,rfl,hw,h2⟩
  ·rw [if_neg hk,if_neg hk]; exact ⟨v,_,rfl,h1,RpUF.put hw h2⟩
theorem RpUF.length {K : PySem.W.Frag} {m : List Addr} {H : Hp} : ∀ {us : List (Str × U)} {vs : List (Str × V)},RpUF K m H us vs → vs.length = us.length
 | [],_,h=>by rw [show _ = [] from h]; rfl
 | (k,u) :: us,_,⟨v,r,e,h1,h2⟩=>by rw [e,List.length_cons,List.length_cons,RpUF.length h2]
noncomputable def setFld (cs : List Addr) (f : Str) (u o : U) (st : Store) : Option Store:=match o with
 | .ref n=>match st[n]? with
  | some (.ins C us)=>if C ∈ cs ∧ us.length < 1000 then some (st.set n (.ins C (putFU f u us))) else none
  | _=>none
 | _=>none
noncomputable def sFldS (cs : List Addr) (f : Str) (fo fe : F U) : G:=bndS fe fun u=>bndS fo fun o=>fun env st=>match setFld cs f u o st with
 | some st'=>.ok env .nx st'
 | none=>.bad
theorem ds_fld {cs : List Addr} {pos' : Pos} (ho : DE X W o fo) (he : DE X W e fe) (hc : Flds X.K cs f) (hs : swapsWith e (some (.Attribute o f pos')) pos.line X.env = pure false:=by rfl) : DS X W (.Assign [.Attribute o f pos'] e pos) (sFldS cs f fo fe) :=
 ⟨PS.imp (ps_fld ho.pe he.pe hs) fun D σ H ⟨m,env,st,r,re,p⟩=>sF_step r re p fun u st1 v m1 H1 h1 r1 re1 e1 p1=>sF_step r1 re1 p1 fun w st2 x m2 H2 h2 r2 re2 e2 p2=>by
  cases q : setFld cs f u w st2 with
  | none=>rw [q] at p2; exact False.elim p2
  | some st3 =>
   rw [q] at p2
   unfold setFld at q
   split at q
   ·rename_i n
    split at q
    ·rename_i C us hs
     split at q
     ·rename_i hC
      cases q
      obtain ⟨a,ha,rfl⟩:=h2
      obtain ⟨ho,g1,dx,vs,g2,g3⟩:=r2.cell n _ a hs ha
      subst g2
      have ma : a ∈ m2:=List.mem_of_getElem? ha
      have ew:=ext_write (H:=H2) ma (.ins C dx (putF f v vs)) (nf_i g1)
      exact ⟨a,C,dx,vs,rfl,g1,(hc C hC.1).1,(hc C hC.1).2,by rw [g3.length]; exact hC.2,p2 σ m2 _ (re2.ext ew) (r2.write ha ⟨dx,_,rfl,(g3.put (h1.ext e2)).ext ew⟩ (nf_i g1)) ew⟩
     ·cases q
    ·cases q
   ·cases q⟩
noncomputable def fWr (w : Wr) (f : F U) : F U:=fun env st=>match f env st with
 | .ok u st'=>w st.length u st'
 | r=>r
theorem d_wr {w : Wr} (hw : WOk w) (he : DE X W e fe) : DE X W e (fWr w fe):=⟨PE.imp he.pe fun σ H Q ⟨m,env,st,r,re,p⟩=>⟨m,env,st,r,re,by
 unfold fWr at p
 cases e : fe env st with
 | bad=>rw [e] at p; exact p
 | ex c fs st'=>rw [e] at p; exact p
 | ok u st' =>
  rw [e] at p
  simp only at p
  intro v m' H' h1 h2 h3
  have hk : st.length ≤ m'.length:=by rw [← r.len]; exact h3.pre.length_le
  have:=hw.ok X.K st.length u st' m' H' v h2 h1 hk
  cases q : w st.length u st' with
  | bad=>rw [q] at p; exact p.elim
  | ex c fs s=>rw [q] at this; exact this.elim
  | ok u' s =>
   rw [q] at p this
   obtain ⟨m2,g1,g2,g3,g4⟩:=this
   refine p v m2 H' g2 g1 ⟨?_,h3.toStay.less g4⟩
   obtain ⟨t,ht⟩:=h3.pre
   have : m'.take st.length = m:=by rw [← ht,← r.len]; simp
   rw [this] at g3
   exact g3⟩⟩
end
end VL
namespace VL
open PySem PySem.Spec PyProof.Rows L2
noncomputable def putD (kvs : List (Key × D)) (k : Key) (v : D) : List (Key × D) :=
 if (kvs.any fun kv=>decide (kv.1 = k)) = true then kvs.map fun kv=>if kv.1 = k then (kv.1,v) else kv else kvs ++ [(k,v)]
noncomputable def mergeD (kvs more : List (Key × D)) : List (Key × D):=more.foldl (fun acc kv=>putD acc kv.1 kv.2) kvs
noncomputable def pairD : U → Option (Key × D)
 | .d (.tup [k,v])=>(keyD (.d k)).map fun k=>(k,v)
 | _=>none
noncomputable def oDict : List U → Store → Option U:=fun us st=>match us with
 | [u]=>match getL st u with
  | some us=>(allM pairD us).map fun kvs=>.d (.dct (mergeD [] kvs))
  | none=>none
 | _=>none
section
variable {K : PySem.W.Frag} {m : List Addr} {H : Hp} {st : Store}
theorem RpK.any {k : Key} : ∀ {us : List (Key × D)} {vs : List (Key × V)},RpK K m H us vs → (us.any fun kv=>decide (kv.1 = k)) = (vs.any fun kv=>decide (kv.1 = k))
 | [],_,h=>by rw [show _ = [] from h]; rfl
 | (k',u) :: us,_,⟨v,r,e,h1,h2⟩=>by subst e; rw [List.any_cons,List.any_cons,RpK.any h2]
theorem RpK.mapP {k : Key} {w : D} {x : V} (hw : RpD K m H w x) : ∀ {us : List (Key × D)} {vs : List (Key × V)},RpK K m H us vs → RpK K m H (us.map fun kv=>if kv.1 = k then (kv.1,w) else kv) (vs.map fun kv=>if kv.1 = k then (kv.1,x) else kv)
 | [],_,h=>by rw [show _ = [] from h]; rfl
 | (k',u) :: us,_,⟨v,r,e,h1,h2⟩=>by
  subst e
  rw [List.map_cons,List.map_cons]
  by_cases hk : k' = k
  ·subst hk; simp only [if_true]; exact ⟨x,_,rfl,hw,RpK.mapP hw h2⟩
  ·simp only [hk,if_false]; exact ⟨v,_,rfl,h1,RpK.mapP hw h2⟩
theorem RpK.snoc {k : Key} {w : D} {x : V} (hw : RpD K m H w x) : ∀ {us : List (Key × D)} {vs : List (Key × V)},RpK K m H us vs → RpK K m H (us ++ [(k,w)]) (vs ++ [(k,x)])
 | [],_,h=>by rw [show _ = [] from h]; exact ⟨x,[],rfl,hw,rfl⟩
 | (k',u) :: us,_,⟨v,r,e,h1,h2⟩=>by subst e; exact ⟨v,_,rfl,h1,RpK.snoc hw h2⟩
theorem RpK.put {us : List (Key × D)} {vs : List (Key × V)} (h : RpK K m H us vs) (k : Key) {w : D} {x : V} (hw : RpD K m H w x) : RpK K m H (putD us k w) (putK vs k x):=by
 unfold putD putK
 rw [h.any]
 split
 ·exact h.mapP hw
 ·exact h.snoc hw
theorem RpK.merge : ∀ {more : List (Key × D)} {mv : List (Key × V)} {us : List (Key × D)} {vs : List (Key × V)},RpK K m H us vs → RpK K m H more mv → RpK K m H (mergeD us more) (mergeK vs mv)
 | [],_,_,_,h,q=>by rw [show _ = [] from q]; exact h
 | (k,d) :: more,_,us,vs,h,⟨v,r,e,h1,h2⟩=>by
  subst e
  show RpK K m H (mergeD (putD us k d) more) (mergeK (putK vs k v) r)
  exact RpK.merge (h.put k h1) h2
theorem pairs_rp (r : Rep K m st H) : ∀ {us : List U} {vs : List V} {kvs : List (Key × D)},RpUs K m H us vs → allM pairD us = some kvs → ∃ ps mv,vs = ps.map V.ref ∧ Paired (fun p (kv : Key × V)=>SqT K H p [kV kv.1,kv.2]) ps mv ∧ RpK K m H kvs mv
 | [],vs,kvs,h,e=>by cases e; exact ⟨[],[],h,.nil,rfl⟩
 | u :: us,vs,kvs,⟨v,t,ev,h1,h2⟩,e=>by
  subst ev
  unfold allM at e
  split at e
  ·rename_i b bs q1 q2
   cases e
   obtain ⟨ps,mv,rfl,g2,g3⟩:=pairs_rp r h2 q2
   unfold pairD at q1
   split at q1
   ·rename_i k d
    obtain ⟨a,ws,rfl,t,w1,_,rfl,i1,w2,_,rfl,i2,rfl⟩:=h1
    cases hk : keyD (.d k) with
    | none=>rw [hk] at q1; cases q1
    | some kk =>
     rw [hk] at q1; cases q1
     have:=keyD_rp (u:=.d k) i1 hk
     subst this
     exact ⟨a :: ps,(kk,w2) :: mv,rfl,.cons t.sq g2,w2,mv,rfl,i2,g3⟩
   ·cases q1
  ·cases e
theorem new_dct (r : Rep K m st H) {p : Addr} (np : H p = none) {ds : List (Key × D)} {vs : List (Key × V)} (h : RpK K m H ds vs) : RpU K m (upd H p (.dK vs)) (.d (.dct ds)) (.ref p) :=
 ⟨p,vs,rfl,⟨r.fresh np,.inl upd_same⟩,h.ext (ext_new r np _)⟩
end
section
variable {X : Cx} {W : WX}
theorem cr_dict (hc : X.calm = true) : CallR X (.type "dict") (rM X.K (pu oDict)):=by
 refine CallR.imp (call_dictP hc) fun vs H Q ⟨m,st,us,r,ru,p⟩=>?_
 obtain ⟨u,e,p⟩:=p.pu
 unfold oDict at e
 split at e
 ·obtain ⟨v,rfl,hv⟩:=ru.one
  split at e
  ·rename_i us hl
   obtain ⟨a,ws,rfl,t,q⟩:=getL_rp r hv hl
   cases q2 : allM pairD us with
   | none=>rw [q2] at e; cases e
   | some kvs =>
    rw [q2] at e; cases e
    obtain ⟨ps,mv,rfl,g1,g2⟩:=pairs_rp r q q2
    exact ⟨a,ps,mv,rfl,t,g1,fun l hl=>p _ m _ (new_dct r hl (RpK.merge (us:=[]) (vs:=[]) rfl g2)) (r.new hl _) (ext_new r hl _)⟩
  ·cases e
 ·cases e
end
section
variable {X : Cx} {W : WX} {o e f : Expr} {fo fk fx : F U} {apos cpos : Pos}
end
noncomputable def oFmt : P1:=fun u _=>match u with
 | .d (.str y)=>if y.length ≤ sizeLine then some (.d (.str y)) else none
 | .d (.int i)=>if i.natAbs.log2 < 1920 then some (.d (.str (Str.ofString (toString i)))) else none
 | _=>none
noncomputable def fJs : List (F U) → Str → F U
 | [],acc=>fun _ st=>.ok (.d (.str acc)) st
 | f :: fs,acc=>bnd f fun u=>match u with
  | .d (.str y)=>if (acc ++ y).length ≤ sizeLine then fJs fs (acc ++ y) else fun _ _=>.bad
  | _=>fun _ _=>.bad
structure DJ (X : Cx) (W : WX) (es : List Expr) (fs : List (F U)) : Prop where
 pj : PJ X es (fs.map (tF X.K W))
section
variable {X : Cx} {W : WX} {e e2 : Expr} {es : List Expr} {fe : F U} {fs : List (F U)} {pos : Pos}
theorem d_fmt (he : DE X W e fe) : DE X W (.FormattedValue e (-1) none pos) (f1 oFmt fe):=⟨PE.imp (pe_fmt he.pe) fun σ H Q ⟨m,env,st,r,re,p⟩ =>
 tF_step (f:=fe) (g:=fun a=>fun _ st=>.of st (oFmt a st)) (rel:=RpU X.K) (Q:=Q) r re p fun u st1 v m1 H1 h1 r1 re1 e1 p1=>by
  cases q : oFmt u st1 with
  | none=>rw [q] at p1; exact False.elim p1
  | some w =>
   rw [q] at p1
   unfold oFmt at q
   split at q
   ·split at q
    ·rename_i hz; cases q; cases h1; exact .inl ⟨_,rfl,hz,p1 _ m1 H1 rfl r1 (Ext.refl _ _)⟩
    ·cases q
   ·split at q
    ·rename_i hz; cases q; cases h1; exact .inr ⟨_,rfl,hz,p1 _ m1 H1 rfl r1 (Ext.refl _ _)⟩
    ·cases q
   ·cases q⟩
theorem dj_nil : DJ X W [] []:=⟨.nil⟩
theorem dj_cons (he : DE X W e fe) (hs : DJ X W es fs) : DJ X W (e :: es) (fe :: fs):=⟨.cons he.pe hs.pj⟩
theorem t_js : ∀ (fs : List (F U)) (acc : Str) {σ : L2.St} {H : Hp} {Q : VK},tF X.K W (fJs fs acc) σ H Q → tJs (fs.map (tF X.K W)) acc σ H fun out H1=>Q (.str out) H1
 | [],acc,σ,H,Q,⟨m,env,st,r,re,p⟩=>p _ m H rfl r (Ext.refl _ _)
 | f :: fs,acc,σ,H,Q,⟨m,env,st,r,re,p⟩=>tF_step r re p fun u st1 v m1 H1 h1 r1 re1 e1 p1=>by
  split at p1
  ·rename_i y
   cases h1
   split at p1
   ·rename_i hz
    exact ⟨y,rfl,hz,t_js fs _ ⟨m1,env,st1,r1,re1,p1⟩⟩
   ·exact p1.elim
  ·exact p1.elim
theorem d_joined (h : DJ X W (e :: e2 :: es) fs) : DE X W (.JoinedStr (e :: e2 :: es) pos) (fJs fs Str.empty):=⟨PE.imp (pe_joined h.pj) fun σ H Q q=>t_js fs _ q⟩
end
end VL
namespace VL
open PySem PySem.Spec PyProof.Rows L2
theorem bt_len : bootBuiltins "len" = some (.builtin "len"):=by decide +kernel
theorem bt_abs : bootBuiltins "abs" = some (.builtin "abs"):=by decide +kernel
theorem bt_min : bootBuiltins "min" = some (.builtin "min"):=by decide +kernel
theorem bt_max : bootBuiltins "max" = some (.builtin "max"):=by decide +kernel
theorem bt_all : bootBuiltins "all" = some (.builtin "all"):=by decide +kernel
theorem bt_isinstance : bootBuiltins "isinstance" = some (.builtin "isinstance"):=by decide +kernel
theorem bt_sorted : bootBuiltins "sorted" = some (.builtin "sorted"):=by decide +kernel
theorem bt_int : bootBuiltins "int" = some (.type "int"):=by decide +kernel
theorem bt_str : bootBuiltins "str" = some (.type "str"):=by decide +kernel
theorem bt_list : bootBuiltins "list" = some (.type "list"):=by decide +kernel
theorem bt_dict : bootBuiltins "dict" = some (.type "dict"):=by decide +kernel
theorem RoomG.u1 {k : Nat} {A : Around} (h : RoomG k A) : A.units + 1 < cLine:=by have:=h.rm.un; omega
theorem RoomG.u64 {k : Nat} {A : Around} (h : RoomG k A) : A.units + 64 < cLine:=by have:=h.rm.un; omega
theorem RoomG.u65 {k : Nat} {A : Around} (h : RoomG k A) : A.units + 65 < cLine:=by have:=h.rm.un; omega
section
variable {X : Cx} {W : WX}
/-- a module's text,number -/
noncomputable def GStr (mg : Str → Option Value) (x y : Str) : Prop:=∃ u,mg x = some u ∧ RelV (.str y) u
noncomputable def GInt (mg : Str → Option Value) (x : Str) (i : Int) : Prop:=∃ u,mg x = some u ∧ RelV (.int i) u
theorem d_gstr {x y : Str} {pos : Pos} (h : GStr X.mg x y) (hg : Gl X x:=by rfl) (hd : (x == ("__debug__" : Str)) = false:=by decide) : DE X W (.Name x pos) (vC (.str y)):=by
 obtain ⟨u,h1,h2⟩:=h
 exact d_glob (v:=.str y) h1 h2 (fun _ _=>rfl) hg hd
theorem d_gint {x : Str} {y : Int} {pos : Pos} (h : GInt X.mg x y) (hg : Gl X x:=by rfl) (hd : (x == ("__debug__" : Str)) = false:=by decide) : DE X W (.Name x pos) (vC (.int y)):=by
 obtain ⟨u,h1,h2⟩:=h
 exact d_glob (v:=.int y) h1 h2 (fun _ _=>rfl) hg hd
noncomputable def TgsNx (gs : List U → G) : Prop:=∀ us env st,match gs us env st with
 | .ok _ .nx _=>True
 | .bad=>True
 | _=>False
theorem nxs_nil : TgsNx tgNil:=fun us env st=>by cases us <;> trivial
theorem nxs_cons {g : U → G} {gs : List U → G} (h : TgNx g) (h2 : TgsNx gs) : TgsNx (tgCons g gs):=fun us env st=>by
 cases us with
 | nil=>trivial
 | cons u us =>
  show match sSeq (g u) (gs us) env st with
   | .ok _ .nx _=>True
   | .bad=>True
   | _=>False
  unfold sSeq
  have:=h u env st
  cases e : g u env st with
  | bad=>trivial
  | ex c fs env1 st1=>rw [e] at this; exact this.elim
  | ok env1 f st1 =>
   rw [e] at this
   cases f with
   | nx=>exact h2 us env1 st1
   | rt u=>exact this.elim
   | bk=>exact this.elim
   | ct=>exact this.elim
theorem nx_tup {n : Nat} {gs : List U → G} (h : TgsNx gs) : TgNx (tgT n gs):=fun u env st=>by
 unfold tgT
 cases unp st u with
 | none=>trivial
 | some us =>
  simp only
  by_cases hz : us.length = n
  ·rw [if_pos hz]; exact h us env st
  ·rw [if_neg hz]; trivial
/-- a,b,c = x,y,z -/
noncomputable def sPar3 (i j l : Nat) (fs : F (List U)) : G:=bndS fs fun us=>fun env st=>match us with
 | [u,w,z]=>.ok (((env.set i (some u)).set j (some w)).set l (some z)) .nx st
 | _=>.bad
end
section
variable {X : Cx} {W : WX} {elt tg iter : Expr} {ifs : List Expr} {scope : Scope} {own : List (Str × Nat)} {pos : Pos} {is : List Nat} {g : U → G} {gt : F Bool} {fe : F U} {fi : F Itb}
theorem d_lcV {vs : List Nat} (hc : X.calm = true) (hN : X.N.Nodup) (hi : DI X W tg iter fi) (ok : BlkOk X.N X.env.scope scope own)
  (hg : ∀ (s : Shared) (H : Hp) (C : Addr) (cl : List (Str × Addr)) (fp : List Addr),DG (X.blk s H scope (compEnvC scope cl C X.env) fp) tg is g)
  (ht : ∀ (s : Shared) (H : Hp) (C : Addr) (cl : List (Str × Addr)) (fp : List Addr),DTs (X.blk s H scope (compEnvC scope cl C X.env) fp) W0 ifs gt)
  (he : ∀ (s : Shared) (H : Hp) (C : Addr) (cl : List (Str × Addr)) (fp : List Addr),DE (X.blk s H scope (compEnvC scope cl C X.env) fp) W0 elt fe)
  (hvv : own.map (·.2) = vs:=by rfl) (hvs : ∀ i ∈ is,i ∈ own.map (·.2):=by decide) (hs : ∀ x,foldedSetIterable iter X.env x = pure x:=by intro _; rfl) :
  DE X W (.ListComp elt [⟨tg,iter,ifs,0⟩] scope pos) (fLc fi g gt fe vs):=by
 subst hvv; exact d_lc hc hN hi ok hg ht he hvs hs
end
/-- by place and by name,in order -/
noncomputable def gApp {α : Type} (us ws : List α) : List α:=us ++ ws
theorem FnG.imp {P : Program} {w : World} {K : PySem.W.Frag} {mg : Str → Option Value} {base : Heap} {k : Nat} {f : Addr} {fd : FuncData} {ps : List Str} {sp sp' : Sp} (F : FnG P w K mg base k f fd ps sp) (h : ∀ vs H Q E,sp' vs H Q E → sp vs H Q E) : FnG P w K mg base k f fd ps sp' :=
 ⟨fun vs H Q E q=>F.len vs H Q E (h vs H Q E q),fun A outer s H args us vs Q E r e0 b rv q=>F.run A outer s H args us vs Q E r e0 b rv (h vs H Q E q)⟩
/-- the law at a script -/
theorem law_sp {K : PySem.W.Frag} {mf : List U → M U} {ns : List Int} {H : Hp} {a : Addr} (h : ∃ st,mf [.d (.scr ns)] [] = .ok (.d (.bl true)) st) (hO : Only H) (hS : SqL K H a (ns.map V.int)) : spM K 1 mf [.ref a] H (fun v _=>v = .bl true) fun _ _ _=>False:=by
 have hv : ScV K [] H a (ns.map V.int):=by
  rcases hS with (q | ⟨o,q⟩) | q
  ·rcases hO a with z | ⟨o,xs,z⟩
   ·rw [q] at z; cases z
   ·rw [q] at z; cases z
  ·exact .inl ⟨List.not_mem_nil,o,q⟩
  ·exact .inr (.inr q)
 refine ⟨rfl,[],[],[.d (.scr ns)],⟨rfl,List.nodup_nil,fun n o b h=>by simp at h⟩,⟨_,_,rfl,⟨a,rfl,hv⟩,rfl⟩,?_⟩
 obtain ⟨st,e⟩:=h
 rw [e]
 exact fun v m' H' h1 _ _=>h1
end VL
namespace VL
open PySem PySem.Spec PyProof.Rows L2
theorem okU_mono {j k : Nat} (h : j ≤ k) {u : U} (q : okU j u = true) : okU k u = true:=by
 cases u with
 | d x=>rfl
 | ref n=>exact decide_eq_true (Nat.lt_of_lt_of_le (of_decide_eq_true q) h)
theorem okO_mono {j k : Nat} (h : j ≤ k) {o : O} (q : okO j o = true) : okO k o = true:=by
 cases o with
 | lst us=>exact List.all_eq_true.mpr fun u hu=>okU_mono h (List.all_eq_true.mp q u hu)
 | tup us=>exact List.all_eq_true.mpr fun u hu=>okU_mono h (List.all_eq_true.mp q u hu)
 | dct us=>exact List.all_eq_true.mpr fun u hu=>okU_mono h (List.all_eq_true.mp q u hu)
 | ins C us=>exact List.all_eq_true.mpr fun u hu=>okU_mono h (List.all_eq_true.mp q u hu)
 | tbl P q=>rfl
 | lck us=>exact List.all_eq_true.mpr fun u hu=>okU_mono h (List.all_eq_true.mp q u hu)
 | kdc w us=>exact List.all_eq_true.mpr fun u hu=>okU_mono h (List.all_eq_true.mp q u hu)
noncomputable def WF (st : Store) : Prop:=wfB st = true
theorem WF.cut {st : Store} (h : WF st) : cutS st.length st = some st:=by
 unfold cutS
 rw [List.take_length]
 exact if_pos h
theorem WF.push {st : Store} (h : WF st) {o : O} (q : okO (st.length + 1) o = true) : WF (st ++ [o]):=by
 unfold WF wfB at *
 rw [List.all_append,Bool.and_eq_true,List.length_append]
 exact ⟨List.all_eq_true.mpr fun x hx=>okO_mono (Nat.le_add_right _ _) (List.all_eq_true.mp h x hx),by simpa using q⟩
theorem WF.set {st : Store} (h : WF st) {n : Nat} {o : O} (q : okO st.length o = true) : WF (st.set n o):=by
 unfold WF wfB at *
 rw [List.length_set]
 refine List.all_eq_true.mpr fun x hx=>?_
 rcases List.mem_or_eq_of_mem_set hx with hx | hx
 ·exact List.all_eq_true.mp h x hx
 ·subst hx; exact q
theorem WF.nil : WF []:=rfl
theorem okO_pure (k : Nat) (ds : List D) : okO k (.lst (ds.map .d)) = true:=by
 show ((ds.map U.d).all (okU k)) = true
 rw [List.all_map]
 exact List.all_eq_true.mpr fun _ _=>rfl
theorem WF.pushL {st : Store} (h : WF st) (ds : List D) : WF (st ++ [.lst (ds.map .d)]):=h.push (okO_pure _ _)
theorem WF.setL {st : Store} (h : WF st) (n : Nat) (ds : List D) : WF (st.set n (.lst (ds.map .d))):=h.set (okO_pure _ _)
/-- what is above is cut off -/
theorem WF.cutA {st : Store} (h : WF st) (st' : Store) : cutS st.length (st ++ st') = some st:=by
 unfold cutS
 rw [List.take_left']
 ·exact if_pos h
 ·rfl
theorem wFrz_d {st : Store} (h : WF st) (x : D) : wFrz st.length (.d x) st = .ok (.d x) st:=by
 unfold wFrz frz
 rw [h.cut]
theorem wCut_d {st : Store} (h : WF st) (x : D) : wCut st.length (.d x) st = .ok (.d x) st:=by
 unfold wCut
 simp only [h.cut]
section
variable {fi : F Itb} {tg : U → G} {tt : F Bool} {fe : F U} {vs : List Nat} {env : VEnv} {st st0 : Store} {us : List U}
theorem lcL_pure {k : Nat} {env0 : VEnv} (P : U → Bool) (q : U → D) (hk : k = st.length) (hw : WF st) : ∀ (us : List U) (acc : List D),acc.length + us.length ≤ sizeLine →
  (∀ u ∈ us,∀ st' : Store,WF st' → ∃ env1,tg u env0 st' = .ok env1 .nx st' ∧ tt env1 st' = .ok (P u) st' ∧ (P u = true → fe env1 st' = .ok (.d (q u)) st')) →
  lcL k tg tt fe env0 us (st ++ [.lst (acc.map .d)]) = .ok () (st ++ [.lst ((acc ++ (us.filter P).map q).map .d)])
 | [],acc,_,_=>by simp [lcL]
 | u :: us,acc,hl,h=>by
  obtain ⟨env1,h1,h2,h3⟩:=h u (List.mem_cons_self ..) _ (hw.pushL acc)
  unfold lcL lcStep
  rw [h1]
  simp only
  rw [h2]
  rw [List.length_cons] at hl
  cases e : P u with
  | false =>
   simp only
   have:=lcL_pure (env0:=env0) P q hk hw us acc (by omega) (fun w hw=>h w (List.mem_cons_of_mem _ hw))
   rw [this,List.filter_cons_of_neg (by rw [e]; exact Bool.false_ne_true)]
  | true =>
   simp only
   rw [h3 e]
   subst hk
   simp only [List.getElem?_append_right (Nat.le_refl _),Nat.sub_self,List.getElem?_cons_zero]
   rw [if_pos (by rw [List.length_map]; omega)]
   simp only
   have hs : (st ++ [O.lst (acc.map .d)]).set st.length (.lst (acc.map .d ++ [.d (q u)])) = st ++ [.lst ((acc ++ [q u]).map .d)]:=by
    rw [List.set_append_right _ _ (Nat.le_refl _),Nat.sub_self,List.set_cons_zero,List.map_append,List.map_singleton]
   rw [hs,lcL_pure (env0:=env0) P q rfl hw us (acc ++ [q u]) (by rw [List.length_append,List.length_singleton]; omega) (fun w hw=>h w (List.mem_cons_of_mem _ hw)),
    List.filter_cons_of_pos e,List.map_cons,List.append_assoc]
   rfl
theorem fLc_pure (P : U → Bool) (q : U → D) (hw : WF st) (hi : fi env st = .ok (.lst us) st) (hl : us.length ≤ sizeLine)
  (h : ∀ u ∈ us,∀ st' : Store,WF st' → ∃ env1,tg u (wipeE env vs) st' = .ok env1 .nx st' ∧ tt env1 st' = .ok (P u) st' ∧ (P u = true → fe env1 st' = .ok (.d (q u)) st')) :
  fLc fi tg tt fe vs env st = .ok (.d (.lst ((us.filter P).map q))) st:=by
 unfold fLc bnd
 rw [hi]
 simp only
 have:=lcL_pure (env0:=wipeE env vs) P q rfl hw us [] (by simpa using hl) h
 rw [show ([] : List D).map U.d = [] from rfl] at this
 rw [this]
 unfold lcEnd
 simp only [List.getElem?_append_right (Nat.le_refl _),Nat.sub_self,List.getElem?_cons_zero,List.nil_append,pureL_map,hw.cutA]
end
section
variable {fi : F Itb} {tg : U → G} {tt : F Bool} {fe : F U} {vs : List Nat} {env : VEnv} {st st0 : Store} {us : List U}
theorem lcC_pure {n k : Nat} {env0 : VEnv} (P : U → Bool) (q : U → D) (hk : k = st.length) (hw : WF st) (hn : st[n]? = some (.lst us)) : ∀ (fuel i : Nat) (acc : List D),i ≤ us.length → us.length - i < fuel → acc.length + us.length ≤ sizeLine + i →
  (∀ u ∈ us,∀ st' : Store,WF st' → ∃ env1,tg u env0 st' = .ok env1 .nx st' ∧ tt env1 st' = .ok (P u) st' ∧ (P u = true → fe env1 st' = .ok (.d (q u)) st')) →
  lcC k tg tt fe env0 n (fun _ u=>some u) fuel i (st ++ [.lst (acc.map .d)]) = .ok () (st ++ [.lst ((acc ++ ((us.drop i).filter P).map q).map .d)])
 | 0,i,acc,_,h1,_,_=>absurd h1 (Nat.not_lt_zero _)
 | fuel + 1,i,acc,hi,hf,hl,h=>by
  have ln:=(List.getElem?_eq_some_iff.mp hn).1
  have e0 : (st ++ [O.lst (acc.map .d)])[n]? = some (.lst us):=by rw [List.getElem?_append_left ln]; exact hn
  unfold lcC
  simp only [e0]
  by_cases hlt : i < us.length
  ·have hu : us[i]? = some us[i]:=List.getElem?_eq_getElem hlt
   obtain ⟨env1,h1,h2,h3⟩:=h _ (List.getElem_mem hlt) _ (hw.pushL acc)
   rw [hu,List.drop_eq_getElem_cons hlt]
   simp only
   unfold lcStep
   rw [h1]
   simp only
   rw [h2]
   cases e : P us[i] with
   | false =>
    simp only
    rw [lcC_pure (env0:=env0) P q hk hw hn fuel (i + 1) acc hlt (by omega) (by omega) h,List.filter_cons_of_neg (by rw [e]; exact Bool.false_ne_true)]
   | true =>
    simp only
    rw [h3 e]
    subst hk
    simp only [List.getElem?_append_right (Nat.le_refl _),Nat.sub_self,List.getElem?_cons_zero]
    rw [if_pos (by rw [List.length_map]; omega)]
    simp only
    have hs : (st ++ [O.lst (acc.map .d)]).set st.length (.lst (acc.map .d ++ [.d (q us[i])])) = st ++ [.lst ((acc ++ [q us[i]]).map .d)]:=by
     rw [List.set_append_right _ _ (Nat.le_refl _),Nat.sub_self,List.set_cons_zero,List.map_append,List.map_singleton]
    rw [hs,lcC_pure (env0:=env0) P q rfl hw hn fuel (i + 1) (acc ++ [q us[i]]) hlt (by omega) (by rw [List.length_append,List.length_singleton]; omega) h,
     List.filter_cons_of_pos e,List.map_cons,List.append_assoc]
    rfl
  ·have : i = us.length:=by omega
   subst this
   rw [List.getElem?_eq_none (Nat.le_refl _),List.drop_length]
   simp
theorem fLc_pureC {n : Nat} (P : U → Bool) (q : U → D) (hw : WF st) (hi : fi env st = .ok (.cell n fun _ u=>some u) st) (hn : st[n]? = some (.lst us)) (hl : us.length ≤ sizeLine)
  (h : ∀ u ∈ us,∀ st' : Store,WF st' → ∃ env1,tg u (wipeE env vs) st' = .ok env1 .nx st' ∧ tt env1 st' = .ok (P u) st' ∧ (P u = true → fe env1 st' = .ok (.d (q u)) st')) :
  fLc fi tg tt fe vs env st = .ok (.d (.lst ((us.filter P).map q))) st:=by
 unfold fLc bnd
 rw [hi]
 simp only [hn]
 have:=lcC_pure (env0:=wipeE env vs) P q rfl hw hn (us.length + 1) 0 [] (Nat.zero_le _) (by omega) (by simpa using hl) h
 rw [show ([] : List D).map U.d = [] from rfl] at this
 rw [this]
 unfold lcEnd
 simp only [List.getElem?_append_right (Nat.le_refl _),Nat.sub_self,List.getElem?_cons_zero,List.nil_append,List.drop_zero,pureL_map,hw.cutA]
end
/-- one turn of a loop -/
noncomputable def turn (tg : U → G) (body : G) (u : U) : G:=fun env st=>match tg u env st with
 | .ok env1 .nx st1=>match body env1 st1 with
  | .ok env2 .ct st2=>.ok env2 .nx st2
  | r=>r
 | _=>.bad
theorem fItN_ok {g : List U → Option Itb} {f : F (List U)} {env : VEnv} {st st1 : Store} {us : List U} {t : Itb} (h : f env st = .ok us st1) (hg : g us = some t) : fItN g f env st = .ok t st1:=by
 unfold fItN bnd
 rw [h]
 show R.of st1 (g us) = _
 rw [hg]
 rfl
theorem sFor_lst {fi : F Itb} {tg : U → G} {body : G} {env : VEnv} {st st1 : Store} {us : List U} (h : fi env st = .ok (.lst us) st1) : sFor fi tg body env st = loopL tg body us env st1:=by
 unfold sFor bndS
 rw [h]
theorem sz0 : (0 ≤ sizeLine) = True:=eq_true (by decide)
theorem szl0 : (0 < sizeLine) = True:=eq_true (by decide)
theorem sz1 : (1 ≤ sizeLine) = True:=eq_true (by decide)
theorem szl1 : (1 < sizeLine) = True:=eq_true (by decide)
theorem sz2 : (2 ≤ sizeLine) = True:=eq_true (by decide)
theorem szl2 : (2 < sizeLine) = True:=eq_true (by decide)
theorem sz3 : (3 ≤ sizeLine) = True:=eq_true (by decide)
theorem szl3 : (3 < sizeLine) = True:=eq_true (by decide)
theorem sz4 : (4 ≤ sizeLine) = True:=eq_true (by decide)
theorem szl4 : (4 < sizeLine) = True:=eq_true (by decide)
theorem sz5 : (5 ≤ sizeLine) = True:=eq_true (by decide)
theorem szl5 : (5 < sizeLine) = True:=eq_true (by decide)
theorem sz6 : (6 ≤ sizeLine) = True:=eq_true (by decide)
theorem szl6 : (6 < sizeLine) = True:=eq_true (by decide)
theorem sz7 : (7 ≤ sizeLine) = True:=eq_true (by decide)
theorem szl7 : (7 < sizeLine) = True:=eq_true (by decide)
theorem sz8 : (8 ≤ sizeLine) = True:=eq_true (by decide)
theorem szl8 : (8 < sizeLine) = True:=eq_true (by decide)
theorem sz9 : (9 ≤ sizeLine) = True:=eq_true (by decide)
theorem szl9 : (9 < sizeLine) = True:=eq_true (by decide)
theorem sz10 : (10 ≤ sizeLine) = True:=eq_true (by decide)
theorem szl10 : (10 < sizeLine) = True:=eq_true (by decide)
theorem sz11 : (11 ≤ sizeLine) = True:=eq_true (by decide)
theorem szl11 : (11 < sizeLine) = True:=eq_true (by decide)
theorem sz12 : (12 ≤ sizeLine) = True:=eq_true (by decide)
theorem szl12 : (12 < sizeLine) = True:=eq_true (by decide)
theorem sz13 : (13 ≤ sizeLine) = True:=eq_true (by decide)
theorem szl13 : (13 < sizeLine) = True:=eq_true (by decide)
theorem sz14 : (14 ≤ sizeLine) = True:=eq_true (by decide)
theorem szl14 : (14 < sizeLine) = True:=eq_true (by decide)
theorem sz15 : (15 ≤ sizeLine) = True:=eq_true (by decide)
theorem szl15 : (15 < sizeLine) = True:=eq_true (by decide)
end VL
namespace VL
open PySem PySem.Spec PyProof.Rows L2
end VL
namespace VL
open PySem PySem.Spec PyProof.Rows L2
variable {K : PySem.W.Frag} {st : Store}
theorem isi_str : PySem.W.kitOne K (.type "str") (.type "str") = some true:=rfl
theorem blsU_map {α : Type} (l : List α) (f : α → Bool) : blsU (l.map fun x=>U.d (.bl (f x))) = some (l.map f):=by
 induction l with
 | nil=>rfl
 | cons x l ih=>unfold blsU at ih ⊢; rw [List.map_cons,allM]; rw [ih]; rfl
theorem itV_str (st : Store) (s : Str) : itV st (.d (.str s)) = some (.lst (s.cps.toList.map fun c=>.d (.str ⟨#[c]⟩))):=rfl
theorem eqv_int (a b : Int) : PyData.eqv (.int a) (.int b) = (a == b):=rfl
theorem eqv_str (a b : Str) : PyData.eqv (.str a) (.str b) = (a == b):=rfl
theorem w640 {n : Nat} (h : n ≤ 640) : n ≤ sizeLine:=Nat.le_trans h (by decide)
theorem at_1 {α : Type} (x y : α) (r : List α) : atI (x :: y :: r) 1 = some y:=by
 unfold atI ixN; simp only [List.length_cons]; rw [if_pos (by decide),if_pos (by omega)]; rfl
theorem at_0 {α : Type} (x : α) (r : List α) : atI (x :: r) 0 = some x:=by unfold atI ixN; simp
theorem at_2 {α : Type} (x y z : α) (r : List α) : atI (x :: y :: z :: r) 2 = some z:=by
 unfold atI ixN; simp only [List.length_cons]; rw [if_pos (by decide),if_pos (by omega)]; rfl
theorem at_3 {α : Type} (x y z w : α) (r : List α) : atI (x :: y :: z :: w :: r) 3 = some w:=by
 unfold atI ixN; simp only [List.length_cons]; rw [if_pos (by decide),if_pos (by omega)]; rfl
theorem at_4 {α : Type} (x y z w v : α) (r : List α) : atI (x :: y :: z :: w :: v :: r) 4 = some v:=by
 unfold atI ixN; simp only [List.length_cons]; rw [if_pos (by decide),if_pos (by omega)]; rfl
theorem allM_dd {st : Store} (k : Nat) (ds : List D) : allM (deep k st) (ds.map U.d) = some ds:=allM_d ds
theorem asP_d (st : Store) (x : D) : asP st (.d x) = toP x:=rfl
theorem asP_ref {st : Store} {i : Nat} {ds : List D} (h : st[i]? = some (.lst (ds.map U.d))) : asP st (.ref i) = (toPs ds).map .list:=by
 unfold asP deep
 simp only [h,allM_dd]
 rfl
theorem wCut_len {n : Nat} {st : Store} (h : WF st) (hl : st.length = n) (x : D) : wCut n (.d x) st = .ok (.d x) st:=by
 subst hl; exact wCut_d h x
theorem map_snoc (xs : List D) (x : D) : xs.map U.d ++ [.d x] = (xs ++ [x]).map U.d:=by rw [List.map_append]; rfl
theorem set_at {st : Store} {r : Nat} {o o' : O} (h : st[r]? = some o) : (st.set r o')[r]? = some o':=List.getElem?_set_self (List.getElem?_eq_some_iff.mp h).1
theorem app_at {st : Store} {r : Nat} {o o' : O} (h : st[r]? = some o) : (st ++ [o'])[r]? = some o:=by
 rw [List.getElem?_append_left (List.getElem?_eq_some_iff.mp h).1]; exact h
theorem new_at {st : Store} {o : O} : (st ++ [o])[st.length]? = some o:=by
 rw [List.getElem?_append_right (Nat.le_refl _),Nat.sub_self]; rfl
theorem take_same {st st' : Store} {k : Nat} (hk : k = st.length) (h : ∀ n,n < k → st'[n]? = st[n]?) : st'.take k = st:=by
 apply List.ext_getElem?
 intro n
 by_cases hn : n < k
 ·rw [List.getElem?_take_of_lt hn]; exact h n hn
 ·rw [List.getElem?_eq_none (by rw [List.length_take]; omega),List.getElem?_eq_none (by omega)]
theorem cut_same {st st' : Store} (w : WF st) (h : ∀ n,n < st.length → st'[n]? = st[n]?) : cutS st.length st' = some st:=by
 unfold cutS
 rw [take_same rfl h]
 exact if_pos w
theorem allM_frz {st : Store} (k f : Nat) (ds : List D) : allM (frz st k f) (ds.map U.d) = some ds:=by
 induction ds with
 | nil=>rfl
 | cons d ds ih =>
  rw [List.map_cons,allM,ih]
  cases f <;> rfl
theorem wKeep_of {st st' : Store} (w : WF st) {n : Nat} {ds : List D} (h : st'[n]? = some (.lst (ds.map U.d))) (hn : st.length ≤ n) (hf : ∀ m,m < st.length → st'[m]? = st[m]?) : wKeep st.length (.ref n) st' = .ok (.ref st.length) (st ++ [.lst (ds.map U.d)]):=by
 unfold wKeep
 simp only [h,okO_pure,cut_same w hf,if_true]
 rw [if_neg (by omega)]
noncomputable def Bag (st : Store) (b : Nat) : Prop:=∃ n x : Int,st[b]? = some (.lst [.d (.int n),.d (.int x)])
structure Fb (st st' : Store) (b : Nat) : Prop where
 wf : WF st'
 len : st'.length = st.length
 bag : Bag st' b
 fr : ∀ n,n ≠ b → st'[n]? = st[n]?
theorem Fb.trans {s0 s1 s2 : Store} {b : Nat} (x : Fb s0 s1 b) (y : Fb s1 s2 b) : Fb s0 s2 b:=⟨y.wf,y.len.trans x.len,y.bag,fun n h=>(y.fr n h).trans (x.fr n h)⟩
theorem Fb.refl {b : Nat} (h : WF st) (hb : Bag st b) : Fb st st b:=⟨h,rfl,hb,fun _ _=>rfl⟩
theorem ixn0 : ixN 2 0 = some 0:=rfl
theorem ixn1 : ixN 2 1 = some 1:=rfl
theorem fb_set {b : Nat} (h : WF st) {o : O} (hb : st[b]? = some o) (n x : Int) : Fb st (st.set b (.lst [.d (.int n),.d (.int x)])) b :=
 ⟨h.setL b [.int n,.int x],List.length_set,⟨n,x,set_at hb⟩,fun m hm=>List.getElem?_set_ne (Ne.symm hm)⟩
theorem at_lt {α : Type} {xs : List α} {d : Nat} (h : d < xs.length) : atI xs (d : Int) = some xs[d]:=by
 unfold atI ixN
 rw [if_pos (by omega),if_pos (by omega)]
 simp [List.getElem?_eq_getElem h]
theorem pure_ints (ns : List Int) : pureL (ns.map fun i=>U.d (.int i)) = some (ns.map .int):=by
 have:=pureL_map (ns.map D.int)
 rw [List.map_map] at this
 exact this
noncomputable def sD (ss : List Str) : List D:=ss.map D.str
noncomputable def sU (ss : List Str) : List U:=(sD ss).map U.d
theorem toPs_strs (ss : List Str) : toPs (sD ss) = some (ss.map .str):=by
 induction ss with
 | nil=>rfl
 | cons s ss ih =>
  show (match toP (.str s),toPs (sD ss) with
   | some p,some ps=>some (p :: ps)
   | _,_=>none) = _
  rw [ih]
  rfl
theorem lay_strs (ss : List Str) (h : ∀ s ∈ ss,PyData.strOk s = true) : PyData.canLayAll0 (ss.map .str) = true:=by
 induction ss with
 | nil=>rfl
 | cons s ss ih=>simp [PyData.canLayAll0,PyData.canLay0,h s (List.mem_cons_self ..),ih fun x hx=>h x (List.mem_cons_of_mem _ hx)]
theorem depth_strs (ss : List Str) : PyData.depthAll (ss.map .str) ≤ 1:=by
 induction ss with
 | nil=>simp [PyData.depthAll]
 | cons s ss ih=>simp [PyData.depthAll,PyData.depth]; omega
theorem shaped_strs (ss : List Str) (h : ∀ s ∈ ss,PyData.strOk s = true) : SeqAt.shaped (.list (ss.map .str)) = true:=by
 unfold SeqAt.shaped
 have:=depth_strs ss
 simp [PyData.canLay0,PyData.depth,lay_strs ss h]
 omega
theorem shaped_nil : SeqAt.shaped (.list []) = true:=shaped_strs [] (fun _ h=>by cases h)
theorem eqv_nil (qs : List PyData) : PyData.eqv (.list qs) (.list []) = qs.isEmpty:=by
 cases qs <;> simp [PyData.eqv,PyData.eqvAll]
theorem eqB_empty {i : Nat} {ss : List Str} (hi : st[i]? = some (.lst (sU ss))) (h : ∀ s ∈ ss,PyData.strOk s = true) : eqB st (.ref i) (.d (.lst [])) = some ss.isEmpty:=by
 unfold eqB
 simp only [asP_ref (ds:=sD ss) hi,toPs_strs,Option.map_some,asP_d]
 rw [show toP (.lst []) = some (.list []) from rfl]
 simp only [shaped_strs ss h,shaped_nil,and_self,if_true,eqv_nil]
 cases ss <;> rfl
theorem sU_len (ss : List Str) : (sU ss).length = ss.length:=by unfold sU sD; rw [List.length_map,List.length_map]
theorem sU_get {ss : List Str} {d : Nat} (h : d < ss.length) : (sU ss)[d]? = some (.d (.str ss[d])):=by
 unfold sU sD; rw [List.getElem?_map,List.getElem?_map,List.getElem?_eq_getElem h]; rfl
theorem er_map {α β : Type} (f : α → β) : ∀ (l : List α) (d : Nat),(l.map f).eraseIdx d = (l.eraseIdx d).map f
 | [],_=>rfl
 | x :: l,0=>rfl
 | x :: l,d + 1=>by rw [List.map_cons,List.eraseIdx_cons_succ,er_map f l d]; rfl
theorem er_perm {α : Type} : ∀ (l : List α) (d : Nat) (h : d < l.length),(l[d] :: l.eraseIdx d).Perm l
 | x :: l,0,_=>List.Perm.refl _
 | x :: l,d + 1,h=>by
  rw [List.eraseIdx_cons_succ,List.getElem_cons_succ]
  exact (List.Perm.swap _ _ _).trans ((er_perm l d (Nat.lt_of_succ_lt_succ h)).cons x)
theorem sU_erase (ss : List Str) (d : Nat) : (sU ss).eraseIdx d = sU (ss.eraseIdx d):=by unfold sU sD; rw [er_map,er_map]
theorem sU_snoc (ss : List Str) (s : Str) : sU ss ++ [.d (.str s)] = sU (ss ++ [s]):=by unfold sU sD; rw [List.map_append,List.map_append]; rfl
theorem seq_nat {d n : Nat} (h : d < n) : seqIndex? (d : Int) n = some d:=by
 have h1 : ¬ ((d : Int) < 0):=by omega
 simp only [seqIndex?,if_neg h1]
 rw [if_pos (by simp; omega)]
 simp
theorem cut_fb {st st' : Store} {b : Nat} (h : WF st) (hB : Bag st' b) (hb : b < st.length) (hl : st.length ≤ st'.length) (hf : ∀ n,n < st.length → n ≠ b → st'[n]? = st[n]?) : cutS st.length st' = some (st'.take st.length) ∧ Fb st (st'.take st.length) b:=by
 have hall : (st'.take st.length).all (okO st.length) = true:=by
  refine List.all_eq_true.mpr fun o ho=>?_
  obtain ⟨n,hn,e⟩:=List.mem_iff_getElem.mp ho
  rw [List.length_take] at hn
  have hn' : n < st.length:=by omega
  rw [List.getElem_take] at e
  by_cases hnb : n = b
  ·subst hnb
   obtain ⟨p,x,q⟩:=hB
   rw [List.getElem?_eq_getElem (by omega)] at q
   have:=Option.some.inj q
   rw [← e,this]
   rfl
  ·have q:=hf n hn' hnb
   rw [List.getElem?_eq_getElem (by omega),List.getElem?_eq_getElem hn'] at q
   have:=Option.some.inj q
   rw [← e,this]
   exact List.all_eq_true.mp h _ (List.getElem_mem hn')
 have hlen : (st'.take st.length).length = st.length:=by rw [List.length_take]; omega
 refine ⟨if_pos hall,⟨?_,hlen,?_,fun n hn=>?_⟩⟩
 ·show wfB _ = true
  unfold wfB
  rw [hlen]; exact hall
 ·obtain ⟨p,x,q⟩:=hB
  exact ⟨p,x,by rw [List.getElem?_take_of_lt hb]; exact q⟩
 ·by_cases hn' : n < st.length
  ·rw [List.getElem?_take_of_lt hn']; exact hf n hn' hn
  ·rw [List.getElem?_eq_none (by omega),List.getElem?_eq_none (by omega)]
theorem Bag.lt {b : Nat} (h : Bag st b) : b < st.length:=by
 obtain ⟨n,x,q⟩:=h
 exact (List.getElem?_eq_some_iff.mp q).1
theorem frz_lst {st : Store} {k n f : Nat} {ds : List D} (hn : ¬ n < k) (h : st[n]? = some (.lst (ds.map U.d))) : frz st k (f + 1) (.ref n) = some (.lst ds):=by
 unfold frz
 rw [if_neg hn]
 simp only [h,allM_frz,Option.map_some]
theorem Bag.set {b i : Nat} (h : Bag st b) (hb : b ≠ i) (o : O) : Bag (st.set i o) b:=by
 obtain ⟨n,x,q⟩:=h
 exact ⟨n,x,by rw [List.getElem?_set_ne hb.symm]; exact q⟩
theorem rng_ok {w : Nat} (h : w < 1000) : -(2 ^ 62) ≤ ((w : Nat) : Int) ∧ ((w : Nat) : Int) < 2 ^ 62:=by
 have e : (2 : Int) ^ 62 = 4611686018427387904:=by decide
 rw [e]; omega
theorem eqv_tup (a b : List PyData) : PyData.eqv (.tuple a) (.tuple b) = PyData.eqvAll a b:=by simp [PyData.eqv]
theorem eqv_cons (a b : List PyData) (x y : PyData) : PyData.eqvAll (x :: a) (y :: b) = (PyData.eqv x y && PyData.eqvAll a b):=by simp [PyData.eqvAll]
theorem toP_strs (ss : List Str) : toP (.lst (sD ss)) = some (.list (ss.map .str)):=by
 show (toPs (sD ss)).map PyData.list = _
 rw [toPs_strs]; rfl
theorem itR_eq {w : Nat} (h : w < 1000) : itR [.d (.int ((w : Nat) : Int))] = some (.lst ((List.range w).map fun i=>.d (.int (0 + (i : Nat))))):=by
 have hr:=rng_ok h
 unfold itR
 simp only [hr,and_self,if_true,Int.toNat_natCast]
theorem Bag.push {b : Nat} (h : Bag st b) (o : O) : Bag (st ++ [o]) b:=by
 obtain ⟨n,x,q⟩:=h
 exact ⟨n,x,app_at q⟩
theorem szb {n : Nat} (h : n ≤ 300) : n ≤ sizeLine:=Nat.le_trans h (by decide)
theorem cutTake {ss : List Str} {d : Nat} : cutG (sD ss) none (some (d : Int)) = sD (ss.take d):=by
 unfold cutG HT.sIx sD
 simp
 rw [if_neg (by omega)]
 omega
theorem join_nil : Txt.join ("\n" : Str) [] = ("" : Str):=by decide +kernel
theorem join_len : ∀ (parts : List Str) (k : Nat),(∀ p ∈ parts,p.length ≤ 60) → parts.length ≤ k → (parts.map fun x=>x.length).sum + parts.length * ("\n" : Str).length ≤ 61 * k:=fun parts=>by
 have h1 : ("\n" : Str).length = 1:=by decide +kernel
 rw [h1]
 induction parts with
 | nil=>intro k _ _; simp
 | cons p ps ih =>
  intro k h hk
  rw [List.length_cons] at hk
  have:=ih (k - 1) (fun q hq=>h q (List.mem_cons_of_mem _ hq)) (by omega)
  have:=h p (List.mem_cons_self ..)
  rw [List.map_cons,List.sum_cons,List.length_cons]
  omega
theorem cut_len (s : Str) (lo hi : Option Int) : (L2.cutS s lo hi).length ≤ s.length:=by
 unfold L2.cutS Str.length
 simp [List.length_take,List.length_drop]
 omega
noncomputable def AllR {α β : Type} (P : α → β → Prop) : List α → List β → Prop
 | [],[]=>True
 | a :: as,b :: bs=>P a b ∧ AllR P as bs
 | _,_=>False
theorem AllR.length {α β : Type} {P : α → β → Prop} : ∀ {as : List α} {bs : List β},AllR P as bs → bs.length = as.length
 | [],[],_=>rfl
 | a :: as,b :: bs,h=>by rw [List.length_cons,List.length_cons,AllR.length h.2]
 | [],_ :: _,h=>h.elim
 | _ :: _,[],h=>h.elim
theorem AllR.right {α β : Type} {P : α → β → Prop} {Q : β → Prop} (hq : ∀ a b,P a b → Q b) : ∀ {as : List α} {bs : List β},AllR P as bs → ∀ b ∈ bs,Q b
 | [],[],_,b,hb=>by cases hb
 | a :: as,b :: bs,h,c,hc=>by
  rcases List.mem_cons.mp hc with rfl | hc
  ·exact hq _ _ h.1
  ·exact AllR.right hq h.2 c hc
 | [],_ :: _,h,_,_=>h.elim
 | _ :: _,[],h,_,_=>h.elim
section
variable {fi : F Itb} {tg : U → G} {tt : F Bool} {fe : F U} {vs : List Nat} {env env0 : VEnv} {us : List U}
theorem lcL_fb {b : Nat} (Pd : U → D → Prop) : ∀ (us : List U) (acc : List D) (st : Store),WF st → Bag st b → acc.length + us.length ≤ sizeLine →
  (∀ u ∈ us,∀ st' : Store,WF st' → Bag st' b → ∃ env1 x st'',tg u env0 st' = .ok env1 .nx st' ∧ tt env1 st' = .ok true st' ∧ fe env1 st' = .ok (.d x) st'' ∧ Pd u x ∧ Fb st' st'' b) →
  ∃ ds st2,lcL st.length tg tt fe env0 us (st ++ [.lst (acc.map .d)]) = .ok () (st2 ++ [.lst ((acc ++ ds).map .d)]) ∧ Fb st st2 b ∧ AllR Pd us ds
 | [],acc,st,hw,hb,_,_=>⟨[],st,by simp [lcL],Fb.refl hw hb,trivial⟩
 | u :: us,acc,st,hw,hb,hl,h=>by
  rw [List.length_cons] at hl
  have hb1 : Bag (st ++ [.lst (acc.map .d)]) b:=by
   obtain ⟨n,x,q⟩:=hb
   exact ⟨n,x,app_at q⟩
  obtain ⟨env1,x,st'',h1,h2,h3,hp,f⟩:=h u (List.mem_cons_self ..) _ (hw.pushL acc) hb1
  have hlen : st''.length = st.length + 1:=by rw [f.len,List.length_append,List.length_singleton]
  obtain ⟨c1,c2⟩:=cut_fb hw f.bag hb.lt (by omega) fun n hn hnb=>by rw [f.fr n hnb,List.getElem?_append_left hn]
  have hk : st''[st.length]? = some (.lst (acc.map U.d)):=by
   rw [f.fr _ (by have:=hb.lt; omega)]; exact new_at
  have hst : st''.set st.length (.lst (acc.map U.d ++ [.d x])) = st''.take st.length ++ [.lst ((acc ++ [x]).map .d)]:=by
   have e : st'' = st''.take st.length ++ [.lst (acc.map U.d)]:=by
    apply List.ext_getElem?
    intro n
    by_cases hn : n < st.length
    ·rw [List.getElem?_append_left (by rw [List.length_take]; omega),List.getElem?_take_of_lt hn]
    ·by_cases hn2 : n = st.length
     ·subst hn2
      rw [hk,List.getElem?_append_right (by rw [List.length_take]; omega),List.length_take,Nat.min_eq_left (by omega),Nat.sub_self]; rfl
     ·rw [List.getElem?_eq_none (by omega),List.getElem?_eq_none (by rw [List.length_append,List.length_take,List.length_singleton]; omega)]
   have hl2 : (st''.take st.length).length = st.length:=by rw [List.length_take]; omega
   rw [e,List.set_append_right _ _ (by omega),hl2,Nat.sub_self,List.set_cons_zero,List.map_append,List.map_singleton,List.take_left' hl2]
  obtain ⟨ds,st2,e2,f2,r2⟩:=lcL_fb Pd us (acc ++ [x]) (st''.take st.length) c2.wf c2.bag (by rw [List.length_append,List.length_singleton]; omega) (fun w hw=>h w (List.mem_cons_of_mem _ hw))
  have hl2 : (st''.take st.length).length = st.length:=by rw [List.length_take]; omega
  rw [hl2] at e2
  refine ⟨x :: ds,st2,?_,c2.trans f2,hp,r2⟩
  unfold lcL lcStep
  rw [h1]
  simp only
  rw [h2]
  simp only
  rw [h3]
  simp only [hk]
  rw [if_pos (by rw [List.length_map]; omega)]
  simp only
  rw [hst,e2,List.append_assoc]
  rfl
/-- [.. for .. in ..],each part of which draws -/
theorem fLc_fb {b : Nat} {st0 : Store} (Pd : U → D → Prop) (hw : WF st) (hb : Bag st b) (hi : fi env st0 = .ok (.lst us) st) (hl : us.length ≤ sizeLine)
  (h : ∀ u ∈ us,∀ st' : Store,WF st' → Bag st' b → ∃ env1 x st'',tg u (wipeE env vs) st' = .ok env1 .nx st' ∧ tt env1 st' = .ok true st' ∧ fe env1 st' = .ok (.d x) st'' ∧ Pd u x ∧ Fb st' st'' b) :
  ∃ ds st2,fLc fi tg tt fe vs env st0 = .ok (.d (.lst ds)) st2 ∧ Fb st st2 b ∧ AllR Pd us ds:=by
 obtain ⟨ds,st2,e,f,r⟩:=lcL_fb (env0:=wipeE env vs) Pd us [] st hw hb (by simpa using hl) h
 refine ⟨ds,st2,?_,f,r⟩
 unfold fLc bnd
 rw [hi]
 simp only
 rw [show ([] : List D).map U.d = [] from rfl] at e
 rw [e]
 unfold lcEnd
 have hl2:=f.len
 rw [← hl2]
 simp only [List.getElem?_append_right (Nat.le_refl _),Nat.sub_self,List.getElem?_cons_zero,List.nil_append,pureL_map,f.wf.cutA]
end
theorem f2_ok {g : P2} {fa fb : F U} {env : VEnv} {st st1 st2 : Store} {x y : U} (ha : fa env st = .ok x st1) (hb : fb env st1 = .ok y st2) : f2 g fa fb env st = R.of st2 (g x y st2):=by
 unfold f2 bnd
 rw [ha]
 simp only [hb]
end VL
namespace VL
open PySem PySem.Spec PyProof.Rows
section
open PySem.W PySem.Calls PySem.HandSPX Builtin Builtin.ObjectAttr
/-- a class right below a built-in error class,as the frag has it -/
structure Below (K : Frag) (C : Addr) (cd : ClassData) (B : String) (bm : List Value) : Prop where
 sf : StoreFacts B bm "object.__setattr__" "object"
 mro : cd.mro = .ref C :: bm
 cin : clsIn K C = some cd
 hd : cd.hasDict = true
variable {prog : Program} {w : World} {A : Around} {E : Value → Shared → Prop} {R : Result → Shared → Prop} {hp : Heap} {g : Array GenState} {d : Drawn} {t : Nat} {os : OsState}
theorem Below.obj {K : Frag} {C : Addr} {cd : ClassData} {B : String} {bm : List Value} (b : Below K C cd B bm) : mroIn K C (.type "object") = some true:=by
 have q : cd.mro.contains (.type "object") = true:=by
  rw [b.mro,List.contains_cons,b.sf.hasOwner,Bool.or_true]
 have e : cd.mro.isEmpty = false:=by rw [b.mro]; rfl
 unfold mroIn
 rw [b.cin,Option.bind_some,if_neg (by rw [e]; exact Bool.false_ne_true),q]
end
open L2
/-- what the written part says of an own error class -/
structure OexB (K : PySem.W.Frag) (C : Addr) : Prop where
 cls : ∃ B nw ini bm nm q N bs sn sub ab col dd k0 k1 k2 k3 k5,PySem.ExcBaseFacts B nw ini bm ∧ PySem.StoreFacts B bm "object.__setattr__" "object" ∧ K.lookup C = some (excClassObj nm q C N bs bm true sn sub ab col dd k0 k1 k2 k3 k5 nw)
 sa : PySem.W.findIn K (.ref C) "__setattr__" = some (some (.builtin "object.__setattr__"))
 exC : PySem.W.subIn K (.ref C) (.type "BaseException") = some true
 tyC : PySem.W.typeIn K (.ref C) = some (.type "type")
 kC : PySem.W.keepIn K (.ref C) = true
theorem OexB.below {K : PySem.W.Frag} {C : Addr} (T : OexB K C) : ∃ cd B bm,Below K C cd B bm:=by
 obtain ⟨B,nw,ini,bm,nm,q,N,bs,sn,sub,ab,col,dd,k0,k1,k2,k3,k5,eb,sf,hC⟩:=T.cls
 exact ⟨_,B,bm,sf,rfl,by unfold PySem.W.clsIn; rw [hC] <;> rfl,rfl⟩
section
variable {X : Cx} {pins : List (Addr × Obj)} {σ : L2.St} {H : Hp} {s : Shared} {a C dx : Addr} {f : Str} {y : V} {u : Value} {fs : List (Str × V)} {Q : Unit → Shared → Prop} {E : Value → Shared → Prop} {A : Around}
end
section
variable {X : Cx} {o e : Expr} {es : List Expr} {to te : TE} {ta : TA} {f : Str} {p p' pos : Pos}
end
end VL
namespace VL
open PySem PySem.Spec PyProof.Rows L2
section
variable {P : Program} {w : World} {K : PySem.W.Frag} {mg : Str → Option Value} {base : Heap}
end
theorem RpF.app {K : PySem.W.Frag} {m : List Addr} {H : Hp} : ∀ {xs ys : List (Str × D)} {vs ws : List (Str × V)},RpF K m H xs vs → RpF K m H ys ws → RpF K m H (xs ++ ys) (vs ++ ws)
 | [],_,_,_,h,k=>by rw [show _ = [] from h]; exact k
 | (n,d) :: xs,_,_,_,⟨v,r,e,h1,h2⟩,k=>by subst e; exact ⟨v,_,rfl,h1,RpF.app h2 k⟩
theorem RpF.zip {K : PySem.W.Frag} {m : List Addr} {H : Hp} : ∀ {ns : List Str} {ds : List D} {vs : List V},RpDs K m H ds vs → RpF K m H (ns.zip ds) (ns.zip vs)
 | [],_,_,_=>rfl
 | n :: ns,[],_,h=>by rw [show _ = [] from h]; rfl
 | n :: ns,d :: ds,_,⟨v,r,e,h1,h2⟩=>by subst e; exact ⟨v,_,rfl,h1,RpF.zip h2⟩
section
variable {X : Cx} {W : WX} {e : Expr} {es : List Expr} {fa : F (List U)} {C : Addr} {ns : List Str} {x : Str} {p pos pos' : Pos}
end
section
variable {X : Cx} {W : WX} {x n : Str} {c : Value} {body suite : List Stmt} {b₀ : Stmt} {np pos pos' : Pos} {gb gs : G}
end
section
variable {X : Cx} {W : WX} {x n A1 A2 A3 n1 n2 : Str} {C a1 a2 a3 : Addr} {tn : String} {i : Nat} {body : List Stmt} {gb : G} {z : Str} {k1 k2 k3 : Nat} {np p1 p2 p3 p4 p5 p6 p7 p8 p9 p10 p11 p12 p13 p14 p15 p16 p17 p18 p19 p20 p21 p22 pos pos' : Pos}
end
end VL
namespace VL
open PySem PySem.Spec PyProof.Rows L2
/-- a list's items,data or cell -/
noncomputable def lstG (st : Store) : U → Option (List U)
 | .d (.lst ds)=>some (ds.map .d)
 | .ref n=>match st[n]? with
  | some (.lst us)=>some us
  | _=>none
 | _=>none
theorem lstG_rp {K : PySem.W.Frag} {m : List Addr} {H : Hp} {st : Store} (r : Rep K m st H) {u : U} {v : V} {us : List U} (h : RpU K m H u v) (e : lstG st u = some us) : ∃ a vs,v = .ref a ∧ H a = some (.lst vs) ∧ RpUs K m H us vs:=by
 cases u with
 | ref n =>
  obtain ⟨a,ha,rfl⟩:=h
  simp only [lstG] at e
  split at e
  ·rename_i zs hs
   cases e
   obtain ⟨ho,h1,vs,rfl,h2⟩:=r.cell n _ a hs ha
   exact ⟨a,vs,rfl,h1,h2⟩
  ·cases e
 | d x =>
  cases x with
  | lst ds =>
   obtain ⟨a,vs,rfl,t,q⟩:=h
   cases e
   exact ⟨a,vs,rfl,t.2,RpUs.ofD q⟩
  | _=>cases e
noncomputable abbrev P2S:=U → U → Store → R U
noncomputable def f2s (g : P2S) (fa fb : F U) : F U:=bnd fa fun a=>bnd fb fun b=>fun _ st=>g a b st
noncomputable def vAddC : P2S:=fun a b st=>match lstG st a,lstG st b with
 | some us,some ws=>if us.length + ws.length ≤ sizeLine then .ok (.ref st.length) (st ++ [.lst (us ++ ws)]) else .bad
 | _,_=>.bad
noncomputable def rGS (K : PySem.W.Frag) (g : P2S) : R2:=fun x y H Q=>∃ m st a b,Rep K m st H ∧ RpU K m H a x ∧ RpU K m H b y ∧ PU K m H Q (fun _ _ _=>False) (g a b st)
theorem PO'.noex {α β : Type} {K : PySem.W.Frag} {m : List Addr} {H : Hp} {rel : List Addr → Hp → α → β → Prop} {Q : β → Hp → Prop} {E : XK} {r : R α} (h : PO' K m H rel Q E r) (hn : ∀ c fs st,r ≠ .ex c fs st) : PO' K m H rel Q (fun _ _ _=>False) r:=by
 cases r with
 | ok a st=>exact h
 | ex c fs st=>exact (hn c fs st rfl).elim
 | bad=>exact h
section
variable {X : Cx} {W : WX} {a b : Expr} {fa fb : F U} {pos : Pos} {g : P2S}
theorem d_opS {op : Operator} (ho : OpR X (binaryOp op) (rGS X.K g)) (hn : ∀ a b st c fs st',g a b st ≠ .ex c fs st') (ha : DE X W a fa) (hb : DE X W b fb) : DE X W (.BinOp a op b pos) (f2s g fa fb) :=
 ⟨PE.imp (pe_op ho ha.pe hb.pe) fun σ H Q ⟨m,env,st,r,re,p⟩=>tF_step r re p fun a st1 v m1 H1 h1 r1 re1 e1 p1=>tF_step r1 re1 p1 fun b st2 w m2 H2 h2 r2 re2 e2 p2 =>
  ⟨m2,st2,a,b,r2,h1.ext e2,h2,p2.noex fun c fs st'=>hn a b st2 c fs st'⟩⟩
theorem vAddC_no : ∀ a b st c fs st',vAddC a b st ≠ .ex c fs st':=fun a b st c fs st'=>by
 unfold vAddC
 split
 ·split <;> intro z <;> cases z
 ·intro z; cases z
theorem op_addC {X : Cx} : OpR X (binaryOp .Add) (rGS X.K vAddC):=by
 intro pins s σ H x y v u Q I rx ry h
 obtain ⟨m,st,a,b,r,ha,hb,p⟩:=h
 unfold vAddC at p
 split at p
 ·rename_i us ws e1 e2
  split at p
  ·rename_i hz
   obtain ⟨p1,vs,rfl,t1,q1⟩:=lstG_rp r ha e1
   obtain ⟨p2,zs,rfl,t2,q2⟩:=lstG_rp r hb e2
   have l1:=q1.length
   have l2:=q2.length
   refine op_cat pins s σ H _ _ v u Q I rx ry ⟨p1,p2,vs,zs,rfl,rfl,t1,t2,by omega,fun q hq=>?_⟩
   obtain ⟨g1,g2⟩:=push_lst r hq (q1.append q2)
   exact p _ _ _ g1 g2 (ext_push r hq _)
  ·exact p.elim
 ·exact p.elim
end
end VL
namespace VL
open PySem PySem.Spec PyProof.Rows L2 GenW
section
variable {X : Cx} {pos : Pos}
/-- what is done with an exception that leaves the loop's code -/
noncomputable abbrev leaves (env : Env) (x : Value) : Sem PySem.Fin:=(do noteFrame x env; theTreesLotGoes x : Sem Unit).wrap (fun _=>.raise x) .raise id id
end
end VL
namespace VL
open PySem PySem.Spec PyProof.Rows L2 GenW
inductive RY where
 | ok (env : VEnv) (f : Fl) (st : Store) (ys : List U)
 | bad
noncomputable abbrev Y:=VEnv → Store → List U → RY
noncomputable def PY (K : PySem.W.Frag) (m : List Addr) (H : Hp) (D : GEnds) : RY → Prop
 | .ok env .nx st' ys=>∀ σ' m' H' zs,RpEnv K m' H' env σ' → Rep K m' st' H' → Ext m H m' H' → RpUs K m' H' ys zs → D.nx zs σ' H'
 | .ok env (.rt u) st' ys=>∀ v m' H' zs,RpU K m' H' u v → Rep K m' st' H' → Ext m H m' H' → RpUs K m' H' ys zs → D.rt zs v H'
 | .ok env .bk st' ys=>∀ σ' m' H' zs,RpEnv K m' H' env σ' → Rep K m' st' H' → Ext m H m' H' → RpUs K m' H' ys zs → D.bk zs σ' H'
 | .ok env .ct st' ys=>∀ σ' m' H' zs,RpEnv K m' H' env σ' → Rep K m' st' H' → Ext m H m' H' → RpUs K m' H' ys zs → D.ct zs σ' H'
 | .bad=>False
theorem PY.from {K : PySem.W.Frag} {m m1 : List Addr} {H H1 : Hp} {D : GEnds} (e : Ext m H m1 H1) : ∀ {r : RY},PY K m H D r → PY K m1 H1 D r
 | .ok _ .nx _ _,h=>fun v m' H' zs a b c=>h v m' H' zs a b (e.trans c)
 | .ok _ (.rt _) _ _,h=>fun v m' H' zs a b c=>h v m' H' zs a b (e.trans c)
 | .ok _ .bk _ _,h=>fun v m' H' zs a b c=>h v m' H' zs a b (e.trans c)
 | .ok _ .ct _ _,h=>fun v m' H' zs a b c=>h v m' H' zs a b (e.trans c)
 | .bad,h=>h
theorem GS.imp {X : Cx} {s : Stmt} {t t' : TGn} (h : GS X s t) (i : ∀ D ys σ H,t' D ys σ H → t D ys σ H) : GS X s t' :=
 ⟨fun A S ip R n ys s₀ c fs K J gd lv s σ H D a b k d e=>h.run A S ip R n ys s₀ c fs K J gd lv s σ H D a b k d (i _ _ _ _ e)⟩
theorem GSs.imp {X : Cx} {s : List Stmt} {t t' : TGn} (h : GSs X s t) (i : ∀ D ys σ H,t' D ys σ H → t D ys σ H) : GSs X s t' :=
 ⟨fun A S ip R n ys s₀ c fs K J gd lv s σ H D a b k d e=>h.run A S ip R n ys s₀ c fs K J gd lv s σ H D a b k d (i _ _ _ _ e)⟩
section
variable {X : Cx} {W : WX} {s : Stmt} {ss a b : List Stmt} {g h ga gb : Y} {e c : Expr} {fe : F U} {bc : F Bool} {pos : Pos}
end
section
variable {X : Cx} {W : WX} {tg iter : Expr} {body : List Stmt} {is : List Nat} {g : U → G} {gb : Y} {fi : F Itb} {pos : Pos}
end
section
variable {X : Cx} {W : WX} {o : Expr} {fo : F U} {C f : Addr} {nm x : Str} {k : Nat} {mY : List U → Store → Option (Store × List U)} {p pos pos' apos : Pos} {pl : Sem Bool}
end
end VL
namespace VL
open PySem PySem.Spec PyProof.Rows L2
section
variable {X : Cx} {pins : List (Addr × Obj)} {σ : L2.St} {H : Hp} {s : Shared}
end
section
variable {X : Cx} {C f : Addr} {k : Nat} {gU : List U → List U → List U} {mf : List U → M U}
end
section
variable {X : Cx} {C f : Addr} {k : Nat} {gU : List U → List U → List U} {mf : List U → M U}
end
section
variable {X : Cx} {W : WX} {a b : Expr} {fa fb : F U} {pos : Pos} {g : P2S}
end
noncomputable def inDct (st : Store) (a b : U) : Option Bool:=match VL.getD st b with
 | some kvs=>match keyD a with
  | some k=>some (lookK kvs k).isSome
  | none=>none
 | none=>none
noncomputable def oNotInD : P2:=fun a b st=>(inDct st a b).map fun k=>.d (.bl (!k))
section
variable {X : Cx}
theorem inDct_rp {m : List Addr} {H : Hp} {st : Store} {a b : U} {x y : V} {k : Bool} (r : Rep X.K m st H) (ha : RpU X.K m H a x) (hb : RpU X.K m H b y) (e : inDct st a b = some k) : ∃ q o,y = .ref q ∧ DGet H q x o ∧ o.isSome = k:=by
 unfold inDct at e
 split at e
 ·rename_i kvs hk
  split at e
  ·rename_i kk hkk
   obtain ⟨q,vs,rfl,h1,h2⟩:=getD_rp r hb hk
   have l:=lookK_rp (k:=kk) h2
   have hy:=keyD_rp ha hkk
   subst hy
   cases e
   refine ⟨q,_,rfl,.inl ⟨vs,kk,h1,rfl,rfl⟩,?_⟩
   cases z : lookK kvs kk with
   | none=>rw [z] at l; simp only at l; rw [l]; rfl
   | some u =>
    rw [z] at l
    obtain ⟨v,hv,_⟩:=l
    rw [hv]; rfl
  ·cases e
 ·cases e
theorem op_notInDct (hu : X.A.units + 1 < cLine) : OpR X (compareOp .NotIn) (rG X.K oNotInD):=by
 intro pins s σ H x y v u Q I rx ry h
 obtain ⟨m,st,a,b,r,ha,hb,p⟩:=h
 unfold oNotInD at p
 cases e : inDct st a b with
 | none=>rw [e] at p; exact p.elim
 | some k =>
  rw [e] at p
  obtain ⟨q,o,rfl,g,rfl⟩:=inDct_rp r ha hb e
  cases ry
  exact L2.d_notIn hu I g rx fun s3 I3=>⟨.bl (!o.isSome),H,I3,rfl,p _ H rfl r (Ext.refl _ _)⟩
end
end VL
namespace VL
open PySem PySem.Spec PyProof.Rows L2
theorem run_ownC {X : Cx} {pins : List (Addr × Obj)} {σ : L2.St} {H : Hp} {s : Shared} {Q : VK} {k n : Nat} {f : Addr} {gU : List U → List U → List U} {mf : List U → M U} {us : List Value} {vs : List V} {m : List Addr} {st : Store} {as : List U} {A' : Around}
  (F : Fd X.prog X.w X.K X.mg X.base f k n [] gU mf) (hr : RoomG k A') (hf : A'.frames = X.A.frames) (I : L2.Inv X pins σ H s)
  (rv : Vals vs us) (r : Rep X.K m st H) (ra : RpUs X.K m H as vs) (la : as.length = n) (h : PU X.K m H Q (fun _ _ _=>False) (mf (gU as []) st)) :
  codeAny (model X.prog X.w) A' (.call (.ref f) ⟨us,[]⟩) (fun r s'=>match r with | .ok (.ret u)=>EP X pins σ Q u s' | _=>False) s:=by
 have e0:=I.env0
 refine codeAny_mono (F.run A' X.stack s H us [] vs [] m st as [] Q (fun _ _ _=>False) hr ⟨hf.trans e0.frames,e0.mod,e0.bs,e0.bsz,e0.funs,e0.frf,e0.hok,e0.bare⟩ rv .nil r ra rfl la rfl h) fun r' s' hq=>?_
 cases r' with
 | error e =>
  obtain ⟨_,_,_,_,_,_,_,_,_,_,_,_,hW⟩:=hq
  exact hW.elim
 | ok fl =>
  cases fl with
  | next=>exact False.elim hq
  | brk=>exact False.elim hq
  | cont=>exact False.elim hq
  | ret u=>exact L2.Inv.after I hq
noncomputable def fProp (C : Addr) (mf : List U → M U) (fo : F U) : F U:=bnd fo fun u=>fun _ st=>match insU st u with
 | some (C',_)=>if C' = C then match mf [u] st with
  | .ok v st'=>.ok v st'
  | _=>.bad
  else .bad
 | none=>.bad
section
variable {X : Cx} {W : WX} {e : Expr} {fo : F U} {C p g : Addr} {f : Str} {k : Nat} {mf : List U → M U} {pos : Pos}
theorem d_prop (ho : DE X W e fo) (c : Cls X.K C) (hp : PropOf X.K C f p g) (F : Fd X.prog X.w X.K X.mg X.base g k 1 [] gPos mf) (hr : RoomG (k + 1) X.A) (hab : attributeBase e f X.env (eval e X.env) = eval e X.env:=by rfl) : DE X W (.Attribute e f pos) (fProp C mf fo):=by
 refine ⟨⟨fun pins s σ H Q I q=>?_⟩⟩
 obtain ⟨m,env,st,r,re,pq⟩:=q
 refine attr_of hab (thn (ho.pe.run pins s σ H (fun x H1=>∃ a dx fs,x = .ref a ∧ H1 a = some (.ins C dx fs) ∧ ∃ m1 st1 u,Rep X.K m1 st1 H1 ∧ RpU X.K m1 H1 u x ∧ PU X.K m1 H1 Q (fun _ _ _=>False) (mf [u] st1)) I (tF_step r re pq fun u st1 v m1 H1 h1 r1 re1 e1 p1=>?_)) fun u s1 hh=>?_)
 ·split at p1
  ·rename_i C' ws hi
   split at p1
   ·rename_i hc
    subst hc
    obtain ⟨a,dx,vs,rfl,ha,_⟩:=insU_rp r1 h1 hi
    refine ⟨a,dx,vs,rfl,ha,m1,st1,u,r1,h1,?_⟩
    cases hm : mf [u] st1 with
    | bad=>rw [hm] at p1; exact p1.elim
    | ex cc fs st2=>rw [hm] at p1; exact p1.elim
    | ok v st2=>rw [hm] at p1; exact p1
   ·exact p1.elim
  ·exact p1.elim
 ·obtain ⟨x,H1,I1,rx,a,dx,fs,rfl,ha,m1,st1,uu,r1,h1,pu⟩:=hh
  cases rx
  obtain ⟨mA,O,_⟩:=ins_get I1.hok ha
  obtain ⟨od,J,_⟩:=O.look
  obtain ⟨rest,hrec⟩:=hp.rec_
  have I2:=I1.tok (s1.toks + 1)
  have hc : (PySem.W.clsIn X.K C).isSome = true:=by
   obtain ⟨cd,hcd,_⟩:=PySem.W.any_some c.hd
   rw [hcd]; rfl
  have pg:=PySem.W.plainGet_of (c.get f)
  have hr1 : RoomG k X.A.in1:=⟨⟨hr.rm.hd,by have:=hr.rm.dp; show X.A.depth + 3 * k + 5 < _; omega,by have:=hr.rm.un; show X.A.units + 1 + 16 * k + 200 < _; omega⟩,hr.gd⟩
  have run:=run_ownC F hr1 rfl I2 (vs:=[.ref a]) (us:=[.ref a]) (as:=[uu]) (.cons rfl .nil) r1 ⟨_,_,rfl,h1,rfl⟩ rfl pu
  refine PySem.W.get_bind I1.kIn J pg.1 (PySem.W.findObj_data hc hp.at_ hp.get hp.tak) pg.2 ?_
  refine wpAny_call (PySem.W.prop_get (s:={ s1 with toks:=s1.toks + 1 }) I1.kIn hrec (codeAny_mono run fun r' s2 hq=>?_))
  cases r' with
  | error er=>exact False.elim hq
  | ok fl =>
   cases fl with
   | ret w =>
    obtain ⟨v,H2,I3,rv,q3⟩:=hq
    show wpAny _ _ (handedOut w) _ _ _
    rw [PySem.W.handedOut_of (handed_of rv)]
    exact wpAny_pure ⟨v,H2,I3,rv,q3⟩
   | next=>exact False.elim hq
   | brk=>exact False.elim hq
   | cont=>exact False.elim hq
end
section
variable {X : Cx} {pins : List (Addr × Obj)} {σ : L2.St} {H : Hp} {s : Shared} {a dx C f : Addr} {fs : List (Str × V)} {A' : Around} {E' : Value → Shared → Prop}
end
section
variable {X : Cx} {W : WX} {C f : Addr} {k : Nat} {mf : List U → M U}
end
end VL
namespace VL
open PySem PySem.Spec PyProof.Rows L2
noncomputable def lcEndC (k : Nat) : R Unit → R U
 | .ok _ st=>match st[k]? with
  | some (.lst _)=>match cutS (k + 1) st with
   | some s=>.ok (.ref k) s
   | none=>.bad
  | _=>.bad
 | _=>.bad
noncomputable def fLcC (fi : F Itb) (tg : U → G) (tt : F Bool) (fe : F U) (vs : List Nat) : F U:=bnd fi fun t=>fun env st=>match t with
 | .lst us=>lcEndC st.length (lcL st.length tg tt fe (wipeE env vs) us (st ++ [.lst []]))
 | .cell n f=>match st[n]? with
  | some (.lst us)=>lcEndC st.length (lcC st.length tg tt fe (wipeE env vs) n f (us.length + 1) 0 (st ++ [.lst []]))
  | _=>.bad
section
variable {X : Cx} {W : WX} {elt tg iter : Expr} {ifs : List Expr} {scope : Scope} {own : List (Str × Nat)} {pos : Pos} {is : List Nat} {g : U → G} {gt : F Bool} {fe : F U} {fi : F Itb}
/-- one turn -/
theorem lc_turnC {K : PySem.W.Frag} {σ : L2.St} {env : VEnv} {m1 m' : List Addr} {H1 H'' : Hp} {st' : Store} {u : U} {x : V} {k : Nat} {D0 : Addr} {Nx : Hp → Prop} {vs is : List Nat} {rest : Store → R Unit} {Q : VK} {E : XK}
  (hvs : ∀ i ∈ is,i ∈ vs) (I : LcI K m1 H1 k D0 m' st' H'') (hk : k = m1.length) (h0 : H1 D0 = none) (re : RpEnv K m' H'' (wipeE env vs) (L2.wipe σ vs)) (ru : RpU K m' H'' u x)
  (p : PU K m1 H1 Q E (lcEndC k (match lcStep k g gt fe (wipeE env vs) u st' with
   | .ok _ st1=>rest st1
   | _=>.bad)))
  (hN : ∀ m2 st2 H2,LcI K m1 H1 k D0 m2 st2 H2 → RpEnv K m2 H2 (wipeE env vs) (L2.wipe σ vs) → PU K m1 H1 Q E (lcEndC k (rest st2)) → Nx H2) :
  tTg K is g x (L2.wipe σ vs) H'' fun σ2 H2=>L2.wipe σ2 vs = L2.wipe σ vs ∧ tFB K W0 gt σ2 H2 fun b H3 =>
   if b = true then tF K W0 fe σ2 H3 fun y H4=>∃ acc,H4 D0 = some (.lst acc) ∧ acc.length < sizeLine ∧ Nx (upd H4 D0 (.lst (acc ++ [y]))) else Nx H3:=by
 refine ⟨m',_,st',u,I.rep,re,ru,?_⟩
 unfold lcStep at p
 split
 ·rename_i env1 st1 e1
  simp only [e1] at p
  intro σ2 m2 H2 re2 r2 x2 o2
  refine ⟨wipe_out hvs o2,m2,env1,st1,r2,re2,?_⟩
  cases e2 : gt env1 st1 with
  | bad=>simp only [e2] at p; exact p.elim
  | ex c fs st2=>simp only [e2] at p; exact p.elim
  | ok b st2 =>
   simp only [e2] at p
   intro b' m3 H3 hb r3 x3
   subst hb
   cases b' with
   | false =>
    refine iteF (hN m3 st2 H3 ⟨r3,I.ext.trans (x2.trans x3),pre_get (x2.trans x3).pre I.at'⟩ (re.ext (x2.trans x3)) p)
   | true =>
    refine iteT ⟨m3,env1,st2,r3,re2.ext x3,?_⟩
    cases e3 : fe env1 st2 with
    | bad=>simp only [e3] at p; exact p.elim
    | ex c fs st3=>simp only [e3] at p; exact p.elim
    | ok z st3 =>
     simp only [e3] at p
     intro y m4 H4 ry r4 x4
     have x24:=x2.trans (x3.trans x4)
     have hat:=pre_get x24.pre I.at'
     cases hacc : st3[k]? with
     | none=>simp only [hacc] at p; exact p.elim
     | some cell =>
     cases cell with
     | dct _=>simp only [hacc] at p; exact p.elim
     | tup _=>simp only [hacc] at p; exact p.elim
     | ins _ _=>simp only [hacc] at p; exact p.elim
     | lck _=>simp only [hacc] at p; exact p.elim
     | kdc _ _=>simp only [hacc] at p; exact p.elim
     | tbl _ _=>simp only [hacc] at p; exact p.elim
     | lst acc =>
      simp only [hacc] at p
      by_cases hlen : acc.length < sizeLine
      ·rw [if_pos hlen] at p
       obtain ⟨ho,g1,ws,g2,g3⟩:=r4.cell k _ D0 hacc hat
       subst g2
       refine ⟨ws,g1,by rw [g3.length]; exact hlen,?_⟩
       have hm : D0 ∈ m4:=List.mem_of_getElem? hat
       have rW : Rep K m4 (st3.set k (.lst (acc ++ [z]))) (upd H4 D0 (.lst (ws ++ [y]))) :=
        r4.write hat ⟨_,rfl,(g3.append (show RpUs K m4 H4 [z] [y] from ⟨y,_,rfl,ry,rfl⟩)).ext (ext_write hm _ (nf_l g1))⟩ (nf_l g1)
       have eW : Ext m1 H1 m4 (upd H4 D0 (.lst (ws ++ [y]))):=(I.ext.trans x24).trans (ext_write hm _ (nf_l g1))
       exact hN m4 _ _ ⟨rW,eW,hat⟩ ((re.ext x24).ext (ext_write hm _ (nf_l g1))) p
      ·rw [if_neg hlen] at p; exact p.elim
 ·rename_i hn
  split at p
  ·rename_i q
   split at q
   ·rename_i env1 st1 e1
    exact (hn env1 st1 e1).elim
   ·cases q
  ·exact p.elim
theorem lc_finC {K : PySem.W.Frag} {m1 m' : List Addr} {H1 H' : Hp} {st' : Store} {k : Nat} {D0 : Addr} {Q : VK} {E : XK} (I : LcI K m1 H1 k D0 m' st' H') (hk : k = m1.length) (p : PU K m1 H1 Q E (lcEndC k (.ok () st'))) : Q (.ref D0) H':=by
 unfold lcEndC at p
 simp only at p
 split at p
 ·split at p
  ·rename_i s hs
   have hlt:=(List.getElem?_eq_some_iff.mp I.at').1
   refine p _ (m'.take (k + 1)) H' ⟨D0,?_,rfl⟩ (I.rep.cut hs) (ext_cut I.ext (by omega))
   rw [List.getElem?_take,if_pos (Nat.lt_succ_self k)]
   exact I.at'
  ·exact p.elim
 ·exact p.elim
theorem t_lcC {vs : List Nat} (hvs : ∀ i ∈ is,i ∈ vs) {σ : L2.St} {H : Hp} {Q : VK} (q : tF X.K W (fLcC fi g gt fe vs) σ H Q) :
  tLc (tI X.K W fi) (tTg X.K is g) (tFB X.K W0 gt) (tF X.K W0 fe) vs σ H Q:=by
 obtain ⟨m,env,st,r,re,p⟩:=q
 refine ⟨m,env,st,r,re,?_⟩
 unfold fLcC bnd at p
 cases e : fi env st with
 | bad=>rw [e] at p; exact p.elim
 | ex c fs st1=>rw [e] at p; exact p
 | ok t st1 =>
  rw [e] at p
  intro t' m0 H0 ht r0 e0 m1 st1' he r1 e1 J hJ D0 hD0
  subst ht
  cases he
  have re1:=re.ext e1
  have p1:=PO'.from e1 p
  have hpush:=push_lst r1 hD0 (us:=[]) (vs:=[]) rfl
  have start : LcI X.K m1 H0 m1.length D0 (m1 ++ [D0]) (st1 ++ [.lst []]) (upd H0 D0 (.lst [])):=⟨hpush.2,ext_push r1 hD0 _,by simp⟩
  have reS : RpEnv X.K (m1 ++ [D0]) (upd H0 D0 (.lst [])) (wipeE env vs) (L2.wipe σ vs):=(re1.ext (ext_push r1 hD0 _)).wipe vs
  have hlen:=r1.len
  cases t' with
  | lst us =>
   simp only [← hlen] at p1
   obtain ⟨go,stop,yld⟩:=hJ
   refine ⟨fun i n H=>∃ m' st',LcI X.K m1 H0 m1.length D0 m' st' H ∧ RpEnv X.K m' H (wipeE env vs) (L2.wipe σ vs) ∧ n = us.length - i ∧ i ≤ us.length ∧ PU X.K m1 H0 Q (fun c d H'=>W c d σ H') (lcEndC m1.length (lcL m1.length g gt fe (wipeE env vs) (us.drop i) st')),
    ⟨us.length,_,_,start,reS,by simp,Nat.zero_le _,p1⟩,?_⟩
   rintro i n H' ⟨m',st',I,re',rfl,hi,p'⟩
   by_cases hlt : i < us.length
   ·have hu : us[i]? = some us[i]:=List.getElem?_eq_getElem hlt
    rw [List.drop_eq_getElem_cons hlt] at p'
    refine .inr ⟨go i m' st' H' hlt I.rep I.ext,fun H2=>∃ m2 st2,LcI X.K m1 H0 m1.length D0 m2 st2 H2 ∧ RpEnv X.K m2 H2 (wipeE env vs) (L2.wipe σ vs) ∧ PU X.K m1 H0 Q (fun c d H'=>W c d σ H') (lcEndC m1.length (lcL m1.length g gt fe (wipeE env vs) (us.drop (i + 1)) st2)),?_,?_⟩
    ·rintro H2 ⟨m2,st2,I2,re2,p2⟩
     exact ⟨us.length - (i + 1),by omega,m2,st2,I2,re2,rfl,hlt,p2⟩
    ·intro x H'' hy
     obtain ⟨r2,e2,ru⟩:=yld i _ m' st' H' x H'' hu I.rep I.ext hy
     exact lc_turnC hvs ⟨r2,I.ext.trans e2,I.at'⟩ rfl hD0 (re'.ext e2) ru p' fun m2 st2 H2 I2 re2 p2=>⟨m2,st2,I2,re2,p2⟩
   ·have : i = us.length:=by omega
    subst this
    rw [List.drop_length] at p'
    exact .inl ⟨stop m' st' H' I.rep I.ext,lc_finC I rfl p'⟩
  | cell n f =>
   simp only at p1
   split at p1
   ·rename_i us0 hs0
    simp only [← hlen] at p1
    refine ⟨fun i j H=>∃ m' st',LcI X.K m1 H0 m1.length D0 m' st' H ∧ RpEnv X.K m' H (wipeE env vs) (L2.wipe σ vs) ∧ PU X.K m1 H0 Q (fun c d H'=>W c d σ H') (lcEndC m1.length (lcC m1.length g gt fe (wipeE env vs) n f j i st')),
     ⟨us0.length + 1,_,_,start,reS,p1⟩,?_⟩
    rintro i j H' ⟨m',st',I,re',p'⟩
    cases j with
    | zero=>exact p'.elim
    | succ j =>
     unfold lcC at p'
     split at p'
     ·rename_i us hs
      obtain ⟨go,stop,yld⟩:=hJ us m' st' H' I.rep I.ext hs
      cases hu : us[i]? with
      | none =>
       simp only [hu] at p'
       exact .inl ⟨stop i (List.getElem?_eq_none_iff.mp hu),lc_finC I rfl p'⟩
      | some u =>
       simp only [hu] at p'
       cases hf : f i u with
       | none=>simp only [hf] at p'; exact p'.elim
       | some w =>
        simp only [hf] at p'
        refine .inr ⟨go i (List.getElem?_eq_some_iff.mp hu).1,fun H2=>∃ m2 st2,LcI X.K m1 H0 m1.length D0 m2 st2 H2 ∧ RpEnv X.K m2 H2 (wipeE env vs) (L2.wipe σ vs) ∧ PU X.K m1 H0 Q (fun c d H'=>W c d σ H') (lcEndC m1.length (lcC m1.length g gt fe (wipeE env vs) n f j (i + 1) st2)),?_,?_⟩
        ·rintro H2 ⟨m2,st2,I2,re2,p2⟩
         exact ⟨j,Nat.lt_succ_self j,m2,st2,I2,re2,p2⟩
        ·intro x H'' hy
         obtain ⟨r2,e2,ru⟩:=yld i u w x H'' hu hf hy
         exact lc_turnC hvs ⟨r2,I.ext.trans e2,I.at'⟩ rfl hD0 (re'.ext e2) ru p' fun m2 st2 H2 I2 re2 p2=>⟨m2,st2,I2,re2,p2⟩
     ·exact p'.elim
   ·exact p1.elim
/-- name = [..] -/
theorem ds_setLcC (i : Nat) {y : Str} {py spos : Pos} (hc : X.calm = true) (hN : X.N.Nodup) (hsw : swapsWith (.ListComp elt [⟨tg,iter,ifs,0⟩] scope pos) (some (.Name y py)) spos.line X.env = pure true) (hi : DI X W tg iter fi) (ok : BlkOk X.N X.env.scope scope own)
  (hg : ∀ (s : Shared) (H : Hp) (C : Addr) (cl : List (Str × Addr)) (fp : List Addr),DG (X.blk s H scope (compEnvC scope cl C X.env) fp) tg is g)
  (ht : ∀ (s : Shared) (H : Hp) (C : Addr) (cl : List (Str × Addr)) (fp : List Addr),DTs (X.blk s H scope (compEnvC scope cl C X.env) fp) W0 ifs gt)
  (he : ∀ (s : Shared) (H : Hp) (C : Addr) (cl : List (Str × Addr)) (fp : List Addr),DE (X.blk s H scope (compEnvC scope cl C X.env) fp) W0 elt fe)
  (hvs : ∀ i ∈ is,i ∈ own.map (·.2):=by decide) (hy : X.N[i]? = some y:=by rfl) (hyl : X.env.scope.names.lookup y = some .local:=by rfl) (hs : ∀ x,foldedSetIterable iter X.env x = pure x:=by intro _; rfl) :
  DS X W (.Assign [.Name y py] (.ListComp elt [⟨tg,iter,ifs,0⟩] scope pos) spos) (sAsg (fLcC fi g gt fe (own.map (·.2))) (tgN i)) :=
 ⟨PS.imp (ps_setLc (i:=i) hc hN hy hyl hsw hi.pi ok (fun s H C cl fp=>(hg s H C cl fp).pg) (fun s H C cl fp=>(ht s H C cl fp).pts) (fun s H C cl fp=>(he s H C cl fp).pe) hs) fun D σ H ⟨m,env,st,r,re,p⟩=>by
  have h2 : tF X.K W (fLcC fi g gt fe (own.map (·.2))) σ H (fun x H1=>gName i x σ H1 D.nx):=sF_step r re p fun u st1 v m1 H1 h1 r1 re1 e1 p1=>p1 _ m1 H1 (re1.set i h1) r1 (Ext.refl _ _)
  exact t_lcC hvs h2⟩
end
theorem _root_.L2.Room.u1 {k : Nat} {A : Around} (h : L2.Room k A) : A.units + 1 < cLine:=by have:=h.un; omega
theorem _root_.L2.Room.u64 {k : Nat} {A : Around} (h : L2.Room k A) : A.units + 64 < cLine:=by have:=h.un; omega
theorem _root_.L2.Room.u65 {k : Nat} {A : Around} (h : L2.Room k A) : A.units + 65 < cLine:=by have:=h.un; omega
end VL
namespace VL
open PySem PySem.Spec PyProof.Rows L2
section
variable {X : Cx} {C f : Addr} {k : Nat} {mf : List U → M U}
end
section
variable {X : Cx} {C f : Addr} {k : Nat} {mf : List U → M U} {ns : List String}
end
section
variable {prog : Program} {w : World} {A : Around} {E : Value → Shared → Prop} {s : Shared} {K : PySem.W.Frag} {x C f : Addr} {ox : Obj} {od : Option Obj} {b tb : Value}
end
section
variable {X : Cx} {C f : Addr} {k : Nat} {mf : List U → M U} {ns : List String}
end
section
variable {prog : Program} {w : World} {A : Around} {E : Value → Shared → Prop} {s : Shared} {K : PySem.W.Frag} {x C f : Addr} {ox : Obj} {od : Option Obj} {v tv : Value}
end
section
variable {prog : Program} {w : World} {A : Around} {E : Value → Shared → Prop} {s : Shared} {x C dx : Addr}
end
section
variable {X : Cx} {C f : Addr} {k : Nat} {mf : List U → M U}
end
end VL
namespace VL
open PySem PySem.Spec PyProof.Rows L2
section
variable {prog : Program} {w : World} {A : Around} {E : Value → Shared → Prop} {s : Shared} {K : PySem.W.Frag} {x l C : Addr} {ox : Obj} {od : Option Obj}
end
section
variable {X : Cx} {C f : Addr} {k : Nat} {mf : List U → M U}
variable {ns : List String}
end
end VL
namespace VL
open PySem PySem.Spec PyProof.Rows L2
theorem RpF.look {K : PySem.W.Frag} {m : List Addr} {H : Hp} {f : Str} : ∀ {fs : List (Str × D)} {vs : List (Str × V)} {x : D},RpF K m H fs vs → fs.lookup f = some x → ∃ v,vs.lookup f = some v ∧ RpD K m H x v
 | [],_,_,_,e=>by cases e
 | (n,d) :: fs,_,x,⟨v,r,e,h1,h2⟩,q=>by
  subst e
  unfold List.lookup at q ⊢
  split at q
  ·cases q
   exact ⟨v,rfl,h1⟩
  ·exact RpF.look h2 q
section
variable {X : Cx} {W : WX} {a C : Addr} {oe : Obj} {cls : Value} {d : Option Addr} {pn : List (Addr × Obj)} {x : Str} {p1 pos : Pos} {n : Str}
end
end VL
namespace VL
open PySem PySem.Spec PyProof.Rows L2 LamX
section
variable {X : Cx}
end
end VL
namespace VL
open PySem PySem.Spec PyProof.Rows L2 LamX
section
variable {P : Program} {w : World} {K : PySem.W.Frag} {mg : Str → Option Value}
end
end VL
namespace VL
open PySem PySem.Spec PyProof.Rows L2 LamX
noncomputable def tbls (T : List (Addr × Str)) : Store:=T.map fun p=>.tbl p.1 p.2
end VL
namespace VL
open PySem PySem.Spec PyProof.Rows L2
/-- where a parameter's value comes from: a positional one,a keyword's,a default -/
inductive Src where
 | p (i : Nat) | k (j : Nat) | e (i : Nat)
noncomputable def Src.get {α : Type} (x : α) (ds us ws : List α) : Src → α
 | .p i=>us.getD i x
 | .k j=>ws.getD j x
 | .e i=>ds.getD i x
section
variable {K : PySem.W.Frag} {m : List Addr} {H : Hp}
end
structure FunK (K : PySem.W.Frag) (x qual : Str) (st : Stmt) (f : Addr) (kws : List (Str × V)) (fd : FuncData) : Prop where
 ex : ∃ (oc : Value) (od : Option Addr) (D : Addr) (doc pm : Value) (an : Option Addr) (cdv ct : Value) (osl : Array (Option Value)),
  fd = PySem.W.fnOf x qual (defArgs st) (defBody st) (defScope st) .none (.ref D) doc pm an cdv ct ∧ K.lookup f = some ⟨oc,od,.func fd,osl⟩ ∧ PySem.W.codeIn K cdv qual = true ∧ ∀ q ∈ kws,∃ u,PySem.W.nsIn K D q.1 = some (some u) ∧ RelV q.2 u
 kp : PySem.W.keepIn K (.ref f) = true
theorem FunK.fun {K : PySem.W.Frag} {x qual : Str} {st : Stmt} {f : Addr} {kws : List (Str × V)} {fd : FuncData} (F : FunK K x qual st f kws fd) : Fun K x qual st f fd:=by
 obtain ⟨oc,od,D,doc,pm,an,cdv,ct,osl,e,lk,hc,hq⟩:=F.ex
 exact ⟨⟨oc,od,.ref D,doc,pm,an,cdv,ct,osl,e,lk,hc⟩,F.kp⟩
/-- what t looks up in the dict at D,one behind another; then it goes on as r -/
noncomputable def KwC {α : Type} (D : Addr) : List (Str × Value) → Sem α → Sem α → Prop
 | [],t,r=>t = r
 | q :: l,t,r=>∃ (β γ : Type) (k1 : Option Value → Sem β) (k2 : β → Sem γ) (k3 : γ → Sem α) (a : β),t = ((nsGet D q.1 >>= k1) >>= k2) >>= k3 ∧ k1 (some q.2) = pure a ∧ KwC D l (k2 a >>= k3) r
theorem KwC.run {α : Type} {K : PySem.W.Frag} {M : Model} {A : Around} {D : Addr} {s : Shared} {Q : α → Shared → Prop} {E : Value → Shared → Prop} (X : K.In s.heap) : ∀ {l : List (Str × Value)} {t r : Sem α},(∀ q ∈ l,PySem.W.nsIn K D q.1 = some (some q.2)) → KwC D l t r → wpAny M A r Q E s → wpAny M A t Q E s
 | [],t,r,_,e,h=>by rw [show t = r from e]; exact h
 | q :: l,t,r,hl,e,h=>by
  obtain ⟨β,γ,k1,k2,k3,a,e1,e2,e3⟩:=e
  have h2:=KwC.run (l:=l) X (fun p hp=>hl p (List.mem_cons_of_mem _ hp)) e3 h
  rw [e1,bind_assoc]
  refine wpAny_bind (wpAny_bind ?_)
  refine (PySem.W.looks_nsIn X (hl q (List.mem_cons_self ..))).here ?_
  rw [e2]
  exact wpAny_pure (by simpa using h2)
section
variable {K : PySem.W.Frag} {x qual : Str} {st : Stmt} {f : Addr} {kws : List (Str × V)} {fd : FuncData} {ps : List Str}
end
section
variable {P : Program} {w : World} {K : PySem.W.Frag} {mg : Str → Option Value} {base : Heap}
end
end VL
namespace VL
open PySem PySem.Spec PyProof.Rows L2
section
variable {K : PySem.W.Frag} {m : List Addr} {H : Hp} {st : Store}
theorem RpK.length : ∀ {ds : List (Key × D)} {vs : List (Key × V)},RpK K m H ds vs → vs.length = ds.length
 | [],vs,h=>by rw [show vs = [] from h]; rfl
 | (k,d) :: ds,_,⟨v,r,e,h1,h2⟩=>by subst e; rw [List.length_cons,List.length_cons,RpK.length h2]
theorem RpK.get : ∀ {ds : List (Key × D)} {vs : List (Key × V)},RpK K m H ds vs → ∀ {i : Nat} {kd : Key × D},ds[i]? = some kd → ∃ v,vs[i]? = some (kd.1,v) ∧ RpD K m H kd.2 v
 | [],_,h,i,kd,e=>by cases e
 | (k,d) :: ds,_,⟨v,r,e,h1,h2⟩,0,kd,q=>by subst e; cases q; exact ⟨v,rfl,h1⟩
 | (k,d) :: ds,_,⟨v,r,e,h1,h2⟩,i + 1,kd,q=>by subst e; exact RpK.get h2 (i:=i) q
end
section
variable {X : Cx} {W : WX} {tg e : Expr} {fe : F U} {apos cpos : Pos}
end
end VL
namespace VL
open PySem PySem.Spec PyProof.Rows L2
noncomputable def mergeU (kvs more : List (Key × U)) : List (Key × U):=more.foldl (fun acc kv=>putU acc kv.1 kv.2) kvs
section
variable {K : PySem.W.Frag} {m : List Addr} {H : Hp} {st : Store}
theorem RpUK.merge : ∀ {more : List (Key × U)} {ws : List (Key × V)} {us : List (Key × U)} {vs : List (Key × V)},RpUK K m H more ws → RpUK K m H us vs → RpUK K m H (mergeU us more) (mergeK vs ws)
 | [],ws,us,vs,h,h2=>by rw [show ws = [] from h]; exact h2
 | (k,u) :: more,_,us,vs,⟨v,r,e,h1,h3⟩,h2=>by
  subst e
  show RpUK K m H (mergeU (putU us k u) more) (mergeK (putK vs k v) r)
  exact RpUK.merge h3 (h2.put k h1)
end
section
variable {X : Cx} {W : WX} {e o : Expr} {fe fo : F U} {p pos apos cpos tpos : Pos}
noncomputable def isC (C : Addr) (o : U) (st : Store) : Bool:=match insU st o with
 | some (C',_)=>decide (C' = C)
 | none=>false
end
end VL
namespace VL
open PySem PySem.Spec PyProof.Rows L2
section
variable {prog : Program} {w : World} {A : Around} {E : Value → Shared → Prop} {s : Shared}
end
end VL
namespace VL
open PySem PySem.Spec PyProof.Rows L2
section
variable {K : PySem.W.Frag} {m : List Addr} {H : Hp}
theorem RpDs.app : ∀ {xs ys : List D} {vs ws : List V},RpDs K m H xs vs → RpDs K m H ys ws → RpDs K m H (xs ++ ys) (vs ++ ws)
 | [],_,vs,_,h,k=>by rw [show vs = [] from h]; exact k
 | d :: xs,_,_,_,⟨v,r,e,h1,h2⟩,k=>by subst e; exact ⟨v,_,rfl,h1,RpDs.app h2 k⟩
theorem RpDs.rep {xs : List D} {vs : List V} (h : RpDs K m H xs vs) : ∀ n : Nat,RpDs K m H (List.replicate n xs).flatten (List.replicate n vs).flatten
 | 0=>rfl
 | n + 1=>by rw [List.replicate_succ,List.replicate_succ,List.flatten_cons,List.flatten_cons]; exact h.app (RpDs.rep h n)
end
end VL
namespace VL
open PySem PySem.Spec PyProof.Rows L2
section
variable {P : Program} {w : World} {K : PySem.W.Frag} {mg : Str → Option Value} {base : Heap}
end
end VL
namespace VL
open PySem PySem.Spec PyProof.Rows L2
noncomputable abbrev XF:=Option (List (Str × D))
noncomputable def noR : Value → XF → Store → Prop:=fun _ _ _=>False
noncomputable def noE : Value → XF → VEnv → Store → Prop:=fun _ _ _ _=>False
noncomputable def noN : VEnv → Store → Prop:=fun _ _=>False
noncomputable def noT : U → Store → Prop:=fun _ _=>False
namespace Q0
noncomputable def wpR {α : Type} (r : R α) (Q : α → Store → Prop) (E : Value → XF → Store → Prop) : Prop:=match r with
 | .ok a st=>Q a st
 | .ex c fs st=>E c fs st
 | .bad=>False
noncomputable def wpS (r : RS) (N : VEnv → Store → Prop) (T : U → Store → Prop) (B C : VEnv → Store → Prop) (E : Value → XF → VEnv → Store → Prop) : Prop:=match r with
 | .ok env .nx st=>N env st
 | .ok _ (.rt u) st=>T u st
 | .ok env .bk st=>B env st
 | .ok env .ct st=>C env st
 | .ex c fs env st=>E c fs env st
 | .bad=>False
/-- a state that is made plain ahead of going on -/
noncomputable def wpQ {α : Type} (Q : α → Store → Prop) (a : α) (st : Store) : Prop:=Q a st
noncomputable def wpI (k : Bool) (P Q : Prop) : Prop:=if k = true then P else Q
section
variable {α β : Type} {Q : α → Store → Prop} {E : Value → XF → Store → Prop} {N B C : VEnv → Store → Prop} {T : U → Store → Prop} {X : Value → XF → VEnv → Store → Prop} {env : VEnv} {st : Store}
theorem wp_Q {a : α} : wpQ Q a st = Q a st:=rfl
theorem wp_I1 {P R : Prop} : wpI true P R = P:=if_pos rfl
theorem wp_I0 {P R : Prop} : wpI false P R = R:=if_neg Bool.false_ne_true
theorem wp_ok {a : α} : wpR (.ok a st) Q E = wpQ Q a st:=rfl
theorem wp_ex {c : Value} {fs : XF} : wpR (.ex c fs st) Q E = E c fs st:=rfl
theorem wp_bad : wpR (.bad : R α) Q E = False:=rfl
theorem wps_nx : wpS (.ok env .nx st) N T B C X = wpQ N env st:=rfl
theorem wps_rt {u : U} : wpS (.ok env (.rt u) st) N T B C X = wpQ T u st:=rfl
theorem wps_bk : wpS (.ok env .bk st) N T B C X = wpQ B env st:=rfl
theorem wps_ct : wpS (.ok env .ct st) N T B C X = wpQ C env st:=rfl
theorem wps_ex {c : Value} {fs : XF} : wpS (.ex c fs env st) N T B C X = X c fs env st:=rfl
theorem wps_bad : wpS .bad N T B C X = False:=rfl
end
section
variable {Q : U → Store → Prop} {QB : Bool → Store → Prop} {QL : List U → Store → Prop} {Q2 : List U × List U → Store → Prop} {QI : Itb → Store → Prop} {QO : Option Int → Store → Prop} {E : Value → XF → Store → Prop} {N B C : VEnv → Store → Prop} {T : U → Store → Prop} {X : Value → XF → VEnv → Store → Prop} {env : VEnv} {st : Store}
end
end Q0
@[irreducible] noncomputable def wpR {α : Type} (r : R α) (Q : α → Store → Prop) (E : Value → XF → Store → Prop) : Prop:=Q0.wpR r Q E
@[irreducible] noncomputable def wpS (r : RS) (N : VEnv → Store → Prop) (T : U → Store → Prop) (B C : VEnv → Store → Prop) (E : Value → XF → VEnv → Store → Prop) : Prop:=Q0.wpS r N T B C E
@[irreducible] noncomputable def wpQ {α : Type} (Q : α → Store → Prop) (a : α) (st : Store) : Prop:=Q0.wpQ Q a st
@[irreducible] noncomputable def wpI (k : Bool) (P Q : Prop) : Prop:=Q0.wpI k P Q
@[irreducible] noncomputable def act (P : Prop) : Prop:=P
section
variable {α β : Type} {Q : α → Store → Prop} {E : Value → XF → Store → Prop} {N B C : VEnv → Store → Prop} {T : U → Store → Prop} {X : Value → XF → VEnv → Store → Prop} {env : VEnv} {st : Store}
theorem wp_Q' {a : α} : wpQ Q a st = Q a st:=by with_unfolding_all exact Q0.wp_Q 
theorem wp_Q {a : α} : act (wpQ Q a st) = act (Q a st):=by
 have h : wpQ Q a st = Q a st:=by with_unfolding_all exact Q0.wp_Q 
 unfold act
 exact h
theorem wp_I1' {P R : Prop} : wpI true P R = P:=by with_unfolding_all exact Q0.wp_I1 
theorem wp_I1 {P R : Prop} : act (wpI true P R) = act (P):=by
 have h : wpI true P R = P:=by with_unfolding_all exact Q0.wp_I1 
 unfold act
 exact h
theorem wp_I0' {P R : Prop} : wpI false P R = R:=by with_unfolding_all exact Q0.wp_I0 
theorem wp_I0 {P R : Prop} : act (wpI false P R) = act (R):=by
 have h : wpI false P R = R:=by with_unfolding_all exact Q0.wp_I0 
 unfold act
 exact h
theorem wp_ok' {a : α} : wpR (.ok a st) Q E = wpQ Q a st:=by with_unfolding_all exact Q0.wp_ok 
theorem wp_ok {a : α} : act (wpR (.ok a st) Q E) = act (wpQ Q a st):=by
 have h : wpR (.ok a st) Q E = wpQ Q a st:=by with_unfolding_all exact Q0.wp_ok 
 unfold act
 exact h
theorem wp_ex' {c : Value} {fs : XF} : wpR (.ex c fs st) Q E = E c fs st:=by with_unfolding_all exact Q0.wp_ex 
theorem wp_ex {c : Value} {fs : XF} : act (wpR (.ex c fs st) Q E) = act (E c fs st):=by
 have h : wpR (.ex c fs st) Q E = E c fs st:=by with_unfolding_all exact Q0.wp_ex 
 unfold act
 exact h
theorem wp_bad' : wpR (.bad : R α) Q E = False:=by with_unfolding_all exact Q0.wp_bad 
theorem wp_bad : act (wpR (.bad : R α) Q E) = act (False):=by
 have h : wpR (.bad : R α) Q E = False:=by with_unfolding_all exact Q0.wp_bad 
 unfold act
 exact h
theorem wps_nx' : wpS (.ok env .nx st) N T B C X = wpQ N env st:=by with_unfolding_all exact Q0.wps_nx 
theorem wps_nx : act (wpS (.ok env .nx st) N T B C X) = act (wpQ N env st):=by
 have h : wpS (.ok env .nx st) N T B C X = wpQ N env st:=by with_unfolding_all exact Q0.wps_nx 
 unfold act
 exact h
theorem wps_rt' {u : U} : wpS (.ok env (.rt u) st) N T B C X = wpQ T u st:=by with_unfolding_all exact Q0.wps_rt 
theorem wps_rt {u : U} : act (wpS (.ok env (.rt u) st) N T B C X) = act (wpQ T u st):=by
 have h : wpS (.ok env (.rt u) st) N T B C X = wpQ T u st:=by with_unfolding_all exact Q0.wps_rt 
 unfold act
 exact h
theorem wps_bk' : wpS (.ok env .bk st) N T B C X = wpQ B env st:=by with_unfolding_all exact Q0.wps_bk 
theorem wps_bk : act (wpS (.ok env .bk st) N T B C X) = act (wpQ B env st):=by
 have h : wpS (.ok env .bk st) N T B C X = wpQ B env st:=by with_unfolding_all exact Q0.wps_bk 
 unfold act
 exact h
theorem wps_ct' : wpS (.ok env .ct st) N T B C X = wpQ C env st:=by with_unfolding_all exact Q0.wps_ct 
theorem wps_ct : act (wpS (.ok env .ct st) N T B C X) = act (wpQ C env st):=by
 have h : wpS (.ok env .ct st) N T B C X = wpQ C env st:=by with_unfolding_all exact Q0.wps_ct 
 unfold act
 exact h
theorem wps_ex' {c : Value} {fs : XF} : wpS (.ex c fs env st) N T B C X = X c fs env st:=by with_unfolding_all exact Q0.wps_ex 
theorem wps_ex {c : Value} {fs : XF} : act (wpS (.ex c fs env st) N T B C X) = act (X c fs env st):=by
 have h : wpS (.ex c fs env st) N T B C X = X c fs env st:=by with_unfolding_all exact Q0.wps_ex 
 unfold act
 exact h
theorem wps_bad' : wpS .bad N T B C X = False:=by with_unfolding_all exact Q0.wps_bad 
theorem wps_bad : act (wpS .bad N T B C X) = act (False):=by
 have h : wpS .bad N T B C X = False:=by with_unfolding_all exact Q0.wps_bad 
 unfold act
 exact h
end
section
variable {Q : U → Store → Prop} {QB : Bool → Store → Prop} {QL : List U → Store → Prop} {Q2 : List U × List U → Store → Prop} {QI : Itb → Store → Prop} {QO : Option Int → Store → Prop} {E : Value → XF → Store → Prop} {N B C : VEnv → Store → Prop} {T : U → Store → Prop} {X : Value → XF → VEnv → Store → Prop} {env : VEnv} {st : Store}
end
section
variable {s cs : Store} {o o' : O} {n k b c : Nat}
theorem frz_dd {x : D} {f : Nat} : frz s k f (.d x) = some x:=by cases f <;> rfl
end
end VL
namespace VL
open PySem PySem.Spec PyProof.Rows L2
theorem wpR_inv {α : Type} {r : R α} {Q : α → Store → Prop} {E : Value → XF → Store → Prop} (h : wpR r Q E) : (∃ a s,r = .ok a s ∧ Q a s) ∨ ∃ c fs s,r = .ex c fs s ∧ E c fs s:=by
 cases r with
 | ok a s=>rw [wp_ok',wp_Q'] at h; exact .inl ⟨a,s,rfl,h⟩
 | ex c fs s=>rw [wp_ex'] at h; exact .inr ⟨c,fs,s,rfl,h⟩
 | bad=>rw [wp_bad'] at h; exact h.elim
theorem wpR_ok {α : Type} {r : R α} {Q : α → Store → Prop} (h : wpR r Q noR) : ∃ a s,r = .ok a s ∧ Q a s:=by
 rcases wpR_inv h with h | ⟨_,_,_,_,h⟩
 ·exact h
 ·exact h.elim
theorem wpS_nx {r : RS} {N : VEnv → Store → Prop} (h : wpS r N noT noN noN noE) : ∃ e s,r = .ok e .nx s ∧ N e s:=by
 cases r with
 | ok e f s=>cases f with
  | nx=>rw [wps_nx',wp_Q'] at h; exact ⟨e,s,rfl,h⟩
  | rt=>rw [wps_rt',wp_Q'] at h; exact h.elim
  | bk=>rw [wps_bk',wp_Q'] at h; exact h.elim
  | ct=>rw [wps_ct',wp_Q'] at h; exact h.elim
 | ex=>rw [wps_ex'] at h; exact h.elim
 | bad=>rw [wps_bad'] at h; exact h.elim
section
variable {α : Type} {fi : F Itb} {tg : U → G} {tt : F Bool} {fe : F U} {vs : List Nat} {env env0 : VEnv} {st st1 : Store} {Q : U → Store → Prop} {E : Value → XF → Store → Prop}
/-- what one element does -/
noncomputable def LcS (tg : U → G) (tt : F Bool) (fe : F U) (env0 : VEnv) (u : U) (acc : List D) (s : Store) (J : List D → Store → Prop) : Prop :=
 wpS (tg u env0 (s ++ [.lst (acc.map .d)])) (fun env1 s1=>wpR (tt env1 s1) (fun b s2=>wpI b (wpR (fe env1 s2) (fun y s3=>∃ d s',y = .d d ∧ s3 = s' ++ [.lst (acc.map .d)] ∧ s'.length = s.length ∧ J (acc ++ [d]) s') noR) (∃ s',s2 = s' ++ [.lst (acc.map .d)] ∧ s'.length = s.length ∧ J acc s')) noR) noT noN noN noE
/-- a comprehension that leaves the cells -/
noncomputable def LcP (tg : U → G) (tt : F Bool) (fe : F U) (env0 : VEnv) (u : U) (s : Store) (p : Bool) (d : D) : Prop :=
 wpS (tg u env0 s) (fun env1 s1=>wpR (tt env1 s1) (fun b s2=>b = p ∧ s2 = s ∧ (p = true → wpR (fe env1 s) (fun y s3=>y = .d d ∧ s3 = s) noR)) noR) noT noN noN noE
theorem LcP.to {u : U} {acc : List D} {s : Store} {p : Bool} {d : D} {J : List D → Store → Prop} (h : LcP tg tt fe env0 u (s ++ [.lst (acc.map .d)]) p d) (j : J (if p = true then acc ++ [d] else acc) s) : LcS tg tt fe env0 u acc s J:=by
 unfold LcP at h
 obtain ⟨env1,s1,e1,h⟩:=wpS_nx h
 obtain ⟨b,s2,e2,rfl,rfl,h⟩:=wpR_ok h
 unfold LcS
 rw [e1,wps_nx',wp_Q',e2,wp_ok',wp_Q']
 cases b with
 | false=>rw [wp_I0']; exact ⟨s,rfl,rfl,j⟩
 | true =>
  rw [wp_I1']
  obtain ⟨y,s3,e3,rfl,rfl⟩:=wpR_ok (h rfl)
  rw [e3,wp_ok',wp_Q']
  exact ⟨d,s,rfl,rfl,rfl,j⟩
end
section
variable {st : Store}
end
end VL
namespace VL
open PySem PySem.Spec PyProof.Rows L2
section
variable {X : Cx} {W : WX} {pos : Pos} {ks : List (Option Expr)} {vs : List Expr} {fs : List (F U × F U)} {k v : Expr} {fk fv : F U}
end
section
variable {X : Cx}
end
section
variable {Q : U → Store → Prop} {QP : List (U × U) → Store → Prop} {E : Value → XF → Store → Prop} {env : VEnv} {st : Store}
end
end VL
namespace VL
open PySem PySem.Spec PyProof.Rows L2
noncomputable def keyT (e : Int × Value) : Str:=match e.2 with | .str k _=>k | _=>Str.empty
noncomputable def GoodT (w : World) (e : Int × Value) : Prop:=∃ k tk,e.2 = Value.str k tk ∧ e.1 = hashStr w k
/-- the set of texts at a: S its members,n their number; its table rises and can be walked -/
noncomputable def SetT (w : World) (h : Heap) (a : Addr) (S : Str → Bool) (n : Nat) : Prop :=
 ∃ o es ep t,h.get? a = some o ∧ o.ExactSet ∧ o.data = .set es ep t ∧ (∀ e ∈ es.toList,GoodT w e) ∧ (es.toList.map keyT).Nodup ∧ (∀ k,S k = true ↔ k ∈ es.toList.map keyT) ∧
  es.size < scanBound ∧ t.fits es.size = true ∧ es.size = n ∧ Ris t.place.toList ∧ (w.params.followText "set-order" = true ∨ t.led = true)
section
variable {P : Program} {w : World} {h h' : Heap} {a : Addr} {S : Str → Bool} {n : Nat}
theorem SetT.at (R : SetT w h a S n) (k : ∀ o,h.get? a = some o → h'.get? a = some o) : SetT w h' a S n:=by
 obtain ⟨o,es,ep,t,ho,r⟩:=R
 exact ⟨o,es,ep,t,k o ho,r⟩
theorem SetT.congr {S' : Str → Bool} (R : SetT w h a S n) (e : ∀ k,S' k = S k) : SetT w h a S' n:=by
 have q : S' = S:=funext e
 rw [q]; exact R
end
section
variable {P : Program} {w : World} {A : Around} {E : Value → Shared → Prop} {s : Shared} {a : Addr} {S : Str → Bool} {n : Nat}
end
section
variable {P : Program} {w : World} {A : Around} {E : Value → Shared → Prop} {s : Shared}
end
section
variable {X : Cx}
end
noncomputable def leT (a b : Str) : Bool:=!ltCps b.cps.toList a.cps.toList
theorem leT_iff {a b : Str} : leT a b = true ↔ ¬ b.cps.toList < a.cps.toList:=by
 unfold leT
 rw [ltCps_eq]
 simp
theorem leT_trans (a b c : Str) (h1 : leT a b = true) (h2 : leT b c = true) : leT a c = true:=by
 rw [leT_iff] at *
 exact List.le_trans (α:=Nat) h1 h2
theorem leT_total (a b : Str) : (leT a b || leT b a) = true:=by
 rw [Bool.or_eq_true,leT_iff,leT_iff]
 by_cases h : b.cps.toList < a.cps.toList
 ·exact .inr (List.lt_asymm h)
 ·exact .inl h
theorem leT_anti {a b : Str} (h1 : leT a b = true) (h2 : leT b a = true) : a = b:=by
 rw [leT_iff] at *
 have e : a.cps.toList = b.cps.toList:=List.le_antisymm (α:=Nat) h1 h2
 cases a; cases b
 simp only [Str.mk.injEq]
 exact Array.toList_inj.mp e
theorem rising_pw : ∀ (p : Str) (l : List Str),risingS p l = true → (p :: l).Pairwise (fun a b=>leT a b = true)
 | p,[],_=>List.pairwise_singleton _ _
 | p,x :: r,h=>by
  have h' : (!ltCps x.cps.toList p.cps.toList && risingS x r) = true:=h
  rw [Bool.and_eq_true] at h'
  have ih:=rising_pw x r h'.2
  refine List.pairwise_cons.mpr ⟨fun y hy=>?_,ih⟩
  rcases List.mem_cons.mp hy with rfl | hy
  ·exact h'.1
  ·exact leT_trans _ _ _ h'.1 ((List.pairwise_cons.mp ih).1 y hy)
theorem sorted_pw : ∀ l : List Str,sortedS l = true → l.Pairwise (fun a b=>leT a b = true)
 | [],_=>List.Pairwise.nil
 | x :: r,h=>rising_pw x r h
end VL
namespace VL
open PySem PySem.Spec PyProof.Rows L2
section
variable {X : Cx}
end
section
variable {X : Cx} {W : WX} {o e : Expr} {fo fk : F U} {apos cpos : Pos} {td ty : TE}
end
section
variable {K : PySem.W.Frag} {m : List Addr} {H H' : Hp} {st : Store}
theorem ext_more (h : ∀ b o,H b = some o → H' b = some o) : Ext m H m H':=.of (List.prefix_refl m) (fun a u n e _=>⟨h a u e,n⟩) fun a o u e=>h a _ e
theorem Rep.more (r : Rep K m st H) (h : ∀ b o,H b = some o → H' b = some o) : Rep K m st H' :=
 ⟨r.len,r.nd,fun n c a h1 h2=>by
  obtain ⟨ho,e,q⟩:=r.cell n c a h1 h2
  exact ⟨ho,h a ho e,q.ext (ext_more h)⟩⟩
end
theorem paired_map {α β : Type} {F G : α → β → Prop} (h : ∀ x y,F x y → G x y) : ∀ {xs : List α} {ys : List β},Paired F xs ys → Paired G xs ys
 | _,_,.nil=>.nil
 | _,_,.cons a b=>.cons (h _ _ a) (paired_map h b)
/-- tuples that lie outside the cells -/
noncomputable def Outs (m : List Addr) (H : Hp) (ts : List Addr) (kvs : List (Key × V)) : Prop:=Paired (fun t (q : Key × V)=>H t = some (.tup [kV q.1,q.2]) ∧ t ∉ m) ts kvs
theorem Outs.ext {m m' : List Addr} {H H' : Hp} {ts : List Addr} {kvs : List (Key × V)} (h : Outs m H ts kvs) (x : Ext m H m' H') : Outs m' H' ts kvs :=
 paired_map (fun t q z=>x.toStay.ex t (.tup [kV q.1,q.2]) z.2 z.1 (fun _ z=>nomatch z) (fun _ z=>nomatch z)) h
section
variable {X : Cx} {W : WX} {x e1 e2 e3 : Expr} {fx f1 f2 f3 : F U} {k1 k2 k3 : Str}
end
end VL
namespace VL
open PySem PySem.Spec PyProof.Rows L2
section
variable {K : PySem.W.Frag} {m : List Addr} {H : Hp} {st : Store}
end
section
variable {X : Cx} {W : WX} {tg e : Expr} {fe : F U}
end
section
variable {X : Cx} {W : WX} {elt tg iter : Expr} {ifs : List Expr} {scope : Scope} {own : List (Str × Nat)} {pos : Pos} {is : List Nat} {g : U → G} {gt : F Bool} {fe : F U} {fi : F Itb}
/-- name = [..],a cell -/
theorem ds_setLcCV {vs : List Nat} (i : Nat) {y : Str} {py spos : Pos} (hc : X.calm = true) (hN : X.N.Nodup) (hsw : swapsWith (.ListComp elt [⟨tg,iter,ifs,0⟩] scope pos) (some (.Name y py)) spos.line X.env = pure true) (hi : DI X W tg iter fi) (ok : BlkOk X.N X.env.scope scope own)
  (hg : ∀ (s : Shared) (H : Hp) (C : Addr) (cl : List (Str × Addr)) (fp : List Addr),DG (X.blk s H scope (compEnvC scope cl C X.env) fp) tg is g)
  (ht : ∀ (s : Shared) (H : Hp) (C : Addr) (cl : List (Str × Addr)) (fp : List Addr),DTs (X.blk s H scope (compEnvC scope cl C X.env) fp) W0 ifs gt)
  (he : ∀ (s : Shared) (H : Hp) (C : Addr) (cl : List (Str × Addr)) (fp : List Addr),DE (X.blk s H scope (compEnvC scope cl C X.env) fp) W0 elt fe)
  (hvv : own.map (·.2) = vs:=by rfl) (hvs : ∀ i ∈ is,i ∈ own.map (·.2):=by decide) (hy : X.N[i]? = some y:=by rfl) (hyl : X.env.scope.names.lookup y = some .local:=by rfl) (hs : ∀ x,foldedSetIterable iter X.env x = pure x:=by intro _; rfl) :
  DS X W (.Assign [.Name y py] (.ListComp elt [⟨tg,iter,ifs,0⟩] scope pos) spos) (sAsg (fLcC fi g gt fe vs) (tgN i)):=by
 subst hvv; exact ds_setLcC i hc hN hsw hi ok hg ht he hvs hy hyl hs
end
end VL
namespace VL
open PySem PySem.Spec PyProof.Rows L2
section
variable {Q : U → Store → Prop} {QI : Itb → Store → Prop} {E : Value → XF → Store → Prop} {env : VEnv} {st : Store}
end
end VL
namespace VL
open PySem PySem.Spec PyProof.Rows L2
section
variable {X : Cx}
end
end VL
namespace VL
open PySem PySem.Spec PyProof.Rows L2
mutual
noncomputable def plD : D → Bool
 | .non=>true
 | .int _=>true
 | .str s=>PyData.strOk s
 | .tup ds=>plDs ds
 | .lst ds=>plDs ds
 | _=>false
noncomputable def plDs : List D → Bool
 | []=>true
 | d :: ds=>plD d && plDs ds
end
mutual
noncomputable def pD : D → PyData
 | .int i=>.int i
 | .str s=>.str s
 | .tup ds=>.tuple (pDs ds)
 | .lst ds=>.list (pDs ds)
 | _=>.none
noncomputable def pDs : List D → List PyData
 | []=>[]
 | d :: ds=>pD d :: pDs ds
end
mutual
theorem toP_pl : ∀ {d : D},plD d = true → toP d = some (pD d)
 | .non,_=>rfl
 | .int _,_=>rfl
 | .str _,_=>rfl
 | .tup ds,h=>by
  have:=toPs_pl (ds:=ds) (by simpa [plD] using h)
  simp [toP,pD,this]
 | .lst ds,h=>by
  have:=toPs_pl (ds:=ds) (by simpa [plD] using h)
  simp [toP,pD,this]
 | .bl _,h | .ty _,h | .obj _,h | .dct _,h | .ins _ _,h | .scr _,h | .exc _ _ _ _,h | .kdc _ _,h=>by simp [plD] at h
theorem toPs_pl : ∀ {ds : List D},plDs ds = true → toPs ds = some (pDs ds)
 | [],_=>rfl
 | d :: ds,h=>by
  simp only [plDs,Bool.and_eq_true] at h
  simp [toPs,pDs,toP_pl h.1,toPs_pl h.2]
end
/-- a list that is data,or a cell of data -/
noncomputable def LsU (st : Store) (u : U) (ds : List D) : Prop:=u = .d (.lst ds) ∨ ∃ n,u = .ref n ∧ st[n]? = some (.lst (ds.map U.d))
theorem LsU.d (st : Store) (ds : List D) : LsU st (.d (.lst ds)) ds:=.inl rfl
theorem LsU.r {st : Store} {n : Nat} {ds : List D} (h : st[n]? = some (.lst (ds.map U.d))) : LsU st (.ref n) ds:=.inr ⟨n,rfl,h⟩
theorem LsU.asP {st : Store} {u : U} {ds : List D} (h : LsU st u ds) (hp : plDs ds = true) : asP st u = some (.list (pDs ds)):=by
 rcases h with rfl | ⟨n,rfl,h⟩
 ·rw [asP_d]
  have:=toP_pl (d:=.lst ds) (by simpa [plD] using hp)
  simpa [pD] using this
 ·rw [asP_ref h,toPs_pl hp]
  rfl
theorem LsU.getL {st : Store} {u : U} {ds : List D} (h : LsU st u ds) : getL st u = some (ds.map U.d):=by
 rcases h with rfl | ⟨n,rfl,h⟩
 ·rfl
 ·unfold VL.getL
  simp only [h]
section
variable {st : Store}
end
end VL
namespace VL
open PySem PySem.Spec PyProof.Rows L2
section
variable {X : Cx} {W : WX} {e : Expr} {fe : F U} {p p2 pos pos2 : Pos}
end
end VL
namespace VL
open PySem PySem.Spec PyProof.Rows L2
section
variable {P : Program} {w : World} {A : Around} {E : Value → Shared → Prop} {s : Shared}
end
end VL
namespace VL
open PySem PySem.Spec PyProof.Rows L2
section
variable {X : Cx}
end
end VL
namespace VL
open PySem PySem.Spec PyProof.Rows L2
namespace Hd
noncomputable def refsF (o : Obj) : List Addr:=match o.data with
 | .func fd=>He.refV fd.code ++ (He.refV fd.kwdefaults ++ He.refV fd.defaults)
 | .cls cd=>[cd.ns]
 | .dict es _=>es.toList.flatMap fun e=>He.refV e.val
 | .fields vs=>if o.cls == .type "property" || o.cls == .type "staticmethod" then vs.toList.flatMap He.refV else []
 | _=>[]
noncomputable def nextF (g : Addr → Option Obj) (as : List Addr) : List Addr:=as.flatMap fun a=>match g a with
 | some o=>refsF o
 | none=>[]
noncomputable def fragF (names : List Str) (g : Addr → Option Obj) : PySem.W.Frag :=
 (fun A1=>(fun A2=>(fun A3=>(fun A4=>(fun A5=>He.frG g (mainGlobals :: cStatics :: (A1 ++ (A2 ++ (A3 ++ (A4 ++ A5)))))) (nextF g A4)) (nextF g A3)) (nextF g A2)) (nextF g A1)) (names.map (He.ga (He.frG g [mainGlobals])))
noncomputable def fnV (K : PySem.W.Frag) (f : Addr) : He.FnV:=match K.lookup f with
 | some ⟨_,_,.func fd,_⟩=>some (fd.name,fd.qualname,fd.params,fd.body,fd.scope,fd.globals,fd.closure,fd.defaults,fd.builtins)
 | _=>none
noncomputable def fnT (x q : Str) (st : Stmt) : He.FnV:=some (x,q,defArgs st,.stmts (defBody st),defScope st,mainGlobals,[],.none,builtinsNs)
noncomputable def codeB (K : PySem.W.Frag) (f : Addr) (q : Str) : Bool:=match K.lookup f with
 | some ⟨_,_,.func fd,_⟩=>PySem.W.codeIn K fd.code q
 | _=>false
section
variable {K : PySem.W.Frag} {f : Addr} {x q : Str} {st : Stmt}
theorem fn_of (e : fnV K f = fnT x q st) (c : codeB K f q = true) :
  ∃ oc od osl kV doc pm an cdv ct,K.lookup f = some ⟨oc,od,.func (PySem.W.fnOf x q (defArgs st) (defBody st) (defScope st) .none kV doc pm an cdv ct),osl⟩ ∧ PySem.W.codeIn K cdv q = true:=by
 unfold codeB at c
 unfold fnV fnT at e
 cases r : K.lookup f with
 | none=>rw [r] at c; cases c
 | some o =>
  obtain ⟨oc,od,dt,osl⟩:=o
  rw [r] at c e
  cases dt with
  | func fd =>
   obtain ⟨n1,n2,n3,n4,n5,n6,n7,n8,n9,n10,n11,n12,n13,n14,n15⟩:=fd
   have e2 : (some (n1,n2,n3,n4,n5,n6,n7,n8,n15) : He.FnV) = some (x,q,defArgs st,.stmts (defBody st),defScope st,mainGlobals,[],.none,builtinsNs):=e
   simp only [Option.some.injEq,Prod.mk.injEq] at e2
   obtain ⟨h1,h2,h3,h4,h5,h6,h7,h8,h9⟩:=e2
   subst h1 h2 h3 h4 h5 h6 h7 h8 h9
   exact ⟨oc,od,osl,n9,n10,n11,n12,n13,n14,rfl,c⟩
  | _=>cases c
end
noncomputable def propF (K : PySem.W.Frag) (p : Addr) : Addr:=match PySem.W.recIn K p "property" with
 | some (.ref f :: _)=>f
 | _=>0
noncomputable def strB (K : PySem.W.Frag) (x z : Str) : Bool:=match PySem.W.nsIn K mainGlobals x with
 | some (some (.str y _))=>decide (y = z)
 | _=>false
noncomputable def intB (K : PySem.W.Frag) (x : Str) (i : Int) : Bool:=match PySem.W.nsIn K mainGlobals x with
 | some (some (.int j _))=>decide (j = i)
 | _=>false
noncomputable def propB (K : PySem.W.Frag) (p : Addr) : Bool:=match PySem.W.recIn K p "property" with
 | some (.ref _ :: _)=>true
 | _=>false
section
variable {K : PySem.W.Frag}
theorem ba {a b : Bool} (h : (a && b) = true) : a = true ∧ b = true:=Bool.and_eq_true_iff.mp h
theorem str_ok {x z : Str} (h : strB K x z = true) : ∃ t,PySem.W.nsIn K mainGlobals x = some (some (.str z t)):=by
 unfold strB at h
 split at h
 ·rename_i y t e
  exact ⟨t,by rw [e,of_decide_eq_true h]⟩
 ·cases h
theorem int_ok {x : Str} {i : Int} (h : intB K x i = true) : ∃ t,PySem.W.nsIn K mainGlobals x = some (some (.int i t)):=by
 unfold intB at h
 split at h
 ·rename_i y t e
  exact ⟨t,by rw [e,of_decide_eq_true h]⟩
 ·cases h
theorem prop_ok {p : Addr} (h : propB K p = true) : ∃ pr,PySem.W.recIn K p "property" = some (.ref (propF K p) :: pr):=by
 unfold propB at h
 split at h
 ·rename_i f pr e
  exact ⟨pr,by unfold propF; rw [e]⟩
 ·cases h
end
noncomputable def tabB (g : Addr → Option Obj) (P : Addr) : Bool:=match g P with
 | some ⟨.none,none,.fields vs,sl⟩=>vs.isEmpty && sl.isEmpty
 | _=>false
theorem tab_ok {g : Addr → Option Obj} {P : Addr} (h : tabB g P = true) : g P = some (PySem.W.tabObj #[]):=by
 unfold tabB at h
 split at h
 ·rename_i vs sl e
  obtain ⟨h1,h2⟩:=ba h
  rw [e,Array.isEmpty_iff.mp h1,Array.isEmpty_iff.mp h2]
 ·cases h
noncomputable def allB : List (List Bool) → Bool
 | []=>true
 | l :: r=>l.all id && allB r
theorem allB_at : ∀ {l : List (List Bool)},allB l = true → ∀ {i j : Nat} {r : List Bool} {b : Bool},l[i]? = some r → r[j]? = some b → b = true
 | [],_,i,j,r,b,h,_=>by cases h
 | l :: rs,h,0,j,r,b,h1,h2=>by
  cases h1
  exact List.all_eq_true.mp (ba h).1 b (List.mem_of_getElem? h2)
 | l :: rs,h,i + 1,j,r,b,h1,h2=>allB_at (ba h).2 (i:=i) h1 h2
structure Says (names : List Str) (bs : PySem.W.Frag → List (List Bool)) (fns : PySem.W.Frag → List He.FnV) (fv : List He.FnV) (tb : PySem.W.Frag → List Addr) (h : Heap) (K : PySem.W.Frag) : Prop where
 b : allB (bs K) = true
 f : fns K = fv
 t : ∀ P ∈ tb K,h.get? P = some (PySem.W.tabObj #[])
noncomputable abbrev Al : Type:=Bool × (Bool × List He.FnV)
noncomputable def obsV (names : List Str) (bs : PySem.W.Frag → List (List Bool)) (fns : PySem.W.Frag → List He.FnV) (tb : PySem.W.Frag → List Addr) (g : Addr → Option Obj) : Al :=
 (fun K : PySem.W.Frag=>(allB (bs K),((tb K).all (tabB g),fns K))) (fragF names g)
noncomputable def valV (fv : List He.FnV) : Al:=(true,(true,fv))
theorem says_of {names : List Str} {bs : PySem.W.Frag → List (List Bool)} {fns : PySem.W.Frag → List He.FnV} {fv : List He.FnV} {tb : PySem.W.Frag → List Addr} {h : Heap} (e : obsV names bs fns tb h.get? = valV fv) : Says names bs fns fv tb h (fragF names h.get?):=by
 have e1 : allB (bs (fragF names h.get?)) = true:=congrArg (fun z : Al=>z.1) e
 have e2 : (tb (fragF names h.get?)).all (tabB h.get?) = true:=congrArg (fun z : Al=>z.2.1) e
 have e3 : fns (fragF names h.get?) = fv:=congrArg (fun z : Al=>z.2.2) e
 exact ⟨e1,e3,fun P hP=>tab_ok (List.all_eq_true.mp e2 P hP)⟩
noncomputable def hookV (names : List Str) (bs : PySem.W.Frag → List (List Bool)) (fns : PySem.W.Frag → List He.FnV) (fv : List He.FnV) (tb : PySem.W.Frag → List Addr) : PySem.W.Hook where
 α:=Al
 obs:=fun s=>obsV names bs fns tb s.heap.get?
 val:=fun _=>valV fv
 says:=fun _ h=>∃ K : PySem.W.Frag,K.In h ∧ Says names bs fns fv tb h K
 of:=fun _ _ e=>⟨_,He.frG_in,says_of e⟩
 keeps:=fun _ _ _ ⟨K,hK,c⟩ k=>⟨K,PySem.W.Frag.In.keeps hK k,⟨c.b,c.f,fun P hP=>k _ _ (c.t P hP)⟩⟩
theorem obsV_eq {names : List Str} {bs : PySem.W.Frag → List (List Bool)} {fns : PySem.W.Frag → List He.FnV} {fv : List He.FnV} {tb : PySem.W.Frag → List Addr} {g : Addr → Option Obj} {s : Shared} (h : ∀ a,g a = s.heap.get? a) : obsV names bs fns tb g = (hookV names bs fns fv tb).obs s:=by
 have e : g = s.heap.get?:=funext h
 rw [e] <;> rfl
section
variable {names : List Str} {bs : PySem.W.Frag → List (List Bool)} {fns : PySem.W.Frag → List He.FnV} {fv : List He.FnV} {tb : PySem.W.Frag → List Addr} {h : Heap} {K : PySem.W.Frag}
theorem Says.at (c : Says names bs fns fv tb h K) (i j : Nat) {r : List Bool} {b : Bool} (h1 : (bs K)[i]? = some r:=by rfl) (h2 : r[j]? = some b:=by rfl) : b = true:=allB_at c.b h1 h2
theorem Says.fn (c : Says names bs fns fv tb h K) (i : Nat) {x y : He.FnV} (h1 : (fns K)[i]? = some x:=by rfl) (h2 : fv[i]? = some y:=by rfl) : x = y:=by
 rw [c.f,h2] at h1
 exact (Option.some.inj h1).symm
end
end Hd
section
/-- the law's walk,over a head by facts -/
theorem walk_ofGE {l : PySem.W.OpenLaw} {n k : Nat} {q : Program} {loose : List Str} {XP : (Str → Option Value) → Heap → Prop} {YP : World → Heap → Prop} {d : DefRec} {x : Str} (hn : l.most = some n) (hn2 : n ≤ sizeLine)
  (hdf : d.params.defaults = []) (hr : RoomG k callerA)
  (F : ∀ (w : World) (mg : Str → Option Value) (fa : Addr) (h : Heap),YP w h → h.Ns mainGlobals mg → mg d.name = some (.ref fa) →
   ∃ (K : PySem.W.Frag) (sp : Sp) (fd : FuncData),K.In h ∧ (∀ (H : Hp) (a : Addr) (ns : List Int),ns.length ≤ n → Only H → SqL K H a (ns.map V.int) → sp [.ref a] H (fun v _=>v = .bl true) fun _ _ _=>False) ∧
    (∀ (s : Shared) (u : Value),BindsTo s fd { pos:=[u] } [(x,u)]) ∧ ∀ base : Heap,PySem.W.Frag.In K base → base.Ns mainGlobals mg → FnG l.prog w K mg base k fa fd [x] sp) :
  PySem.W.WalkO q loose XP YP l.row.toRowW d [] fun f vs=>call f vs :=
 Att.attach_call hn hdf fun w s₀ s₁ mg mb fa o pm cd doc a vs ns G Y ho hd hcd hmg hobj hints hlen hg=>by
  obtain ⟨K,sp,fd,KX,hsp,hb,hF⟩:=F w mg fa s₁.heap Y G.T.g hmg
  exact law_callG KX G.T.g G.T.b G.T.builtins G.T.nolimit hg hobj hints (Nat.le_trans hlen hn2) hr hF hb fun H hO hS=>hsp H a ns hlen hO hS
end
end VL
namespace VL
open PySem PySem.Spec PyProof.Rows L2
noncomputable def sortS (ns : List Str) : List Str:=ns.mergeSort leT
noncomputable def oSortS : List U → Store → Option U:=fun us st=>match us with
 | [u]=>match getL st u with
  | some us=>match strsU us with
   | some ns=>if ns.length < 64 then some (.d (.lst ((sortS ns).map .str))) else none
   | none=>none
  | none=>none
 | _=>none
theorem sortS_perm (ns : List Str) : (sortS ns).Perm ns:=List.mergeSort_perm _ _
section
variable {X : Cx}
theorem cr_sortS : CallR X (.builtin "sorted") (rM X.K (pu oSortS)):=by
 refine CallR.imp cr_sortedS fun vs H Q ⟨m,st,us,r,ru,p⟩=>?_
 obtain ⟨u,e,p⟩:=p.pu
 unfold oSortS at e
 split at e
 ·obtain ⟨v,rfl,hv⟩:=ru.one
  split at e
  ·rename_i us hl
   obtain ⟨a,ws,rfl,t,q⟩:=getL_rp r hv hl
   split at e
   ·rename_i ns q2
    split at e
    ·rename_i h64
     cases e
     have:=strs_rp q q2
     subst this
     refine ⟨a,ns,rfl,t,h64,fun ns' l hp hs hl=>?_⟩
     have : ns' = sortS ns:=by
      refine List.Perm.eq_of_pairwise (le:=fun a b=>leT a b = true) (fun a b _ _ h1 h2=>leT_anti h1 h2) (sorted_pw _ hs) (List.pairwise_mergeSort leT_trans leT_total _) (hp.trans (List.mergeSort_perm _ _).symm)
     subst this
     exact p _ m _ (new_lst r hl (RpDs.strs _)) (r.new hl _) (ext_new r hl _)
    ·cases e
   ·cases e
  ·cases e
 ·cases e
end
end VL
namespace PySem.W
open PySem PyProof.Rows
open PySem.Sem (wp)
section
variable {prog : Program} {w : World} {A : Around} {E : Value → Shared → Prop} {s : Shared}
end
end PySem.W
namespace VL
open PySem PySem.Spec PyProof.Rows L2 PySem.W
section
variable {X : Cx}
end
section
variable {X : Cx} {e : Expr} {te : TE} {p apos cpos pos : Pos}
end
section
variable {X : Cx} {W : WX} {x ek e1 : Expr} {fx fk f1 : F U}
end
end VL
namespace VL
open PySem PySem.Spec PyProof.Rows L2
noncomputable abbrev MTup:=Addr × List Key
section
variable (P : Program) (w : World)
noncomputable def mH (k : List Key) : Int:=tupleKeyHash (mixKind P w) k
noncomputable def MT (h : Heap) (k : List Key) (a : Addr) : Prop:=IsTupleKey (mixKind P w) h k a
noncomputable def mRows (L : List MTup) : List (Int × Value):=L.map fun q=>(mH P w q.2,.ref q.1)
noncomputable def mHs (L : List MTup) : List Int:=L.map fun q=>mH P w q.2
/-- the set at a holds the tuples L,in the order of its table -/
structure MSet (h : Heap) (a : Addr) (L : List MTup) (es : Array (Int × Value)) (ep : Nat) (t : SetTable) : Prop where
 obj : ∃ o,h.get? a = some o ∧ o.ExactSet ∧ o.data = .set es ep t
 rw' : es.toList = mRows P w L
 tb : TabOk t (mHs P w L)
 dis : (L.map (·.2)).Nodup
 tu : ∀ q ∈ L,MT P w h q.2 q.1
 le' : w.params.followText "set-order" = true ∨ t.led = true
 rm : L.length * 5 < t.mask * 3
 fw : L.length < 64
end
section
variable {P : Program} {w : World} {A : Around} {E : Value → Shared → Prop} {s : Shared} {k : List Key} {b : Addr}
end
section
variable {P : Program} {w : World} {A : Around} {E : Value → Shared → Prop} {s : Shared} {a : Addr} {L : List MTup} {es : Array (Int × Value)} {ep : Nat} {t : SetTable}
theorem MSet.keep {h h' : Heap} (Z : MSet P w h a L es ep t) (ka : ∀ o,h.get? a = some o → h'.get? a = some o) (kt : ∀ q ∈ L,MT P w h' q.2 q.1) : MSet P w h' a L es ep t:=by
 obtain ⟨o,go,r⟩:=Z.obj
 exact ⟨⟨o,ka o go,r⟩,Z.rw',Z.tb,Z.dis,kt,Z.le',Z.rm,Z.fw⟩
end
end VL
namespace VL
open PySem PySem.Spec PyProof.Rows L2
/-- a kind of sets: the tracked thing at an address,the empty one,what may be added and what it gives -/
structure SKd (X : Cx) (ι : Type) where
 O : Addr → ι → HO
 e0 : ι
 can : V → Hp → ι → ι → Prop
 new : ∀ {H : Hp} {h : Heap},ObjOk X.prog X.w H (h.push { cls:=.type "set",dict:=none,data:=.set #[] 0 (.fresh 0 0 (!X.w.params.followText "set-order")) }) h.objs.size (O h.objs.size e0)
 add : ∀ (s0 : Shared) (H0 : Hp) (sc : Scope) (env : Env) (fp : List Addr) {pins : List (Addr × Obj)} {σ : L2.St} {H : Hp} {s : Shared} {E : Value → Shared → Prop} {D : Addr} {i i2 : ι} {y : V} {v : Value} {Q : Value → Shared → Prop},
  Inv (X.blk s0 H0 sc env fp) pins σ H s → H D = some (O D i) → can y H i i2 → RelV y v → (∀ s2,Inv (X.blk s0 H0 sc env fp) pins σ (upd H D (O D i2)) s2 → Q .none s2) →
   wpAny (model X.prog X.w) X.A (call (.builtin "set.add") [.ref D,v]) Q E s
section
variable {elt tA iA tB iB : Expr} {cA cB : List Expr} {sc : Scope} {ps : Pos} {it acc : Value}
variable {prog : Program} {w : World} {A : Around} {R : Result → Shared → Prop} {s : Shared} {env : Env}
end
section
variable {X : Cx} {ι : Type}
variable {elt tA iA tB iB : Expr} {cA cB : List Expr} {sc : Scope} {own : List (Str × Nat)} {us : List Nat} {ps pp : Pos} {wi wj : TI} {g gj : TG} {tt tj : TT} {te : TE} {S : SKd X ι}
end
end VL
namespace VL
open PySem PySem.Spec PyProof.Rows L2
section
variable {P : Program} {w : World} {A : Around} {E : Value → Shared → Prop} {s : Shared} {a : Addr} {L : List MTup} {es : Array (Int × Value)} {ep : Nat} {t : SetTable}
theorem MSet.typeIs (Z : MSet P w s.heap a L es ep t) : s.TypeIs (.ref a) "set":=by
 obtain ⟨o,go,gx,-⟩:=Z.obj
 exact ⟨o,go,gx.1⟩
end
section
variable {P : Program} {w : World} {h : Heap} {a : Addr} {L : List MTup} {es : Array (Int × Value)} {ep : Nat} {t : SetTable}
end
section
variable {X : Cx} {pins : List (Addr × Obj)} {σ : L2.St} {H : Hp} {s : Shared}
end
section
variable {P : Program} {w : World} {A : Around} {E : Value → Shared → Prop} {s : Shared} {a : Addr} {M : List MTup} {es : Array (Int × Value)} {ep : Nat} {t : SetTable}
end
end VL
namespace VL
open PySem PySem.Spec PyProof.Rows L2
noncomputable def Soft (o : HO) : Prop:=(∃ f,o = .ext f ∧ (∀ c q,o ≠ LamX.CodeO c q) ∧ ∀ (a : Addr) (ob : Obj) (es : Array DictEntry) (ep : Nat),ob.data = .dict es ep → o ≠ PinO a ob) ∨ ∃ S n,o = .set S n
/-- all but one soft thing stays -/
structure But (D : Addr) (H H' : Hp) : Prop where
 oth : ∀ a,a ≠ D → H' a = H a
 was : ∃ o,H D = some o ∧ Soft o
section
variable {K : PySem.W.Frag} {m : List Addr} {H H' : Hp} {D : Addr}
theorem But.at' (b : But D H H') {a : Addr} {o : HO} (h : H a = some o) (n : ¬ Soft o) : H' a = some o:=by
 rw [b.oth a fun e=>?_,h]
 obtain ⟨u,e1,e2⟩:=b.was
 rw [e,e1] at h
 cases h
 exact n e2
theorem ns_l {vs : List V} : ¬ Soft (.lst vs):=by rintro (⟨f,e,_⟩ | ⟨S,n,e⟩) <;> cases e
theorem ns_t {vs : List V} : ¬ Soft (.tup vs):=by rintro (⟨f,e,_⟩ | ⟨S,n,e⟩) <;> cases e
theorem ns_k {vs : List (Key × V)} : ¬ Soft (.dK vs):=by rintro (⟨f,e,_⟩ | ⟨S,n,e⟩) <;> cases e
theorem ns_f {o : Obj} {u : HO} : ¬ Soft (.frz o u):=by rintro (⟨f,e,_⟩ | ⟨S,n,e⟩) <;> cases e
theorem ns_i {C x : Addr} {fs : List (Str × V)} : ¬ Soft (.ins C x fs):=by rintro (⟨f,e,_⟩ | ⟨S,n,e⟩) <;> cases e
theorem ns_x {fs : List (Str × V)} : ¬ Soft (.xd fs):=by rintro (⟨f,e,_⟩ | ⟨S,n,e⟩) <;> cases e
theorem ns_b {ps : Array Value} : ¬ Soft (.tbl ps):=by rintro (⟨f,e,_⟩ | ⟨S,n,e⟩) <;> cases e
theorem ns_c {c : Addr} {q : Str} : ¬ Soft (LamX.CodeO c q):=by
 rintro (⟨f,e,h⟩ | ⟨S,n,e⟩)
 ·exact h.1 c q rfl
 ·cases e
theorem ns_p {w : World} {a : Addr} {o : Obj} {es : List (NestedKey × Addr × V)} (h : KdOk w a o es) : ¬ Soft (PinO a o):=by
 obtain ⟨-,-,xs,-,-,en,ep,-,hd,-⟩:=h
 rintro (⟨f,e,h⟩ | ⟨S,n,e⟩)
 ·exact h.2 a o en ep hd rfl
 ·cases e
mutual
theorem RpD.but (b : But D H H') : ∀ (d : VL.D) (v : V),RpD K m H d v → RpD K m H' d v
 | .non,_,h=>h
 | .bl _,_,h=>h
 | .int _,_,h=>h
 | .str _,_,h=>h
 | .ty _,_,h=>h
 | .obj _,_,h=>h
 | .tup ds,_,⟨a,vs,e,t,r⟩=>⟨a,vs,e,t.elim (fun z=>.inl ⟨z.1,b.at' z.2 ns_t⟩) .inr,RpDs.but b ds vs r⟩
 | .lst ds,_,⟨a,vs,e,t,r⟩=>⟨a,vs,e,⟨t.1,b.at' t.2 ns_l⟩,RpDs.but b ds vs r⟩
 | .dct ks,_,⟨a,vs,e,t,r⟩=>⟨a,vs,e,⟨t.1,t.2.elim (fun z=>.inl (b.at' z ns_k)) fun ⟨o,z⟩=>.inr ⟨o,b.at' z ns_f⟩⟩,RpK.but b ks vs r⟩
 | .ins C fs,_,⟨a,dx,vs,e,t,r⟩=>⟨a,dx,vs,e,⟨t.1,b.at' t.2 ns_i⟩,RpF.but b fs vs r⟩
 | .scr ns,_,⟨a,e,t⟩=>⟨a,e,t.elim (fun ⟨n,o,z⟩=>.inl ⟨n,o,b.at' z ns_f⟩) .inr⟩
 | .kdc w ks,_,⟨a,o,es,e,t,z,r⟩=>⟨a,o,es,e,⟨t.1,b.at' t.2 (ns_p z)⟩,z,RpKd.but b ks es r⟩
 | .exc _ _ _ fs,_,⟨e,.inl h⟩=>⟨e,.inl h⟩
 | .exc _ _ _ fs,_,⟨e,.inr ⟨dd,vs,q,t,r⟩⟩=>⟨e,.inr ⟨dd,vs,q,⟨t.1,b.at' t.2 ns_x⟩,RpF.but b fs vs r⟩⟩
theorem RpDs.but (b : But D H H') : ∀ (ds : List VL.D) (vs : List V),RpDs K m H ds vs → RpDs K m H' ds vs
 | [],_,h=>h
 | d :: ds,_,⟨v,r,e,h1,h2⟩=>⟨v,r,e,RpD.but b d v h1,RpDs.but b ds r h2⟩
theorem RpK.but (b : But D H H') : ∀ (ds : List (Key × VL.D)) (vs : List (Key × V)),RpK K m H ds vs → RpK K m H' ds vs
 | [],_,h=>h
 | (_,d) :: ds,_,⟨v,r,e,h1,h2⟩=>⟨v,r,e,RpD.but b d v h1,RpK.but b ds r h2⟩
theorem RpKd.but (b : But D H H') : ∀ (ds : List (VL.D × VL.D)) (vs : List (NestedKey × Addr × V)),RpKd K m H ds vs → RpKd K m H' ds vs
 | [],_,h=>h
 | (k,d) :: ds,_,⟨n,c,v,r,e,q,h0,h1,h2⟩=>⟨n,c,v,r,e,q,RpD.but b k _ h0,RpD.but b d v h1,RpKd.but b ds r h2⟩
theorem RpF.but (b : But D H H') : ∀ (ds : List (Str × VL.D)) (vs : List (Str × V)),RpF K m H ds vs → RpF K m H' ds vs
 | [],_,h=>h
 | (_,d) :: ds,_,⟨v,r,e,h1,h2⟩=>⟨v,r,e,RpD.but b d v h1,RpF.but b ds r h2⟩
end
theorem RpU.but (b : But D H H') : ∀ (u : U) (v : V),RpU K m H u v → RpU K m H' u v
 | .d x,v,h=>RpD.but b x v h
 | .ref _,_,h=>h
theorem RpUs.but (b : But D H H') : ∀ (us : List U) (vs : List V),RpUs K m H us vs → RpUs K m H' us vs
 | [],_,h=>h
 | u :: us,_,⟨v,r,e,h1,h2⟩=>⟨v,r,e,RpU.but b u v h1,RpUs.but b us r h2⟩
theorem RpUK.but (b : But D H H') : ∀ (us : List (Key × U)) (vs : List (Key × V)),RpUK K m H us vs → RpUK K m H' us vs
 | [],_,h=>h
 | (_,u) :: us,_,⟨v,r,e,h1,h2⟩=>⟨v,r,e,RpU.but b u v h1,RpUK.but b us r h2⟩
theorem RpUKd.but (b : But D H H') : ∀ (us : List (VL.D × U)) (vs : List (NestedKey × Addr × V)),RpUKd K m H us vs → RpUKd K m H' us vs
 | [],_,h=>h
 | (k,u) :: us,_,⟨n,c,v,r,e,q,h0,h1,h2⟩=>⟨n,c,v,r,e,q,RpD.but b k _ h0,RpU.but b u v h1,RpUKd.but b us r h2⟩
theorem RpUF.but (b : But D H H') : ∀ (us : List (Str × U)) (vs : List (Str × V)),RpUF K m H us vs → RpUF K m H' us vs
 | [],_,h=>h
 | (_,u) :: us,_,⟨v,r,e,h1,h2⟩=>⟨v,r,e,RpU.but b u v h1,RpUF.but b us r h2⟩
theorem RpO.but (b : But D H H') {x : Addr} : ∀ (o : O) (ho : HO),RpO K m H x o ho → RpO K m H' x o ho ∧ ¬ Soft ho
 | .lst us,_,⟨vs,e,r⟩=>⟨⟨vs,e,RpUs.but b us vs r⟩,e ▸ ns_l⟩
 | .tup us,_,⟨vs,e,r⟩=>⟨⟨vs,e,RpUs.but b us vs r⟩,e ▸ ns_t⟩
 | .dct us,_,⟨vs,e,r⟩=>⟨⟨vs,e,RpUK.but b us vs r⟩,e ▸ ns_k⟩
 | .lck us,_,⟨ob,vs,e,r⟩=>⟨⟨ob,vs,e,RpUK.but b us vs r⟩,e ▸ ns_f⟩
 | .kdc w us,_,⟨ob,vs,e,z,r⟩=>⟨⟨ob,vs,e,z,RpUKd.but b us vs r⟩,e ▸ ns_p z⟩
 | .ins C us,_,⟨dx,vs,e,r⟩=>⟨⟨dx,vs,e,RpUF.but b us vs r⟩,e ▸ ns_i⟩
 | .tbl P q,_,⟨e,ps,e1,e2,h⟩=>⟨⟨e,ps,e1,e2,fun pos cv hc=>let ⟨c,g1,g2,g3⟩:=h pos cv hc; ⟨c,g1,g2,b.at' g3 ns_c⟩⟩,e1 ▸ ns_b⟩
theorem Rep.but {st : Store} (b : But D H H') (r : Rep K m st H) : Rep K m st H':=⟨r.len,r.nd,fun n o a h1 h2=>by
 obtain ⟨ho,e,q⟩:=r.cell n o a h1 h2
 obtain ⟨q1,q2⟩:=RpO.but b o ho q
 exact ⟨ho,b.at' e q2,q1⟩⟩
theorem RpEnv.but (b : But D H H') {env : VEnv} {σ : L2.St} (h : RpEnv K m H env σ) : RpEnv K m H' env σ :=
 ⟨h.len,fun i u hi=>let ⟨v,h1,h2⟩:=h.at' i u hi; ⟨v,h1,RpU.but b u v h2⟩⟩
end
/-- a kind of sets,as the mirrors see it -/
structure VSet (X : Cx) (ι : Type) extends SKd X ι where
 okd : List D → D → Bool
 soft : ∀ D i,Soft (O D i)
 R : List Addr → Hp → ι → List D → Prop
 r0 : ∀ m H,R m H e0 []
 rext : ∀ {m m' H H' i acc},Stay m H m' H' → R m H i acc → R m' H' i acc
 rbut : ∀ {D m H H' i acc},But D H H' → R m H i acc → R m H' i acc
 put : ∀ {m H i acc d y},R m H i acc → okd acc d = true → RpD X.K m H d y → ∃ i2,can y H i i2 ∧ R m H i2 (acc ++ [d])
section
variable {X : Cx} {ι : Type} {S : VSet X ι} {W : WX} {elt tg iter : Expr} {ifs : List Expr} {scope : Scope} {own : List (Str × Nat)} {pos : Pos} {is : List Nat} {g : U → G} {gt : F Bool} {fe : F U} {fi : F Itb}
/-- what holds between two turns -/
structure SgI (S : VSet X ι) (m1 : List Addr) (H1 : Hp) (D0 : Addr) (m' : List Addr) (st' : Store) (H' : Hp) (acc : List D) : Prop where
 rep : Rep X.K m' st' H'
 ext : Ext m1 H1 m' H'
 out : D0 ∉ m'
 at' : ∃ i,H' D0 = some (S.O D0 i) ∧ S.R m' H' i acc
theorem soft_nk {o : HO} (h : Soft o) : (∀ kvs,o ≠ .dK kvs) ∧ ∀ ps,o ≠ .tbl ps:=⟨fun k e=>ns_k (e ▸ h),fun k e=>ns_b (e ▸ h)⟩
theorem SgI.go {m1 m' m2 : List Addr} {H1 H' H2 : Hp} {D0 : Addr} {st' st2 : Store} {acc : List D} (I : SgI S m1 H1 D0 m' st' H' acc) (r : Rep X.K m2 st2 H2) (x : Ext m' H' m2 H2) : SgI S m1 H1 D0 m2 st2 H2 acc:=by
 obtain ⟨i,e,q⟩:=I.at'
 have s:=soft_nk (S.soft D0 i)
 obtain ⟨e2,n2⟩:=x.toStay.ex D0 _ I.out e s.1 s.2
 exact ⟨r,I.ext.trans x,n2,i,e2,S.rext x.toStay q⟩
variable {tj ij : Expr} {cj : List Expr} {js : List Nat} {gj : U → G} {gtj : F Bool} {fj : F U}
end
end VL
namespace VL
open PySem PySem.Spec PyProof.Rows L2
section
variable {X : Cx} {ι : Type} {S : VSet X ι} {W : WX} {elt tg iter tj ij : Expr} {ifs cj : List Expr} {scope : Scope} {own : List (Str × Nat)} {pos : Pos} {is js ws : List Nat} {g gj : U → G} {gt gtj : F Bool} {fe fj : F U} {fi : F Itb}
end
end VL
namespace VL
open PySem PySem.Spec PyProof.Rows L2
section
variable {P : Program} {w : World} {A : Around} {E : Value → Shared → Prop} {s : Shared}
end
end VL
namespace VL
open PySem PySem.Spec PyProof.Rows L2
end VL
namespace VL
open PySem PySem.Spec PyProof.Rows L2
end VL
namespace VL
open PySem PySem.Spec L2
section
variable {K : PySem.W.Frag} {m : List Addr} {H : Hp} {st : Store}
end
section
variable {X : Cx} {W : WX} {e e2 : Expr} {fs : F (List U)} {pos p tpos : Pos} {elts : List Expr} {kk : Nat}
end
section
variable {X : Cx} {W : WX} {elt tg iter tj ij : Expr} {ifs cj : List Expr} {scope : Scope} {own : List (Str × Nat)} {pos : Pos} {is js ws vs : List Nat} {g gj : U → G} {gt gtj : F Bool} {fe fj : F U} {fi : F Itb}
end
end VL
namespace VL
open PySem PySem.Spec PyProof.Rows L2
section
variable {K : PySem.W.Frag} {m : List Addr} {H : Hp} {st : Store}
end
section
variable {w : World} {h : Heap} {a : Addr}
end
section
variable {P : Program} {w : World} {A : Around} {E : Value → Shared → Prop} {s : Shared}
end
theorem vals_ints {ns : List Int} : ∀ {us : List Value},Vals (ns.map V.int) us → us.length = ns.length ∧ ∀ (i : Nat) (v : Value),us[i]? = some v → ∃ k t,ns[i]? = some k ∧ v = .int k t:=by
 induction ns with
 | nil=>intro us h; cases h; exact ⟨rfl,fun i v e=>by cases e⟩
 | cons n ns ih =>
  intro us h
  cases h with
  | cons r z =>
   obtain ⟨tk,rfl⟩:=r
   obtain ⟨h1,h2⟩:=ih z
   refine ⟨by rw [List.length_cons,List.length_cons,h1],fun i v e=>?_⟩
   cases i with
   | zero=>rw [List.getElem?_cons_zero] at e; cases e; exact ⟨n,tk,rfl,rfl⟩
   | succ i=>rw [List.getElem?_cons_succ] at e; exact h2 i v e
end VL
namespace VL
open PySem PySem.Spec PyProof.Rows L2
section
variable {X : Cx} {pins : List (Addr × Obj)} {σ : L2.St} {H : Hp} {s : Shared} {m : List Addr}
end
section
variable {K : PySem.W.Frag} {m : List Addr} {H : Hp} {st : Store} {w : World}
theorem RpUKd.ofD : ∀ {ds : List (D × D)} {es : List (NestedKey × Addr × V)},RpKd K m H ds es → RpUKd K m H (ds.map fun kv=>(kv.1,.d kv.2)) es
 | [],_,h=>h
 | (k,d) :: ds,_,⟨n,b,v,r,e,q,h0,h1,h2⟩=>⟨n,b,v,r,e,q,h0,h1,RpUKd.ofD h2⟩
end
section
variable {X : Cx} {pins : List (Addr × Obj)} {σ : L2.St} {H : Hp} {s : Shared} {m : List Addr} {W : WX}
end
end VL
namespace VL
open PySem PySem.Spec PyProof.Rows L2
section
variable {X : Cx} {W : WX} {fo : F U} {o : Expr} {apos cpos : Pos}
end
end VL
namespace VL
open PySem PySem.Spec PyProof.Rows L2
/-- a def with one default,a number -/
structure FunE (K : PySem.W.Frag) (x qual : Str) (st : Stmt) (f : Addr) (j : Int) (fd : FuncData) : Prop where
 ex : ∃ (oc : Value) (od : Option Addr) (T : Addr) (kV doc pm : Value) (an : Option Addr) (cdv ct : Value) (osl : Array (Option Value)),
  fd = PySem.W.fnOf x qual (defArgs st) (defBody st) (defScope st) (.ref T) kV doc pm an cdv ct ∧ K.lookup f = some ⟨oc,od,.func fd,osl⟩ ∧ PySem.W.codeIn K cdv qual = true ∧
  ∃ (o : Obj) (t : Tok) (n : Nat),K.lookup T = some o ∧ o.data = .seq #[.int j t] n
 kp : PySem.W.keepIn K (.ref f) = true
section
variable {P : Program} {w : World} {K : PySem.W.Frag} {mg : Str → Option Value} {base : Heap}
end
section
variable {K : PySem.W.Frag} {x qual : Str} {st : Stmt} {f : Addr} {j : Int} {fd : FuncData} {ps : List Str}
theorem FunE.tok (F : FunE K x qual st f j fd) : ∃ t0,∃ (T : Addr) (o : Obj) (n : Nat) (oc : Value) (od : Option Addr) (kV doc pm : Value) (an : Option Addr) (cdv ct : Value) (osl : Array (Option Value)),fd = PySem.W.fnOf x qual (defArgs st) (defBody st) (defScope st) (.ref T) kV doc pm an cdv ct ∧ K.lookup T = some o ∧ o.data = .seq #[.int j t0] n:=by
 obtain ⟨oc,od,T,kV,doc,pm,an,cdv,ct,osl,e,lk,hcd,o,t,n,lT,oT⟩:=F.ex
 exact ⟨t,T,o,n,oc,od,kV,doc,pm,an,cdv,ct,osl,e,lT,oT⟩
end
namespace Hd
end Hd
end VL
namespace VL
open PySem PySem.Spec PyProof.Rows L2
section
variable {X : Cx}
end
end VL
namespace VL
open PySem PySem.Spec PyProof.Rows L2
section
variable {X : Cx} {W : WX} {elt tg iter : Expr} {ifs : List Expr} {scope : Scope} {own : List (Str × Nat)} {pos : Pos} {is : List Nat} {g : U → G} {gt : F Bool} {fe : F U} {fi : F Itb}
end
end VL
namespace VL
open PySem PySem.Spec PyProof.Rows L2
section
open PySem.HandSPX
end
/-- the exception goes on once the comprehension's variables are let go -/
noncomputable def goesOn (M : Model) (A : Around) (E : Value → Shared → Prop) (x : Value) (ce : Env) (s' : Shared) : Prop :=
 ∃ m,s'.heap.Ns ce.locals m ∧ ∀ h',Heap.SameBut ce.locals s'.heap h' → wpAny M A (passOn "comprehension.variables-let-go" x ce : Sem Value) (fun _ _=>False) E { s' with heap:=h' }
section
variable {M : Model} {A : Around} {E : Value → Shared → Prop} {s : Shared} {env : Env}
/-- what stands behind a comprehension's code -/
noncomputable def AfterC (M : Model) (A : Around) (E : Value → Shared → Prop) (use : Option (Value → Sem Unit)) (Q : Value → Shared → Prop) (acc : Value) (ce : Env) : Result → Shared → Prop
 | .error x,s'=>goesOn M A E x ce s'
 | .ok _,s'=>match use with
  | none=>∃ m,s'.heap.Ns ce.locals m ∧ ∀ h',Heap.SameBut ce.locals s'.heap h' → Q acc { s' with heap:=h' }
  | some u=>wpAny M A (u acc) (fun _ t=>∃ m,t.heap.Ns ce.locals m ∧ ∀ h',Heap.SameBut ce.locals t.heap h' → Q .none { t with heap:=h' }) E s'
theorem wp_comp {e : Expr} {scope : Scope} {pos : Pos} {newAcc first : Sem Value} {c : Comprehension} {cs : List Comprehension} {cl : List (Str × Addr)} {use : Option (Value → Sem Unit)} {Q : Value → Shared → Prop}
  (hc : clausesOf e = c :: cs) (hf : ∀ x,foldedSetIterable c.iter env x = pure x) (hcl : closureFor scope env = pure cl) (hk : scope.kind = .function) (hn : ∀ x ∈ scope.names,x.2 = .local → scope.names.lookup x.1 = some .local)
  (h : wpAny M A first (fun x s1=>wpAny M A (pyIter x) (fun it s2=>wpAny M A newAcc (fun acc s3=>wpAny M A (newFunctionEnv scope env.globals cl [] env.qual none .none (some env))
   (fun ce s4=>codeAny M A (.compStart e 0 it acc { ce with scope:=relabel scope env }) (AfterC M A E use Q acc { ce with scope:=relabel scope env }) s4) E s3) E s2) E s1) E s) :
  wpAny M A (comprehension e scope env pos newAcc false first use) Q E s:=by
 have keep : ∀ (x : Value) (t : Shared),E x t → E x t:=fun _ _ q=>q
 unfold comprehension
 rw [hcl,hc]
 refine wpAny_bind ?_
 refine wpAny_mono h ?_ keep
 intro x s1 h1
 refine wpAny_bind ?_
 refine wpAny_standAt ?_
 refine wpAny_bind ?_
 refine wpAny_of_eq (hf x) ?_
 refine wpAny_bind ?_
 refine wpAny_holding ?_
 refine wpAny_mono h1 ?_ keep
 intro it s2 h2
 refine wpAny_standIf ?_
 refine wpAny_bind ?_
 refine wpAny_mono h2 ?_ keep
 intro acc s3 h3
 refine wpAny_bind ?_
 refine wpAny_pure ?_
 refine wpAny_bind ?_
 refine wpAny_mono h3 ?_ keep
 intro ce s4 h4
 have loc : ∀ p ∈ scope.names.filter (fun x=>(x.2 == .local || x.2 == .cell) && x.1 != (".0" : Str)),p.2 = .local → Env.kindOf { ce with scope:=relabel scope env } p.1 = some .local:=fun p hp hl=>lookup_relabel_local (hn p (List.mem_filter.mp hp).1 hl)
 dsimp only
 refine wpAny_holding ?_
 refine wpAny_bind ?_
 refine wpAny_attempt ?_
 refine wpAny_holding ?_
 refine wpAny_run ?_
 refine codeAny_mono h4 ?_
 intro r t hr
 cases r with
 | error x =>
  obtain ⟨m,v,go⟩:=(show goesOn M A E x { ce with scope:=relabel scope env } t from hr)
  refine wpAny_bind ?_
  refine wpAny_holding ?_
  refine wpAny_comp_letGo (cenv:={ ce with scope:=relabel scope env }) hk _ t m (fun p hp=>loc p (List.mem_reverse.mp hp)) v fun h' _ _ sb=>?_
  exact wpAny_mono (go h' sb) (fun _ _ z=>z.elim) keep
 | ok f =>
  cases use with
  | none =>
   obtain ⟨m,v,go⟩:=hr
   refine wpAny_bind ?_
   refine wpAny_holding ?_
   refine wpAny_comp_letGo (cenv:={ ce with scope:=relabel scope env }) hk _ t m (fun p hp=>loc p (List.mem_reverse.mp hp)) v fun h' _ _ sb=>?_
   exact wpAny_pure (go h' sb)
  | some u =>
   refine wpAny_bind ?_
   refine wpAny_rule ?_
   refine wpAny_bind ?_
   refine wpAny_holding ?_
   refine wpAny_mono hr ?_ keep
   rintro _ t2 ⟨m,v,go⟩
   refine wpAny_bind ?_
   refine wpAny_comp_letGo (cenv:={ ce with scope:=relabel scope env }) hk _ t2 m (fun p hp=>?_) v fun h' _ _ sb=>wpAny_pure (go h' sb)
   exact loc p (List.mem_reverse.mp ((List.mem_append.mp hp).elim List.mem_of_mem_drop List.mem_of_mem_take))
end
noncomputable abbrev ceOf (X : Cx) (scope : Scope) (t : Shared) : Env:=compEnvC scope (cellsFrom (t.heap.objs.size + 1) scope.names (cloFrom X.env.cells scope.names [])) t.heap.objs.size X.env
section
variable {X : Cx} {E : XK} {elt tg iter : Expr} {ifs : List Expr} {scope : Scope} {own : List (Str × Nat)} {pos pos' : Pos} {is vs : List Nat} {g : U → G} {gt : F Bool} {fe : F U} {fi : F Itb}
end
end VL
namespace VL
open PySem PySem.Spec PyProof.Rows L2
section
variable {α : Type} {f fx fy fz fo : F U} {fs fs' : F (List U)} {b b1 b2 : F Bool} {env env1 : VEnv} {s s1 s2 s3 st : Store} {u v w x y z : U} {us vs ws : List U} {k k1 k2 : Bool} {n m p : Nat} {d : D} {ds : List D} {c : O}
theorem x1 {o : P1} (h1 : fx env s = .ok x s1) (h : o x s1 = some v) : f1 o fx env s = .ok v s1:=by
 unfold f1 bnd
 rw [h1]
 simp only [h,R.of]
theorem x2 {o : P2} (h1 : fx env s = .ok x s1) (h2 : fy env s1 = .ok y s2) (h : o x y s2 = some v) : f2 o fx fy env s = .ok v s2:=by
 unfold f2 bnd
 rw [h1]
 simp only
 rw [h2]
 simp only [h,R.of]
/-- grown -/
noncomputable def Gr (st s : Store) : Prop:=∃ cs,s = st ++ cs
theorem Gr.cut (h : Gr st s) (w : WF st) : cutS st.length s = some st:=by
 obtain ⟨cs,rfl⟩:=h
 exact w.cutA cs
end
section
variable {s s' : Store} {p : Nat} {xs : List U} {y : U} {ds : List D}
end
section
variable {N B C N' : VEnv → Store → Prop} {T : U → Store → Prop} {X : Value → XF → VEnv → Store → Prop} {f fx fy fo : F U} {fs : F (List U)} {b : F Bool} {g g1 g2 : G} {env env1 env2 : VEnv} {s s1 s2 st : Store} {u v x y : U} {us : List U} {k : Bool} {n m p i j : Nat}
end
section
variable {Q : U → Store → Prop} {E : Value → XF → Store → Prop} {st s s1 : Store} {u v : U}
end
section
variable {N B C : VEnv → Store → Prop} {T : U → Store → Prop} {X : Value → XF → VEnv → Store → Prop} {f fx fy fo : F U} {fs : F (List U)} {fc : F (List U × List U)} {tg : U → G} {env : VEnv} {s s1 s2 st : Store} {u v : U} {us vs ws : List U} {n m : Nat} {c : Value} {xf : XF} {gU : List U → List U → List U} {mf : List U → M U}
end
section
variable {α : Type} {N B C : VEnv → Store → Prop} {T : U → Store → Prop} {X : Value → XF → VEnv → Store → Prop} {fi : F Itb} {tg : U → G} {body : G} {env : VEnv} {s s1 : Store} {us : List U}
end
section
variable {α : Type} {fi : F Itb} {tg : U → G} {gs : List U → G} {tt : F Bool} {fe : F U} {vs : List Nat} {env env0 env1 env2 : VEnv} {st s s1 s2 : Store} {us : List U} {u : U} {d : D} {p : Bool} {n : Nat}
end
end VL
namespace VL
open PySem PySem.Spec PyProof.Rows L2
section
variable {X : Cx} {W : WX} {kx vx tg iter : Expr} {ifs : List Expr} {scope : Scope} {own : List (Str × Nat)} {pos : Pos} {is : List Nat} {g : U → G} {gt : F Bool} {fk fv : F U} {fi : F Itb}
end
section
variable {P : Program} {w : World} {A : Around} {E : Value → Shared → Prop} {s : Shared} {a : Addr} {S : Str → Bool} {n : Nat}
end
section
variable {X : Cx} {W : WX} {elt tg iter : Expr} {ifs : List Expr} {scope : Scope} {own : List (Str × Nat)} {pos : Pos} {is vs : List Nat} {g : U → G} {gt : F Bool} {fe : F U} {fi : F Itb}
end
end VL
namespace VL
open PySem PySem.Spec PyProof.Rows L2
section
variable {X : Cx} {E : XK} {elt tg iter : Expr} {ifs : List Expr} {scope : Scope} {own : List (Str × Nat)} {pos pos' : Pos} {is vs : List Nat} {g : U → G} {gt : F Bool} {fe : F U} {fi : F Itb}
end
end VL
namespace VL
open PySem PySem.Spec PyProof.Rows L2 GenW
section
variable {X : Cx} {W : WX} {e e2 : Expr} {fe fe2 : F U} {p p2 pos pos2 : Pos}
end
inductive RZ where
 | ok (env : VEnv) (f : Fl) (st : Store) (ys : List U)
 | ex (c : Value) (fs : Option (List (Str × D))) (env : VEnv) (st : Store)
 | bad
noncomputable abbrev Z:=VEnv → Store → List U → RZ
noncomputable def PZ (K : PySem.W.Frag) (m : List Addr) (H : Hp) (D : GEnds) (W : WX) : RZ → Prop
 | .ok env .nx st' ys=>∀ σ' m' H' zs,RpEnv K m' H' env σ' → Rep K m' st' H' → Ext m H m' H' → RpUs K m' H' ys zs → D.nx zs σ' H'
 | .ok env (.rt u) st' ys=>∀ v m' H' zs,RpU K m' H' u v → Rep K m' st' H' → Ext m H m' H' → RpUs K m' H' ys zs → D.rt zs v H'
 | .ok _ _ _ _=>False
 | .ex c fs env st'=>∀ d σ' m' H',RpEnv K m' H' env σ' → Rep K m' st' H' → Ext m H m' H' → RpX K m' H' fs d → W c d σ' H'
 | .bad=>False
theorem PZ.from {K : PySem.W.Frag} {m m1 : List Addr} {H H1 : Hp} {D : GEnds} {W : WX} (e : Ext m H m1 H1) : ∀ {r : RZ},PZ K m H D W r → PZ K m1 H1 D W r
 | .ok _ .nx _ _,h=>fun v m' H' zs a b c=>h v m' H' zs a b (e.trans c)
 | .ok _ (.rt _) _ _,h=>fun v m' H' zs a b c=>h v m' H' zs a b (e.trans c)
 | .ex _ _ _ _,h=>fun d σ' m' H' a b c=>h d σ' m' H' a b (e.trans c)
 | .bad,h=>h
section
variable {X : Cx} {W : WX} {s : Stmt} {ss : List Stmt} {g h : Z} {gp : G} {e : Expr} {fe : F U} {pos yp : Pos}
section
variable {prog : Program} {w : World} {A : Around} {E : Value → Shared → Prop} {s : Shared}
end
end
end VL
namespace VL
open PySem PySem.Spec PyProof.Rows L2 GenW
section
variable {P : Program} {w : World} {K : PySem.W.Frag} {mg : Str → Option Value} {base : Heap} {N : List Str} {qual : Str} {scope : Scope} {f : Addr} {cdv : Value} {B : Around} {outer : List Env} {s : Shared} {H : Hp} {E : XK} {pn : List (Addr × Obj)} {S ga : Addr} {g : Nat} {Q : List V → Hp → Prop}
end
section
variable {P : Program} {w : World} {A : Around} {t : Shared} {S a : Addr} {g n : Nat}
end
theorem RpX.cut {K : PySem.W.Frag} {m : List Addr} {H : Hp} {k : Nat} : ∀ {fs : Option (List (Str × D))} {d : Option Addr},RpX K m H fs d → RpX K (m.take k) H fs d
 | none,none,_=>trivial
 | some _,some _,⟨vs,g1,g2,g3⟩=>⟨vs,g1,fun z=>g2 (List.mem_of_mem_take z),RpF.stay ⟨fun a o n e _ _=>⟨e,fun z=>n (List.mem_of_mem_take z)⟩,fun a kvs n e=>⟨e,fun z=>n (List.mem_of_mem_take z)⟩,fun _ _ _ e=>e⟩ _ _ g3⟩
 | none,some _,h=>h.elim
 | some _,none,h=>h.elim
section
variable {X : Cx} {W : WX} {e : Expr} {es : List Expr} {fs : F (List U)} {f : Addr} {x : Str} {k n : Nat} {mZ : List U → M (List U)} {p p2 pos pos2 : Pos}
end
end VL
namespace VL.Po
open PySem
open Sem (wp)
noncomputable def NoG (fs : List Frame) : Prop:=splitAtGen fs = none
theorem noG_ret {k : Result → Sem PySem.Fin} {h : Option Value} {g : Bool} {l kp : List Value} {c : Code} {p : Pos} {fs : List Frame} : NoG (.ret k h g l c p kp :: fs) ↔ NoG fs:=by
 unfold NoG
 show (splitAtGen fs).map _ = none ↔ _
 cases splitAtGen fs <;> simp
theorem noG_gen {g : Nat} {k : GenResult → Sem PySem.Fin} {l : List Value} {c : Code} {p : Pos} {fs : List Frame} (h : NoG (.gen g k l c p :: fs)) : False:=by
 unfold NoG splitAtGen at h
 cases h
theorem noG_app : ∀ {fs gs : List Frame},NoG fs → NoG gs → NoG (fs ++ gs)
 | [],_,_,h=>h
 | .ret .. :: fs,_,a,h=>noG_ret.mpr (noG_app (noG_ret.mp a) h)
 | .gen .. :: _,_,a,_=>(noG_gen a).elim
noncomputable def GoodG : GenState → Prop
 | .suspended _ _ _ _ fs _=>NoG fs
 | _=>True
noncomputable def GoodE : End → Prop
 | .susp _ _ _ _ _ _ fs=>NoG fs
 | _=>True
theorem GoodE.gen : ∀ {e : End},GoodE e → GoodG e.genState
 | .ret _,_=>trivial
 | .susp ..,h=>h
/-- a generator that sleeps,and may not be woken -/
noncomputable def pz : GenState → GenState
 | .suspended _ _ c p fs cl=>.suspended (fun _=>.unsupported "") [] c p (fs.map fun f=>.ret (fun _=>.unsupported "") none false [] f.where_.1 f.where_.2 []) cl
 | x=>x
theorem pz_seen (x : GenState) : (pz x).seen = x.seen:=by
 cases x with
 | suspended k l c p fs cl =>
  show (GenStatus.suspended,some ((c,p) :: ((fs.map fun f=>Frame.ret (fun _=>.unsupported "") none false [] f.where_.1 f.where_.2 []).map Frame.where_))) = (GenStatus.suspended,some ((c,p) :: fs.map Frame.where_))
  rw [List.map_map]
  rfl
 | _=>rfl
theorem pz_bare (x : GenState) : (pz x).bare = x.bare:=by cases x <;> rfl
noncomputable def Sus (x : GenState) : Prop:=∃ k l c p fs cl,x = .suspended k l c p fs cl
theorem no_unsup {M : Model} {Γ : Ctx} {p : Pos} {w : String} {fs : List Frame} {s s' : Shared} {e : End} (h : Runs M Γ p (.unsupported w) fs s e s') : False:=by
 generalize ht : (Sem.unsupported w : Sem PySem.Fin) = t at h
 induction h <;> first | (rename_i ih _ ; exact ih ht) | (rename_i ih; exact ih ht) | (rename_i ih _ _; exact ih ht) | (rename_i ih _ _ _; exact ih ht) | (rename_i ih _ _ _ _; exact ih ht) | nomatch ht
section
variable {O : Nat → Option GenState} {gens : Array GenState}
/-- the sleepers put back -/
noncomputable def un (O : Nat → Option GenState) (gens : Array GenState) : Array GenState:=gens.mapIdx fun i x=>(O i).getD x
theorem un_size : (un O gens).size = gens.size:=by simp [un]
theorem un_get (i : Nat) : (un O gens)[i]? = gens[i]?.map fun x=>(O i).getD x:=by simp [un]
structure Rel (O : Nat → Option GenState) (gens : Array GenState) : Prop where
 old : ∀ i x,O i = some x → Sus x ∧ gens[i]? = some (pz x)
 new : ∀ i x,O i = none → gens[i]? = some x → GoodG x
theorem Rel.next (r : Rel O gens) : O gens.size = none:=by
 cases e : O gens.size with
 | none=>rfl
 | some x =>
  have:=(Array.getElem?_eq_some_iff.mp (r.old _ x e).2).1
  exact absurd this (Nat.lt_irrefl _)
theorem Rel.push (r : Rel O gens) {x : GenState} (h : GoodG x) : Rel O (gens.push x):=⟨fun i y e=>⟨(r.old i y e).1,by
  have hi:=(Array.getElem?_eq_some_iff.mp (r.old i y e).2).1
  rw [Array.getElem?_push_lt hi,← Array.getElem?_eq_getElem hi]
  exact (r.old i y e).2⟩,fun i y e hy=>by
  rw [Array.getElem?_push] at hy
  split at hy
  ·cases hy; exact h
  ·exact r.new i y e hy⟩
theorem un_push (r : Rel O gens) (x : GenState) : un O (gens.push x) = (un O gens).push x:=by
 apply Array.ext_getElem?
 intro i
 rw [un_get,Array.getElem?_push,Array.getElem?_push,un_size]
 split
 ·rename_i h
  subst h
  rw [r.next]; rfl
 ·exact (un_get i).symm
theorem Rel.set (r : Rel O gens) {g : Nat} {x : GenState} (hg : O g = none) (h : GoodG x) : Rel O (gens.setIfInBounds g x):=⟨fun i y e=>⟨(r.old i y e).1,by
  have : g ≠ i:=fun z=>by rw [z,e] at hg; cases hg
  rw [Array.getElem?_setIfInBounds_ne this]
  exact (r.old i y e).2⟩,fun i y e hy=>by
  by_cases z : g = i
  ·subst z
   rw [Array.getElem?_setIfInBounds_self] at hy
   split at hy
   ·cases hy; exact h
   ·cases hy
  ·rw [Array.getElem?_setIfInBounds_ne z] at hy
   exact r.new i y e hy⟩
theorem un_set {g : Nat} (x : GenState) (hg : O g = none) : un O (gens.setIfInBounds g x) = (un O gens).setIfInBounds g x:=by
 apply Array.ext_getElem?
 intro i
 rw [un_get]
 by_cases z : g = i
 ·subst z
  rw [Array.getElem?_setIfInBounds_self,Array.getElem?_setIfInBounds_self,un_size,hg]
  split <;> rfl
 ·rw [Array.getElem?_setIfInBounds_ne z,Array.getElem?_setIfInBounds_ne z,un_get]
end
noncomputable def U (O : Nat → Option GenState) (s : Shared) : Shared:={ s with gens:=un O s.gens }
theorem U_set {O : Nat → Option GenState} {s : Shared} {g : Nat} (x : GenState) (hg : O g = none) : U O (s.setGen g x) = (U O s).setGen g x:=by
 unfold U Shared.setGen
 rw [un_set x hg]
theorem U_push {O : Nat → Option GenState} {s : Shared} (r : Rel O s.gens) (x : GenState) : U O { s with gens:=s.gens.push x } = { U O s with gens:=(U O s).gens.push x }:=by
 unfold U
 simp only [un_push r]
theorem at_new {O : Nat → Option GenState} {s : Shared} {g : Nat} {x : GenState} (r : Rel O s.gens) (h : s.gens[g]? = some x) (hx : ∀ y,Sus y → pz y ≠ x) : O g = none:=by
 cases e : O g with
 | none=>rfl
 | some y =>
  have:=r.old g y e
  rw [this.2] at h
  exact absurd (Option.some.inj h) (hx y this.1)
theorem U_at {O : Nat → Option GenState} {s : Shared} {g : Nat} {x : GenState} (h : s.gens[g]? = some x) (hg : O g = none) : (U O s).gens[g]? = some x:=by
 show (un O s.gens)[g]? = _
 rw [un_get,h,hg]; rfl
theorem not_sus {x y : GenState} (hy : Sus y) (hx : ¬ Sus x) : pz y ≠ x:=fun e=>by
 obtain ⟨k,l,c,p,fs,cl,rfl⟩:=hy
 exact hx (e ▸ ⟨_,_,_,_,_,_,rfl⟩)
theorem runs_un {M : Model} {O : Nat → Option GenState} {Γ : Ctx} {p : Pos} {t : Sem PySem.Fin} {fs : List Frame} {s s' : Shared} {e : End} (h : Runs M Γ p t fs s e s') : NoG fs → Rel O s.gens → Runs M Γ p t fs (U O s) e (U O s') ∧ Rel O s'.gens ∧ GoodE e:=by
 induction h with
 | done=>exact fun _ r=>⟨.done,r,trivial⟩
 | raise=>exact fun _ r=>⟨.raise,r,trivial⟩
 | again hq _ ih=>exact fun _ r=>⟨.again hq (ih rfl r).1,(ih rfl r).2⟩
 | rule _ ih=>exact fun _ r=>⟨.rule (ih rfl r).1,(ih rfl r).2⟩
 | «at» _ ih=>exact fun _ r=>⟨.at (ih rfl r).1,(ih rfl r).2⟩
 | load ho _ ih=>exact fun _ r=>⟨.load ho (ih rfl r).1,(ih rfl r).2⟩
 | update ho _ ih=>exact fun _ r=>⟨.update ho (ih rfl r).1,(ih rfl r).2⟩
 | loadIfAlive _ ih=>exact fun _ r=>⟨.loadIfAlive (ih rfl r).1,(ih rfl r).2⟩
 | point _ ih=>exact fun _ r=>⟨.point (ih rfl r).1,(ih rfl r).2⟩
 | alloc _ ih=>exact fun _ r=>⟨.alloc (ih rfl r).1,(ih rfl r).2⟩
 | fresh _ ih=>exact fun _ r=>⟨.fresh (ih rfl r).1,(ih rfl r).2⟩
 | ask _ ih=>exact fun _ r=>⟨.ask (ih rfl r).1,(ih rfl r).2⟩
 | choose hn _ ih=>exact fun _ r=>⟨.choose hn (ih rfl r).1,(ih rfl r).2⟩
 | os _ ih=>exact fun _ r=>⟨.os (ih rfl r).1,(ih rfl r).2⟩
 | handled _ ih=>exact fun _ r=>⟨.handled (ih rfl r).1,(ih rfl r).2⟩
 | @genState g st _ _ k s _ _ hs _ ih =>
  intro _ r
  obtain ⟨a,b⟩:=ih rfl r
  refine ⟨?_,b⟩
  cases ho : O g with
  | none=>exact .genState (U_at hs ho) a
  | some x =>
   have e1:=(r.old g x ho).2
   rw [hs] at e1
   cases e1
   rw [pz_seen] at a
   refine .genState (st:=x) ?_ a
   show (un O s.gens)[g]? = _
   rw [un_get,hs,ho]; rfl
 | stack _ ih=>exact fun _ r=>⟨.stack (ih rfl r).1,(ih rfl r).2⟩
 | thread _ ih=>exact fun _ r=>⟨.thread (ih rfl r).1,(ih rfl r).2⟩
 | newGen _ ih =>
  intro _ r
  obtain ⟨a,b⟩:=ih rfl (r.push trivial)
  refine ⟨.newGen ?_,b⟩
  rw [U_push r] at a
  rw [show (U O _).gens.size = _ from un_size]
  exact a
 | call _ _ ih1 ih2 =>
  intro _ r
  obtain ⟨a,b,_⟩:=ih1 rfl r
  obtain ⟨a2,b2⟩:=ih2 rfl b
  exact ⟨.call a a2,b2⟩
 | callSusp _ ih =>
  intro _ r
  obtain ⟨a,b,c⟩:=ih rfl r
  exact ⟨.callSusp a,b,noG_app c (noG_ret.mpr rfl)⟩
 | yield=>exact fun _ r=>⟨.yield,r,rfl⟩
 | resumeFresh hg _ hq _ ih1 ih2 =>
  intro _ r
  have hO:=at_new r hg fun y hy=>not_sus hy fun ⟨_,_,_,_,_,_,z⟩=>nomatch z
  obtain ⟨a,b,c⟩:=ih1 rfl (r.set hO trivial)
  obtain ⟨a2,b2⟩:=ih2 rfl (b.set hO c.gen)
  rw [U_set _ hO] at a a2
  exact ⟨.resumeFresh (U_at hg hO) a hq a2,b2⟩
 | @resumeSuspended _ _ g rs _ _ s k₀ l₀ c₀ p₀ fs₀ cl e₁ s₁ _ _ hg h1 hq _ ih1 ih2 =>
  intro _ r
  cases hO : O g with
  | some x =>
   have e1:=(r.old g x hO).2
   obtain ⟨k,l,c,p,fs,cl',rfl⟩:=(r.old g x hO).1
   rw [hg] at e1
   cases e1
   exact (no_unsup h1).elim
  | none =>
   obtain ⟨a,b,c⟩:=ih1 (r.new g _ hO hg) (r.set hO trivial)
   obtain ⟨a2,b2⟩:=ih2 rfl (b.set hO c.gen)
   rw [U_set _ hO] at a a2
   exact ⟨.resumeSuspended (U_at hg hO) a hq a2,b2⟩
 | resumeJustStarted hg hv _ ih =>
  intro _ r
  have hO:=at_new r hg fun y hy=>not_sus hy fun ⟨_,_,_,_,_,_,z⟩=>nomatch z
  exact ⟨.resumeJustStarted (U_at hg hO) hv (ih rfl r).1,(ih rfl r).2⟩
 | resumeThrowFresh hg _ ih =>
  intro _ r
  have hO:=at_new r hg fun y hy=>not_sus hy fun ⟨_,_,_,_,_,_,z⟩=>nomatch z
  obtain ⟨a2,b2⟩:=ih rfl (r.set hO trivial)
  rw [U_set _ hO] at a2
  exact ⟨.resumeThrowFresh (U_at hg hO) a2,b2⟩
 | resumeRunning hg _ ih =>
  intro _ r
  have hO:=at_new r hg fun y hy=>not_sus hy fun ⟨_,_,_,_,_,_,z⟩=>nomatch z
  exact ⟨.resumeRunning (U_at hg hO) (ih rfl r).1,(ih rfl r).2⟩
 | resumeFinished hg _ ih =>
  intro _ r
  have hO:=at_new r hg fun y hy=>not_sus hy fun ⟨_,_,_,_,_,_,z⟩=>nomatch z
  exact ⟨.resumeFinished (U_at hg hO) (ih rfl r).1,(ih rfl r).2⟩
 | segRet _ _ ih1 ih2 =>
  intro hn r
  obtain ⟨a,b,_⟩:=ih1 rfl r
  obtain ⟨a2,b2⟩:=ih2 (noG_ret.mp hn) b
  exact ⟨.segRet a a2,b2⟩
 | segGen _ _ ih1 ih2=>exact fun hn=>(noG_gen hn).elim
 | segSuspOut hs _ ih =>
  intro hn r
  obtain ⟨a,b,c⟩:=ih rfl r
  exact ⟨.segSuspOut hs a,b,noG_app c hn⟩
 | segSuspGen hs _ _ _ _ _ =>
  intro hn
  unfold NoG at hn
  rw [hn] at hs
  cases hs
/-- what comes of it,told of the sleepers put back -/
noncomputable def Bk {β : Type} (O : Nat → Option GenState) (Q : β → Pos → Shared → Prop) (b : β) (p : Pos) (s : Shared) : Prop:=∃ s1,s = U O s1 ∧ Rel O s1.gens ∧ Q b p s1
theorem wp_un {α : Type} {M : Model} {Γ : Ctx} {O : Nat → Option GenState} (t : Sem α) : ∀ (Q : α → Pos → Shared → Prop) (E : Value → Pos → Shared → Prop) (p : Pos) (s : Shared),Rel O s.gens → wp M Γ t Q E p s → wp M Γ t (Bk O Q) (Bk O E) p (U O s):=by
 induction t with
 | pure a=>exact fun Q E p s r h=>⟨s,rfl,r,h⟩
 | raise e=>exact fun Q E p s r h=>⟨s,rfl,r,h⟩
 | unsupported _=>exact fun _ _ _ _ _ h=>h
 | finish _=>exact fun _ _ _ _ _ h=>h
 | rule _ k ih=>exact fun Q E p s r h=>ih () Q E p s r h
 | «at» q k ih=>exact fun Q E p s r h=>ih () Q E q s r h
 | load a _ k ih=>exact fun Q E p s r ⟨o,ho,h⟩=>⟨o,ho,ih o Q E p s r h⟩
 | update a _ f k ih=>exact fun Q E p s r h=>⟨h.1,ih () Q E p { s with heap:=s.heap.update a f } r h.2⟩
 | loadIfAlive a k ih=>exact fun Q E p s r h=>ih _ Q E p s r h
 | point _ k ih=>exact fun Q E p s r h=>ih () Q E p s r h
 | register _ _=>exact fun _ _ _ _ _ h=>h
 | alloc o k ih=>exact fun Q E p s r h=>ih s.heap.objs.size Q E p { s with heap:=s.heap.push o } r h
 | fresh k ih=>exact fun Q E p s r h=>ih s.toks Q E p { s with toks:=s.toks + 1 } r h
 | ask k ih=>exact fun Q E p s r h=>ih _ Q E p s r h
 | choose c m k ih=>exact fun Q E p s r h=>⟨h.1,ih _ Q E p { s with drawn:=s.drawn.bump c } r h.2⟩
 | os q _ k ih=>exact fun Q E p s r h=>ih _ Q E p { s with os:=(Os.step s.os q).1 } r h
 | call c hd _ _ k ih =>
  intro Q E p s r ⟨res,s1,hr,h⟩
  obtain ⟨a,b,-⟩:=runs_un hr rfl r
  exact ⟨res,U O s1,a,ih res Q E p s1 b h⟩
 | handled own k ih=>exact fun Q E p s r h=>ih _ Q E p s r h
 | genState g k ih =>
  intro Q E p s r ⟨st,hs,h⟩
  have a:=ih st.seen Q E p s r h
  cases ho : O g with
  | none=>exact ⟨st,U_at hs ho,a⟩
  | some x =>
   have e1:=(r.old g x ho).2
   rw [hs] at e1
   cases e1
   rw [pz_seen] at a
   refine ⟨x,?_,a⟩
   show (un O s.gens)[g]? = _
   rw [un_get,hs,ho]; rfl
 | newGen c k ih =>
  intro Q E p s r h
  have a:=ih s.gens.size Q E p { s with gens:=s.gens.push (.fresh c) } (r.push trivial) h
  rw [U_push r] at a
  show wp M Γ (k (U O s).gens.size) _ _ p _
  rw [show (U O s).gens.size = s.gens.size from un_size]
  exact a
 | resume g rs _ k ih =>
  intro Q E p s r ⟨res,s1,hw,h⟩
  have fin : ∀ {res : GenResult} {s1 : Shared},Rel O s1.gens → wp M Γ (k res) Q E p s1 → wp M Γ (k res) (Bk O Q) (Bk O E) p (U O s1):=fun r1 h1=>ih _ Q E p _ r1 h1
  suffices q : Wakes M Γ p g rs (U O s) res (U O s1) ∧ Rel O s1.gens from ⟨res,U O s1,q.1,fin q.2 h⟩
  unfold Wakes at hw ⊢
  cases hO : O g with
  | some x =>
   obtain ⟨k,l,c,q,fs,cl,rfl⟩:=(r.old g x hO).1
   rw [(r.old g _ hO).2] at hw
   obtain ⟨e1,s2,h1,-⟩:=hw
   exact (no_unsup h1).elim
  | none =>
   cases hg : s.gens[g]? with
   | none=>rw [hg] at hw; exact hw.elim
   | some y =>
    rw [hg] at hw
    rw [U_at hg hO]
    cases y with
    | fresh c =>
     cases rs with
     | send v =>
      cases v with
      | none =>
       obtain ⟨e1,s2,h1,h2,h3,h4⟩:=hw
       obtain ⟨a,b,c⟩:=runs_un h1 rfl (r.set hO trivial)
       rw [U_set _ hO] at a
       rw [h4]
       exact ⟨⟨e1,U O s2,a,h2,h3,U_set _ hO⟩,b.set hO c.gen⟩
      | _=>exact ⟨⟨hw.1,by rw [hw.2]⟩,by rw [hw.2]; exact r⟩
     | throw x=>exact ⟨⟨hw.1,by rw [hw.2,U_set _ hO]⟩,by rw [hw.2]; exact r.set hO trivial⟩
    | suspended k0 l0 c0 p0 fs cl =>
     obtain ⟨e1,s2,h1,h2,h3,h4⟩:=hw
     obtain ⟨a,b,c⟩:=runs_un h1 (r.new g _ hO hg) (r.set hO trivial)
     rw [U_set _ hO] at a
     rw [h4]
     exact ⟨⟨e1,U O s2,a,h2,h3,U_set _ hO⟩,b.set hO c.gen⟩
    | running=>exact ⟨⟨hw.1,by rw [hw.2]⟩,by rw [hw.2]; exact r⟩
    | finished=>exact ⟨⟨hw.1,by rw [hw.2]⟩,by rw [hw.2]; exact r⟩
 | yield _ _ _ _=>exact fun _ _ _ _ _ h=>h
 | stack k ih=>exact fun Q E p s r h=>ih _ Q E p s r h
 | fork _ _=>exact fun _ _ _ _ _ h=>h
 | thread k ih=>exact fun Q E p s r h=>ih _ Q E p s r h
 | await _ _ _ _ _=>exact fun _ _ _ _ _ h=>h
/-- those that sleep -/
noncomputable def olds (gens : Array GenState) (i : Nat) : Option GenState:=match gens[i]? with
 | some (.suspended k l c p fs cl)=>some (.suspended k l c p fs cl)
 | _=>none
theorem olds_sus {gens : Array GenState} {i : Nat} {x : GenState} (h : olds gens i = some x) : Sus x ∧ gens[i]? = some x:=by
 unfold olds at h
 split at h
 ·rename_i e
  cases h
  exact ⟨⟨_,_,_,_,_,_,rfl⟩,e⟩
 ·cases h
theorem olds_at {gens : Array GenState} {i : Nat} {x : GenState} (h : gens[i]? = some x) (hx : Sus x) : olds gens i = some x:=by
 obtain ⟨_,_,_,_,_,_,rfl⟩:=hx
 unfold olds
 rw [h]
noncomputable def hush (s : Shared) : Shared:={ s with gens:=s.gens.map pz }
theorem hush_rel (s : Shared) : Rel (olds s.gens) (hush s).gens:=⟨fun i x h=>⟨(olds_sus h).1,by
  show (s.gens.map pz)[i]? = _
  rw [Array.getElem?_map,(olds_sus h).2]; rfl⟩,fun i x h hx=>by
  have hx' : (s.gens.map pz)[i]? = some x:=hx
  rw [Array.getElem?_map] at hx'
  cases e : s.gens[i]? with
  | none=>rw [e] at hx'; cases hx'
  | some y =>
   rw [e] at hx'
   cases hx'
   cases y with
   | suspended k l c p fs cl=>rw [olds_at e ⟨_,_,_,_,_,_,rfl⟩] at h; cases h
   | _=>trivial⟩
theorem hush_back (s : Shared) : U (olds s.gens) (hush s) = s:=by
 unfold U
 have : un (olds s.gens) (hush s).gens = s.gens:=by
  apply Array.ext_getElem?
  intro i
  rw [un_get]
  show ((s.gens.map pz)[i]?).map _ = _
  rw [Array.getElem?_map]
  cases e : s.gens[i]? with
  | none=>rfl
  | some y =>
   cases y with
   | suspended k l c p fs cl=>rw [olds_at e ⟨_,_,_,_,_,_,rfl⟩]; rfl
   | _=>unfold olds; rw [e]; rfl
 rw [this]
 rfl
/-- a piece of code that runs where the sleepers may not be woken leaves them as they are -/
theorem wpAny_hush {α : Type} {M : Model} {A : Around} {t : Sem α} {Q : α → Shared → Prop} {E : Value → Shared → Prop} {s : Shared} (h : wpAny M A t Q E (hush s)) :
  wpAny M A t (fun a s'=>∃ s1,s' = U (olds s.gens) s1 ∧ Rel (olds s.gens) s1.gens ∧ Q a s1) (fun e s'=>∃ s1,s' = U (olds s.gens) s1 ∧ Rel (olds s.gens) s1.gens ∧ E e s1) s:=fun Γ p hΓ=>by
 have:=wp_un t _ _ p (hush s) (hush_rel s) (h Γ p hΓ)
 rw [hush_back] at this
 exact this
theorem still {s s1 : Shared} {g : Nat} {x : GenState} (r : Rel (olds s.gens) s1.gens) (h : s.gens[g]? = some x) (hx : Sus x) : (U (olds s.gens) s1).gens[g]? = some x:=by
 show (un _ s1.gens)[g]? = _
 rw [un_get,(r.old g x (olds_at h hx)).2,olds_at h hx]; rfl
open PyProof.Rows L2 in
theorem bare_back {s s1 : Shared} (r : Rel (olds s.gens) s1.gens) (h : AllBare s.gens) (h1 : AllBare s1.gens) : AllBare (U (olds s.gens) s1).gens:=fun y hy=>by
 obtain ⟨i,hi,e⟩:=Array.mem_iff_getElem.mp hy
 have e2 : (un (olds s.gens) s1.gens)[i]? = some y:=(Array.getElem?_eq_getElem (xs:=(U (olds s.gens) s1).gens) hi).trans (congrArg some e)
 rw [un_get] at e2
 cases e3 : s1.gens[i]? with
 | none=>rw [e3] at e2; cases e2
 | some z =>
  rw [e3] at e2
  cases e4 : olds s.gens i with
  | none =>
   rw [e4] at e2
   cases e2
   exact h1 _ (Array.mem_of_getElem? e3)
  | some x =>
   rw [e4] at e2
   cases e2
   exact h _ (Array.mem_of_getElem? (olds_sus e4).2)
open PyProof.Rows L2 in
theorem bare_hush {s : Shared} (h : AllBare s.gens) : AllBare (hush s).gens:=fun y hy=>by
 obtain ⟨x,hx,rfl⟩:=Array.mem_map.mp hy
 rw [pz_bare]
 exact h x hx
end VL.Po
namespace VL
open PySem PySem.Spec PyProof.Rows L2 GenW
noncomputable def cutH (n : Nat) (h : Heap) : Heap:={ h with objs:=h.objs.extract 0 n }
theorem cutH_size {n : Nat} {h : Heap} (hn : n ≤ h.objs.size) : (cutH n h).objs.size = n:=by
 show (h.objs.extract 0 n).size = n
 rw [Array.size_extract]; omega
theorem ext_get {α : Type} (xs : Array α) (n b : Nat) (hb : b < n) : (xs.extract 0 n)[b]? = xs[b]?:=by
 by_cases hs : b < xs.size
 ·rw [Array.getElem?_eq_getElem hs,Array.getElem?_eq_getElem (by rw [Array.size_extract]; omega),Array.getElem_extract]
  simp
 ·rw [Array.getElem?_eq_none (by rw [Array.size_extract]; omega),Array.getElem?_eq_none (by omega)]
theorem cutH_get {n : Nat} {h : Heap} {b : Addr} (hb : b < n) : (cutH n h).get? b = h.get? b:=by
 unfold Heap.get?
 rw [show (cutH n h).objs[b]? = h.objs[b]? from ext_get h.objs n b hb]
theorem of_cutH {n : Nat} {h : Heap} {b : Addr} {o : Obj} (hn : n ≤ h.objs.size) (e : (cutH n h).get? b = some o) : b < n ∧ h.get? b = some o:=by
 have hb:=Heap.lt_size e
 rw [cutH_size hn] at hb
 exact ⟨hb,(cutH_get hb).symm.trans e⟩
noncomputable def tr (n : Nat) (s : Shared) : Shared:={ s with heap:=cutH n s.heap }
theorem fun_cut {base h0 h : Heap} {n : Nat} (hz : h0.objs.size = n) : ∀ l : List Env,h0.FunFrames base l → h.FunFrames base l → (cutH n h).FunFrames base l
 | [],_,_=>trivial
 | env :: r,⟨_,⟨L,o,e1,_,e2,_⟩,r0⟩,⟨k1,⟨L',o',f1,f2,f3,f4⟩,r1⟩=>by
  rw [e1] at f1
  cases f1
  exact ⟨k1,⟨L,o',e1,f2,(cutH_get (by rw [← hz]; exact Heap.lt_size e2)).trans f3,f4⟩,fun_cut hz r r0 r1⟩
structure Gn where
 N : List Str
 qual : Str
 scope : Scope
 f : Addr
 cdv : Value
 n0 : Nat
 a : Addr
 go : Obj
noncomputable abbrev Gn.env (G : Gn) : Env:=envOfC G.qual G.scope G.n0 G.f G.cdv
noncomputable def noX : XK:=fun _ _ _=>False
/-- the context of its turns,within a run in X -/
noncomputable def Gn.fx (G : Gn) (X : Cx) (t0 : Shared) (H0 : Hp) : Cx:={ gcxOf X.prog X.w X.K X.mg X.base G.N G.qual G.scope G.f G.cdv X.A.in1 X.stack t0 H0 noX [(G.a,G.go)] with
 A:=X.A.in1.deeper G.env
 env:=G.env
 stack:=G.env :: X.stack
 xe:=fun e s'=>wpAny (model X.prog X.w) (X.A.in1.deeper G.env) (leaving G.env e) (fun _ s''=>CX X.prog X.w X.stack H0 t0 noX e s'' ∧ ∀ p ∈ [(G.a,G.go)],s''.heap.get? p.1 = some p.2) (fun _ _=>False) s' }
theorem Gn.fx_eq {G : Gn} {X : Cx} {t0 : Shared} {H0 : Hp} (h : t0.heap.objs.size = G.n0) : G.fx X t0 H0 = gcxOf X.prog X.w X.K X.mg X.base G.N G.qual G.scope G.f G.cdv X.A.in1 X.stack t0 H0 noX [(G.a,G.go)]:=by
 obtain ⟨N,qual,scope,f,cdv,n0,a,go⟩:=G
 cases h
 rfl
section
variable {G : Gn} {X : Cx} {pins : List (Addr × Obj)} {σc σg : L2.St} {H0 H H' HS : Hp} {t0 s s' tS : Shared} {fp : List Addr}
/-- where its turn may begin anew -/
theorem Gn.rebuild {qn qm : List (Addr × Obj)} (nc : ∀ x,G.env.cells.lookup x = none) (hz : t0.heap.objs.size = G.n0) (I : Inv (G.fx X t0 H0) qn σg H s) (J : Inv X pins σc H' s') (hn : G.n0 ≤ s'.heap.objs.size) (kL : ∀ o,s.heap.get? G.n0 = some o → s'.heap.get? G.n0 = some o) (zL : H' G.n0 = none)
  (ka : s'.heap.get? G.a = some G.go) (za : H' G.a = none) (hqm : ∀ p ∈ qm,s'.heap.get? p.1 = some p.2 ∧ H' p.1 = none ∧ p.1 ≠ G.n0 ∧ p.1 ∉ frs X.stack ∧ ∀ v,p.2.data ≠ .cell v) : Inv (G.fx X (tr G.n0 s') H') qm σg H' s' where
 ok:=⟨I.ok.mod,I.ok.kind,rfl,rfl,Nat.le_of_eq (cutH_size hn),I.ok.inj,I.ok.has,fun x c _ e=>(nomatch (nc x).symm.trans e),I.ok.hd,I.ok.frames,I.ok.stk,fun _ z=>(nomatch z),
  fun b o e=>⟨(cutH_get (by rw [← hz]; exact Nat.lt_of_lt_of_le (Heap.lt_size e) I.ok.bsz)).trans (J.bs b o e).1,(J.bs b o e).2⟩,Nat.le_trans (Nat.le_trans I.ok.bsz (Nat.le_of_eq hz)) (Nat.le_of_eq (cutH_size hn).symm),fun _ _ _ z=>(nomatch z),fun _ z=>(nomatch z),
  fun_cut hz _ I.ok.funs J.stack,J.stkFree⟩
 os:=rfl
 bare:=J.bare
 base:=⟨fun b o e _ _ _=>(of_cutH hn e).2,fun b o e _ _ _=>⟨o.slots,(of_cutH hn e).2⟩,fun _ _ _ z _=>z,fun b o e _=>⟨o,(of_cutH hn e).2⟩,fun _ _ z=>z,fun _ _ _ z=>z,fun _ ps z=>⟨#[],by rw [Array.append_empty]; exact z⟩⟩
 loc:=by
  obtain ⟨m,⟨o,es,ep,ho,r⟩,hl⟩:=I.loc
  refine ⟨m,⟨o,es,ep,kL o ho,r⟩,fun i x v e1 e2 e3=>?_⟩
  obtain ⟨u,rv,l⟩:=hl i x v e1 e2 e3
  refine ⟨u,rv,?_⟩
  rcases l with l | ⟨_,c,e,_⟩
  ·exact .inl l
  ·exact nomatch (nc x).symm.trans e
 cell:=fun x c e=>nomatch (nc x).symm.trans e
 free:=zL
 freeC:=fun x c e=>nomatch (nc x).symm.trans e
 pin:=fun p hp=>by
  rcases List.mem_append.mp hp with hp | hp
  ·obtain ⟨_,_,n1,n2,n3⟩:=I.pin p (List.mem_append_left _ hp)
   have hp' : p ∈ [(G.a,G.go)]:=hp
   obtain rfl:=List.mem_singleton.mp hp'
   exact ⟨ka,za,n1,n2,n3⟩
  ·exact hqm p hp
 hok:=J.hok
 len:=I.len
theorem Gn.fpOk {qn qm : List (Addr × Obj)} (hz : t0.heap.objs.size = G.n0) (hn : G.n0 ≤ s'.heap.objs.size) {b : Addr} (h : FpOk (G.fx X t0 H0) qn H b) (z : H' b = none) (hqm : ∀ p ∈ qm,p.1 ≠ b) : FpOk (G.fx X (tr G.n0 s') H') qm H' b:=by
 obtain ⟨_,h2,h3,h4,h5,h6⟩:=h
 refine ⟨z,h2,h3,.inr ?_,h5,fun p hp=>?_⟩
 ·rcases h4 with q | q
  ·cases q
  ·exact Nat.le_trans (Nat.le_of_eq (cutH_size hn)) (Nat.le_trans (Nat.le_of_eq hz.symm) q)
 ·rcases List.mem_append.mp hp with hp | hp
  ·exact h6 p (List.mem_append_left _ hp)
  ·exact hqm p hp
/-- what the other's run knows behind a turn -/
theorem Gn.backK {qn : List (Addr × Obj)} (kl : List Addr) (J : Inv X pins σc HS tS) (hn : G.n0 ≤ tS.heap.objs.size) (I : Inv (G.fx X (tr G.n0 tS) HS) qn σg H s) (hk : ∀ b ∈ kl,(HS b = none ∧ ∀ o,tS.heap.get? b = some o → (b,o) ∈ qn) ∨ (HS b ≠ none ∧ ∃ vs,H b = some (.lst vs)))
  (hch : ∀ b,G.n0 ≤ b → b ∉ kl → (b ∈ X.ex ∨ X.s_0.heap.objs.size ≤ b) ∧ b ≠ X.env.locals ∧ (∀ x c,X.env.cells.lookup x = some c → c ≠ b) ∧ ∀ p ∈ X.pn ++ pins,p.1 ≠ b) : Inv X pins σc H s:=by
 have old : ∀ b o,tS.heap.get? b = some o → b ∉ (List.range tS.heap.objs.size).filter (fun b=>decide (G.n0 ≤ b ∧ b ∉ kl)) → (cutH G.n0 tS.heap).get? b = some o ∨ b ∈ kl:=fun b o e hb=>by
  by_cases z : G.n0 ≤ b
  ·refine .inr (Decidable.byContradiction fun w=>hb (List.mem_filter.mpr ⟨List.mem_range.mpr (Heap.lt_size e),decide_eq_true ⟨z,w⟩⟩))
  ·exact .inl ((cutH_get (Nat.lt_of_not_le z)).trans e)
 have u : Un (frs X.stack) [] HS H (cutH G.n0 tS.heap) s.heap:=I.base
 have pk : ∀ b o,tS.heap.get? b = some o → HS b = none → b ∈ kl → s.heap.get? b = some o ∧ H b = none:=fun b o e n hb=>by
  rcases hk b hb with ⟨_,z⟩ | ⟨z,_⟩
  ·have q:=I.pin (b,o) (List.mem_append_right _ (z o e))
   exact ⟨q.1,q.2.1⟩
  ·exact absurd n z
 refine J.call' (ch:=(List.range tS.heap.objs.size).filter fun b=>decide (G.n0 ≤ b ∧ b ∉ kl)) I.os ⟨fun b o e n h1 h2=>?_,fun b o e n h1 h2=>?_,fun b o e n h2=>?_,fun b o e h2=>?_,u.tups,u.frzs,u.tbls⟩ I.hok I.bare fun b hb=>?_
 ·rcases old b o e h2 with z | z
  ·exact u.keep b o z n h1 (fun z=>nomatch z)
  ·exact (pk b o e n z).1
 ·rcases old b o e h2 with z | z
  ·exact u.slot b o z n h1 (fun z=>nomatch z)
  ·exact ⟨o.slots,(pk b o e n z).1⟩
 ·rcases old b o e h2 with z | z
  ·exact u.free b o z n (fun z=>nomatch z)
  ·exact (pk b o e n z).2
 ·rcases old b o e h2 with z | z
  ·exact u.there b o z (fun z=>nomatch z)
  ·rcases hk b z with ⟨n,_⟩ | ⟨_,vs,q⟩
   ·exact ⟨o,(pk b o e n z).1⟩
   ·obtain ⟨_,_,_,_,e2⟩:=I.hok b _ q
    exact ⟨_,e2⟩
 ·obtain ⟨z1,z2⟩:=of_decide_eq_true (List.mem_filter.mp hb).2
  exact hch b z1 z2
theorem Gn.back {qn : List (Addr × Obj)} (J : Inv X pins σc HS tS) (hn : G.n0 ≤ tS.heap.objs.size) (I : Inv (G.fx X (tr G.n0 tS) HS) qn σg H s) (hL : X.env.locals < G.n0) (hC : ∀ x c,X.env.cells.lookup x = some c → c < G.n0) (hp : ∀ p ∈ X.pn ++ pins,p.1 < G.n0) : Inv X pins σc H s :=
 Gn.backK [] J hn I (fun b hb=>nomatch hb) fun b hb' _=>⟨.inr (Nat.le_trans J.ok.above (Nat.le_of_lt (Nat.lt_of_lt_of_le hL hb'))),Nat.ne_of_gt (Nat.lt_of_lt_of_le hL hb'),fun x c e=>Nat.ne_of_lt (Nat.lt_of_lt_of_le (hC x c e) hb'),fun p h=>Nat.ne_of_lt (Nat.lt_of_lt_of_le (hp p h) hb')⟩
end
/-- what a body `for x in items: if c: yield e` hands out -/
inductive GSim (tg : U → VL.G) (bc : F Bool) (fe : F U) : List U → VEnv → List D → Prop
 | nil {env : VEnv} : GSim tg bc fe [] env []
 | no {u : U} {us : List U} {env env' : VEnv} {ys : List D} : (∀ st,tg u env st = .ok env' .nx st) → (∀ st,bc env' st = .ok false st) → GSim tg bc fe us env' ys → GSim tg bc fe (u :: us) env ys
 | yes {u : U} {us : List U} {env env' : VEnv} {ys : List D} {v : D} : (∀ st,tg u env st = .ok env' .nx st) → (∀ st,bc env' st = .ok true st) → (∀ st,fe env' st = .ok (.d v) st) → GSim tg bc fe us env' ys → GSim tg bc fe (u :: us) env (v :: ys)
structure Pp where
 it : Addr
 fp : List Addr
 tn : Nat → Heap → Prop
 J : It
 m1 : List Addr
 H1 : Hp
structure Mid (G : Gn) (X : Cx) (p : Pp) (qn : List (Addr × Obj)) (t0 : Shared) (H0 : Hp) (i : Nat) (eg : VEnv) (σg : L2.St) (H : Hp) (m : List Addr) (st : Store) (s : Shared) : Prop where
 inv : Inv (G.fx X t0 H0) qn σg H s
 rep : Rep X.K m st H
 env : RpEnv X.K m H eg σg
 ext : Ext p.m1 p.H1 m H
 tn : p.tn i s.heap
 fp : ∀ b ∈ p.fp,FpOk (G.fx X t0 H0) qn H b
/-- what the other's run says where a turn begins: what is still to come,the state -/
noncomputable abbrev PKt:=List D → Shared → Hp → List Addr → Store → List (Addr × Obj) → Prop
section
variable (G : Gn) (X : Cx) (tg : Expr) (g : U → VL.G) (bc : F Bool) (fe : F U) (us : List U) (PK : PKt)
noncomputable def Rdy (p : Pp) (rest : List D) (s : Shared) : Prop:=∃ qn i eg σg H m st,Mid G X p qn (tr G.n0 s) H i eg σg H m st s ∧ i ≤ us.length ∧ GSim g bc fe (us.drop i) eg rest ∧ G.n0 ≤ s.heap.objs.size ∧ PK rest s H m st qn
noncomputable def Out1 (p : Pp) (u : D) (rest : List D) (v : Value) (s : Shared) : Prop:=∃ qn tS H0 mS st i eg σg H m x,PK (u :: rest) tS H0 mS st qn ∧ G.n0 ≤ tS.heap.objs.size ∧ Turn X.prog X.w X.K tg p.J p.fp p.it p.tn ∧ Mid G X p qn (tr G.n0 tS) H0 i eg σg H m st s ∧ Ext mS H0 m H ∧ i ≤ us.length ∧ GSim g bc fe (us.drop i) eg rest ∧ RpU X.K m H (.d u) x ∧ RelV x v
noncomputable def Fin1 (s : Shared) : Prop:=∃ qn tS H0 mS st σg H m,PK [] tS H0 mS st qn ∧ G.n0 ≤ tS.heap.objs.size ∧ Inv (G.fx X (tr G.n0 tS) H0) qn σg H s ∧ Rep X.K m st H ∧ Ext mS H0 m H
noncomputable def RzG : GenEnd:=fun _ _ r s=>((r = .ok (.ret .none) ∨ r = .ok .next) ∧ Fin1 G X PK s) ∨ ∃ e,r = .error e ∧ False
noncomputable def YD : Protocol:=fun n _ v s kap=>∃ p u rest,rest.length + 1 = n ∧ Out1 G X tg g bc fe us PK p u rest v s ∧ ∀ s',Rdy G X g bc fe us PK p rest s' → kap (.send .none) s'
end
theorem seg_turns {G : Gn} {X : Cx} {tg c e : Expr} {is : List Nat} {g : U → VL.G} {bc : F Bool} {fe : F U} {us : List U} {PK : PKt} {W : WX} {fbody : List Stmt} {yp ep ip fpos : Pos} {kk : Result → Sem PySem.Fin} {p : Pp}
  (T : Turn X.prog X.w X.K tg p.J p.fp p.it p.tn) (IT : IsIt X.K p.m1 p.H1 p.J (.lst us))
  (hg : ∀ t0 H0,t0.heap.objs.size = G.n0 → DG (G.fx X t0 H0) tg is g) (hc : ∀ t0 H0,t0.heap.objs.size = G.n0 → DT (G.fx X t0 H0) W c bc) (he : ∀ t0 H0,t0.heap.objs.size = G.n0 → DE (G.fx X t0 H0) W e fe) (hco : G.env.scope.isCoroutine = false) (hia : interactive G.env = false)
  (hdone : ∀ n s₀ s,Fin1 G X PK s → Seg (model X.prog X.w) X.A.in1 (RzG G X PK) (YD G X tg g bc fe us PK) n s₀ (.func fbody G.env) (kk (.ok .next)) [] s)
  (herr : ∀ n s₀ x s t0 H0,t0.heap.objs.size = G.n0 → cameBackBy (model X.prog X.w) (G.fx X t0 H0).A G.env (G.fx X t0 H0).xe x s → Seg (model X.prog X.w) X.A.in1 (RzG G X PK) (YD G X tg g bc fe us PK) n s₀ (.func fbody G.env) (kk (.error x)) [] s) :
  ∀ (μ i : Nat) (rest : List D) (n : Nat) (s₀ s tS : Shared) (H0 : Hp) (mS : List Addr) (st : Store) (eg : VEnv) (σg : L2.St) (H : Hp) (m : List Addr) (qn : List (Addr × Obj)),rest.length * (us.length + 1) + (us.length - i) = μ → Mid G X p qn (tr G.n0 tS) H0 i eg σg H m st s → PK rest tS H0 mS st qn → G.n0 ≤ tS.heap.objs.size → Ext mS H0 m H → i ≤ us.length → GSim g bc fe (us.drop i) eg rest → n = rest.length + 1 →
   Seg (model X.prog X.w) X.A.in1 (RzG G X PK) (YD G X tg g bc fe us PK) n s₀ (.forLoop tg (.ref p.it) [.If c [.Expr (.Yield (some e) yp) ep] [] ip] [] G.env) ((model X.prog X.w).den (.forLoop tg (.ref p.it) [.If c [.Expr (.Yield (some e) yp) ep] [] ip] [] G.env)) [.ret kk none false [] (.func fbody G.env) fpos []] s:=by
 obtain ⟨igo,istop,iyld⟩:=IT
 have ov : ∀ t0 H0,X.A.in1.over (.forLoop tg (.ref p.it) [.If c [.Expr (.Yield (some e) yp) ep] [] ip] [] G.env) [.ret kk none false [] (.func fbody G.env) fpos []] = (G.fx X t0 H0).A:=fun _ _=>(over_loop rfl rfl).trans over_func
 have ee : ∀ (n : Nat) (s₀ : Shared) (x : Value) (s' : Shared) (t0 : Shared) (H0 : Hp),t0.heap.objs.size = G.n0 → (G.fx X t0 H0).xe x s' → Seg (model X.prog X.w) X.A.in1 (RzG G X PK) (YD G X tg g bc fe us PK) n s₀ (.forLoop tg (.ref p.it) [.If c [.Expr (.Yield (some e) yp) ep] [] ip] [] G.env)
   ((do noteFrame x G.env; theTreesLotGoes x : Sem Unit).bind fun _=>.raise x) [.ret kk none false [] (.func fbody G.env) fpos []] s':=fun n s₀ x s' t0 H0 hz hx=>by
  have hp : PassesOwn (model X.prog X.w) (G.fx X t0 H0).A (G.fx X t0 H0).env (G.fx X t0 H0).xe:=by
   rw [Gn.fx_eq hz]
   exact owns_gcx
  rw [Sem.bind_eq_wrap]
  refine seg_wrap ?_
  rw [ov t0 H0]
  refine wpAny_bind (wpAny_mono (hp x s' hx) (fun _ s'' hcb=>wpAny_theTreesLotGoes ?_) fun y s'' hcb=>?_)
  ·exact seg_leaf (.error x) (herr n s₀ x s'' t0 H0 hz hcb)
  ·exact seg_leaf (.error y) (herr n s₀ y s'' t0 H0 hz hcb)
 intro μ
 induction μ using Nat.strongRecOn with
 | ind μ ih =>
 intro i rest n s₀ s tS H0 mS st eg σg H m qn hr M hP hn hE hi hS hl
 have hz : (tr G.n0 tS).heap.objs.size = G.n0:=cutH_size hn
 show Seg _ _ _ _ _ _ _ ((forTurn tg (.ref p.it) _ [] G.env).onRaise fun x=>do noteFrame x G.env; theTreesLotGoes x) _ s
 rw [Sem.onRaise_eq_wrap]
 unfold forTurn
 refine seg_bind_wrap (wpAny_standAt (seg_bind_wrap ?_))
 rw [ov (tr G.n0 tS) H0]
 by_cases hlt : i < us.length
 ·rw [List.drop_eq_getElem_cons hlt] at hS
  refine wpAny_onRaise (wpAny_mono (T.item (G.fx X (tr G.n0 tS) H0) rfl rfl rfl rfl i qn s σg H (G.fx X (tr G.n0 tS) H0).xe M.inv M.fp M.tn (igo i m st H hlt M.rep M.ext)) (fun r' s4 h4=>?_) fun x s4 hx=>wpAny_standAt (ee n s₀ x s4 _ H0 hz hx))
  obtain ⟨w,er,h5⟩:=h4
  subst er
  refine seg_bind_wrap ?_
  rw [ov (tr G.n0 tS) H0]
  refine wpAny_mono h5 (fun _ s5 h6=>?_) fun x s4 hx=>ee n s₀ x s4 _ H0 hz hx
  obtain ⟨x,H5,I5,r5,y5,st5,fr5⟩:=h6
  obtain ⟨rp5,e5,u5⟩:=iyld i us[i] m st H x H5 (List.getElem?_eq_getElem hlt) M.rep M.ext y5
  have fpk : ∀ (H' : Hp),(∀ b ∈ p.fp,H' b = none) → ∀ b ∈ p.fp,FpOk (G.fx X (tr G.n0 tS) H0) qn H' b:=fun H' z b hb=>⟨z b hb,(M.fp b hb).2⟩
  have J5:=I5.pinned (fpk H5 fr5) (T.obj _ _ st5)
  have later : ∀ {σ' : L2.St} {H' : Hp} {s' : Shared} {m' : List Addr} {eg' : VEnv},Inv (G.fx X (tr G.n0 tS) H0) (qn ++ pinsAt p.fp s5.heap) σ' H' s' → Rep X.K m' st H' → RpEnv X.K m' H' eg' σ' → Ext m H m' H' → Mid G X p qn (tr G.n0 tS) H0 (i + 1) eg' σ' H' m' st s':=fun {σ' H' s' m' eg'} I' r' re' e'=>by
   have pn : ∀ b ∈ p.fp,∀ o,s5.heap.get? b = some o → s'.heap.get? b = some o ∧ H' b = none:=fun b hb o z=>⟨(I'.pin (b,o) (List.mem_append_right _ (List.mem_append_right _ (mem_pinsAt hb z)))).1,(I'.pin (b,o) (List.mem_append_right _ (List.mem_append_right _ (mem_pinsAt hb z)))).2.1⟩
   exact ⟨Inv.unpinned (pins:=qn) I',r',re',M.ext.trans e',T.keep _ _ _ st5 fun b hb o z=>(pn b hb o z).1,fpk H' fun b hb=>by
    obtain ⟨o,z,-⟩:=T.obj _ _ st5 b hb
    exact (pn b hb o z).2⟩
  have main : ∃ (eg' : VEnv) (b : Bool),(∀ st,g us[i] eg st = .ok eg' .nx st) ∧ (∀ st,bc eg' st = .ok b st) ∧ (b = false → GSim g bc fe (us.drop (i + 1)) eg' rest) ∧ (b = true → ∃ v ys,rest = v :: ys ∧ (∀ st,fe eg' st = .ok (.d v) st) ∧ GSim g bc fe (us.drop (i + 1)) eg' ys):=by
   generalize hd : us.drop (i + 1) = usd at hS
   cases hS with
   | no k1 k2 k3=>exact ⟨_,false,k1,k2,fun _=>k3,nofun⟩
   | yes k1 k2 k3 k4=>exact ⟨_,true,k1,k2,nofun,fun _=>⟨_,_,rfl,k3,k4⟩⟩
  obtain ⟨eg',b,h1,h2,h3,h4⟩:=main
  refine seg_bind_wrap ?_
  rw [ov (tr G.n0 tS) H0]
  refine wpAny_mono ((hg _ H0 hz).pg.run _ s5 σg H5 x w (fun σ6 H6=>∃ m6,RpEnv X.K m6 H6 eg' σ6 ∧ Rep X.K m6 st H6 ∧ Ext m H m6 H6) J5 r5 ⟨m,eg,st,us[i],rp5,M.env.ext e5,u5,?_⟩) (fun _ s6 h7=>?_) fun x s4 hx=>ee n s₀ x s4 _ H0 hz hx
  ·rw [h1 st]
   exact fun σ' m' H' k1 k2 k3 _=>⟨m',k1,k2,e5.trans k3⟩
  obtain ⟨σ6,H6,I6,m6,re6,rp6,e6⟩:=h7
  rw [Sem.bind_eq_wrap',Sem.wrap_wrap]
  refine seg_execs_cons (seg_at (seg_bind_wrap (wpAny_pure (seg_bind_wrap ?_))))
  rw [ov (tr G.n0 tS) H0]
  refine wpAny_mono ((hc _ H0 hz).pt.run _ s6 σ6 H6 (fun b' H7=>b' = b ∧ ∃ m7,Rep X.K m7 st H7 ∧ Ext m6 H6 m7 H7) I6 ⟨m6,eg',st,rp6,re6,?_⟩) (fun b' s7 h8=>?_) fun x s4 hx=>ee n s₀ x s4 _ H0 hz hx
  ·rw [h2 st]
   exact fun b' m' H' k1 k2 k3=>⟨k1,m',k2,k3⟩
  obtain ⟨H7,I7,rfl,m7,rp7,e7⟩:=h8
  have re7:=re6.ext e7
  cases b' with
  | false=>exact seg_execs_nil (env:=G.env) (seg_execs_nil (env:=G.env) (seg_again rfl (ih (rest.length * (us.length + 1) + (us.length - (i + 1))) (by omega) (i + 1) rest n s₀ s7 tS H0 mS st eg' σ6 H7 m7 qn rfl (later I7 rp7 re7 (e6.trans e7)) hP hn (hE.trans (e6.trans e7)) hlt (h3 rfl) hl)))
  | true =>
   obtain ⟨v,ys,rfl,h5,h6⟩:=h4 rfl
   rw [List.length_cons] at hl
   subst hl
   refine seg_execs_cons (seg_Expr_Yield rfl rfl rfl ?_ hco hia)
   rw [ov (tr G.n0 tS) H0]
   refine wpAny_mono ((he _ H0 hz).pe.run _ s7 σ6 H7 (fun x8 H8=>∃ m8,RpU X.K m8 H8 (.d v) x8 ∧ Rep X.K m8 st H8 ∧ Ext m7 H7 m8 H8) I7 ⟨m7,eg',st,rp7,re7,?_⟩) (fun vv s8 h9=>?_) fun x s4 hx=>ee _ s₀ x s4 _ H0 hz hx
   ·rw [h5 st]
    exact fun x8 m' H' k1 k2 k3=>⟨m',k1,k2,k3⟩
   obtain ⟨x8,H8,I8,rv8,m8,ru8,rp8,e8⟩:=h9
   intro kap hk
   have e9:=e6.trans (e7.trans e8)
   refine ⟨p,v,ys,rfl,⟨qn,tS,H0,mS,st,i + 1,eg',σ6,H8,m8,x8,hP,hn,T,later I8 rp8 (re7.ext e8) e9,hE.trans e9,hlt,h6,ru8,rv8⟩,fun s' hr'=>hk .none s' ?_⟩
   obtain ⟨qn2,i',eg2,σ2,H2,m2,st2,M2,hi2,hS2,hn2,hP2⟩:=hr'
   refine seg_execs_nil (env:=G.env) (seg_execs_nil (env:=G.env) (seg_again rfl (ih (ys.length * (us.length + 1) + (us.length - i')) ?_ i' ys (ys.length + 1) s' s' s' H2 m2 st2 eg2 σ2 H2 m2 qn2 rfl M2 hP2 hn2 (Ext.refl _ _) hi2 hS2 rfl)))
   rw [← hr,List.length_cons,Nat.succ_mul]
   omega
 ·have hi' : i = us.length:=by omega
  subst hi'
  rw [List.drop_length] at hS
  cases hS
  refine wpAny_onRaise (wpAny_mono (T.done (G.fx X (tr G.n0 tS) H0) rfl rfl rfl rfl _ qn s σg H (G.fx X (tr G.n0 tS) H0).xe M.inv M.fp M.tn (istop m st H M.rep M.ext)) (fun r' s4 h4=>?_) fun x s4 hx=>wpAny_standAt (ee n s₀ x s4 _ H0 hz hx))
  obtain ⟨er,I4⟩:=h4
  subst er
  exact seg_again rfl (seg_leaf (.ok .next) (hdone n s₀ s4 ⟨qn,tS,H0,mS,st,σg,H,m,hP,hn,I4,M.rep,hE⟩))
end VL
namespace VL
open PySem PySem.Spec PyProof.Rows L2 GenW
section
variable {G : Gn} {X : Cx} {tg iter c e : Expr} {is : List Nat} {fi : F Itb} {g : U → VL.G} {bc : F Bool} {fe : F U} {us : List U} {PK : PKt} {W : WX} {yp ep ip fpos : Pos}
/-- it leaves with an exception: never -/
theorem seg_never {n : Nat} {s₀ s t0 : Shared} {x : Value} {H0 : Hp} {fbody : List Stmt} {Y : Protocol} {R : GenEnd} (h : (G.fx X t0 H0).xe x s) :
  Seg (model X.prog X.w) X.A.in1 R Y n s₀ (.func fbody G.env) ((leaving G.env x).wrap (fun _=>.raise x) .raise id id) [] s:=by
 refine seg_wrap ?_
 rw [over_func]
 refine wpAny_mono h (fun _ u q=>?_) fun _ _ q=>q.elim
 obtain ⟨⟨_,_,_,_,_,_,_,_,_,_,_,_,z⟩,_⟩:=q
 exact z.elim
theorem seg_first (hi : ∀ t0 H0,t0.heap.objs.size = G.n0 → DI (G.fx X t0 H0) W tg iter fi) (hg : ∀ t0 H0,t0.heap.objs.size = G.n0 → DG (G.fx X t0 H0) tg is g) (hc : ∀ t0 H0,t0.heap.objs.size = G.n0 → DT (G.fx X t0 H0) W c bc) (he : ∀ t0 H0,t0.heap.objs.size = G.n0 → DE (G.fx X t0 H0) W e fe)
  (hco : G.env.scope.isCoroutine = false) (hia : interactive G.env = false) (hf : ∀ x,foldedSetIterable iter G.env x = pure x) {rest : List D} {s₀ s : Shared} {H : Hp} {m : List Addr} {st : Store} {eg : VEnv} {σg : L2.St} {qn : List (Addr × Obj)}
  (I : Inv (G.fx X (tr G.n0 s) H) qn σg H s) (hn : G.n0 ≤ s.heap.objs.size) (r : Rep X.K m st H) (re : RpEnv X.K m H eg σg) (hs : ∀ st,fi eg st = .ok (.lst us) st) (hS : GSim g bc fe us eg rest) (hP : PK rest s H m st qn) :
  Seg (model X.prog X.w) X.A.in1 (RzG G X PK) (YD G X tg g bc fe us PK) (rest.length + 1) s₀ (.func [.For tg iter [.If c [.Expr (.Yield (some e) yp) ep] [] ip] [] fpos] G.env) ((model X.prog X.w).den (.func [.For tg iter [.If c [.Expr (.Yield (some e) yp) ep] [] ip] [] fpos] G.env)) [] s:=by
 have hz : (tr G.n0 s).heap.objs.size = G.n0:=cutH_size hn
 refine seg_func (seg_execs_cons (seg_at (seg_bind_wrap (wpAny_pure (seg_bind_wrap ?_)))))
 rw [over_func]
 refine wpAny_mono ((hi _ H hz).pi.run qn s σg H (fun J H1=>∃ m1,Rep X.K m1 st H1 ∧ Ext m H m1 H1 ∧ IsIt X.K m1 H1 J (.lst us)) I ⟨m,eg,st,r,re,?_⟩) (fun v s1 e1=>?_) fun x s1 hx=>seg_never hx
 ·rw [hs st]
  intro t m1 H1 ht r1 e1 m2 st2 h2 r2 e2 J hJ
  cases h2
  exact ⟨m2,r2,e2,hJ⟩
 refine seg_bind_wrap (wpAny_of_eq (hf v) (seg_bind_wrap (wpAny_standAt (seg_bind_wrap (wpAny_holding ?_)))))
 rw [over_func]
 refine wpAny_mono e1 (fun itv s2 e2=>?_) fun x s1 hx=>seg_never hx
 obtain ⟨it,fp,tn,J,H2,ei,I2,T,st2,f2,m1,r1,x1,hJ⟩:=e2
 subst ei
 refine seg_call fun p=>?_
 refine seg_turns (G:=G) (X:=X) (us:=us) (PK:=PK) (p:=⟨it,fp,tn,J,m1,H2⟩) (W:=W) T hJ hg hc he hco hia (fun n s₀ s3 hF=>?_) (fun n s₀ x s3 t0 H0 hz0 hcb=>?_) _ 0 rest (rest.length + 1) _ s2 s H m st eg σg H2 m1 qn rfl ⟨I2,r1,re.ext x1,Ext.refl _ _,st2,f2⟩ hP hn x1 (Nat.zero_le _) hS rfl
 ·exact seg_end (.ok (.ret .none)) (.inl ⟨.inl rfl,hF⟩)
 ·show Seg _ _ _ _ _ _ _ (((cameBack G.env x).bind fun _=>(Sem.raise x : Sem Flow)).wrap _ _ _ _) _ _
  rw [Sem.bind_eq_wrap,Sem.wrap_wrap]
  refine seg_wrap ?_
  rw [over_func]
  exact wpAny_mono hcb (fun _ s' hx=>seg_never hx) fun y s' hx=>seg_never hx
end
theorem resumeS {M : Model} {A : Around} {R : GenEnd} {Y : Protocol} {n : Nat} {E : Value → Shared → Prop} {s : Shared} {g : Nat} {gs : GenState} {l : List Value} {α : Type} {k : GenResult → Sem α} {Q : α → Shared → Prop} (hg : s.gens[g]? = some gs) (hgo : gs.Goes M A R Y (n + 1) (.send .none) (s.setGen g .running))
  (hR : ∀ x s1,R (n + 1) (s.setGen g .running) x s1 → wpAny M A (k (End.ret x).result) Q E (s1.setGen g .finished))
  (hY : ∀ v s1 gs',gs'.bare = true → Po.Sus gs' → Y n (s.setGen g .running) v s1 (fun r t=>gs'.Goes M A R Y n r t) → wpAny M A (k (.yielded v)) Q E (s1.setGen g gs')) : wpAny M A (.resume g (.send .none) l k) Q E s:=fun Γ p hΓ=>by
 rw [Sem.wp_resume]
 have fin : ∀ (e1 : End) (s1 : Shared),SegEnd R Y (n + 1) (Seg.next M A R Y (n + 1)) (s.setGen g .running) e1 s1 → e1.quiet = true ∧ Sem.wp M Γ (k e1.result) (fun a _ t=>Q a t) (fun e _ t=>E e t) p (s1.setGen g e1.genState):=fun e1 s1 he=>by
  cases e1 with
  | ret x=>exact ⟨rfl,hR x s1 he Γ p hΓ⟩
  | susp v g0 l0 k0 c0 p0 fs0=>exact ⟨he.1,hY v s1 _ (End.bare_of_quiet he.1) ⟨_,_,_,_,_,_,rfl⟩ he.2 Γ p hΓ⟩
 cases gs with
 | running=>exact hgo.elim
 | finished=>exact hgo.elim
 | fresh c =>
  obtain ⟨e1,s1,hr,he⟩:=seg_iff.mp hgo.2 (Γ.wake c p) p rfl (hΓ.wake c p)
  refine ⟨_,_,?_,(fin e1 s1 he).2⟩
  unfold Wakes
  rw [hg]
  exact ⟨e1,s1,hr,(fin e1 s1 he).1,rfl,rfl⟩
 | suspended k0 l0 c0 p0 fs cl =>
  obtain ⟨e1,s1,hr,he⟩:=seg_iff.mp hgo (Γ.wake c0 p) p0 rfl (hΓ.wake c0 p)
  refine ⟨_,_,?_,(fin e1 s1 he).2⟩
  unfold Wakes
  rw [hg]
  exact ⟨e1,s1,hr,(fin e1 s1 he).1,rfl,rfl⟩
theorem nextS {P : Program} {w : World} {A : Around} {E : Value → Shared → Prop} {s : Shared} {a : Addr} {g n : Nat} {gs : GenState} {F : Shared → Prop} {Y : Protocol} {Q : Option Value → Shared → Prop} (hh : A.handled = none) (hl : s.heap.NoLimit) (hroom : A.depth < recursionLimit) (hg : s.heap.IsGen a g) (hgs : s.gens[g]? = some gs)
  (hgo : gs.Goes (model P w) A.in1 (fun _ _ r t=>((r = .ok (.ret .none) ∨ r = .ok .next) ∧ F t) ∨ ∃ e,r = .error e ∧ False) Y (n + 1) (.send .none) (s.setGen g .running))
  (hY : ∀ v s1 gs',gs'.bare = true → Po.Sus gs' → Y n (s.setGen g .running) v s1 (fun r t=>gs'.Goes (model P w) A.in1 (fun _ _ r t=>((r = .ok (.ret .none) ∨ r = .ok .next) ∧ F t) ∨ ∃ e,r = .error e ∧ False) Y n r t) → Q (some v) (s1.setGen g gs'))
  (hP : ∀ s1,F s1 → ∀ h',(∀ b o,s1.heap.get? b = some o → h'.get? b = some o) → Q none { s1.setGen g .finished with heap:=h' }) : wpAny (model P w) A (pyNext (.ref a)) Q E s:=by
 unfold pyNext
 refine wpAny_bind (wpAny_attempt (wpAny_callSpecial?_slot (name:=Str.ofString "__next__") hg.typeIs slot_gen_next (wpAny_call_entry slot_gen_next hg.typeIs entry_gen_next (show wpAny _ A.in1 (Builtin.Generator.genWake (.ref a) (.send .none)) _ _ s from ?_) (args_gen_next _))))
 unfold Builtin.Generator.genWake
 refine wpAny_bind (wpAny_holding (wpAny_genNumber hg (wpAny_bind (wpAny_genState hgs ?_))))
 cases gs with
 | running=>exact hgo.elim
 | finished=>exact hgo.elim
 | _ =>
  refine wpAny_bind (wpAny_roomToWake hl hroom (show wpAny _ A.in1 (.resume g (.send .none) [] _) _ _ s from ?_))
  refine resumeS hgs hgo (fun x s1 hx=>?_) fun v s1 gs' hb hs hv=>wpAny_pure ⟨v,rfl,wpAny_pure (hY v s1 gs' hb hs hv)⟩
  rcases hx with ⟨hr,hp⟩ | ⟨_,_,z⟩
  ·rw [show (End.ret x).result = .returned .none by rcases hr with rfl | rfl <;> rfl]
   show wpAny _ A.in1 (newExc (.type "StopIteration") [] >>= _) _ _ _
   refine wpAny_bind ?_
   simp only [newExc,newTuple]
   refine wpAny_bind (wpAny_newObj_type (wpAny_bind (m:=firstArgMember _ _) (wpAny_of_eq (a:=Value.none) (by first | rfl | (simp only [firstArgMember]; rfl)) (wpAny_newObj_type ?_ (by size_fits)))) (by size_fits))
   simp only [raiseNew]
   refine wpAny_bind (wpAny_bind (wpAny_handled ?_))
   rw [show A.in1.handled = none from hh]
   exact wpAny_throw (wpAny_bind (wpAny_isInstance (T:="StopIteration") (b:=true) ⟨_,Heap.get?_push_size _ rfl,rfl⟩ isSubtype_stop (wpAny_pure (hP s1 hp _ fun b o z=>Heap.get?_push_of_some _ (Heap.get?_push_of_some _ z)))))
  ·exact z.elim
noncomputable def W0x : WX:=fun _ _ _ _=>False
noncomputable def noX1 : RS → RS
 | .ex _ _ _ _=>.bad
 | r=>r
theorem PS'.noX {K : PySem.W.Frag} {m : List Addr} {H : Hp} {D : Ends} {W : WX} : ∀ {r : RS},PS' K m H D W (noX1 r) → PS' K m H D W0x r
 | .ok _ .nx _,h=>h
 | .ok _ (.rt _) _,h=>h
 | .ok _ .bk _,h=>h
 | .ok _ .ct _,h=>h
 | .ex _ _ _ _,h=>h.elim
 | .bad,h=>h
theorem inv_gens {X : Cx} {pins : List (Addr × Obj)} {σ : L2.St} {H : Hp} {s s' : Shared} (I : Inv X pins σ H s) (ho : s'.os = s.os) (hh : s'.heap = s.heap) (hb : AllBare s'.gens) : Inv X pins σ H s' :=
 I.call' (ch:=[]) ho (by rw [hh]; exact Un.refl) (by rw [hh]; exact I.hok) hb fun b z=>nomatch z
section
variable {G : Gn} {X : Cx} {pins : List (Addr × Obj)} {D : Ends} {tg tc : Expr} {body : List Stmt} {is : List Nat} {g gt : U → VL.G} {gb : VL.G} {bc : F Bool} {fe : F U} {us : List U} {gi : Nat}
end
end VL
namespace VL
open PySem PySem.Spec PyProof.Rows L2 GenW
/-- a generator def `for .. in ..: if ..: yield ..` of one parameter,and what it hands out -/
structure GnF (P : Program) (w : World) (K : PySem.W.Frag) (mg : Str → Option Value) (base : Heap) (f : Addr) (k : Nat) (q : U → Option (List D)) : Prop where
 ex : ∃ (fd : FuncData) (N : List Str) (x qual p0 : Str) (st : Stmt) (tg iter c e : Expr) (yp ep ip fp : Pos) (is : List Nat) (fi : F Itb) (g : U → G) (bc : F Bool) (fe : F U) (W : WX),
  Fun K x qual st f fd ∧ GScope N [p0] (defScope st) ∧ Binds K fd [p0] [] ∧ (∀ n y,(cellsFrom n (defScope st).names []).lookup y = none) ∧ (∀ n g cd,interactive (envOfC qual (defScope st) n g cd) = false) ∧
  defBody st = [.For tg iter [.If c [.Expr (.Yield (some e) yp) ep] [] ip] [] fp] ∧ (∀ n g cd x,foldedSetIterable iter (envOfC qual (defScope st) n g cd) x = pure x) ∧
  (∀ (cdv : Value) (A : Around) (outer : List Env) (s : Shared) (H : Hp) (E : XK) (pn : List (Addr × Obj)),Room k (A.deeper (envOfC qual (defScope st) s.heap.objs.size f cdv)) →
   DI (gcxOf P w K mg base N qual (defScope st) f cdv A outer s H E pn) W tg iter fi ∧ DG (gcxOf P w K mg base N qual (defScope st) f cdv A outer s H E pn) tg is g ∧ DT (gcxOf P w K mg base N qual (defScope st) f cdv A outer s H E pn) W c bc ∧ DE (gcxOf P w K mg base N qual (defScope st) f cdv A outer s H E pn) W e fe) ∧
  ∀ u ys,q u = some ys → ∃ us,(∀ s1,fi (some u :: List.replicate (N.length - 1) none) s1 = .ok (.lst us) s1) ∧ GSim g bc fe us (some u :: List.replicate (N.length - 1) none) ys
structure Born (X : Cx) (N : List Str) (qual : Str) (scope : Scope) (f : Addr) (body : List Stmt) (vs : List V) (H : Hp) (s : Shared) (G : Gn) (gi : Nat) (nm qn : Value) (s' : Shared) : Prop where
 eN : G.N = N
 eq : G.qual = qual
 es : G.scope = scope
 ef : G.f = f
 n0 : G.n0 = s.heap.objs.size
 lt : G.n0 < G.a
 gc : G.go.cls = .type "generator"
 gd : G.go.data = .fields #[.int gi 0,nm,qn]
 gs : G.go.slots = #[]
 at' : s'.heap.get? G.a = some G.go
 fr : s'.gens[gi]? = some (.fresh (.func body G.env))
 os : s'.os = s.os
 br : AllBare s'.gens
 nl : s'.heap.NoLimit
 kp : ∀ b o,s.heap.get? b = some o → s'.heap.get? b = some o
 inv : Inv (G.fx X s H) [] (L2.start N vs) H s'
set_option maxHeartbeats 1000000 in
theorem born {X : Cx} {N : List Str} {x qual p0 : Str} {st : Stmt} {f : Addr} {fd : FuncData} {pins : List (Addr × Obj)} {σ : L2.St} {H : Hp} {s : Shared} {u : Value} {v : V} (Fn : Fun X.K x qual st f fd) (S : GScope N [p0] (defScope st)) (hb : Binds X.K fd [p0] []) (hh : X.A.handled = none) (hd : X.A.depth < recursionLimit)
  (I : Inv X pins σ H s) (r : RelV v u) : codeAny (model X.prog X.w) X.A (.call (.ref f) { pos:=[u] }) (fun r s'=>∃ G gi nm qn,r = .ok (.ret (.ref G.a)) ∧ Born X N qual (defScope st) f (defBody st) [v] H s G gi nm qn s') s:=by
 obtain ⟨oc,od,kV,doc,pm,an,cdv,ct,osl,rfl,lk,hcd⟩:=Fn.ex
 have e0:=I.env0
 have KX : PySem.W.Frag.In X.K s.heap:=env0_in e0
 have rr : Vals [v] [u]:=.cons r .nil
 have hkind : ∀ x ∈ [p0].zip [u],(defScope st).names.lookup x.1 = some .local ∨ (defScope st).names.lookup x.1 = some .cell ∧ ((cellsFrom (s.heap.objs.size + 1) (defScope st).names []).lookup x.1).isSome = true:=fun x hy=>by
  obtain ⟨n,v⟩:=x
  rcases S.par n (List.of_mem_zip hy).1 with q | q
  ·exact .inl q
  ·exact .inr ⟨q,PySem.W.cellsFrom_some (defScope st).names (s.heap.objs.size + 1) [] (.inl q)⟩
 have hbd:=hb s [u] KX rfl
 rw [List.append_nil] at hbd
 refine codeAny_call_generator hd (KX f _ lk) rfl S.co S.gen rfl (PySem.W.codeRec_of KX hcd) (hbd (model X.prog X.w) X.A.in1 _ _ ?_)
 refine wpAny_newFunctionEnv_cells S.kind hkind fun env he s1 x=>?_
 subst he
 have kp:=x.toInCall.keep
 have nl:=Heap.NoLimit.keeps (Heap.NoLimit.keeps e0.mod.nolimit fun b o e=>(e0.bs b o e).1) kp
 refine ⟨nl,?_⟩
 have lt:=x.toInCall.ns.lt
 obtain ⟨h1,tk,es,-⟩:=x.done
 have os1 : s1.os = s.os:=by rw [es]
 have gn1 : s1.gens = s.gens:=by rw [es]
 have I1:=inv_startG (E:=noX) S (show X.A.in1.handled = none from hh) (⟨e0.frames,e0.mod,e0.bs,e0.bsz,e0.funs,e0.frf,e0.hok,e0.bare⟩ : Env0 X.prog X.w X.K X.mg X.base X.A.in1 X.stack s H) rfl rr x
 have main : ∀ (go : Obj) (nm qn : Value) (tk : Nat),go.cls = .type "generator" → go.data = .fields #[.int s1.gens.size 0,nm,qn] → go.slots = #[] → (∀ h : Heap,(h.push go).get? h.objs.size = some go) →
   ∃ G gi nm qn,(Except.ok (Flow.ret (.ref s1.heap.objs.size)) : Result) = .ok (.ret (.ref G.a)) ∧ Born X N qual (defScope st) f (defBody st) [v] H s G gi nm qn { s1 with gens:=s1.gens.push (.fresh (.func (defBody st) (envOfC qual (defScope st) s.heap.objs.size f cdv))),toks:=tk,heap:=s1.heap.push go }:=fun go nm qn tk g1 g2 g3 g4=>by
  have kp2 : ∀ b o,s1.heap.get? b = some o → (s1.heap.push go).get? b = some o:=fun b o e=>Heap.get?_push_of_some _ e
  have br : AllBare (s1.gens.push (.fresh (.func (defBody st) (envOfC qual (defScope st) s.heap.objs.size f cdv)))):=AllBare.push (by rw [gn1]; exact e0.bare) rfl
  have J:=I1.call' (s':={ s1 with gens:=s1.gens.push (.fresh (.func (defBody st) (envOfC qual (defScope st) s.heap.objs.size f cdv))),toks:=tk,heap:=s1.heap.push go }) (ch:=[]) rfl (Un.kept kp2) (I1.hok.kept kp2) br fun b z=>nomatch z
  refine ⟨⟨N,qual,defScope st,f,cdv,s.heap.objs.size,s1.heap.objs.size,go⟩,s1.gens.size,nm,qn,rfl,rfl,rfl,rfl,rfl,rfl,lt,g1,g2,g3,g4 _,Array.getElem?_push_size ..,os1,br,nl.keeps kp2,fun b o e=>kp2 b o (kp b o e),?_⟩
  rw [Gn.fx_eq rfl]
  refine Inv.pinnedG J fun p hp=>?_
  have hp' : p ∈ [(s1.heap.objs.size,go)]:=by rw [List.append_nil] at hp; exact hp
  obtain rfl:=List.mem_singleton.mp hp'
  exact ⟨g4 _,I1.hok.fresh (Nat.le_refl _),Nat.ne_of_gt lt,I1.nofs (Nat.le_refl _),fun v q=>by rw [g2] at q; cases q⟩
 exact main _ _ _ _ rfl rfl rfl fun h=>Heap.get?_push_size _ rfl
section
variable {X : Cx} {W : WX} {tgc o : Expr} {fo : F U} {C f : Addr} {nm : Str} {k : Nat} {q : U → Option (List D)} {isc : List Nat} {gt : U → G} {gb : G} {body : List Stmt} {pos pos' apos : Pos} {pl : Sem Bool}
end
end VL
namespace VL
open PySem PySem.Spec PyProof.Rows L2 GenW
/-- what the comprehension's run says where the generator is woken -/
noncomputable def PKc (X : Cx) (kk : Nat) (D0 C0 : Addr) (m1 : List Addr) (H1 : Hp) (σ0 : L2.St) (env0 : VEnv) (Q : VK) (E : XK) (gt : U → G) (fe : F U) : PKt:=fun rest s H m st qn =>
 (∃ oC,qn = [(C0,oC)] ∧ s.heap.get? C0 = some oC) ∧ LcI X.K m1 H1 kk D0 m st H ∧ (∃ acc,st[kk]? = some (.lst acc)) ∧ RpEnv X.K m H env0 σ0 ∧ Inv X [] σ0 H s ∧ PU X.K m1 H1 Q E (lcEnd kk (lcL kk gt tYesB fe env0 (rest.map .d) st))
noncomputable def LIc (G : Gn) (X : Cx) (PK : PKt) (tg : Expr) (g : U → VL.G) (bc : F Bool) (fg : F U) (us : List U) (gi : Nat) (n : Nat) (s : Shared) : Prop :=
 ∃ (rest : List VL.D) (gs : GenState),rest.length = n ∧ s.heap.get? G.a = some G.go ∧ s.heap.NoLimit ∧ s.gens[gi]? = some gs ∧
  gs.Goes (model X.prog X.w) X.A.in1 (RzG G X PK) (YD G X tg g bc fg us PK) (n + 1) (.send .none) (s.setGen gi .running)
set_option maxHeartbeats 2000000 in
theorem compG {G : Gn} {X : Cx} {tg tc elt iter : Expr} {scope : Scope} {pos : Pos} {is vs : List Nat} {g gt : U → VL.G} {bc : F Bool} {fg fe : F U} {us : List U} {gi kk : Nat} {D0 : Addr} {m1 : List Addr} {H1 : Hp} {σ : L2.St} {env : VEnv} {Q : VK} {E : XK} {R : Result → Shared → Prop}
  (hxe : X.xe = fun _ _=>False) (hpn : X.pn = []) (hh : X.A.handled = none) (hroom : X.A.depth < recursionLimit) (hnC : ∀ x,X.env.cells.lookup x = none) (hCD : G.n0 < X.env.locals) (hdc : D0 ≠ X.env.locals) (hD : G.n0 < D0) (ha : G.n0 < G.a) (haD : G.a ≠ D0) (haC : G.a ≠ X.env.locals)
  (hex : ∀ b,G.n0 ≤ b → b ∉ [X.env.locals,D0] → (b ∈ X.ex ∨ X.s_0.heap.objs.size ≤ b)) (hk : kk = m1.length)
  (nc : ∀ x,G.env.cells.lookup x = none) (hgc : G.go.cls = .type "generator") {nm qn : Value} (hgd : G.go.data = .fields #[.int gi 0,nm,qn]) (hgl : G.go.slots = #[])
  (hgt : DG X tc is gt) (he : DE X W0 elt fe) (hvs : ∀ i ∈ is,i ∈ vs)
  (fin : ∀ (m' : List Addr) (st' : Store) (H' : Hp) (s' : Shared),LcI X.K m1 H1 kk D0 m' st' H' → PU X.K m1 H1 Q E (lcEnd kk (.ok () st')) → Inv X [] (L2.wipe σ vs) H' s' → R (.ok .next) s') :
  ∀ (n : Nat) (s : Shared),LIc G X (PKc X kk D0 X.env.locals m1 H1 (L2.wipe σ vs) (wipeE env vs) Q E gt fe) tg g bc fg us gi n s → codeAny (model X.prog X.w) X.A (.compLoop (.ListComp elt [⟨tc,iter,[],0⟩] scope pos) 0 (.ref G.a) (.ref D0) X.env) R s:=fun n s h=>by
 refine compLoop_any (LIc G X (PKc X kk D0 X.env.locals m1 H1 (L2.wipe σ vs) (wipeE env vs) Q E gt fe) tg g bc fg us gi) ?_ n h
 rintro n s ⟨rest,gs,hl,ea,nl,eg,hgo⟩
 have isg : ∀ {h : Heap},h.get? G.a = some G.go → h.IsGen G.a gi:=fun e=>⟨_,nm,qn,e,hgc,hgd,hgl⟩
 -- what a turn leaves
 have back : ∀ {qn : List (Addr × Obj)} {tS s1 : Shared} {H0 H : Hp} {mS m : List Addr} {st : Store} {σg : L2.St} {oC : Obj} {acc : List U},qn = [(X.env.locals,oC)] → tS.heap.get? X.env.locals = some oC → LcI X.K m1 H1 kk D0 mS st H0 → st[kk]? = some (.lst acc) → Inv X [] (L2.wipe σ vs) H0 tS → G.n0 ≤ tS.heap.objs.size →
   Inv (G.fx X (tr G.n0 tS) H0) qn σg H s1 → Rep X.K m st H → Ext mS H0 m H → Inv X [] (L2.wipe σ vs) H s1:=fun {qn tS s1 H0 H mS m st σg oC acc} e1 e2 L e3 J hn I r x=>by
  refine Gn.backK [X.env.locals,D0] J hn I (fun b hb=>?_) fun b z1 z2=>⟨hex b z1 z2,fun z=>z2 (by rw [z]; exact List.mem_cons_self),fun y c q=>(nomatch (hnC y).symm.trans q),fun p hp=>by rw [hpn] at hp; exact nomatch hp⟩
  rcases List.mem_cons.mp hb with rfl | hb
  ·exact .inl ⟨J.free,fun o q=>by rw [e2] at q; cases q; rw [e1]; exact List.mem_cons_self⟩
  ·obtain rfl:=List.mem_singleton.mp hb
   obtain ⟨ho,q1,ws,q2,_⟩:=L.rep.cell kk _ _ e3 L.at'
   obtain ⟨ho',q1',ws',q2',_⟩:=r.cell kk _ _ e3 (pre_get x.pre L.at')
   subst q2'
   exact .inr ⟨by rw [q1]; exact nofun,ws',q1'⟩
 refine wpAny_gsz (n:=gi + 1) (Array.getElem?_eq_some_iff.mp eg).1 (nextS (a:=G.a) (g:=gi) (F:=Fin1 G X (PKc X kk D0 X.env.locals m1 H1 (L2.wipe σ vs) (wipeE env vs) Q E gt fe)) hh nl hroom (isg ea) eg hgo (fun v s1 gs' hbare hsus hv hsz=>?_) fun s1 hF h' hkp hsz=>?_)
 ·obtain ⟨p,u,rest',hn',⟨qn1,tS,H0,mS,st,i,eg',σg,H,m,x,⟨⟨oC,eq1,eC⟩,L,⟨acc,hacc⟩,re,J,pp⟩,hnS,T,M,hE,hi,hS,ru,rv⟩,cont⟩:=hv
  have hz : (tr G.n0 tS).heap.objs.size = G.n0:=cutH_size hnS
  have J1:=back eq1 eC L hacc J hnS M.inv M.rep hE
  have hgs1 : gi < s1.gens.size:=by
   have : gi + 1 ≤ (s1.setGen gi gs').gens.size:=hsz
   rw [setGen_size] at this
   omega
  have JA : Inv X [] (L2.wipe σ vs) H (s1.setGen gi gs'):=inv_gens J1 rfl rfl (allBare_setGen J1.bare hbare)
  have hDH : H D0 ≠ none:=by
   obtain ⟨ho',q1',_⟩:=M.rep.cell kk _ _ hacc (pre_get hE.pre L.at')
   rw [q1']
   exact nofun
  have young : ∀ b,G.n0 ≤ b → H b = none → b ≠ X.env.locals → FpOk X [] H b:=fun b hb0 hn0 hbC=>⟨hn0,hbC,fun z=>by
   have z2 : b ∈ frs X.stack:=by
    rcases J.ok.stk with e | ⟨e,_⟩
    ·rw [e]; exact z
    ·rw [e]
     obtain ⟨en,h1,h2⟩:=List.mem_filterMap.mp z
     exact List.mem_filterMap.mpr ⟨en,List.mem_cons_of_mem _ h1,h2⟩
   obtain ⟨_,o,ho,_⟩:=M.inv.ok.funs.mem z2
   have this : b < (tr G.n0 tS).heap.objs.size:=Heap.lt_size ho
   rw [hz] at this
   exact absurd (Nat.lt_of_lt_of_le this hb0) (Nat.lt_irrefl _),hex b hb0 (fun z=>by
    rcases List.mem_cons.mp z with z | z
    ·exact hbC z
    ·rw [List.mem_singleton.mp z] at hn0
     exact hDH hn0),fun y c q=>(nomatch (hnC y).symm.trans q),fun q hq=>by rw [hpn] at hq; exact nomatch hq⟩
  have pa:=M.inv.pin (G.a,G.go) (List.mem_append_left _ (List.mem_singleton.mpr rfl))
  obtain ⟨mL,⟨oL,esL,epL,hoL,hdL,-⟩,-⟩:=id M.inv.loc
  have gok : ∀ b ∈ G.n0 :: G.a :: p.fp,FpOk X [] H b:=fun b hb0=>by
   rcases List.mem_cons.mp hb0 with rfl | hb0
   ·exact young _ (Nat.le_refl _) M.inv.free (Nat.ne_of_lt hCD)
   ·rcases List.mem_cons.mp hb0 with rfl | hb0
    ·exact young _ (Nat.le_of_lt ha) pa.2.1 haC
    ·have q:=M.fp b hb0
     refine young b ?_ q.1 fun z=>q.2.2.2.2.2 (X.env.locals,oC) (List.mem_append_right _ (by rw [eq1]; exact List.mem_cons_self)) z.symm
     rcases q.2.2.2.1 with z | z
     ·cases z
     ·rw [← hz]; exact z
  have gob : ∀ b ∈ G.n0 :: G.a :: p.fp,∃ o,(s1.setGen gi gs').heap.get? b = some o ∧ ∀ v,o.data ≠ .cell v:=fun b hb0=>by
   rcases List.mem_cons.mp hb0 with rfl | hb0
   ·exact ⟨oL,hoL,fun v z=>by rw [hdL] at z; cases z⟩
   ·rcases List.mem_cons.mp hb0 with rfl | hb0
    ·exact ⟨G.go,pa.1,fun v z=>by rw [hgd] at z; cases z⟩
    ·exact T.obj _ _ M.tn b hb0
  have JP:=JA.pinned gok gob
  refine go_of (o:=G.go) pa.1 hgc hgd (by decide) ?_
  have re1:=re.ext hE
  have L1 : LcI X.K m1 H1 kk D0 m st H:=⟨M.rep,L.ext.trans hE,pre_get hE.pre L.at'⟩
  rw [List.map_cons] at pp
  unfold lcL at pp
  cases e6 : gt (.d u) (wipeE env vs) st with
  | bad=>simp only [lcStep,e6] at pp; exact pp.elim
  | ex c fs ev st6=>simp only [lcStep,e6] at pp; exact pp.elim
  | ok env1 fl st6 =>
  cases fl with
  | rt u=>simp only [lcStep,e6] at pp; exact pp.elim
  | bk=>simp only [lcStep,e6] at pp; exact pp.elim
  | ct=>simp only [lcStep,e6] at pp; exact pp.elim
  | nx =>
  have errF : ∀ {α : Type} {Z : α → Shared → Prop} {A : Around} {t : Sem α} {s0 : Shared} {Z' : Value → Shared → Prop},wpAny (model X.prog X.w) A t Z X.xe s0 → wpAny (model X.prog X.w) A t Z Z' s0:=fun {α Z A t s0 Z'} w=>wpAny_mono w (fun _ _ q=>q) fun _ _ q=>by rw [hxe] at q; exact q.elim
  refine wpAny_mono (Po.wpAny_hush (E:=fun _ _=>False) (errF (hgt.pg.run _ (Po.hush (s1.setGen gi gs')) _ H x v (fun σ8 H8=>∃ m8,RpEnv X.K m8 H8 env1 σ8 ∧ Rep X.K m8 st6 H8 ∧ Ext m H m8 H8 ∧ L2.wipe σ8 vs = L2.wipe σ vs) (inv_gens JP rfl rfl (Po.bare_hush JP.bare)) rv ⟨m,_,st,_,M.rep,re1,ru,by rw [e6]; exact fun σ8 m8 H8 a b c o=>⟨m8,a,b,c,wipe_out hvs o⟩⟩))) (fun _ s6 z6=>?_) fun _ _ z=>z.elim fun _ z=>z.2.2.elim
  obtain ⟨s6',rfl,rel6,σ8,H8,I8,m8,re8,r8,x8,hw8⟩:=z6
  have g6:=Po.still (s1:=s6') rel6 (setGen_at hgs1) hsus
  have I8':=inv_gens (s':=Po.U (Po.olds (s1.setGen gi gs').gens) s6') I8 rfl rfl (Po.bare_back rel6 JA.bare I8.bare)
  refine wpAny_pure ?_
  rw [if_pos rfl]
  cases e9 : fe env1 st6 with
  | bad=>simp only [lcStep,e6,tYesB,fPure,e9] at pp; exact pp.elim
  | ex c fs st8=>simp only [lcStep,e6,tYesB,fPure,e9] at pp; exact pp.elim
  | ok y' st8 =>
  refine wpAny_mono (Po.wpAny_hush (E:=fun _ _=>False) (errF (he.pe.run _ (Po.hush (Po.U (Po.olds (s1.setGen gi gs').gens) s6')) σ8 H8 (fun y H10=>∃ m10,RpU X.K m10 H10 y' y ∧ Rep X.K m10 st8 H10 ∧ Ext m8 H8 m10 H10) (inv_gens I8' rfl rfl (Po.bare_hush I8'.bare)) ⟨m8,env1,st6,r8,re8,by rw [e9]; exact fun y m10 H10 a b c=>⟨m10,a,b,c⟩⟩))) (fun v10 s9 z9=>?_) fun _ _ z=>z.elim fun _ z=>z.2.2.elim
  obtain ⟨s9',rfl,rel9,y,H10,I10,ry,m10,ru10,r10,x10⟩:=z9
  have g9:=Po.still (s1:=s9') rel9 g6 hsus
  have I10':=inv_gens (s':=Po.U (Po.olds (Po.U (Po.olds (s1.setGen gi gs').gens) s6').gens) s9') I10 rfl rfl (Po.bare_back rel9 I8'.bare I10.bare)
  have at10:=pre_get x10.pre (pre_get x8.pre L1.at')
  simp only [lcStep,e6,tYesB,fPure,e9] at pp
  cases hc8 : st8[kk]? with
  | none=>simp only [hc8] at pp; exact pp.elim
  | some cell =>
  cases cell with
  | lst acc8 =>
   simp only [hc8] at pp
   by_cases hz8 : acc8.length < sizeLine
   ·rw [if_pos hz8] at pp
    obtain ⟨ho,g1,ws,g2,g3⟩:=r10.cell kk _ _ hc8 at10
    subst g2
    have mem : D0 ∈ m10:=List.mem_of_getElem? at10
    have xw:=ext_write mem (.lst (ws ++ [y])) (nf_l g1)
    have rw' : Rep X.K m10 (st8.set kk (.lst (acc8 ++ [y']))) (upd H10 D0 (.lst (ws ++ [y]))):=r10.write at10 ⟨_,rfl,(g3.append (show RpUs X.K m10 H10 [y'] [y] from ⟨y,_,rfl,ru10,rfl⟩)).ext xw⟩ (nf_l g1)
    refine wpAny_mono (Po.wpAny_hush (E:=fun _ _=>False) (app_ok (X:=X) (Q:=fun _ t=>Inv X ([] ++ pinsAt (G.n0 :: G.a :: p.fp) (s1.setGen gi gs').heap) σ8 (upd H10 D0 (.lst (ws ++ [y]))) t) (inv_gens (s':=Po.hush (Po.U (Po.olds (Po.U (Po.olds (s1.setGen gi gs').gens) s6').gens) s9')) I10' rfl rfl (Po.bare_hush I10'.bare)) g1 (by rw [g3.length]; exact hz8) ry fun s11 I11=>I11)) (fun _ s11 z11=>?_) fun _ _ z=>z.elim fun _ z=>z.2.2.elim
    obtain ⟨s11',rfl,rel11,I11⟩:=z11
    have g11:=Po.still (s1:=s11') rel11 g9 hsus
    have JB:=inv_gens (s':=Po.U (Po.olds (Po.U (Po.olds (Po.U (Po.olds (s1.setGen gi gs').gens) s6').gens) s9').gens) s11') I11 rfl rfl (Po.bare_back rel11 I10'.bare I11.bare)
    have xall : Ext m H m10 (upd H10 D0 (.lst (ws ++ [y]))):=(x8.trans x10).trans xw
    have pin7 : ∀ b ∈ G.n0 :: G.a :: p.fp,∀ o,s1.heap.get? b = some o → s11'.heap.get? b = some o ∧ (upd H10 D0 (.lst (ws ++ [y]))) b = none:=fun b hb0 o z=>by
     have q:=JB.pin (b,o) (List.mem_append_right _ (List.mem_append_right _ (mem_pinsAt hb0 z)))
     exact ⟨q.1,q.2.1⟩
    have pL:=pin7 G.n0 List.mem_cons_self oL hoL
    have pA:=pin7 G.a (List.mem_cons_of_mem _ List.mem_cons_self) G.go pa.1
    have hn7 : G.n0 ≤ s11'.heap.objs.size:=Nat.le_of_lt (Heap.lt_size pL.1)
    have hlen : (L2.wipe σ vs).length = σ8.length:=by rw [← hw8,wipe_length]
    have JR : Inv X [] (L2.wipe σ vs) (upd H10 D0 (.lst (ws ++ [y]))) ((Po.U (Po.olds (Po.U (Po.olds (Po.U (Po.olds (s1.setGen gi gs').gens) s6').gens) s9').gens) s11').setGen gi .running) :=
     (inv_gens (s':=(Po.U (Po.olds (Po.U (Po.olds (Po.U (Po.olds (s1.setGen gi gs').gens) s6').gens) s9').gens) s11').setGen gi .running) (Inv.unpinned JB) rfl rfl (allBare_setGen JB.bare rfl)).weak hlen fun j w e=>by
      rw [← hw8] at e
      exact (wipe_some e).1
    obtain ⟨mC,⟨oC2,esC,epC,hoC,hdC,-⟩,-⟩:=id JR.loc
    refine ⟨rest'.length,by omega,rest',gs',rfl,pA.1,JB.nolimit,g11,?_⟩
    rw [hn']
    refine cont _ ⟨[(X.env.locals,oC2)],i,eg',σg,_,m10,_,⟨Gn.rebuild nc hz M.inv JR hn7 (fun o z=>(pin7 G.n0 List.mem_cons_self o z).1) pL.2 pA.1 pA.2 (fun q hq=>?_),rw',M.env.ext xall,M.ext.trans xall,T.keep _ _ _ M.tn fun b hb0 o z=>(pin7 b (List.mem_cons_of_mem _ (List.mem_cons_of_mem _ hb0)) o z).1,fun b hb0=>?_⟩,hi,hS,hn7,⟨oC2,rfl,hoC⟩,⟨rw',L1.ext.trans xall,at10⟩,⟨_,List.getElem?_set_self (List.getElem?_eq_some_iff.mp hc8).1⟩,re1.ext xall,JR,pp⟩
    ·obtain rfl:=List.mem_singleton.mp hq
     refine ⟨hoC,JR.free,(Nat.ne_of_lt hCD).symm,fun z=>?_,fun v z=>by rw [hdC] at z; cases z⟩
     obtain ⟨_,o,ho,_⟩:=M.inv.ok.funs.mem z
     have this : X.env.locals < (tr G.n0 tS).heap.objs.size:=Heap.lt_size ho
     rw [hz] at this
     exact absurd (Nat.lt_trans this hCD) (Nat.lt_irrefl _)
    ·obtain ⟨o,z,-⟩:=T.obj _ _ M.tn b hb0
     refine Gn.fpOk hz hn7 (M.fp b hb0) (pin7 b (List.mem_cons_of_mem _ (List.mem_cons_of_mem _ hb0)) o z).2 fun q hq=>?_
     obtain rfl:=List.mem_singleton.mp hq
     exact (M.fp b hb0).2.2.2.2.2 (X.env.locals,oC) (List.mem_append_right _ (by rw [eq1]; exact List.mem_cons_self))
   ·rw [if_neg hz8] at pp; exact pp.elim
  | tup _=>simp only [hc8] at pp; exact pp.elim
  | dct _=>simp only [hc8] at pp; exact pp.elim
  | ins _ _=>simp only [hc8] at pp; exact pp.elim
  | lck _=>simp only [hc8] at pp; exact pp.elim
  | kdc _ _=>simp only [hc8] at pp; exact pp.elim
  | tbl _ _=>simp only [hc8] at pp; exact pp.elim
 ·obtain ⟨qn1,tS,H0,mS,st,σg,H,m,⟨⟨oC,eq1,eC⟩,L,⟨acc,hacc⟩,re,J,pp⟩,hnS,I,r,e⟩:=hF
  have J1:=back eq1 eC L hacc J hnS I r e
  have J2 : Inv X [] (L2.wipe σ vs) H { s1.setGen gi .finished with heap:=h' }:=J1.call' (ch:=[]) rfl (Un.kept hkp) (J1.hok.kept hkp) (allBare_setGen J1.bare rfl) fun b z=>nomatch z
  exact fin m st H _ ⟨r,L.ext.trans e,pre_get e.pre L.at'⟩ pp J2
noncomputable def fLcG (C : Addr) (nm : Str) (q : U → Option (List D)) (fo : F U) (gt : U → G) (fe : F U) (vs : List Nat) : F U:=bnd fo fun u=>fun env st=>match insU st u with
 | some (C',us)=>if C' = C ∧ us.lookup nm = none then match q u with
  | some ys=>lcEnd st.length (lcL st.length gt tYesB fe (wipeE env vs) (ys.map .d) (st ++ [.lst []]))
  | none=>.bad
  else .bad
 | none=>.bad
section
variable {X : Cx} {W : WX} {tg elt o : Expr} {fo : F U} {C f : Addr} {nm : Str} {k : Nat} {q : U → Option (List D)} {is vs : List Nat} {gt : U → G} {fe : F U} {scope : Scope} {own : List (Str × Nat)} {pos pos' apos : Pos} {pl : Sem Bool}
set_option maxHeartbeats 2000000 in
theorem d_lcG (ho : DE X W o fo) (hC : Cls X.K C) (hM : Meth X.K C nm f) (Gf : GnF X.prog X.w X.K X.mg X.base f k q) (hr : Room (k + 3) X.A) (nd : X.N.Nodup) (ok : BlkOk X.N X.env.scope scope own) (hcl : ∀ n,cellsFrom n scope.names (cloFrom X.env.cells scope.names []) = [])
  (hg : ∀ (t : Shared) (Ht : Hp) (C : Addr) (cl : List (Str × Addr)) (fp : List Addr),DG (X.blk t Ht scope (compEnvC scope cl C X.env) fp) tg is gt)
  (he : ∀ (t : Shared) (Ht : Hp) (C : Addr) (cl : List (Str × Addr)) (fp : List Addr),DE (X.blk t Ht scope (compEnvC scope cl C X.env) fp) W0 elt fe)
  (hvv : own.map (·.2) = vs:=by rfl) (hvs : ∀ i ∈ is,i ∈ vs:=by decide)
  (ht : eval (.Call (.Attribute o nm apos) [] [] pos') X.env = (do
   let ov ← eval o X.env
   standAt apos.atName
   let (f,first) ← holding [ov] (getMethod ov nm pl)
   callWith pos' f first (backTo pos' (starEach [] X.env)) (backToKw pos' (keywordEach [] X.env))):=by rfl)
  (hfold : ∀ x,foldedSetIterable (.Call (.Attribute o nm apos) [] [] pos') X.env x = pure x:=by intro _; rfl) :
  DE X W (.ListComp elt [⟨tg,.Call (.Attribute o nm apos) [] [] pos',[],0⟩] scope pos) (fLcG C nm q fo gt fe vs):=⟨⟨fun pins s σ H Q I h=>by
 obtain ⟨fd,N,x,qual,p0,st0,tgg,iter,c,e,yp,ep,ip,fp0,isg0,fi,g,bc,fg,W2,Fn,S,hbd,nc,hia,hbody,hfs,hj,hq⟩:=Gf.ex
 obtain ⟨m,env,st,r,re,p⟩:=h
 have hh:=hr.hd
 have hdep : X.A.depth < recursionLimit:=hr.depth
 have frees : ∀ y ∈ scope.names,y.2 = .free → ∃ c,X.env.cells.lookup y.1 = some c:=fun y hy e=>(ok.free y hy e).elim (fun k=>I.ok.has _ (.inl k)) fun k=>I.ok.has _ (.inr k)
 rw [eval_ListComp]
 refine wp_comp rfl hfold (closure_ok frees) ok.kind (fun y hy e=>by rw [ok.uniq y hy,e]) ?_
 refine PySem.W.methodCall_KW (pl:=pl) (thn (ho.pe.run pins s σ H (fun x H1=>∃ a dx vs1 m1 st1 u ys,x = .ref a ∧ H1 a = some (.ins C dx vs1) ∧ vs1.lookup nm = none ∧ Rep X.K m1 st1 H1 ∧ RpEnv X.K m1 H1 env σ ∧ RpU X.K m1 H1 u x ∧ q u = some ys ∧ PU X.K m1 H1 Q (fun c d H'=>W c d σ H') (lcEnd st1.length (lcL st1.length gt tYesB fe (wipeE env vs) (ys.map .d) (st1 ++ [.lst []])))) I (tF_step r re p fun u st1 v m1 H1 h1 r1 re1 e1 p1=>?_)) fun v s1 z=>?_) ht
 ·split at p1
  ·rename_i C' us hi
   split at p1
   ·rename_i hc
    obtain ⟨a,dx,vs1,rfl,ha,rf⟩:=insU_rp r1 h1 hi
    have hlk:=rf.lookup (f:=nm)
    rw [hc.2] at hlk
    rw [hc.1] at ha
    split at p1
    ·rename_i ys hy
     exact ⟨a,dx,vs1,m1,st1,u,ys,rfl,ha,hlk,r1,re1,h1,hy,p1⟩
    ·exact p1.elim
   ·exact p1.elim
  ·exact p1.elim
 ·obtain ⟨x1,H1,I1,rx,a,dx,vs1,m1,st1,u,ys,rfl,ha,hlk,r1,re1,hu,hy,p1⟩:=z
  obtain rfl : v = Value.ref a:=rx
  refine getmeth_ok I1 ha hC hM hlk (PySem.W.callWith_K0 (first:=[.ref a]) I1.kIn hM.kp (wpAny_call (codeAny_mono (born (v:=.ref a) Fn S hbd hh hdep I1 rfl) fun rr s2 z2=>?_)))
  obtain ⟨G,gi,nm',qn,rfl,B⟩:=z2
  obtain ⟨eN,eq,es,ef,n0,lt,gc,gd,gs,at',fr,os,br,nl,kp,inv⟩:=B
  obtain ⟨N',qual',scope',f',cdv,n0',a',go⟩:=G
  simp only at eN eq es ef n0
  subst eN eq es ef n0
  have isg : s2.heap.IsGen a' gi:=⟨go,nm',qn,at',gc,gd,gs⟩
  refine wpAny_pyIter_gen isg ?_
  have IB : Inv X pins σ H1 s2:=I1.call' (ch:=[]) os (Un.kept kp) (I1.hok.kept kp) br fun b z=>nomatch z
  have hDn : H1 s2.heap.objs.size = none:=IB.hok.fresh (Nat.le_refl _)
  refine wpAny_newObj_type (newEnv_comp ?_) (show 0 ≤ sizeLine by decide)
  obtain ⟨kk,hkk⟩ : ∃ kk,kk = m1.length:=⟨_,rfl⟩
  have hks : st1.length = kk:=by rw [hkk]; exact r1.len.symm
  rw [hks] at p1
  have ltA : a' < s2.heap.objs.size:=Heap.lt_size at'
  have IL : Inv X pins σ (upd H1 s2.heap.objs.size (.lst [])) { s2 with heap:=s2.heap.push { cls:=.type "list",data:=.seq ([] : List Value).toArray } } :=
   IB.laid (t':=s2.toks) (fun b o e=>Heap.get?_push_of_some _ e) (Nat.le_refl _) ⟨Nat.zero_le _,[],0,.nil,Heap.get?_push_size _ rfl⟩
  have IX : LcI X.K m1 H1 kk s2.heap.objs.size (m1 ++ [s2.heap.objs.size]) (st1 ++ [.lst []]) (upd H1 s2.heap.objs.size (.lst [])):=⟨r1.push hDn ⟨[],rfl,rfl⟩,ext_push r1 hDn _,by rw [hkk]; simp⟩
  have reL : RpEnv X.K (m1 ++ [s2.heap.objs.size]) (upd H1 s2.heap.objs.size (.lst [])) (wipeE env vs) (L2.wipe σ vs):=(re1.ext (ext_push r1 hDn _)).wipe vs
  generalize hsL : ({ s2 with heap:=s2.heap.push { cls:=.type "list",data:=.seq ([] : List Value).toArray } } : Shared) = sL at IL ⊢
  have grow : ∀ b o,s2.heap.get? b = some o → sL.heap.get? b = some o:=fun b o e=>by rw [← hsL]; exact Heap.get?_push_of_some _ e
  have sizeL : sL.heap.objs.size = s2.heap.objs.size + 1:=by rw [← hsL]; exact Heap.size_push ..
  have gensL : sL.gens = s2.gens:=by rw [← hsL]
  generalize hHL : upd H1 s2.heap.objs.size (.lst []) = HL at IL IX reL ⊢
  obtain ⟨fp,hfp⟩ : ∃ fp,fp = (List.range s2.heap.objs.size).filter fun b=>decide (s1.heap.objs.size ≤ b):=⟨_,rfl⟩
  have inFp : ∀ b,s1.heap.objs.size ≤ b → b < s2.heap.objs.size → b ∈ fp:=fun b h1 h2=>by rw [hfp]; exact List.mem_filter.mpr ⟨List.mem_range.mpr h2,decide_eq_true h1⟩
  have ofFp : ∀ b ∈ fp,s1.heap.objs.size ≤ b ∧ b < s2.heap.objs.size:=fun b hb=>by rw [hfp] at hb; exact ⟨of_decide_eq_true (List.mem_filter.mp hb).2,List.mem_range.mp (List.mem_filter.mp hb).1⟩
  have fL : ∀ b ∈ fp,FpOk X pins HL b ∧ b < sL.heap.objs.size:=fun b hb=>by
   obtain ⟨z1,z2⟩:=ofFp b hb
   refine ⟨I1.fpOk z1 ?_,by rw [sizeL]; exact Nat.lt_succ_of_lt z2⟩
   rw [← hHL,upd_ne (Nat.ne_of_lt z2)]
   exact I1.hok.fresh z1
  have IC : Inv (X.blk sL HL scope (ceOf X scope sL) fp) [] (L2.wipe σ (own.map (·.2))) HL _:=block_start IL ok nd fL
  generalize hsC : ({ sL with heap:=pushCells (sL.heap.push { cls:=.type "dict",data:=.dict #[] }) scope.names } : Shared) = sC at IC ⊢
  have keepC : ∀ b o,sL.heap.get? b = some o → sC.heap.get? b = some o:=fun b o e=>by rw [← hsC]; exact pushCells_keeps _ _ _ _ (Heap.get?_push_of_some _ e)
  have gensC : sC.gens = s2.gens:=by rw [← hsC,← gensL]
  have hG : DG (X.blk sL HL scope (ceOf X scope sL) fp) tg is gt:=hg sL HL sL.heap.objs.size (cellsFrom (sL.heap.objs.size + 1) scope.names (cloFrom X.env.cells scope.names [])) fp
  have hE : DE (X.blk sL HL scope (ceOf X scope sL) fp) W0 elt fe:=he sL HL sL.heap.objs.size (cellsFrom (sL.heap.objs.size + 1) scope.names (cloFrom X.env.cells scope.names [])) fp
  rw [hvv] at IC
  show codeAny _ _ (.compStart (.ListComp elt [⟨tg,.Call (.Attribute o nm apos) [] [] pos',[],0⟩] scope pos) 0 (.ref a') (.ref s2.heap.objs.size) (ceOf X scope sL)) (AfterC (model X.prog X.w) X.A X.xe none _ (.ref s2.heap.objs.size) (ceOf X scope sL)) sC
  have cL : (ceOf X scope sL).locals = sL.heap.objs.size:=rfl
  have cC : ∀ y,(ceOf X scope sL).cells.lookup y = none:=fun y=>by
   show (cellsFrom (sL.heap.objs.size + 1) scope.names (cloFrom X.env.cells scope.names [])).lookup y = none
   rw [hcl]
   rfl
  generalize ceOf X scope sL = ce at *
  obtain ⟨us,hus,hS⟩:=hq u ys hy
  have ncG : ∀ x,(Gn.env ⟨N',qual',defScope st0,f',cdv,s1.heap.objs.size,a',go⟩).cells.lookup x = none:=fun x=>nc _ x
  have room : ∀ t0 : Shared,t0.heap.objs.size = s1.heap.objs.size → Room k (X.A.in1.deeper (envOfC qual' (defScope st0) t0.heap.objs.size f' cdv)):=fun t0 _=>Room.deeper (k:=k) (A:=X.A.in1) ⟨hh,by have:=hr.dp; show X.A.depth + 3 * (k + 1) + 5 < _; omega,by have:=hr.un; show X.A.units + 1 + 16 * (k + 1) + 200 < _; omega⟩ _
  have jj : ∀ t0 H0,t0.heap.objs.size = s1.heap.objs.size → DI (Gn.fx ⟨N',qual',defScope st0,f',cdv,s1.heap.objs.size,a',go⟩ X t0 H0) W2 tgg iter fi ∧ DG (Gn.fx ⟨N',qual',defScope st0,f',cdv,s1.heap.objs.size,a',go⟩ X t0 H0) tgg isg0 g ∧ DT (Gn.fx ⟨N',qual',defScope st0,f',cdv,s1.heap.objs.size,a',go⟩ X t0 H0) W2 c bc ∧ DE (Gn.fx ⟨N',qual',defScope st0,f',cdv,s1.heap.objs.size,a',go⟩ X t0 H0) W2 e fg:=fun t0 H0 hz=>by
   rw [Gn.fx_eq hz]
   exact hj cdv X.A.in1 X.stack t0 H0 noX _ (room t0 hz)
  have pa:=inv.pin (a',go) (List.mem_append_left _ (List.mem_singleton.mpr rfl))
  have neD : ∀ b,b < s2.heap.objs.size → HL b = H1 b:=fun b hb=>by rw [← hHL,upd_ne (Nat.ne_of_lt hb)]
  have atC : sC.heap.get? a' = some go:=keepC _ _ (grow _ _ at')
  have isC : sC.heap.IsGen a' gi:=⟨go,nm',qn,atC,gc,gd,gs⟩
  have lt2 : s1.heap.objs.size < s2.heap.objs.size:=Nat.lt_trans lt ltA
  have loop : codeAny (model X.prog X.w) X.A (.compLoop (.ListComp elt [⟨tg,.Call (.Attribute o nm apos) [] [] pos',[],0⟩] scope pos) 0 (.ref a') (.ref s2.heap.objs.size) ce) (AfterC (model X.prog X.w) X.A X.xe none (EP X pins σ Q) (.ref s2.heap.objs.size) ce) sC:=by
   refine compG (G:=⟨N',qual',defScope st0,f',cdv,s1.heap.objs.size,a',go⟩) (X:=X.blk sL HL scope ce fp) (g:=g) (bc:=bc) (fg:=fg) (us:=us) (tg:=tgg) (tc:=tg) (gi:=gi) (kk:=kk) (D0:=s2.heap.objs.size) (m1:=m1) (H1:=H1) (σ:=σ) (env:=env) (Q:=Q) (E:=fun c d H'=>W c d σ H') rfl rfl hh hdep cC (by show _ < ce.locals; rw [cL,sizeL]; exact Nat.lt_succ_of_lt lt2) (by show _ ≠ ce.locals; rw [cL,sizeL]; exact Nat.ne_of_lt (Nat.lt_succ_self _)) lt2 lt (Nat.ne_of_lt ltA) (by show _ ≠ ce.locals; rw [cL,sizeL]; exact Nat.ne_of_lt (Nat.lt_succ_of_lt ltA))
    (fun b z1 z2=>?_) hkk ncG gc gd gs hG hE hvs (fun m' st' H' s' L' p' I6=>?_) ys.length sC ⟨ys,.fresh (.func (defBody st0) (Gn.env ⟨N',qual',defScope st0,f',cdv,s1.heap.objs.size,a',go⟩)),rfl,atC,nl.keeps fun b o e=>keepC b o (grow b o e),by rw [gensC]; exact fr,rfl,?_⟩
   ·by_cases z3 : b < s2.heap.objs.size
    ·exact .inl (inFp b z1 z3)
    ·refine .inr ?_
     show sL.heap.objs.size ≤ b
     rw [sizeL]
     exact Nat.lt_of_le_of_ne (Nat.le_of_not_lt z3) fun z4=>z2 (by rw [← z4]; exact List.mem_cons_of_mem _ List.mem_cons_self)
   ·have back : Inv X pins σ H' s':=IL.call' (ch:=fp) I6.os I6.base I6.hok I6.bare fun b hb=>⟨(fL b hb).1.2.2.2.1,(fL b hb).1.2.1,(fL b hb).1.2.2.2.2.1,(fL b hb).1.2.2.2.2.2⟩
    obtain ⟨mm,hn,_⟩:=I6.loc
    obtain ⟨a0,a1,-,a3,a4,a5⟩:=IL.fpOk (by rw [cL]; exact Nat.le_refl _) I6.free
    exact ⟨mm,hn,fun h' sb=>⟨.ref s2.heap.objs.size,H',back.turned (t':=s'.toks) (fun b o hb e=>(sb.2 b hb).trans e) a0 a1 a3 a4 a5,rfl,lc_fin L' hkk p'⟩⟩
   ·have JR : Inv (X.blk sL HL scope ce fp) [] (L2.wipe σ vs) HL (sC.setGen gi .running):=inv_gens IC rfl rfl (allBare_setGen IC.bare rfl)
    obtain ⟨mC,⟨oC,esC,epC,hoC,hdC,-⟩,-⟩:=id JR.loc
    have rebuilt : Inv (Gn.fx ⟨N',qual',defScope st0,f',cdv,s1.heap.objs.size,a',go⟩ (X.blk sL HL scope ce fp) (tr s1.heap.objs.size (sC.setGen gi .running)) HL) [(ce.locals,oC)] (L2.start N' [.ref a]) HL (sC.setGen gi .running) :=
     Gn.rebuild (X:=X.blk sL HL scope ce fp) ncG rfl inv JR (Nat.le_of_lt (Nat.lt_trans lt (Heap.lt_size atC))) (fun o z=>keepC _ _ (grow _ _ z)) ((neD _ lt2).trans inv.free) atC ((neD _ ltA).trans pa.2.1) fun p hp=>by
      obtain rfl:=List.mem_singleton.mp hp
      refine ⟨hoC,JR.free,?_,fun z=>?_,fun v z=>by rw [hdC] at z; cases z⟩
      ·show ce.locals ≠ _
       rw [cL,sizeL]
       exact (Nat.ne_of_lt (Nat.lt_succ_of_lt lt2)).symm
      ·obtain ⟨_,o,ho,_⟩:=inv.ok.funs.mem z
       have:=Heap.lt_size ho
       have h9 : ce.locals < s1.heap.objs.size:=this
       rw [cL,sizeL] at h9
       exact absurd (Nat.lt_trans h9 (Nat.lt_succ_of_lt lt2)) (Nat.lt_irrefl _)
    rw [hbody]
    exact seg_first (G:=⟨N',qual',defScope st0,f',cdv,s1.heap.objs.size,a',go⟩) (X:=X.blk sL HL scope ce fp) (W:=W2) (fun t0 H0 hz=>(jj t0 H0 hz).1) (fun t0 H0 hz=>(jj t0 H0 hz).2.1) (fun t0 H0 hz=>(jj t0 H0 hz).2.2.1) (fun t0 H0 hz=>(jj t0 H0 hz).2.2.2) S.co (hia _ _ _) (fun x=>hfs _ _ _ x) rebuilt (Nat.le_of_lt (Nat.lt_trans lt (Heap.lt_size atC))) IX.rep (start_env (us:=[u]) ⟨_,_,rfl,hu.ext IX.ext,rfl⟩) hus hS ⟨⟨oC,rfl,hoC⟩,IX,⟨[],by rw [← hks]; simp⟩,reL,JR,p1⟩
  exact codeAny_compStart_list loop (wpAny_pyIter_gen isC loop)⟩⟩
end
end VL
namespace VL
open PySem PySem.Spec PyProof.Rows L2 GenW
noncomputable def rowsD (wd : Str) : List D → Option (List D)
 | []=>some []
 | .tup [_,.str y,z] :: ds=>(rowsD wd ds).map fun zs=>if y = wd then z :: zs else zs
 | _ :: _=>none
noncomputable def rowQ (C : Addr) (fld wd : Str) : U → Option (List D)
 | .d (.ins C' fs)=>if C' = C then match fs.lookup fld with
  | some (.lst ds)=>rowsD wd ds
  | _=>none
  else none
 | _=>none
noncomputable abbrev rowG : U → G:=tgT 3 (tgCons (tgN 1) (tgCons (tgN 2) (tgCons (tgN 3) tgNil)))
noncomputable abbrev rowB (wd : Str) : F Bool:=asB (f2 oEq (vVar 2) (vC (.str wd)))
theorem rows_sim {u : U} {wd : Str} : ∀ {ds ys : List D} {o1 o2 o3 : Option U},rowsD wd ds = some ys → GSim rowG (rowB wd) (vVar 3) (ds.map .d) [some u,o1,o2,o3] ys
 | [],ys,_,_,_,h=>by cases h; exact .nil
 | .tup [x,.str y,z] :: ds,ys,_,_,_,h=>by
  rw [rowsD] at h
  cases e : rowsD wd ds with
  | none=>rw [e] at h; cases h
  | some zs =>
   rw [e] at h
   obtain rfl:=Option.some.inj h
   by_cases hy : y = wd
   ·subst hy
    show GSim _ _ _ _ _ (if y = y then z :: zs else zs)
    rw [if_pos rfl]
    refine .yes (env':=[some u,some (.d x),some (.d (.str y)),some (.d z)]) (fun st=>rfl) (fun st=>?_) (fun st=>rfl) (rows_sim e)
    have : oEq (.d (.str y)) (.d (.str y)) st = some (.d (.bl true)):=by simp [oEq,eqB]
    show asB (fun _ st=>R.of st (oEq (.d (.str y)) (.d (.str y)) st)) [] st = _
    unfold asB bnd
    simp only [this]
    rfl
   ·show GSim _ _ _ _ _ (if y = wd then z :: zs else zs)
    rw [if_neg hy]
    refine .no (env':=[some u,some (.d x),some (.d (.str y)),some (.d z)]) (fun st=>rfl) (fun st=>?_) (rows_sim e)
    have : oEq (.d (.str y)) (.d (.str wd)) st = some (.d (.bl false)):=by simp [oEq,eqB,hy]
    show asB (fun _ st=>R.of st (oEq (.d (.str y)) (.d (.str wd)) st)) [] st = _
    unfold asB bnd
    simp only [this]
    rfl
theorem lookD (f : Str) : ∀ fs : List (Str × D),(fs.map fun p=>(p.1,U.d p.2)).lookup f = (fs.lookup f).map .d
 | []=>rfl
 | p :: fs=>by
  simp only [List.map_cons,List.lookup]
  cases f == p.1
  ·exact lookD f fs
  ·rfl
theorem rowQ_sim {C : Addr} {fld wd : Str} {u : U} {ys : List D} (h : rowQ C fld wd u = some ys) : ∃ us,(∀ s1,fIter (fFld [C] fld (vVar 0)) (some u :: List.replicate 3 none) s1 = .ok (.lst us) s1) ∧ GSim rowG (rowB wd) (vVar 3) us (some u :: List.replicate 3 none) ys:=by
 unfold rowQ at h
 split at h
 ·rename_i C' fs
  split at h
  ·rename_i hC
   subst hC
   split at h
   ·rename_i ds hl
    refine ⟨_,fun s1=>?_,rows_sim h⟩
    simp [fIter,fFld,f1,bnd,vVar,oFld,insU,lookD,hl,R.of,itV]
   ·cases h
  ·cases h
 ·cases h
end VL
namespace VL.K08
theorem ls_1 {α : Type} {us : List α} (h : us.length = 1) : ∃ x0,us = [x0]:=match us,h with | [x0],_=>⟨x0,rfl⟩
theorem ls_2 {α : Type} {us : List α} (h : us.length = 2) : ∃ x0 x1,us = [x0,x1]:=match us,h with | [x0,x1],_=>⟨x0,x1,rfl⟩
theorem ls_3 {α : Type} {us : List α} (h : us.length = 3) : ∃ x0 x1 x2,us = [x0,x1,x2]:=match us,h with | [x0,x1,x2],_=>⟨x0,x1,x2,rfl⟩
theorem ls_6 {α : Type} {us : List α} (h : us.length = 6) : ∃ x0 x1 x2 x3 x4 x5,us = [x0,x1,x2,x3,x4,x5]:=match us,h with | [x0,x1,x2,x3,x4,x5],_=>⟨x0,x1,x2,x3,x4,x5,rfl⟩
open PySem PySem.Spec PyProof.Rows L2 VL
noncomputable def top (i : Nat) : Stmt:=PySem.Challenge.pw_settingsmerge_k08_whole_a_file_put_toget.main.body.getD i (.Pass ⟨0,0,0,0⟩)
noncomputable abbrev s_L_law_bag : Stmt:=(top 25)
noncomputable abbrev s_L_law_take : Stmt:=(top 26)
noncomputable abbrev s_L_law_of : Stmt:=(top 27)
noncomputable abbrev s_L_law_mixed : Stmt:=(top 28)
noncomputable abbrev s_L_law_drawn : Stmt:=(top 29)
noncomputable abbrev s_Reader_init : Stmt:=(inClass (top 20) 0)
noncomputable abbrev s_lines_of : Stmt:=(top 21)
noncomputable abbrev s_is_made_of : Stmt:=(top 12)
noncomputable abbrev s_is_number : Stmt:=(top 16)
noncomputable abbrev s_is_name : Stmt:=(top 13)
noncomputable abbrev s_is_place : Stmt:=(top 14)
noncomputable abbrev s_is_value : Stmt:=(top 15)
noncomputable abbrev s_kept_in : Stmt:=(top 17)
noncomputable abbrev s_Reader_put : Stmt:=(inClass (top 20) 4)
noncomputable abbrev s_Reader_take_kept : Stmt:=(inClass (top 20) 2)
noncomputable abbrev s_section_in : Stmt:=(top 19)
noncomputable abbrev s_setting_in : Stmt:=(top 18)
noncomputable abbrev s_Reader_take_setting : Stmt:=(inClass (top 20) 3)
noncomputable abbrev s_Reader_take : Stmt:=(inClass (top 20) 1)
noncomputable abbrev s_parts_of : Stmt:=(top 23)
noncomputable abbrev s_SettingsFile_init : Stmt:=(inClass (top 22) 0)
noncomputable abbrev s_SettingsFile_places : Stmt:=(inClass (top 22) 3)
noncomputable abbrev s_SettingsFile_sections : Stmt:=(inClass (top 22) 2)
noncomputable abbrev s_SettingsFile_block : Stmt:=(inClass (top 22) 6)
noncomputable abbrev s_SettingsFile_value : Stmt:=(inClass (top 22) 4)
noncomputable abbrev s_SettingsFile_tail : Stmt:=(inClass (top 22) 7)
noncomputable abbrev s_L_law_together : Stmt:=(top 30)
noncomputable abbrev s_SettingsFile_kept : Stmt:=(inClass (top 22) 5)
noncomputable abbrev s_L_law_kept : Stmt:=(top 31)
noncomputable abbrev s_SettingsFile_pairs : Stmt:=(inClass (top 22) 8)
noncomputable abbrev s_SettingsFile_lines : Stmt:=(inClass (top 22) 1)
noncomputable abbrev s_law : Stmt:=(top 32)
noncomputable def N_L_law_bag : List Str:=["_law_script","_law_at","_law_cell","_law_blend","_law_k","_law_each"]
noncomputable def N_L_law_take : List Str:=["_law_bag_here","_law_many","_law_digit"]
noncomputable def N_L_law_of : List Str:=["_law_bag_here","_law_some"]
noncomputable def N_L_law_mixed : List Str:=["_law_bag_here","_law_things","_law_left","_law_found"]
noncomputable def N_L_law_drawn : List Str:=["_law_bag_here","_law_with_kept","_law_some","_law_lines","_law_turn","_law_head","_law_key"]
noncomputable def N_Reader_init : List Str:=["self"]
noncomputable def N_lines_of : List Str:=["text"]
noncomputable def N_is_made_of : List Str:=["thing","signs","most","sign"]
noncomputable def N_is_number : List Str:=["thing"]
noncomputable def N_is_name : List Str:=["thing"]
noncomputable def N_is_place : List Str:=["thing","section","dot","key"]
noncomputable def N_is_value : List Str:=["thing"]
noncomputable def N_kept_in : List Str:=["line","words"]
noncomputable def N_Reader_put : List Str:=["self","at","word","name","thing","kind"]
noncomputable def N_Reader_take_kept : List Str:=["self","at","kept"]
noncomputable def N_section_in : List Str:=["line","name"]
noncomputable def N_setting_in : List Str:=["line","key","sign","value"]
noncomputable def N_Reader_take_setting : List Str:=["self","at","setting","place"]
noncomputable def N_Reader_take : List Str:=["self","at","line"]
noncomputable def N_parts_of : List Str:=["parts","at","word","thing"]
noncomputable def N_SettingsFile_init : List Str:=["self","text","reader","at","line","word","thing"]
noncomputable def N_SettingsFile_places : List Str:=["self","at","word","thing"]
noncomputable def N_SettingsFile_sections : List Str:=["self","at","word","thing"]
noncomputable def N_SettingsFile_block : List Str:=["self","thing","row","at","word","part"]
noncomputable def N_SettingsFile_value : List Str:=["self","place"]
noncomputable def N_SettingsFile_tail : List Str:=["self","row","at","word","part"]
noncomputable def N_L_law_together : List Str:=["_law_file","_law_lines","_law_places","_law_head","_law_spot","_law_one","_law_key"]
noncomputable def N_SettingsFile_kept : List Str:=["self","at","word","thing"]
noncomputable def N_L_law_kept : List Str:=["_law_file","_law_found","_law_release","_law_spot","_law_worth","_law_line"]
noncomputable def N_SettingsFile_pairs : List Str:=["self","at","word","thing"]
noncomputable def N_SettingsFile_lines : List Str:=["self"]
noncomputable def N_law : List Str:=["_law_script","_law_at","_law_bag_here","_law_turn","_law_lines","_law_file","_law_line","_law_spot","_law_worth"]
theorem sc_L_law_bag : FnScope N_L_law_bag ["_law_script","_law_at"] (defScope s_L_law_bag):=⟨rfl,rfl,rfl,by decide +kernel,rfl,by decide +kernel,by decide +kernel⟩
theorem sc_L_law_take : FnScope N_L_law_take ["_law_bag_here","_law_many"] (defScope s_L_law_take):=⟨rfl,rfl,rfl,by decide +kernel,rfl,by decide +kernel,by decide +kernel⟩
theorem sc_L_law_of : FnScope N_L_law_of ["_law_bag_here","_law_some"] (defScope s_L_law_of):=⟨rfl,rfl,rfl,by decide +kernel,rfl,by decide +kernel,by decide +kernel⟩
theorem sc_L_law_mixed : FnScope N_L_law_mixed ["_law_bag_here","_law_things"] (defScope s_L_law_mixed):=⟨rfl,rfl,rfl,by decide +kernel,rfl,by decide +kernel,by decide +kernel⟩
theorem sc_L_law_drawn : FnScope N_L_law_drawn ["_law_bag_here","_law_with_kept"] (defScope s_L_law_drawn):=⟨rfl,rfl,rfl,by decide +kernel,rfl,by decide +kernel,by decide +kernel⟩
theorem sc_Reader_init : FnScope N_Reader_init ["self"] (defScope s_Reader_init):=⟨rfl,rfl,rfl,by decide +kernel,rfl,by decide +kernel,by decide +kernel⟩
theorem sc_lines_of : FnScope N_lines_of ["text"] (defScope s_lines_of):=⟨rfl,rfl,rfl,by decide +kernel,rfl,by decide +kernel,by decide +kernel⟩
theorem sc_is_made_of : FnScope N_is_made_of ["thing","signs","most"] (defScope s_is_made_of):=⟨rfl,rfl,rfl,by decide +kernel,rfl,by decide +kernel,by decide +kernel⟩
theorem sc_is_number : FnScope N_is_number ["thing"] (defScope s_is_number):=⟨rfl,rfl,rfl,by decide +kernel,rfl,by decide +kernel,by decide +kernel⟩
theorem sc_is_name : FnScope N_is_name ["thing"] (defScope s_is_name):=⟨rfl,rfl,rfl,by decide +kernel,rfl,by decide +kernel,by decide +kernel⟩
theorem sc_is_place : FnScope N_is_place ["thing"] (defScope s_is_place):=⟨rfl,rfl,rfl,by decide +kernel,rfl,by decide +kernel,by decide +kernel⟩
theorem sc_is_value : FnScope N_is_value ["thing"] (defScope s_is_value):=⟨rfl,rfl,rfl,by decide +kernel,rfl,by decide +kernel,by decide +kernel⟩
theorem sc_kept_in : FnScope N_kept_in ["line"] (defScope s_kept_in):=⟨rfl,rfl,rfl,by decide +kernel,rfl,by decide +kernel,by decide +kernel⟩
theorem sc_Reader_put : FnScope N_Reader_put ["self","at","word","name","thing","kind"] (defScope s_Reader_put):=⟨rfl,rfl,rfl,by decide +kernel,rfl,by decide +kernel,by decide +kernel⟩
theorem sc_Reader_take_kept : FnScope N_Reader_take_kept ["self","at","kept"] (defScope s_Reader_take_kept):=⟨rfl,rfl,rfl,by decide +kernel,rfl,by decide +kernel,by decide +kernel⟩
theorem sc_section_in : FnScope N_section_in ["line"] (defScope s_section_in):=⟨rfl,rfl,rfl,by decide +kernel,rfl,by decide +kernel,by decide +kernel⟩
theorem sc_setting_in : FnScope N_setting_in ["line"] (defScope s_setting_in):=⟨rfl,rfl,rfl,by decide +kernel,rfl,by decide +kernel,by decide +kernel⟩
theorem sc_Reader_take_setting : FnScope N_Reader_take_setting ["self","at","setting"] (defScope s_Reader_take_setting):=⟨rfl,rfl,rfl,by decide +kernel,rfl,by decide +kernel,by decide +kernel⟩
theorem sc_Reader_take : FnScope N_Reader_take ["self","at","line"] (defScope s_Reader_take):=⟨rfl,rfl,rfl,by decide +kernel,rfl,by decide +kernel,by decide +kernel⟩
theorem sc_parts_of : FnScope N_parts_of ["parts"] (defScope s_parts_of):=⟨rfl,rfl,rfl,by decide +kernel,rfl,by decide +kernel,by decide +kernel⟩
theorem sc_SettingsFile_init : FnScope N_SettingsFile_init ["self","text"] (defScope s_SettingsFile_init):=⟨rfl,rfl,rfl,by decide +kernel,rfl,by decide +kernel,by decide +kernel⟩
theorem sc_SettingsFile_places : FnScope N_SettingsFile_places ["self"] (defScope s_SettingsFile_places):=⟨rfl,rfl,rfl,by decide +kernel,rfl,by decide +kernel,by decide +kernel⟩
theorem sc_SettingsFile_sections : FnScope N_SettingsFile_sections ["self"] (defScope s_SettingsFile_sections):=⟨rfl,rfl,rfl,by decide +kernel,rfl,by decide +kernel,by decide +kernel⟩
theorem sc_SettingsFile_block : FnScope N_SettingsFile_block ["self","thing"] (defScope s_SettingsFile_block):=⟨rfl,rfl,rfl,by decide +kernel,rfl,by decide +kernel,by decide +kernel⟩
theorem sc_SettingsFile_value : FnScope N_SettingsFile_value ["self","place"] (defScope s_SettingsFile_value):=⟨rfl,rfl,rfl,by decide +kernel,rfl,by decide +kernel,by decide +kernel⟩
theorem sc_SettingsFile_tail : FnScope N_SettingsFile_tail ["self"] (defScope s_SettingsFile_tail):=⟨rfl,rfl,rfl,by decide +kernel,rfl,by decide +kernel,by decide +kernel⟩
theorem sc_L_law_together : FnScope N_L_law_together ["_law_file"] (defScope s_L_law_together):=⟨rfl,rfl,rfl,by decide +kernel,rfl,by decide +kernel,by decide +kernel⟩
theorem sc_SettingsFile_kept : FnScope N_SettingsFile_kept ["self"] (defScope s_SettingsFile_kept):=⟨rfl,rfl,rfl,by decide +kernel,rfl,by decide +kernel,by decide +kernel⟩
theorem sc_L_law_kept : FnScope N_L_law_kept ["_law_file"] (defScope s_L_law_kept):=⟨rfl,rfl,rfl,by decide +kernel,rfl,by decide +kernel,by decide +kernel⟩
theorem sc_SettingsFile_pairs : GScope N_SettingsFile_pairs ["self"] (defScope s_SettingsFile_pairs):=⟨rfl,rfl,rfl,by decide +kernel,rfl,by decide +kernel,by decide +kernel⟩
theorem sc_SettingsFile_lines : FnScope N_SettingsFile_lines ["self"] (defScope s_SettingsFile_lines):=⟨rfl,rfl,rfl,by decide +kernel,rfl,by decide +kernel,by decide +kernel⟩
theorem sc_law : FnScope N_law ["_law_script"] (defScope s_law):=⟨rfl,rfl,rfl,by decide +kernel,rfl,by decide +kernel,by decide +kernel⟩
set_option genInjectivity false in
/-- where the classes stand -/
structure Ad where
 C_Reader : Addr
 C_SettingsFile : Addr
 f_L_law_bag : Addr
 f_L_law_take : Addr
 f_L_law_of : Addr
 f_L_law_mixed : Addr
 f_L_law_drawn : Addr
 f_Reader_init : Addr
 f_lines_of : Addr
 f_is_made_of : Addr
 f_is_number : Addr
 f_is_name : Addr
 f_is_place : Addr
 f_is_value : Addr
 f_kept_in : Addr
 f_Reader_put : Addr
 f_Reader_take_kept : Addr
 f_section_in : Addr
 f_setting_in : Addr
 f_Reader_take_setting : Addr
 f_Reader_take : Addr
 f_parts_of : Addr
 f_SettingsFile_init : Addr
 f_SettingsFile_places : Addr
 f_SettingsFile_sections : Addr
 f_SettingsFile_block : Addr
 f_SettingsFile_value : Addr
 f_SettingsFile_tail : Addr
 f_L_law_together : Addr
 f_SettingsFile_kept : Addr
 f_L_law_kept : Addr
 f_SettingsFile_pairs : Addr
 f_SettingsFile_lines : Addr
 f_law : Addr
 p_SettingsFile_lines : Addr
noncomputable def Ad.own (a : Ad) : List Addr:=[]
/-! the mirrors -/
noncomputable section
noncomputable def b_L_law_bag_1 (K : PySem.W.Frag) (a : Ad) : G :=
  (sAsg (f2 oMod (fB (pu oInt) (fCons (f2 oAdd (f2 oAdd (f2 oAdd (f2 oMul (vVar 3) (vC (.int 40014))) (f2 oMod (fB (pu oInt) (fCons (vVar 5) fNil)) (vC (.int 2147483563)))) (f2 oMul (vC (.int 83)) (vVar 4))) (vC (.int 7))) fNil)) (vC (.int 2147483563))) (tgN 3))
noncomputable def g_L_law_bag (K : PySem.W.Frag) (a : Ad) : G :=
  (sSeq (sAsg (fIf (asB (f2 oLt (vVar 1) (fB (pu oLen) (fCons (vVar 0) fNil)))) (f2 oIx (vVar 0) (vVar 1)) (vC (.int 0))) (tgN 2))
  (sSeq (sAsg (f2 oAdd (f2 oMul (vC (.int 4099)) (vVar 1)) (vC (.int 53))) (tgN 3))
  (sSeq (sFor (fItS itE (fCons (fSl (vVar 0) oNone (oSome (vC (.int 40)))) fNil)) (tgT 2 (tgCons (tgN 4) (tgCons (tgN 5) tgNil))) (b_L_law_bag_1 K a))
  (sRet (fLstC (fCons (fIf (asB (f2 oGe (fB (pu oAbs) (fCons (vVar 2) fNil)) (f2 oPow (vC (.int 10)) (vC (.int 18))))) (fB (pu oAbs) (fCons (vVar 2) fNil)) (vC (.int 0))) (fCons (vVar 3) fNil)))))))
noncomputable def m_L_law_bag (K : PySem.W.Frag) (a : Ad) : List U → M U:=fnM 6 (g_L_law_bag K a) wKeep
noncomputable def g_L_law_take (K : PySem.W.Frag) (a : Ad) : G :=
  (sSeq (sIf (asB (f2 oGt (f2 oIx (vVar 0) (vC (.int 0))) (vC (.int 0))))
  (sSeq (sAsg (f2 oMod (fB (pu oInt) (fCons (f2 oIx (vVar 0) (vC (.int 0))) fNil)) (vVar 1)) (tgN 2))
  (sSeq (sAsg (f2 oFdiv (f2 oIx (vVar 0) (vC (.int 0))) (vVar 1)) (tgSub (vVar 0) (vC (.int 0))))
  (sRet (vVar 2))))
  sNil)
  (sSeq (sAsg (f2 oMod (fB (pu oInt) (fCons (f2 oAdd (f2 oMul (f2 oIx (vVar 0) (vC (.int 1))) (vC (.int 40692))) (vC (.int 2909))) fNil)) (vC (.int 2147483399))) (tgSub (vVar 0) (vC (.int 1))))
  (sRet (f2 oMod (f2 oFdiv (f2 oMod (fB (pu oInt) (fCons (f2 oMul (f2 oFdiv (f2 oIx (vVar 0) (vC (.int 1))) (vC (.int 7))) (vC (.int 69621))) fNil)) (vC (.int 2147483587))) (vC (.int 64))) (vVar 1)))))
noncomputable def m_L_law_take (K : PySem.W.Frag) (a : Ad) : List U → M U:=fnM 3 (g_L_law_take K a) wCut
noncomputable def g_L_law_of (K : PySem.W.Frag) (a : Ad) : G :=
  (sRet (f2 oIx (vVar 1) (fCall 2 0 gPos (m_L_law_take K a) (fCW (fCons (vVar 0) (fCons (fB (pu oLen) (fCons (vVar 1) fNil)) fNil)) fNil))))
noncomputable def m_L_law_of (K : PySem.W.Frag) (a : Ad) : List U → M U:=fnM 2 (g_L_law_of K a) wFrz
noncomputable def w_L_law_mixed_1 (K : PySem.W.Frag) (a : Ad) : F Bool :=
  (asB (f2 oNe (vVar 2) (fN vLst fNil)))
noncomputable def b_L_law_mixed_1 (K : PySem.W.Frag) (a : Ad) : G :=
  (sExpr (fM "list" mAppend (vVar 3) (fCons (fM "list" mPop (vVar 2) (fCons (fCall 2 0 gPos (m_L_law_take K a) (fCW (fCons (vVar 0) (fCons (fB (pu oLen) (fCons (vVar 2) fNil)) fNil)) fNil)) fNil)) fNil)))
noncomputable def g_L_law_mixed (K : PySem.W.Frag) (a : Ad) : G :=
  (sSeq (sPar 2 3 (fCons (fB oListC (fCons (vVar 1) fNil)) (fCons (fLstC fNil) fNil)))
  (sSeq (loopW (w_L_law_mixed_1 K a) (b_L_law_mixed_1 K a) 100)
  (sRet (vVar 3))))
noncomputable def m_L_law_mixed (K : PySem.W.Frag) (a : Ad) : List U → M U:=fnM 4 (g_L_law_mixed K a) wFrz
noncomputable def c_L_law_drawn_1 (K : PySem.W.Frag) (a : Ad) : F U :=
  fLcC (fItN itR (fCons (fCall 2 0 gPos (m_L_law_take K a) (fCW (fCons (vVar 0) (fCons (vC (.int 3)) fNil)) fNil)) fNil)) (tgN 4) tYesB (fCall 2 0 gPos (m_L_law_of K a) (fCW (fCons (vVar 0) (fCons (vVar 2) fNil)) fNil)) [4]
noncomputable def c_L_law_drawn_2 (K : PySem.W.Frag) (a : Ad) : F U :=
  fLc (fItN itR (fCons (fCall 2 0 gPos (m_L_law_take K a) (fCW (fCons (vVar 0) (fCons (vC (.int 4)) fNil)) fNil)) fNil)) (tgN 4) tYesB (fCall 2 0 gPos (m_L_law_of K a) (fCW (fCons (vVar 0) (fCons (vVar 2) fNil)) fNil)) [4]
noncomputable def b_L_law_drawn_1 (K : PySem.W.Frag) (a : Ad) : G :=
  (sSeq (sAsg (f2s vAddC (vVar 3) (c_L_law_drawn_2 K a)) (tgN 3))
  (sSeq (sIf (bAnd (asT (vVar 1)) (asB (f2 oEq (fCall 2 0 gPos (m_L_law_take K a) (fCW (fCons (vVar 0) (fCons (vC (.int 3)) fNil)) fNil)) (vC (.int 0)))))
  (sExpr (fM "list" mAppend (vVar 3) (fCons (f2 oAdd (f2 oAdd (f2 oAdd (vC (.str "#~ ")) (fB (pu oStr) (fCons (fB (pu oLen) (fCons (vVar 3) fNil)) fNil))) (vC (.str " ui.x"))) (f2 oIx (fN vLst (fCons (vC (.str "")) (fCons (vC (.str " = 1")) fNil))) (fCall 2 0 gPos (m_L_law_take K a) (fCW (fCons (vVar 0) (fCons (vC (.int 2)) fNil)) fNil)))) fNil)))
  sNil)
  (sExpr (fM "list" mAppend (vVar 3) (fCons (f2 oAdd (f2 oAdd (vVar 6) (vC (.str " = "))) (fCall 2 0 gPos (m_L_law_of K a) (fCW (fCons (vVar 0) (fCons (fN vLst (fCons (vC (.str "0")) (fCons (vC (.str "on")) (fCons (vC (.str "a-1")) fNil)))) fNil)) fNil))) fNil)))))
noncomputable def c_L_law_drawn_3 (K : PySem.W.Frag) (a : Ad) : F U :=
  fLc (fItN itR (fCons (fCall 2 0 gPos (m_L_law_take K a) (fCW (fCons (vVar 0) (fCons (vC (.int 3)) fNil)) fNil)) fNil)) (tgN 4) tYesB (fCall 2 0 gPos (m_L_law_of K a) (fCW (fCons (vVar 0) (fCons (vVar 2) fNil)) fNil)) [4]
noncomputable def b_L_law_drawn_2 (K : PySem.W.Frag) (a : Ad) : G :=
  (sSeq (sExpr (fM "list" mAppend (vVar 3) (fCons (f2 oAdd (f2 oAdd (vC (.str "[")) (vVar 5)) (vC (.str "]"))) fNil)))
  (sSeq (sFor (fIter (fSl (fCall 2 0 gPos (m_L_law_mixed K a) (fCW (fCons (vVar 0) (fCons (fN vLst (fCons (vC (.str "x")) (fCons (vC (.str "port")) (fCons (vC (.str "a")) fNil)))) fNil)) fNil)) oNone (oSome (fCall 2 0 gPos (m_L_law_take K a) (fCW (fCons (vVar 0) (fCons (vC (.int 4)) fNil)) fNil))))) (tgN 6) (b_L_law_drawn_1 K a))
  (sAsg (f2s vAddC (vVar 3) (c_L_law_drawn_3 K a)) (tgN 3))))
noncomputable def g_L_law_drawn (K : PySem.W.Frag) (a : Ad) : G :=
  (sSeq (sAsg (fN vLst (fCons (vC (.str "")) (fCons (vC (.str "# x")) (fCons (vC (.str "#")) (fCons (vC (.str "# [a]")) (fCons (vC (.str "#a = 1")) fNil)))))) (tgN 2))
  (sSeq (sAsg (c_L_law_drawn_1 K a) (tgN 3))
  (sSeq (sFor (fIter (fSl (fCall 2 0 gPos (m_L_law_mixed K a) (fCW (fCons (vVar 0) (fCons (fN vLst (fCons (vC (.str "ui")) (fCons (vC (.str "net")) (fCons (vC (.str "zz")) fNil)))) fNil)) fNil)) oNone (oSome (fCall 2 0 gPos (m_L_law_take K a) (fCW (fCons (vVar 0) (fCons (vC (.int 4)) fNil)) fNil))))) (tgN 5) (b_L_law_drawn_2 K a))
  (sRet (vVar 3)))))
noncomputable def m_L_law_drawn (K : PySem.W.Frag) (a : Ad) : List U → M U:=fnM 7 (g_L_law_drawn K a) wFrz
noncomputable def g_Reader_init (K : PySem.W.Frag) (a : Ad) : G :=
  (sSeq (sFldS [a.C_Reader] "section" (vVar 0) (vC .non))
  (sSeq (sFldS [a.C_Reader] "met" (vVar 0) (fLstC fNil))
  (sFldS [a.C_Reader] "parts" (vVar 0) (fLstC fNil))))
noncomputable def m_Reader_init (K : PySem.W.Frag) (a : Ad) : List U → M U:=fnM 1 (g_Reader_init K a) wId
noncomputable def g_lines_of (K : PySem.W.Frag) (a : Ad) : G :=
  (sRet (fIf (asB (f2 oNe (vVar 0) (vC (.str "")))) (fM "str" (pu4 mSplit) (vVar 0) (fCons (vC (.str "\n")) fNil)) (fN vLst fNil)))
noncomputable def m_lines_of (K : PySem.W.Frag) (a : Ad) : List U → M U:=fnM 1 (g_lines_of K a) wFrz
noncomputable def c_is_made_of_1 (K : PySem.W.Frag) (a : Ad) : F U :=
  fLc (fIter (vVar 0)) (tgN 3) tYesB (f2 oIn (vVar 3) (vVar 1)) [3]
noncomputable def g_is_made_of (K : PySem.W.Frag) (a : Ad) : G :=
  (sRet (fAnd (fB (pu (oIsi K a.own)) (fCons (vVar 0) (fCons (vC (.ty "str")) fNil))) (fAnd (fChain oLe oLe (vC (.int 1)) (fB (pu oLen) (fCons (vVar 0) fNil)) (vVar 2)) (fB (pu oAll) (fCons (c_is_made_of_1 K a) fNil)))))
noncomputable def m_is_made_of (K : PySem.W.Frag) (a : Ad) : List U → M U:=fnM 4 (g_is_made_of K a) wFrz
noncomputable def g_is_number (K : PySem.W.Frag) (a : Ad) : G :=
  (sRet (fAnd (fCall 3 0 gPos (m_is_made_of K a) (fCW (fCons (vVar 0) (fCons (vC (.str "0123456789")) (fCons (vC (.int 2)) fNil))) fNil)) (fOr (f2 oEq (vVar 0) (vC (.str "0"))) (f2 oNe (f2 oIx (vVar 0) (vC (.int 0))) (vC (.str "0"))))))
noncomputable def m_is_number (K : PySem.W.Frag) (a : Ad) : List U → M U:=fnM 1 (g_is_number K a) wFrz
noncomputable def g_is_name (K : PySem.W.Frag) (a : Ad) : G :=
  (sRet (fCall 3 0 gPos (m_is_made_of K a) (fCW (fCons (vVar 0) (fCons (vC (.str "abcdefghijklmnopqrstuvwxyz")) (fCons (vC (.int 8)) fNil))) fNil)))
noncomputable def m_is_name (K : PySem.W.Frag) (a : Ad) : List U → M U:=fnM 1 (g_is_name K a) wFrz
noncomputable def g_is_place (K : PySem.W.Frag) (a : Ad) : G :=
  (sSeq (sIf (bNot (asT (fB (pu (oIsi K a.own)) (fCons (vVar 0) (fCons (vC (.ty "str")) fNil)))))
  (sRet (vC (.bl false)))
  sNil)
  (sSeq (sAsg (fM "str" (pu4 mPartition) (vVar 0) (fCons (vC (.str ".")) fNil)) (tgT 3 (tgCons (tgN 1) (tgCons (tgN 2) (tgCons (tgN 3) tgNil)))))
  (sRet (fAnd (fCall 1 0 gPos (m_is_name K a) (fCW (fCons (vVar 1) fNil) fNil)) (fCall 1 0 gPos (m_is_name K a) (fCW (fCons (vVar 3) fNil) fNil))))))
noncomputable def m_is_place (K : PySem.W.Frag) (a : Ad) : List U → M U:=fnM 4 (g_is_place K a) wFrz
noncomputable def g_is_value (K : PySem.W.Frag) (a : Ad) : G :=
  (sRet (fAnd (fCall 3 0 gPos (m_is_made_of K a) (fCW (fCons (vVar 0) (fCons (f2 oAdd (f2 oAdd (vC (.str "abcdefghijklmnopqrstuvwxyz")) (vC (.str "0123456789"))) (vC (.str "-"))) (fCons (vC (.int 12)) fNil))) fNil)) (f2 oNe (f2 oIx (vVar 0) (vC (.int 0))) (vC (.str "-")))))
noncomputable def m_is_value (K : PySem.W.Frag) (a : Ad) : List U → M U:=fnM 1 (g_is_value K a) wFrz
noncomputable def g_kept_in (K : PySem.W.Frag) (a : Ad) : G :=
  (sSeq (sAsg (fM "str" (pu4 mSplit) (vVar 0) (fCons (vC (.str " ")) fNil)) (tgN 1))
  (sSeq (sIf (bOr (asB (f2 oNotIn (fB (pu oLen) (fCons (vVar 1) fNil)) (fTup (fCons (vC (.int 3)) (fCons (vC (.int 5)) fNil))))) (bOr (asB (f2 oNe (f2 oIx (vVar 1) (vC (.int 0))) (vC (.str "#~")))) (bOr (bNot (asT (fCall 1 0 gPos (m_is_number K a) (fCW (fCons (f2 oIx (vVar 1) (vC (.int 1))) fNil) fNil)))) (bNot (asT (fCall 1 0 gPos (m_is_place K a) (fCW (fCons (f2 oIx (vVar 1) (vC (.int 2))) fNil) fNil)))))))
  (sRet (vC .non))
  sNil)
  (sSeq (sIf (asB (f2 oEq (fB (pu oLen) (fCons (vVar 1) fNil)) (vC (.int 3))))
  (sRet (fTup (fCons (fB (pu oInt) (fCons (f2 oIx (vVar 1) (vC (.int 1))) fNil)) (fCons (f2 oIx (vVar 1) (vC (.int 2))) (fCons (vC .non) fNil)))))
  sNil)
  (sRet (fIf (bAnd (asB (f2 oEq (f2 oIx (vVar 1) (vC (.int 3))) (vC (.str "=")))) (asT (fCall 1 0 gPos (m_is_value K a) (fCW (fCons (f2 oIx (vVar 1) (vC (.int 4))) fNil) fNil)))) (fTup (fCons (fB (pu oInt) (fCons (f2 oIx (vVar 1) (vC (.int 1))) fNil)) (fCons (f2 oIx (vVar 1) (vC (.int 2))) (fCons (f2 oIx (vVar 1) (vC (.int 4))) fNil)))) (vC .non))))))
noncomputable def m_kept_in (K : PySem.W.Frag) (a : Ad) : List U → M U:=fnM 2 (g_kept_in K a) wFrz
noncomputable def g_Reader_put (K : PySem.W.Frag) (a : Ad) : G :=
  (sSeq (sIf (asB (f2 oIn (fTup (fCons (vVar 2) (fCons (vVar 3) fNil))) (fFld [a.C_Reader] "met" (vVar 0))))
  sNo
  sNil)
  (sSeq (sExpr (fM "list" mAppend (fFld [a.C_Reader] "met" (vVar 0)) (fCons (fTup (fCons (vVar 2) (fCons (vVar 3) fNil))) fNil)))
  (sExpr (fM "list" mAppend (fFld [a.C_Reader] "parts" (vVar 0)) (fCons (fTup (fCons (vVar 1) (fCons (vVar 2) (fCons (vVar 4) fNil)))) fNil)))))
noncomputable def m_Reader_put (K : PySem.W.Frag) (a : Ad) : List U → M U:=fnM 6 (g_Reader_put K a) wCut
noncomputable def g_Reader_take_kept (K : PySem.W.Frag) (a : Ad) : G :=
  (sSeq (sIf (asB (f2 oIsN (vVar 2) (vC .non)))
  sNo
  sNil)
  (sExpr (fMeth a.C_Reader "put" 5 0 gPos (m_Reader_put K a) (vVar 0) (fCW (fCons (vVar 1) (fCons (vC (.str "kept")) (fCons (fSl (vVar 2) oNone (oSome (vC (.int 2)))) (fCons (vVar 2) (fCons (vC (.str "again")) fNil))))) fNil))))
noncomputable def m_Reader_take_kept (K : PySem.W.Frag) (a : Ad) : List U → M U:=fnM 3 (g_Reader_take_kept K a) wCut
noncomputable def g_section_in (K : PySem.W.Frag) (a : Ad) : G :=
  (sSeq (sAsg (fSl (vVar 0) (oSome (vC (.int 1))) (oSome (f1 oNeg (vC (.int 1))))) (tgN 1))
  (sRet (fIf (bAnd (asB (f2 oEq (fSl (vVar 0) oNone (oSome (vC (.int 1)))) (vC (.str "[")))) (bAnd (asB (f2 oEq (fSl (vVar 0) (oSome (f1 oNeg (vC (.int 1)))) oNone) (vC (.str "]")))) (asT (fCall 1 0 gPos (m_is_name K a) (fCW (fCons (vVar 1) fNil) fNil))))) (vVar 1) (vC .non))))
noncomputable def m_section_in (K : PySem.W.Frag) (a : Ad) : List U → M U:=fnM 2 (g_section_in K a) wFrz
noncomputable def g_setting_in (K : PySem.W.Frag) (a : Ad) : G :=
  (sSeq (sAsg (fM "str" (pu4 mPartition) (vVar 0) (fCons (vC (.str " = ")) fNil)) (tgT 3 (tgCons (tgN 1) (tgCons (tgN 2) (tgCons (tgN 3) tgNil)))))
  (sRet (fIf (bAnd (asT (fCall 1 0 gPos (m_is_name K a) (fCW (fCons (vVar 1) fNil) fNil))) (asT (fCall 1 0 gPos (m_is_value K a) (fCW (fCons (vVar 3) fNil) fNil)))) (fTup (fCons (vVar 1) (fCons (vVar 3) fNil))) (vC .non))))
noncomputable def m_setting_in (K : PySem.W.Frag) (a : Ad) : List U → M U:=fnM 4 (g_setting_in K a) wFrz
noncomputable def g_Reader_take_setting (K : PySem.W.Frag) (a : Ad) : G :=
  (sSeq (sIf (asB (f2 oIsN (vVar 2) (vC .non)))
  sNo
  sNil)
  (sSeq (sIf (asB (f2 oIsN (fFld [a.C_Reader] "section" (vVar 0)) (vC .non)))
  sNo
  sNil)
  (sSeq (sAsg (fJs [(f1 oFmt (fFld [a.C_Reader] "section" (vVar 0))),(vC (.str ".")),(f1 oFmt (f2 oIx (vVar 2) (vC (.int 0))))] Str.empty) (tgN 3))
  (sExpr (fMeth a.C_Reader "put" 5 0 gPos (m_Reader_put K a) (vVar 0) (fCW (fCons (vVar 1) (fCons (vC (.str "place")) (fCons (vVar 3) (fCons (fTup (fCons (vVar 3) (fCons (f2 oIx (vVar 2) (vC (.int 1))) fNil))) (fCons (vC (.str "key")) fNil))))) fNil))))))
noncomputable def m_Reader_take_setting (K : PySem.W.Frag) (a : Ad) : List U → M U:=fnM 4 (g_Reader_take_setting K a) wCut
noncomputable def g_Reader_take (K : PySem.W.Frag) (a : Ad) : G :=
  (sIf (asT (fM "str" (pu4 mStarts) (vVar 2) (fCons (vC (.str "#~")) fNil)))
  (sExpr (fMeth a.C_Reader "take_kept" 2 0 gPos (m_Reader_take_kept K a) (vVar 0) (fCW (fCons (vVar 1) (fCons (fCall 1 0 gPos (m_kept_in K a) (fCW (fCons (vVar 2) fNil) fNil)) fNil)) fNil)))
  (sIf (bOr (asB (f2 oEq (vVar 2) (vC (.str "")))) (asT (fM "str" (pu4 mStarts) (vVar 2) (fCons (vC (.str "#")) fNil))))
  (sExpr (fM "list" mAppend (fFld [a.C_Reader] "parts" (vVar 0)) (fCons (fTup (fCons (vVar 1) (fCons (vC (.str "remark")) (fCons (vVar 2) fNil)))) fNil)))
  (sIf (asB (f2 oNotN (fCall 1 0 gPos (m_section_in K a) (fCW (fCons (vVar 2) fNil) fNil)) (vC .non)))
  (sSeq (sFldS [a.C_Reader] "section" (vVar 0) (fCall 1 0 gPos (m_section_in K a) (fCW (fCons (vVar 2) fNil) fNil)))
  (sExpr (fMeth a.C_Reader "put" 5 0 gPos (m_Reader_put K a) (vVar 0) (fCW (fCons (vVar 1) (fCons (vC (.str "section")) (fCons (fFld [a.C_Reader] "section" (vVar 0)) (fCons (fFld [a.C_Reader] "section" (vVar 0)) (fCons (vC (.str "section")) fNil))))) fNil))))
  (sExpr (fMeth a.C_Reader "take_setting" 2 0 gPos (m_Reader_take_setting K a) (vVar 0) (fCW (fCons (vVar 1) (fCons (fCall 1 0 gPos (m_setting_in K a) (fCW (fCons (vVar 2) fNil) fNil)) fNil)) fNil))))))
noncomputable def m_Reader_take (K : PySem.W.Frag) (a : Ad) : List U → M U:=fnM 3 (g_Reader_take K a) wCut
noncomputable def c_parts_of_1 (K : PySem.W.Frag) (a : Ad) : F U :=
  fLc (fIter (vVar 0)) (tgT 3 (tgCons (tgN 1) (tgCons (tgN 2) (tgCons (tgN 3) tgNil)))) (asB (f2 oNe (vVar 2) (vC (.str "remark")))) (fTup (fCons (vVar 1) (fCons (vVar 2) (fCons (fIf (asB (f2 oEq (vVar 2) (vC (.str "place")))) (f2 oIx (vVar 3) (vC (.int 0))) (vVar 3)) fNil)))) [1,2,3]
noncomputable def g_parts_of (K : PySem.W.Frag) (a : Ad) : G :=
  (sRet (c_parts_of_1 K a))
noncomputable def m_parts_of (K : PySem.W.Frag) (a : Ad) : List U → M U:=fnM 4 (g_parts_of K a) wFrz
noncomputable def b_SettingsFile_init_1 (K : PySem.W.Frag) (a : Ad) : G :=
  (sExpr (fMeth a.C_Reader "take" 2 0 gPos (m_Reader_take K a) (vVar 2) (fCW (fCons (vVar 3) (fCons (vVar 4) fNil)) fNil)))
noncomputable def c_SettingsFile_init_1 (K : PySem.W.Frag) (a : Ad) : F U :=
  fLc (fIter (fFld [a.C_Reader] "parts" (vVar 2))) (tgT 3 (tgCons (tgN 3) (tgCons (tgN 5) (tgCons (tgN 6) tgNil)))) (asB (f2 oEq (vVar 5) (vC (.str "place")))) (vVar 6) [3,5,6]
noncomputable def g_SettingsFile_init (K : PySem.W.Frag) (a : Ad) : G :=
  (sSeq (sIf (bNot (asT (fB (pu (oIsi K a.own)) (fCons (vVar 1) (fCons (vC (.ty "str")) fNil)))))
  sNo
  sNil)
  (sSeq (sAsg (fMake a.C_Reader 0 0 gPos (m_Reader_init K a) (fCW fNil fNil)) (tgN 2))
  (sSeq (sFor (fItS itE (fCons (fCall 1 0 gPos (m_lines_of K a) (fCW (fCons (vVar 1) fNil) fNil)) fNil)) (tgT 2 (tgCons (tgN 3) (tgCons (tgN 4) tgNil))) (b_SettingsFile_init_1 K a))
  (sSeq (sFldS [a.C_SettingsFile] "whole" (vVar 0) (vVar 1))
  (sSeq (sFldS [a.C_SettingsFile] "all_parts" (vVar 0) (fFld [a.C_Reader] "parts" (vVar 2)))
  (sSeq (sFldS [a.C_SettingsFile] "parts" (vVar 0) (fCall 1 0 gPos (m_parts_of K a) (fCW (fCons (fFld [a.C_Reader] "parts" (vVar 2)) fNil) fNil)))
  (sFldS [a.C_SettingsFile] "settings_read" (vVar 0) (fB (pu oDict) (fCons (c_SettingsFile_init_1 K a) fNil)))))))))
noncomputable def m_SettingsFile_init (K : PySem.W.Frag) (a : Ad) : List U → M U:=fnM 7 (g_SettingsFile_init K a) wId
noncomputable def c_SettingsFile_places_1 (K : PySem.W.Frag) (a : Ad) : F U :=
  fLc (fIter (fFld [a.C_SettingsFile] "all_parts" (vVar 0))) (tgT 3 (tgCons (tgN 1) (tgCons (tgN 2) (tgCons (tgN 3) tgNil)))) (asB (f2 oEq (vVar 2) (vC (.str "place")))) (f2 oIx (vVar 3) (vC (.int 0))) [1,2,3]
noncomputable def g_SettingsFile_places (K : PySem.W.Frag) (a : Ad) : G :=
  (sRet (c_SettingsFile_places_1 K a))
noncomputable def m_SettingsFile_places (K : PySem.W.Frag) (a : Ad) : List U → M U:=fnM 4 (g_SettingsFile_places K a) wFrz
noncomputable def c_SettingsFile_sections_1 (K : PySem.W.Frag) (a : Ad) : F U :=
  fLc (fIter (fFld [a.C_SettingsFile] "all_parts" (vVar 0))) (tgT 3 (tgCons (tgN 1) (tgCons (tgN 2) (tgCons (tgN 3) tgNil)))) (asB (f2 oEq (vVar 2) (vC (.str "section")))) (vVar 3) [1,2,3]
noncomputable def g_SettingsFile_sections (K : PySem.W.Frag) (a : Ad) : G :=
  (sRet (c_SettingsFile_sections_1 K a))
noncomputable def m_SettingsFile_sections (K : PySem.W.Frag) (a : Ad) : List U → M U:=fnM 4 (g_SettingsFile_sections K a) wFrz
noncomputable def b_SettingsFile_block_1 (K : PySem.W.Frag) (a : Ad) : G :=
  (sIf (asB (f2 oEq (vVar 4) (vC (.str "remark"))))
  (sExpr (fM "list" mAppend (vVar 2) (fCons (vVar 5) fNil)))
  (sIf (bOr (asB (f2 oEq (vVar 4) (vC (.str "section")))) (asB (f2 oEq (vVar 4) (vC (.str "place")))))
  (sSeq (sIf (asB (f2 oEq (vVar 1) (fIf (asB (f2 oEq (vVar 4) (vC (.str "section")))) (vVar 5) (f2 oIx (vVar 5) (vC (.int 0))))))
  (sRet (vVar 2))
  sNil)
  (sAsg (fLstC fNil) (tgN 2)))
  sNil))
noncomputable def g_SettingsFile_block (K : PySem.W.Frag) (a : Ad) : G :=
  (sSeq (sIf (bNot (asT (fB (pu (oIsi K a.own)) (fCons (vVar 1) (fCons (vC (.ty "str")) fNil)))))
  sNo
  sNil)
  (sSeq (sAsg (fLstC fNil) (tgN 2))
  (sSeq (sFor (fIter (fFld [a.C_SettingsFile] "all_parts" (vVar 0))) (tgT 3 (tgCons (tgN 3) (tgCons (tgN 4) (tgCons (tgN 5) tgNil)))) (b_SettingsFile_block_1 K a))
  sNo)))
noncomputable def m_SettingsFile_block (K : PySem.W.Frag) (a : Ad) : List U → M U:=fnM 6 (g_SettingsFile_block K a) wFrz
noncomputable def g_SettingsFile_value (K : PySem.W.Frag) (a : Ad) : G :=
  (sSeq (sIf (bOr (bNot (asT (fCall 1 0 gPos (m_is_place K a) (fCW (fCons (vVar 1) fNil) fNil)))) (asB (f2 oNotInD (vVar 1) (fFld [a.C_SettingsFile] "settings_read" (vVar 0)))))
  sNo
  sNil)
  (sRet (f2 oIx (fFld [a.C_SettingsFile] "settings_read" (vVar 0)) (vVar 1))))
noncomputable def m_SettingsFile_value (K : PySem.W.Frag) (a : Ad) : List U → M U:=fnM 2 (g_SettingsFile_value K a) wFrz
noncomputable def b_SettingsFile_tail_1 (K : PySem.W.Frag) (a : Ad) : G :=
  (sIf (asB (f2 oEq (vVar 3) (vC (.str "remark"))))
  (sExpr (fM "list" mAppend (vVar 1) (fCons (vVar 4) fNil)))
  (sIf (asB (f2 oNe (vVar 3) (vC (.str "kept"))))
  (sAsg (fLstC fNil) (tgN 1))
  sNil))
noncomputable def g_SettingsFile_tail (K : PySem.W.Frag) (a : Ad) : G :=
  (sSeq (sAsg (fLstC fNil) (tgN 1))
  (sSeq (sFor (fIter (fFld [a.C_SettingsFile] "all_parts" (vVar 0))) (tgT 3 (tgCons (tgN 2) (tgCons (tgN 3) (tgCons (tgN 4) tgNil)))) (b_SettingsFile_tail_1 K a))
  (sRet (vVar 1))))
noncomputable def m_SettingsFile_tail (K : PySem.W.Frag) (a : Ad) : List U → M U:=fnM 5 (g_SettingsFile_tail K a) wFrz
noncomputable def c_L_law_together_1 (K : PySem.W.Frag) (a : Ad) : F U :=
  fLc (fIter (vVar 2)) (tgN 5) (asT (fM "str" (pu4 mStarts) (vVar 5) (fCons (f2 oAdd (vVar 3) (vC (.str "."))) fNil))) (vVar 5) [5]
noncomputable def b_L_law_together_1 (K : PySem.W.Frag) (a : Ad) : G :=
  (sSeq (sAsg (f2 oIx (fM "str" (pu4 mSplit) (vVar 4) (fCons (vC (.str ".")) fNil)) (vC (.int 1))) (tgN 6))
  (sAsg (f2 oAdd (f2 oAdd (vVar 1) (fMeth a.C_SettingsFile "block" 1 0 gPos (m_SettingsFile_block K a) (vVar 0) (fCW (fCons (vVar 4) fNil) fNil))) (fN vLst (fCons (f2 oAdd (f2 oAdd (vVar 6) (vC (.str " = "))) (fMeth a.C_SettingsFile "value" 1 0 gPos (m_SettingsFile_value K a) (vVar 0) (fCW (fCons (vVar 4) fNil) fNil))) fNil))) (tgN 1)))
noncomputable def b_L_law_together_2 (K : PySem.W.Frag) (a : Ad) : G :=
  (sSeq (sAsg (f2 oAdd (f2 oAdd (vVar 1) (fMeth a.C_SettingsFile "block" 1 0 gPos (m_SettingsFile_block K a) (vVar 0) (fCW (fCons (vVar 3) fNil) fNil))) (fN vLst (fCons (f2 oAdd (f2 oAdd (vC (.str "[")) (vVar 3)) (vC (.str "]"))) fNil))) (tgN 1))
  (sFor (fIter (c_L_law_together_1 K a)) (tgN 4) (b_L_law_together_1 K a)))
noncomputable def g_L_law_together (K : PySem.W.Frag) (a : Ad) : G :=
  (sSeq (sPar 1 2 (fCons (fN vLst fNil) (fCons (fMeth a.C_SettingsFile "places" 0 0 gPos (m_SettingsFile_places K a) (vVar 0) (fCW fNil fNil)) fNil)))
  (sSeq (sFor (fIter (fMeth a.C_SettingsFile "sections" 0 0 gPos (m_SettingsFile_sections K a) (vVar 0) (fCW fNil fNil))) (tgN 3) (b_L_law_together_2 K a))
  (sRet (f2 oAdd (vVar 1) (fMeth a.C_SettingsFile "tail" 0 0 gPos (m_SettingsFile_tail K a) (vVar 0) (fCW fNil fNil))))))
noncomputable def m_L_law_together (K : PySem.W.Frag) (a : Ad) : List U → M U:=fnM 7 (g_L_law_together K a) wFrz
noncomputable def c_SettingsFile_kept_1 (K : PySem.W.Frag) (a : Ad) : F U :=
  fLc (fIter (fFld [a.C_SettingsFile] "all_parts" (vVar 0))) (tgT 3 (tgCons (tgN 1) (tgCons (tgN 2) (tgCons (tgN 3) tgNil)))) (asB (f2 oEq (vVar 2) (vC (.str "kept")))) (vVar 3) [1,2,3]
noncomputable def g_SettingsFile_kept (K : PySem.W.Frag) (a : Ad) : G :=
  (sRet (c_SettingsFile_kept_1 K a))
noncomputable def m_SettingsFile_kept (K : PySem.W.Frag) (a : Ad) : List U → M U:=fnM 4 (g_SettingsFile_kept K a) wFrz
noncomputable def b_L_law_kept_1 (K : PySem.W.Frag) (a : Ad) : G :=
  (sSeq (sAsg (f2 oAdd (f2 oAdd (f2 oAdd (vC (.str "#~ ")) (fB (pu oStr) (fCons (vVar 2) fNil))) (vC (.str " "))) (vVar 3)) (tgN 5))
  (sExpr (fM "list" mAppend (vVar 1) (fCons (fIf (asB (f2 oIsN (vVar 4) (vC .non))) (vVar 5) (f2 oAdd (f2 oAdd (vVar 5) (vC (.str " = "))) (vVar 4))) fNil))))
noncomputable def g_L_law_kept (K : PySem.W.Frag) (a : Ad) : G :=
  (sSeq (sAsg (fLstC fNil) (tgN 1))
  (sSeq (sFor (fIter (fMeth a.C_SettingsFile "kept" 0 0 gPos (m_SettingsFile_kept K a) (vVar 0) (fCW fNil fNil))) (tgT 3 (tgCons (tgN 2) (tgCons (tgN 3) (tgCons (tgN 4) tgNil)))) (b_L_law_kept_1 K a))
  (sRet (vVar 1))))
noncomputable def m_L_law_kept (K : PySem.W.Frag) (a : Ad) : List U → M U:=fnM 6 (g_L_law_kept K a) wFrz
noncomputable def q_SettingsFile_pairs (a : Ad) : U → Option (List D):=rowQ a.C_SettingsFile "all_parts" "place"
noncomputable def g_SettingsFile_lines (K : PySem.W.Frag) (a : Ad) : G :=
  (sRet (fCall 1 0 gPos (m_lines_of K a) (fCW (fCons (fFld [a.C_SettingsFile] "whole" (vVar 0)) fNil) fNil)))
noncomputable def m_SettingsFile_lines (K : PySem.W.Frag) (a : Ad) : List U → M U:=fnM 1 (g_SettingsFile_lines K a) wFrz
noncomputable def c_law_1 (K : PySem.W.Frag) (a : Ad) : F U :=
  fLc (fIter (vVar 4)) (tgN 6) (bNot (asT (fM "str" (pu4 mStarts) (vVar 6) (fCons (vC (.str "#~")) fNil)))) (vVar 6) [6]
noncomputable def c_law_2 (K : PySem.W.Frag) (a : Ad) : F U :=
  fLc (fIter (vVar 4)) (tgN 6) (asT (fM "str" (pu4 mStarts) (vVar 6) (fCons (vC (.str "#~")) fNil))) (vVar 6) [6]
noncomputable def c_law_3 (K : PySem.W.Frag) (a : Ad) : F U :=
  fLcG a.C_SettingsFile "pairs" (q_SettingsFile_pairs a) (vVar 5) (tgT 2 (tgCons (tgN 7) (tgCons (tgN 8) tgNil))) (vVar 7) [7,8]
noncomputable def b_law_1 (K : PySem.W.Frag) (a : Ad) : G :=
  (sSeq (sAsg (fCall 2 0 gPos (m_L_law_drawn K a) (fCW (fCons (vVar 2) (fCons (f2 oEq (f2 oMod (vVar 3) (vC (.int 2))) (vC (.int 1))) fNil)) fNil)) (tgN 4))
  (sSeq (sAsg (fWr wFrz (fMake a.C_SettingsFile 1 0 gPos (m_SettingsFile_init K a) (fCW (fCons (fM "str" (pu4 mJoin) (vC (.str "\n")) (fCons (vVar 4) fNil)) fNil) fNil))) (tgN 5))
  (sSeq (sAsg (fIf (asB (f2 oEq (vVar 4) (fN vLst (fCons (vC (.str "")) fNil)))) (fN vLst fNil) (vVar 4)) (tgN 4))
  (sSeq (sIf (asB (f2 oNe (fCall 1 0 gPos (m_L_law_together K a) (fCW (fCons (vVar 5) fNil) fNil)) (c_law_1 K a)))
  (sRet (vC (.bl false)))
  sNil)
  (sSeq (sIf (asB (f2 oNe (fCall 1 0 gPos (m_L_law_kept K a) (fCW (fCons (vVar 5) fNil) fNil)) (c_law_2 K a)))
  (sRet (vC (.bl false)))
  sNil)
  (sIf (bOr (asB (f2 oNe (fB (pu oSortS) (fCons (fMeth a.C_SettingsFile "places" 0 0 gPos (m_SettingsFile_places K a) (vVar 5) (fCW fNil fNil)) fNil)) (fB (pu oSortS) (fCons (c_law_3 K a) fNil)))) (asB (f2 oNe (fProp a.C_SettingsFile (m_SettingsFile_lines K a) (vVar 5)) (vVar 4))))
  (sRet (vC (.bl false)))
  sNil))))))
noncomputable def b_law_2 (K : PySem.W.Frag) (a : Ad) : G :=
  (sSeq (sAsg (fCall 2 0 gPos (m_L_law_bag K a) (fCW (fCons (vVar 0) (fCons (vVar 1) fNil)) fNil)) (tgN 2))
  (sFor (fItN itR (fCons (vC (.int 8)) fNil)) (tgN 3) (b_law_1 K a)))
noncomputable def g_law (K : PySem.W.Frag) (a : Ad) : G :=
  (sSeq (sFor (fItN itR (fCons (fB (pu oMax) (fCons (vC (.int 1)) (fCons (fB (pu oMin) (fCons (vC (.int 4)) (fCons (fB (pu oLen) (fCons (vVar 0) fNil)) fNil))) fNil))) fNil)) (tgN 1) (b_law_2 K a))
  (sRet (vC (.bl true))))
noncomputable def m_law (K : PySem.W.Frag) (a : Ad) : List U → M U:=fnM 9 (g_law K a) wFrz
end
structure Tx (K : PySem.W.Frag) (mg : Str → Option Value) (base : Heap) (a : Ad) : Prop where
 z_abs : mg "abs" = none
 z_all : mg "all" = none
 z_dict : mg "dict" = none
 z_enumerate : mg "enumerate" = none
 z_int : mg "int" = none
 z_isinstance : mg "isinstance" = none
 z_len : mg "len" = none
 z_list : mg "list" = none
 z_max : mg "max" = none
 z_min : mg "min" = none
 z_range : mg "range" = none
 z_sorted : mg "sorted" = none
 z_str : mg "str" = none
 g_DIGITS : GStr mg "DIGITS" "0123456789"
 g_KEPT : GStr mg "KEPT" "kept"
 g_LETTERS : GStr mg "LETTERS" "abcdefghijklmnopqrstuvwxyz"
 g_MOST_LETTERS : GInt mg "MOST_LETTERS" 8
 g_MOST_SIGNS : GInt mg "MOST_SIGNS" 12
 g_PLACE : GStr mg "PLACE" "place"
 g_REMARK : GStr mg "REMARK" "remark"
 g_SECTION : GStr mg "SECTION" "section"
 m_Reader : mg "Reader" = some (.ref a.C_Reader)
 cl_Reader : Cls K a.C_Reader
 m_SettingsFile : mg "SettingsFile" = some (.ref a.C_SettingsFile)
 cl_SettingsFile : Cls K a.C_SettingsFile
 mk_Reader : Mk K a.C_Reader a.f_Reader_init
 mk_SettingsFile : Mk K a.C_SettingsFile a.f_SettingsFile_init
 me_Reader_put : Meth K a.C_Reader "put" a.f_Reader_put
 me_Reader_take : Meth K a.C_Reader "take" a.f_Reader_take
 me_Reader_take_kept : Meth K a.C_Reader "take_kept" a.f_Reader_take_kept
 me_Reader_take_setting : Meth K a.C_Reader "take_setting" a.f_Reader_take_setting
 me_SettingsFile_block : Meth K a.C_SettingsFile "block" a.f_SettingsFile_block
 me_SettingsFile_kept : Meth K a.C_SettingsFile "kept" a.f_SettingsFile_kept
 me_SettingsFile_pairs : Meth K a.C_SettingsFile "pairs" a.f_SettingsFile_pairs
 me_SettingsFile_places : Meth K a.C_SettingsFile "places" a.f_SettingsFile_places
 me_SettingsFile_sections : Meth K a.C_SettingsFile "sections" a.f_SettingsFile_sections
 me_SettingsFile_tail : Meth K a.C_SettingsFile "tail" a.f_SettingsFile_tail
 me_SettingsFile_value : Meth K a.C_SettingsFile "value" a.f_SettingsFile_value
 fl_all_parts_SettingsFile : Flds K [a.C_SettingsFile] "all_parts"
 fl_met_Reader : Flds K [a.C_Reader] "met"
 fl_parts_Reader : Flds K [a.C_Reader] "parts"
 fl_parts_SettingsFile : Flds K [a.C_SettingsFile] "parts"
 fl_section_Reader : Flds K [a.C_Reader] "section"
 fl_settings_read_SettingsFile : Flds K [a.C_SettingsFile] "settings_read"
 fl_whole_SettingsFile : Flds K [a.C_SettingsFile] "whole"
 m_L_law_bag : mg "_law_bag" = some (.ref a.f_L_law_bag)
 k_L_law_bag : PySem.W.keepIn K (.ref a.f_L_law_bag) = true
 F_L_law_bag : ∃ fd,Fun K "_law_bag" "_law_bag" s_L_law_bag a.f_L_law_bag fd
 m_L_law_take : mg "_law_take" = some (.ref a.f_L_law_take)
 k_L_law_take : PySem.W.keepIn K (.ref a.f_L_law_take) = true
 F_L_law_take : ∃ fd,Fun K "_law_take" "_law_take" s_L_law_take a.f_L_law_take fd
 m_L_law_of : mg "_law_of" = some (.ref a.f_L_law_of)
 k_L_law_of : PySem.W.keepIn K (.ref a.f_L_law_of) = true
 F_L_law_of : ∃ fd,Fun K "_law_of" "_law_of" s_L_law_of a.f_L_law_of fd
 m_L_law_mixed : mg "_law_mixed" = some (.ref a.f_L_law_mixed)
 k_L_law_mixed : PySem.W.keepIn K (.ref a.f_L_law_mixed) = true
 F_L_law_mixed : ∃ fd,Fun K "_law_mixed" "_law_mixed" s_L_law_mixed a.f_L_law_mixed fd
 m_L_law_drawn : mg "_law_drawn" = some (.ref a.f_L_law_drawn)
 k_L_law_drawn : PySem.W.keepIn K (.ref a.f_L_law_drawn) = true
 F_L_law_drawn : ∃ fd,Fun K "_law_drawn" "_law_drawn" s_L_law_drawn a.f_L_law_drawn fd
 F_Reader_init : ∃ fd,Fun K "__init__" "Reader.__init__" s_Reader_init a.f_Reader_init fd
 m_lines_of : mg "lines_of" = some (.ref a.f_lines_of)
 k_lines_of : PySem.W.keepIn K (.ref a.f_lines_of) = true
 F_lines_of : ∃ fd,Fun K "lines_of" "lines_of" s_lines_of a.f_lines_of fd
 m_is_made_of : mg "is_made_of" = some (.ref a.f_is_made_of)
 k_is_made_of : PySem.W.keepIn K (.ref a.f_is_made_of) = true
 F_is_made_of : ∃ fd,Fun K "is_made_of" "is_made_of" s_is_made_of a.f_is_made_of fd
 m_is_number : mg "is_number" = some (.ref a.f_is_number)
 k_is_number : PySem.W.keepIn K (.ref a.f_is_number) = true
 F_is_number : ∃ fd,Fun K "is_number" "is_number" s_is_number a.f_is_number fd
 m_is_name : mg "is_name" = some (.ref a.f_is_name)
 k_is_name : PySem.W.keepIn K (.ref a.f_is_name) = true
 F_is_name : ∃ fd,Fun K "is_name" "is_name" s_is_name a.f_is_name fd
 m_is_place : mg "is_place" = some (.ref a.f_is_place)
 k_is_place : PySem.W.keepIn K (.ref a.f_is_place) = true
 F_is_place : ∃ fd,Fun K "is_place" "is_place" s_is_place a.f_is_place fd
 m_is_value : mg "is_value" = some (.ref a.f_is_value)
 k_is_value : PySem.W.keepIn K (.ref a.f_is_value) = true
 F_is_value : ∃ fd,Fun K "is_value" "is_value" s_is_value a.f_is_value fd
 m_kept_in : mg "kept_in" = some (.ref a.f_kept_in)
 k_kept_in : PySem.W.keepIn K (.ref a.f_kept_in) = true
 F_kept_in : ∃ fd,Fun K "kept_in" "kept_in" s_kept_in a.f_kept_in fd
 F_Reader_put : ∃ fd,Fun K "put" "Reader.put" s_Reader_put a.f_Reader_put fd
 F_Reader_take_kept : ∃ fd,Fun K "take_kept" "Reader.take_kept" s_Reader_take_kept a.f_Reader_take_kept fd
 m_section_in : mg "section_in" = some (.ref a.f_section_in)
 k_section_in : PySem.W.keepIn K (.ref a.f_section_in) = true
 F_section_in : ∃ fd,Fun K "section_in" "section_in" s_section_in a.f_section_in fd
 m_setting_in : mg "setting_in" = some (.ref a.f_setting_in)
 k_setting_in : PySem.W.keepIn K (.ref a.f_setting_in) = true
 F_setting_in : ∃ fd,Fun K "setting_in" "setting_in" s_setting_in a.f_setting_in fd
 F_Reader_take_setting : ∃ fd,Fun K "take_setting" "Reader.take_setting" s_Reader_take_setting a.f_Reader_take_setting fd
 F_Reader_take : ∃ fd,Fun K "take" "Reader.take" s_Reader_take a.f_Reader_take fd
 m_parts_of : mg "parts_of" = some (.ref a.f_parts_of)
 k_parts_of : PySem.W.keepIn K (.ref a.f_parts_of) = true
 F_parts_of : ∃ fd,Fun K "parts_of" "parts_of" s_parts_of a.f_parts_of fd
 F_SettingsFile_init : ∃ fd,Fun K "__init__" "SettingsFile.__init__" s_SettingsFile_init a.f_SettingsFile_init fd
 F_SettingsFile_places : ∃ fd,Fun K "places" "SettingsFile.places" s_SettingsFile_places a.f_SettingsFile_places fd
 F_SettingsFile_sections : ∃ fd,Fun K "sections" "SettingsFile.sections" s_SettingsFile_sections a.f_SettingsFile_sections fd
 F_SettingsFile_block : ∃ fd,Fun K "block" "SettingsFile.block" s_SettingsFile_block a.f_SettingsFile_block fd
 F_SettingsFile_value : ∃ fd,Fun K "value" "SettingsFile.value" s_SettingsFile_value a.f_SettingsFile_value fd
 F_SettingsFile_tail : ∃ fd,Fun K "tail" "SettingsFile.tail" s_SettingsFile_tail a.f_SettingsFile_tail fd
 m_L_law_together : mg "_law_together" = some (.ref a.f_L_law_together)
 k_L_law_together : PySem.W.keepIn K (.ref a.f_L_law_together) = true
 F_L_law_together : ∃ fd,Fun K "_law_together" "_law_together" s_L_law_together a.f_L_law_together fd
 F_SettingsFile_kept : ∃ fd,Fun K "kept" "SettingsFile.kept" s_SettingsFile_kept a.f_SettingsFile_kept fd
 m_L_law_kept : mg "_law_kept" = some (.ref a.f_L_law_kept)
 k_L_law_kept : PySem.W.keepIn K (.ref a.f_L_law_kept) = true
 F_L_law_kept : ∃ fd,Fun K "_law_kept" "_law_kept" s_L_law_kept a.f_L_law_kept fd
 F_SettingsFile_pairs : ∃ fd,Fun K "pairs" "SettingsFile.pairs" s_SettingsFile_pairs a.f_SettingsFile_pairs fd
 F_SettingsFile_lines : ∃ fd,Fun K "lines" "SettingsFile.lines" s_SettingsFile_lines a.f_SettingsFile_lines fd
 pp_SettingsFile_lines : PropOf K a.C_SettingsFile "lines" a.p_SettingsFile_lines a.f_SettingsFile_lines
 own : Own K a.own
section
variable {P : Program} {w : World} {K : PySem.W.Frag} {mg : Str → Option Value} {base : Heap} {a : Ad}
set_option maxHeartbeats 4000000 in
theorem fn_L_law_bag {fd : FuncData} (F : Fun K "_law_bag" "_law_bag" s_L_law_bag a.f_L_law_bag fd) (T : Tx K mg base a) : FnG P w K mg base 1 a.f_L_law_bag fd ["_law_script","_law_at"] (spM K 2 (m_L_law_bag K a)) :=
 fn_ok F sc_L_law_bag wKeep_ok fun cdv A outer s H E hr=>(show DB _ _ _ (g_L_law_bag K a) from
   (db_cons (ds_set 2 sc_L_law_bag.nd (d_if (dt_cmp op_lt' (d_var 1) (d_bi cr_len T.z_len bt_len (da_cons (d_var 0) da_nil))) (d_ix hr.u1 (d_var 0) (d_var 1)) d_int))
   (db_cons (ds_set 3 sc_L_law_bag.nd (d_op op_add' (d_op op_mul' d_int (d_var 1)) d_int))
   (db_cons (ds_for (passes_of rfl) rfl (d_enum T.z_enumerate (da_cons (d_sl (d_var 0) do_none (do_some d_int)) da_nil)) (dg_tup rfl (dgs_cons (dg_name 4 sc_L_law_bag.nd) (dgs_cons (dg_name 5 sc_L_law_bag.nd) dgs_nil))) (db_one (ds_set 3 sc_L_law_bag.nd (d_op op_mod' (d_bt cr_int T.z_int bt_int (da_cons (d_op op_add' (d_op op_add' (d_op op_add' (d_op op_mul' (d_var 3) d_int) (d_op op_mod' (d_bt cr_int T.z_int bt_int (da_cons (d_var 5) da_nil)) d_int)) (d_op op_mul' d_int (d_var 4))) d_int) da_nil)) d_int))))
   (db_one (ds_ret (d_lstC (da_cons (d_if (dt_cmp op_ge' (d_bi cr_abs T.z_abs bt_abs (da_cons (d_var 2) da_nil)) (d_op op_pow' d_int d_int)) (d_bi cr_abs T.z_abs bt_abs (da_cons (d_var 2) da_nil)) d_int) (da_cons (d_var 3) da_nil)))))))))
theorem ok_L_law_bag (T : Tx K mg base a) : Fd P w K mg base a.f_L_law_bag 1 2 [] gPos (m_L_law_bag K a):=by
 obtain ⟨fd,F⟩:=T.F_L_law_bag
 exact Fd.of (fn_L_law_bag F T) (bd_pos (F.binds (ps:=["_law_script","_law_at"]) fun _ _ _ _ _ _ us hl=>(by obtain ⟨_,_,rfl⟩:=ls_2 hl; rfl)))
set_option maxHeartbeats 4000000 in
theorem fn_L_law_take {fd : FuncData} (F : Fun K "_law_take" "_law_take" s_L_law_take a.f_L_law_take fd) (T : Tx K mg base a) : FnG P w K mg base 1 a.f_L_law_take fd ["_law_bag_here","_law_many"] (spM K 2 (m_L_law_take K a)) :=
 fn_ok F sc_L_law_take wCut_ok fun cdv A outer s H E hr=>(show DB _ _ _ (g_L_law_take K a) from
   (db_cons (ds_if (dt_cmp op_gt' (d_ix hr.u1 (d_var 0) d_int) d_int) (db_cons (ds_set 2 sc_L_law_take.nd (d_op op_mod' (d_bt cr_int T.z_int bt_int (da_cons (d_ix hr.u1 (d_var 0) d_int) da_nil)) (d_var 1)))
   (db_cons (ds_asg (d_op op_fdiv' (d_ix hr.u1 (d_var 0) d_int) (d_var 1)) (dg_sub (W:=W0) hr.u1 (d_var 0) d_int) nx_sub)
   (db_one (ds_ret (d_var 2))))) db_nil)
   (db_cons (ds_asg (d_op op_mod' (d_bt cr_int T.z_int bt_int (da_cons (d_op op_add' (d_op op_mul' (d_ix hr.u1 (d_var 0) d_int) d_int) d_int) da_nil)) d_int) (dg_sub (W:=W0) hr.u1 (d_var 0) d_int) nx_sub)
   (db_one (ds_ret (d_op op_mod' (d_op op_fdiv' (d_op op_mod' (d_bt cr_int T.z_int bt_int (da_cons (d_op op_mul' (d_op op_fdiv' (d_ix hr.u1 (d_var 0) d_int) d_int) d_int) da_nil)) d_int) d_int) (d_var 1)))))))
theorem ok_L_law_take (T : Tx K mg base a) : Fd P w K mg base a.f_L_law_take 1 2 [] gPos (m_L_law_take K a):=by
 obtain ⟨fd,F⟩:=T.F_L_law_take
 exact Fd.of (fn_L_law_take F T) (bd_pos (F.binds (ps:=["_law_bag_here","_law_many"]) fun _ _ _ _ _ _ us hl=>(by obtain ⟨_,_,rfl⟩:=ls_2 hl; rfl)))
set_option maxHeartbeats 4000000 in
theorem fn_L_law_of {fd : FuncData} (F : Fun K "_law_of" "_law_of" s_L_law_of a.f_L_law_of fd) (T : Tx K mg base a) : FnG P w K mg base 2 a.f_L_law_of fd ["_law_bag_here","_law_some"] (spM K 2 (m_L_law_of K a)) :=
 fn_ok F sc_L_law_of wFrz_ok fun cdv A outer s H E hr=>(show DB _ _ _ (g_L_law_of K a) from
   (db_one (ds_ret (d_ix hr.u1 (d_var 1) (d_call (ok_L_law_take T) T.m_L_law_take T.k_L_law_take (hr.mono (by decide)) (takes_of rfl rfl rfl rfl) (cw_pos (da_cons (d_var 0) (da_cons (d_bi cr_len T.z_len bt_len (da_cons (d_var 1) da_nil)) da_nil))))))))
theorem ok_L_law_of (T : Tx K mg base a) : Fd P w K mg base a.f_L_law_of 2 2 [] gPos (m_L_law_of K a):=by
 obtain ⟨fd,F⟩:=T.F_L_law_of
 exact Fd.of (fn_L_law_of F T) (bd_pos (F.binds (ps:=["_law_bag_here","_law_some"]) fun _ _ _ _ _ _ us hl=>(by obtain ⟨_,_,rfl⟩:=ls_2 hl; rfl)))
set_option maxHeartbeats 4000000 in
theorem fn_L_law_mixed {fd : FuncData} (F : Fun K "_law_mixed" "_law_mixed" s_L_law_mixed a.f_L_law_mixed fd) (T : Tx K mg base a) : FnG P w K mg base 2 a.f_L_law_mixed fd ["_law_bag_here","_law_things"] (spM K 2 (m_L_law_mixed K a)) :=
 fn_ok F sc_L_law_mixed wFrz_ok fun cdv A outer s H E hr=>(show DB _ _ _ (g_L_law_mixed K a) from
   (db_cons (ds_par 2 3 rfl sc_L_law_mixed.nd (da_cons (d_bt cr_listC T.z_list bt_list (da_cons (d_var 1) da_nil)) (da_cons (d_lstC da_nil) da_nil)) (by decide) rfl)
   (db_cons (ds_while 100 (passes_of rfl) (dt_cmp (op_ne' hr.u64) (d_var 2) (d_lst da_nil)) (db_one (ds_expr (d_m PySem.F.plainAttrs_list PySem.F.slot_list_append PySem.F.type_list_append mt_append' (d_var 3) (da_cons (d_m PySem.F.plainAttrs_list PySem.F.slot_list_pop PySem.F.type_list_pop mt_pop' (d_var 2) (da_cons (d_call (ok_L_law_take T) T.m_L_law_take T.k_L_law_take (hr.mono (by decide)) (takes_of rfl rfl rfl rfl) (cw_pos (da_cons (d_var 0) (da_cons (d_bi cr_len T.z_len bt_len (da_cons (d_var 2) da_nil)) da_nil)))) da_nil)) da_nil)))))
   (db_one (ds_ret (d_var 3))))))
theorem ok_L_law_mixed (T : Tx K mg base a) : Fd P w K mg base a.f_L_law_mixed 2 2 [] gPos (m_L_law_mixed K a):=by
 obtain ⟨fd,F⟩:=T.F_L_law_mixed
 exact Fd.of (fn_L_law_mixed F T) (bd_pos (F.binds (ps:=["_law_bag_here","_law_things"]) fun _ _ _ _ _ _ us hl=>(by obtain ⟨_,_,rfl⟩:=ls_2 hl; rfl)))
set_option maxHeartbeats 4000000 in
theorem fn_L_law_drawn {fd : FuncData} (F : Fun K "_law_drawn" "_law_drawn" s_L_law_drawn a.f_L_law_drawn fd) (T : Tx K mg base a) : FnG P w K mg base 3 a.f_L_law_drawn fd ["_law_bag_here","_law_with_kept"] (spM K 2 (m_L_law_drawn K a)) :=
 fn_ok F sc_L_law_drawn wFrz_ok fun cdv A outer s H E hr=>(show DB _ _ _ (g_L_law_drawn K a) from
   (db_cons (ds_set 2 sc_L_law_drawn.nd (d_lst (da_cons d_str (da_cons d_str (da_cons d_str (da_cons d_str (da_cons d_str da_nil)))))))
   (db_cons (ds_setLcCV 3 rfl sc_L_law_drawn.nd (sw_true rfl rfl rfl (by decide +kernel)) (d_range1 T.z_range (da_cons (d_call (ok_L_law_take T) T.m_L_law_take T.k_L_law_take (hr.mono (by decide)) (takes_of rfl rfl rfl rfl) (cw_pos (da_cons (d_var 0) (da_cons d_int da_nil)))) da_nil)) (blkOk_by (N:=N_L_law_drawn) (sc:=defScope s_L_law_drawn) (own:=[("_law_turn",4)]) (by decide +kernel)) (fun _ _ _ _ _=>(dg_name 4 sc_L_law_drawn.nd)) (fun _ _ _ _ _=>dts_nil) (fun _ _ _ _ _=>(d_call (ok_L_law_of T) T.m_L_law_of T.k_L_law_of (hr.mono (by decide)) takes0 (cw_pos (da_cons (d_var 0) (da_cons (d_var 2) da_nil))))))
   (db_cons (ds_for (passes_of rfl) rfl (d_iter (d_sl (d_call (ok_L_law_mixed T) T.m_L_law_mixed T.k_L_law_mixed (hr.mono (by decide)) (takes_of rfl rfl rfl rfl) (cw_pos (da_cons (d_var 0) (da_cons (d_lst (da_cons d_str (da_cons d_str (da_cons d_str da_nil)))) da_nil)))) do_none (do_some (d_call (ok_L_law_take T) T.m_L_law_take T.k_L_law_take (hr.mono (by decide)) (takes_of rfl rfl rfl rfl) (cw_pos (da_cons (d_var 0) (da_cons d_int da_nil))))))) (dg_name 5 sc_L_law_drawn.nd) (db_cons (ds_expr (d_m PySem.F.plainAttrs_list PySem.F.slot_list_append PySem.F.type_list_append mt_append' (d_var 3) (da_cons (d_op op_add' (d_op op_add' d_str (d_var 5)) d_str) da_nil)))
   (db_cons (ds_for (passes_of rfl) rfl (d_iter (d_sl (d_call (ok_L_law_mixed T) T.m_L_law_mixed T.k_L_law_mixed (hr.mono (by decide)) (takes_of rfl rfl rfl rfl) (cw_pos (da_cons (d_var 0) (da_cons (d_lst (da_cons d_str (da_cons d_str (da_cons d_str da_nil)))) da_nil)))) do_none (do_some (d_call (ok_L_law_take T) T.m_L_law_take T.k_L_law_take (hr.mono (by decide)) (takes_of rfl rfl rfl rfl) (cw_pos (da_cons (d_var 0) (da_cons d_int da_nil))))))) (dg_name 6 sc_L_law_drawn.nd) (db_cons (ds_set 3 sc_L_law_drawn.nd (d_opS op_addC vAddC_no (d_var 3) (d_lcV rfl sc_L_law_drawn.nd (d_range1 T.z_range (da_cons (d_call (ok_L_law_take T) T.m_L_law_take T.k_L_law_take (hr.mono (by decide)) (takes_of rfl rfl rfl rfl) (cw_pos (da_cons (d_var 0) (da_cons d_int da_nil)))) da_nil)) (blkOk_by (N:=N_L_law_drawn) (sc:=defScope s_L_law_drawn) (own:=[("_law_turn",4)]) (by decide +kernel)) (fun _ _ _ _ _=>(dg_name 4 sc_L_law_drawn.nd)) (fun _ _ _ _ _=>dts_nil) (fun _ _ _ _ _=>(d_call (ok_L_law_of T) T.m_L_law_of T.k_L_law_of (hr.mono (by decide)) takes0 (cw_pos (da_cons (d_var 0) (da_cons (d_var 2) da_nil))))))))
   (db_cons (ds_if (dw_pt (dw_and (dt_truth (d_var 1)) (dw_and1 (dt_cmp (op_eq' hr.u64) (d_call (ok_L_law_take T) T.m_L_law_take T.k_L_law_take (hr.mono (by decide)) (takes_of rfl rfl rfl rfl) (cw_pos (da_cons (d_var 0) (da_cons d_int da_nil)))) d_int)))) (db_one (ds_expr (d_m PySem.F.plainAttrs_list PySem.F.slot_list_append PySem.F.type_list_append mt_append' (d_var 3) (da_cons (d_op op_add' (d_op op_add' (d_op op_add' d_str (d_bt cr_str T.z_str bt_str (da_cons (d_bi cr_len T.z_len bt_len (da_cons (d_var 3) da_nil)) da_nil))) d_str) (d_ix hr.u1 (d_lst (da_cons d_str (da_cons d_str da_nil))) (d_call (ok_L_law_take T) T.m_L_law_take T.k_L_law_take (hr.mono (by decide)) (takes_of rfl rfl rfl rfl) (cw_pos (da_cons (d_var 0) (da_cons d_int da_nil)))))) da_nil)))) db_nil)
   (db_one (ds_expr (d_m PySem.F.plainAttrs_list PySem.F.slot_list_append PySem.F.type_list_append mt_append' (d_var 3) (da_cons (d_op op_add' (d_op op_add' (d_var 6) d_str) (d_call (ok_L_law_of T) T.m_L_law_of T.k_L_law_of (hr.mono (by decide)) (takes_of rfl rfl rfl rfl) (cw_pos (da_cons (d_var 0) (da_cons (d_lst (da_cons d_str (da_cons d_str (da_cons d_str da_nil)))) da_nil))))) da_nil)))))))
   (db_one (ds_set 3 sc_L_law_drawn.nd (d_opS op_addC vAddC_no (d_var 3) (d_lcV rfl sc_L_law_drawn.nd (d_range1 T.z_range (da_cons (d_call (ok_L_law_take T) T.m_L_law_take T.k_L_law_take (hr.mono (by decide)) (takes_of rfl rfl rfl rfl) (cw_pos (da_cons (d_var 0) (da_cons d_int da_nil)))) da_nil)) (blkOk_by (N:=N_L_law_drawn) (sc:=defScope s_L_law_drawn) (own:=[("_law_turn",4)]) (by decide +kernel)) (fun _ _ _ _ _=>(dg_name 4 sc_L_law_drawn.nd)) (fun _ _ _ _ _=>dts_nil) (fun _ _ _ _ _=>(d_call (ok_L_law_of T) T.m_L_law_of T.k_L_law_of (hr.mono (by decide)) takes0 (cw_pos (da_cons (d_var 0) (da_cons (d_var 2) da_nil))))))))))))
   (db_one (ds_ret (d_var 3)))))))
theorem ok_L_law_drawn (T : Tx K mg base a) : Fd P w K mg base a.f_L_law_drawn 3 2 [] gPos (m_L_law_drawn K a):=by
 obtain ⟨fd,F⟩:=T.F_L_law_drawn
 exact Fd.of (fn_L_law_drawn F T) (bd_pos (F.binds (ps:=["_law_bag_here","_law_with_kept"]) fun _ _ _ _ _ _ us hl=>(by obtain ⟨_,_,rfl⟩:=ls_2 hl; rfl)))
set_option maxHeartbeats 4000000 in
theorem fn_Reader_init {fd : FuncData} (F : Fun K "__init__" "Reader.__init__" s_Reader_init a.f_Reader_init fd) (T : Tx K mg base a) : FnG P w K mg base 1 a.f_Reader_init fd ["self"] (spM K 1 (m_Reader_init K a)) :=
 fn_ok F sc_Reader_init wId_ok fun cdv A outer s H E hr=>(show DB _ _ _ (g_Reader_init K a) from
   (db_cons (ds_fld (cs:=[a.C_Reader]) (d_var 0) d_non T.fl_section_Reader)
   (db_cons (ds_fld (cs:=[a.C_Reader]) (d_var 0) (d_lstC da_nil) T.fl_met_Reader)
   (db_one (ds_fld (cs:=[a.C_Reader]) (d_var 0) (d_lstC da_nil) T.fl_parts_Reader)))))
theorem ok_Reader_init (T : Tx K mg base a) : Fd P w K mg base a.f_Reader_init 1 1 [] gPos (m_Reader_init K a):=by
 obtain ⟨fd,F⟩:=T.F_Reader_init
 exact Fd.of (fn_Reader_init F T) (bd_pos (F.binds (ps:=["self"]) fun _ _ _ _ _ _ us hl=>(by obtain ⟨_,rfl⟩:=ls_1 hl; rfl)))
set_option maxHeartbeats 4000000 in
theorem fn_lines_of {fd : FuncData} (F : Fun K "lines_of" "lines_of" s_lines_of a.f_lines_of fd) (T : Tx K mg base a) : FnG P w K mg base 1 a.f_lines_of fd ["text"] (spM K 1 (m_lines_of K a)) :=
 fn_ok F sc_lines_of wFrz_ok fun cdv A outer s H E hr=>(show DB _ _ _ (g_lines_of K a) from
   (db_one (ds_ret (d_if (dt_cmp (op_ne' hr.u64) (d_var 0) d_str) (d_m PySem.F.plainAttrs_str PySem.F.slot_str_split PySem.F.type_str_split mt_split' (d_var 0) (da_cons d_str da_nil)) (d_lst da_nil)))))
theorem ok_lines_of (T : Tx K mg base a) : Fd P w K mg base a.f_lines_of 1 1 [] gPos (m_lines_of K a):=by
 obtain ⟨fd,F⟩:=T.F_lines_of
 exact Fd.of (fn_lines_of F T) (bd_pos (F.binds (ps:=["text"]) fun _ _ _ _ _ _ us hl=>(by obtain ⟨_,rfl⟩:=ls_1 hl; rfl)))
set_option maxHeartbeats 4000000 in
theorem fn_is_made_of {fd : FuncData} (F : Fun K "is_made_of" "is_made_of" s_is_made_of a.f_is_made_of fd) (T : Tx K mg base a) : FnG P w K mg base 1 a.f_is_made_of fd ["thing","signs","most"] (spM K 3 (m_is_made_of K a)) :=
 fn_ok F sc_is_made_of wFrz_ok fun cdv A outer s H E hr=>(show DB _ _ _ (g_is_made_of K a) from
   (db_one (ds_ret (d_and (d_bi (cr_isi T.own) T.z_isinstance bt_isinstance (da_cons (d_var 0) (da_cons (d_ty T.z_str bt_str) da_nil))) (d_and (d_chain op_le' op_le' bl_le d_int (d_bi cr_len T.z_len bt_len (da_cons (d_var 0) da_nil)) (d_var 2)) (d_one (d_bi (cr_all' rfl) T.z_all bt_all (da_cons (d_lcV rfl sc_is_made_of.nd (d_iter (d_var 0)) (blkOk_by (N:=N_is_made_of) (sc:=defScope s_is_made_of) (own:=[("sign",3)]) (by decide +kernel)) (fun _ _ _ _ _=>(dg_name 3 sc_is_made_of.nd)) (fun _ _ _ _ _=>dts_nil) (fun _ _ _ _ _=>(d_cmp (op_in' hr.u65) (d_var 3) (d_var 1)))) da_nil))))))))
theorem ok_is_made_of (T : Tx K mg base a) : Fd P w K mg base a.f_is_made_of 1 3 [] gPos (m_is_made_of K a):=by
 obtain ⟨fd,F⟩:=T.F_is_made_of
 exact Fd.of (fn_is_made_of F T) (bd_pos (F.binds (ps:=["thing","signs","most"]) fun _ _ _ _ _ _ us hl=>(by obtain ⟨_,_,_,rfl⟩:=ls_3 hl; rfl)))
set_option maxHeartbeats 4000000 in
theorem fn_is_number {fd : FuncData} (F : Fun K "is_number" "is_number" s_is_number a.f_is_number fd) (T : Tx K mg base a) : FnG P w K mg base 2 a.f_is_number fd ["thing"] (spM K 1 (m_is_number K a)) :=
 fn_ok F sc_is_number wFrz_ok fun cdv A outer s H E hr=>(show DB _ _ _ (g_is_number K a) from
   (db_one (ds_ret (d_and (d_call (ok_is_made_of T) T.m_is_made_of T.k_is_made_of (hr.mono (by decide)) (takes_of rfl rfl rfl rfl) (cw_pos (da_cons (d_var 0) (da_cons (d_gstr T.g_DIGITS) (da_cons d_int da_nil))))) (d_one (d_or (d_cmp (op_eq' hr.u64) (d_var 0) d_str) (d_one (d_cmp (op_ne' hr.u64) (d_ix hr.u1 (d_var 0) d_int) d_str))))))))
theorem ok_is_number (T : Tx K mg base a) : Fd P w K mg base a.f_is_number 2 1 [] gPos (m_is_number K a):=by
 obtain ⟨fd,F⟩:=T.F_is_number
 exact Fd.of (fn_is_number F T) (bd_pos (F.binds (ps:=["thing"]) fun _ _ _ _ _ _ us hl=>(by obtain ⟨_,rfl⟩:=ls_1 hl; rfl)))
set_option maxHeartbeats 4000000 in
theorem fn_is_name {fd : FuncData} (F : Fun K "is_name" "is_name" s_is_name a.f_is_name fd) (T : Tx K mg base a) : FnG P w K mg base 2 a.f_is_name fd ["thing"] (spM K 1 (m_is_name K a)) :=
 fn_ok F sc_is_name wFrz_ok fun cdv A outer s H E hr=>(show DB _ _ _ (g_is_name K a) from
   (db_one (ds_ret (d_call (ok_is_made_of T) T.m_is_made_of T.k_is_made_of (hr.mono (by decide)) (takes_of rfl rfl rfl rfl) (cw_pos (da_cons (d_var 0) (da_cons (d_gstr T.g_LETTERS) (da_cons (d_gint T.g_MOST_LETTERS) da_nil))))))))
theorem ok_is_name (T : Tx K mg base a) : Fd P w K mg base a.f_is_name 2 1 [] gPos (m_is_name K a):=by
 obtain ⟨fd,F⟩:=T.F_is_name
 exact Fd.of (fn_is_name F T) (bd_pos (F.binds (ps:=["thing"]) fun _ _ _ _ _ _ us hl=>(by obtain ⟨_,rfl⟩:=ls_1 hl; rfl)))
set_option maxHeartbeats 4000000 in
theorem fn_is_place {fd : FuncData} (F : Fun K "is_place" "is_place" s_is_place a.f_is_place fd) (T : Tx K mg base a) : FnG P w K mg base 3 a.f_is_place fd ["thing"] (spM K 1 (m_is_place K a)) :=
 fn_ok F sc_is_place wFrz_ok fun cdv A outer s H E hr=>(show DB _ _ _ (g_is_place K a) from
   (db_cons (ds_if (dt_not (dt_truth (d_bi (cr_isi T.own) T.z_isinstance bt_isinstance (da_cons (d_var 0) (da_cons (d_ty T.z_str bt_str) da_nil))))) (db_one (ds_ret d_bl)) db_nil)
   (db_cons (ds_asg (d_m PySem.F.plainAttrs_str PySem.F.slot_str_partition PySem.F.type_str_partition mt_partition' (d_var 0) (da_cons d_str da_nil)) (dg_tup rfl (dgs_cons (dg_name 1 sc_is_place.nd) (dgs_cons (dg_name 2 sc_is_place.nd) (dgs_cons (dg_name 3 sc_is_place.nd) dgs_nil)))) (nx_tup (nxs_cons (nx_name _) (nxs_cons (nx_name _) (nxs_cons (nx_name _) nxs_nil)))))
   (db_one (ds_ret (d_and (d_call (ok_is_name T) T.m_is_name T.k_is_name (hr.mono (by decide)) (takes_of rfl rfl rfl rfl) (cw_pos (da_cons (d_var 1) da_nil))) (d_one (d_call (ok_is_name T) T.m_is_name T.k_is_name (hr.mono (by decide)) (takes_of rfl rfl rfl rfl) (cw_pos (da_cons (d_var 3) da_nil))))))))))
theorem ok_is_place (T : Tx K mg base a) : Fd P w K mg base a.f_is_place 3 1 [] gPos (m_is_place K a):=by
 obtain ⟨fd,F⟩:=T.F_is_place
 exact Fd.of (fn_is_place F T) (bd_pos (F.binds (ps:=["thing"]) fun _ _ _ _ _ _ us hl=>(by obtain ⟨_,rfl⟩:=ls_1 hl; rfl)))
set_option maxHeartbeats 4000000 in
theorem fn_is_value {fd : FuncData} (F : Fun K "is_value" "is_value" s_is_value a.f_is_value fd) (T : Tx K mg base a) : FnG P w K mg base 2 a.f_is_value fd ["thing"] (spM K 1 (m_is_value K a)) :=
 fn_ok F sc_is_value wFrz_ok fun cdv A outer s H E hr=>(show DB _ _ _ (g_is_value K a) from
   (db_one (ds_ret (d_and (d_call (ok_is_made_of T) T.m_is_made_of T.k_is_made_of (hr.mono (by decide)) (takes_of rfl rfl rfl rfl) (cw_pos (da_cons (d_var 0) (da_cons (d_op op_add' (d_op op_add' (d_gstr T.g_LETTERS) (d_gstr T.g_DIGITS)) d_str) (da_cons (d_gint T.g_MOST_SIGNS) da_nil))))) (d_one (d_cmp (op_ne' hr.u64) (d_ix hr.u1 (d_var 0) d_int) d_str))))))
theorem ok_is_value (T : Tx K mg base a) : Fd P w K mg base a.f_is_value 2 1 [] gPos (m_is_value K a):=by
 obtain ⟨fd,F⟩:=T.F_is_value
 exact Fd.of (fn_is_value F T) (bd_pos (F.binds (ps:=["thing"]) fun _ _ _ _ _ _ us hl=>(by obtain ⟨_,rfl⟩:=ls_1 hl; rfl)))
set_option maxHeartbeats 4000000 in
theorem fn_kept_in {fd : FuncData} (F : Fun K "kept_in" "kept_in" s_kept_in a.f_kept_in fd) (T : Tx K mg base a) : FnG P w K mg base 4 a.f_kept_in fd ["line"] (spM K 1 (m_kept_in K a)) :=
 fn_ok F sc_kept_in wFrz_ok fun cdv A outer s H E hr=>(show DB _ _ _ (g_kept_in K a) from
   (db_cons (ds_set 1 sc_kept_in.nd (d_m PySem.F.plainAttrs_str PySem.F.slot_str_split PySem.F.type_str_split mt_split' (d_var 0) (da_cons d_str da_nil)))
   (db_cons (ds_if (dw_pt (dw_or (dt_cmp (op_notIn' hr.u65) (d_bi cr_len T.z_len bt_len (da_cons (d_var 1) da_nil)) (d_tupC (da_cons d_int (da_cons d_int da_nil)))) (dw_or (dt_cmp (op_ne' hr.u64) (d_ix hr.u1 (d_var 1) d_int) d_str) (dw_or (dt_not (dt_truth (d_call (ok_is_number T) T.m_is_number T.k_is_number (hr.mono (by decide)) (takes_of rfl rfl rfl rfl) (cw_pos (da_cons (d_ix hr.u1 (d_var 1) d_int) da_nil))))) (dw_or1 (dt_not (dt_truth (d_call (ok_is_place T) T.m_is_place T.k_is_place (hr.mono (by decide)) (takes_of rfl rfl rfl rfl) (cw_pos (da_cons (d_ix hr.u1 (d_var 1) d_int) da_nil)))))))))) (db_one (ds_ret d_non)) db_nil)
   (db_cons (ds_if (dt_cmp (op_eq' hr.u64) (d_bi cr_len T.z_len bt_len (da_cons (d_var 1) da_nil)) d_int) (db_one (ds_ret (d_tupC (da_cons (d_bt cr_int T.z_int bt_int (da_cons (d_ix hr.u1 (d_var 1) d_int) da_nil)) (da_cons (d_ix hr.u1 (d_var 1) d_int) (da_cons d_non da_nil)))))) db_nil)
   (db_one (ds_ret (d_if (dw_pt (dw_and (dt_cmp (op_eq' hr.u64) (d_ix hr.u1 (d_var 1) d_int) d_str) (dw_and1 (dt_truth (d_call (ok_is_value T) T.m_is_value T.k_is_value (hr.mono (by decide)) (takes_of rfl rfl rfl rfl) (cw_pos (da_cons (d_ix hr.u1 (d_var 1) d_int) da_nil))))))) (d_tupC (da_cons (d_bt cr_int T.z_int bt_int (da_cons (d_ix hr.u1 (d_var 1) d_int) da_nil)) (da_cons (d_ix hr.u1 (d_var 1) d_int) (da_cons (d_ix hr.u1 (d_var 1) d_int) da_nil)))) d_non)))))))
theorem ok_kept_in (T : Tx K mg base a) : Fd P w K mg base a.f_kept_in 4 1 [] gPos (m_kept_in K a):=by
 obtain ⟨fd,F⟩:=T.F_kept_in
 exact Fd.of (fn_kept_in F T) (bd_pos (F.binds (ps:=["line"]) fun _ _ _ _ _ _ us hl=>(by obtain ⟨_,rfl⟩:=ls_1 hl; rfl)))
set_option maxHeartbeats 4000000 in
theorem fn_Reader_put {fd : FuncData} (F : Fun K "put" "Reader.put" s_Reader_put a.f_Reader_put fd) (T : Tx K mg base a) : FnG P w K mg base 1 a.f_Reader_put fd ["self","at","word","name","thing","kind"] (spM K 6 (m_Reader_put K a)) :=
 fn_ok F sc_Reader_put wCut_ok fun cdv A outer s H E hr=>(show DB _ _ _ (g_Reader_put K a) from
   (db_cons (ds_if (dt_cmp (op_in' hr.u65) (d_tupC (da_cons (d_var 2) (da_cons (d_var 3) da_nil))) (d_fld (cs:=[a.C_Reader]) (d_var 0) T.fl_met_Reader)) db_no db_nil)
   (db_cons (ds_expr (d_m PySem.F.plainAttrs_list PySem.F.slot_list_append PySem.F.type_list_append mt_append' (d_fld (cs:=[a.C_Reader]) (d_var 0) T.fl_met_Reader) (da_cons (d_tupC (da_cons (d_var 2) (da_cons (d_var 3) da_nil))) da_nil)))
   (db_one (ds_expr (d_m PySem.F.plainAttrs_list PySem.F.slot_list_append PySem.F.type_list_append mt_append' (d_fld (cs:=[a.C_Reader]) (d_var 0) T.fl_parts_Reader) (da_cons (d_tupC (da_cons (d_var 1) (da_cons (d_var 2) (da_cons (d_var 4) da_nil)))) da_nil)))))))
theorem ok_Reader_put (T : Tx K mg base a) : Fd P w K mg base a.f_Reader_put 1 6 [] gPos (m_Reader_put K a):=by
 obtain ⟨fd,F⟩:=T.F_Reader_put
 exact Fd.of (fn_Reader_put F T) (bd_pos (F.binds (ps:=["self","at","word","name","thing","kind"]) fun _ _ _ _ _ _ us hl=>(by obtain ⟨_,_,_,_,_,_,rfl⟩:=ls_6 hl; rfl)))
set_option maxHeartbeats 4000000 in
theorem fn_Reader_take_kept {fd : FuncData} (F : Fun K "take_kept" "Reader.take_kept" s_Reader_take_kept a.f_Reader_take_kept fd) (T : Tx K mg base a) : FnG P w K mg base 2 a.f_Reader_take_kept fd ["self","at","kept"] (spM K 3 (m_Reader_take_kept K a)) :=
 fn_ok F sc_Reader_take_kept wCut_ok fun cdv A outer s H E hr=>(show DB _ _ _ (g_Reader_take_kept K a) from
   (db_cons (ds_if (dt_cmp op_isN' (d_var 2) d_non) db_no db_nil)
   (db_one (ds_expr (d_meth (d_var 0) T.cl_Reader T.me_Reader_put (ok_Reader_put T) (hr.mono (by decide)) (takes_of rfl rfl rfl rfl) (cw_pos (da_cons (d_var 1) (da_cons (d_gstr T.g_KEPT) (da_cons (d_sl (d_var 2) do_none (do_some d_int)) (da_cons (d_var 2) (da_cons d_str da_nil)))))))))))
theorem ok_Reader_take_kept (T : Tx K mg base a) : Fd P w K mg base a.f_Reader_take_kept 2 3 [] gPos (m_Reader_take_kept K a):=by
 obtain ⟨fd,F⟩:=T.F_Reader_take_kept
 exact Fd.of (fn_Reader_take_kept F T) (bd_pos (F.binds (ps:=["self","at","kept"]) fun _ _ _ _ _ _ us hl=>(by obtain ⟨_,_,_,rfl⟩:=ls_3 hl; rfl)))
set_option maxHeartbeats 4000000 in
theorem fn_section_in {fd : FuncData} (F : Fun K "section_in" "section_in" s_section_in a.f_section_in fd) (T : Tx K mg base a) : FnG P w K mg base 3 a.f_section_in fd ["line"] (spM K 1 (m_section_in K a)) :=
 fn_ok F sc_section_in wFrz_ok fun cdv A outer s H E hr=>(show DB _ _ _ (g_section_in K a) from
   (db_cons (ds_set 1 sc_section_in.nd (d_sl (d_var 0) (do_some d_int) (do_some (d_un un_neg' d_int))))
   (db_one (ds_ret (d_if (dw_pt (dw_and (dt_cmp (op_eq' hr.u64) (d_sl (d_var 0) do_none (do_some d_int)) d_str) (dw_and (dt_cmp (op_eq' hr.u64) (d_sl (d_var 0) (do_some (d_un un_neg' d_int)) do_none) d_str) (dw_and1 (dt_truth (d_call (ok_is_name T) T.m_is_name T.k_is_name (hr.mono (by decide)) (takes_of rfl rfl rfl rfl) (cw_pos (da_cons (d_var 1) da_nil)))))))) (d_var 1) d_non)))))
theorem ok_section_in (T : Tx K mg base a) : Fd P w K mg base a.f_section_in 3 1 [] gPos (m_section_in K a):=by
 obtain ⟨fd,F⟩:=T.F_section_in
 exact Fd.of (fn_section_in F T) (bd_pos (F.binds (ps:=["line"]) fun _ _ _ _ _ _ us hl=>(by obtain ⟨_,rfl⟩:=ls_1 hl; rfl)))
set_option maxHeartbeats 4000000 in
theorem fn_setting_in {fd : FuncData} (F : Fun K "setting_in" "setting_in" s_setting_in a.f_setting_in fd) (T : Tx K mg base a) : FnG P w K mg base 3 a.f_setting_in fd ["line"] (spM K 1 (m_setting_in K a)) :=
 fn_ok F sc_setting_in wFrz_ok fun cdv A outer s H E hr=>(show DB _ _ _ (g_setting_in K a) from
   (db_cons (ds_asg (d_m PySem.F.plainAttrs_str PySem.F.slot_str_partition PySem.F.type_str_partition mt_partition' (d_var 0) (da_cons d_str da_nil)) (dg_tup rfl (dgs_cons (dg_name 1 sc_setting_in.nd) (dgs_cons (dg_name 2 sc_setting_in.nd) (dgs_cons (dg_name 3 sc_setting_in.nd) dgs_nil)))) (nx_tup (nxs_cons (nx_name _) (nxs_cons (nx_name _) (nxs_cons (nx_name _) nxs_nil)))))
   (db_one (ds_ret (d_if (dw_pt (dw_and (dt_truth (d_call (ok_is_name T) T.m_is_name T.k_is_name (hr.mono (by decide)) (takes_of rfl rfl rfl rfl) (cw_pos (da_cons (d_var 1) da_nil)))) (dw_and1 (dt_truth (d_call (ok_is_value T) T.m_is_value T.k_is_value (hr.mono (by decide)) (takes_of rfl rfl rfl rfl) (cw_pos (da_cons (d_var 3) da_nil))))))) (d_tupC (da_cons (d_var 1) (da_cons (d_var 3) da_nil))) d_non)))))
theorem ok_setting_in (T : Tx K mg base a) : Fd P w K mg base a.f_setting_in 3 1 [] gPos (m_setting_in K a):=by
 obtain ⟨fd,F⟩:=T.F_setting_in
 exact Fd.of (fn_setting_in F T) (bd_pos (F.binds (ps:=["line"]) fun _ _ _ _ _ _ us hl=>(by obtain ⟨_,rfl⟩:=ls_1 hl; rfl)))
set_option maxHeartbeats 4000000 in
theorem fn_Reader_take_setting {fd : FuncData} (F : Fun K "take_setting" "Reader.take_setting" s_Reader_take_setting a.f_Reader_take_setting fd) (T : Tx K mg base a) : FnG P w K mg base 2 a.f_Reader_take_setting fd ["self","at","setting"] (spM K 3 (m_Reader_take_setting K a)) :=
 fn_ok F sc_Reader_take_setting wCut_ok fun cdv A outer s H E hr=>(show DB _ _ _ (g_Reader_take_setting K a) from
   (db_cons (ds_if (dt_cmp op_isN' (d_var 2) d_non) db_no db_nil)
   (db_cons (ds_if (dt_cmp op_isN' (d_fld (cs:=[a.C_Reader]) (d_var 0) T.fl_section_Reader) d_non) db_no db_nil)
   (db_cons (ds_set 3 sc_Reader_take_setting.nd (d_joined (dj_cons (d_fmt (d_fld (cs:=[a.C_Reader]) (d_var 0) T.fl_section_Reader)) (dj_cons d_str (dj_cons (d_fmt (d_ix hr.u1 (d_var 2) d_int)) dj_nil)))))
   (db_one (ds_expr (d_meth (d_var 0) T.cl_Reader T.me_Reader_put (ok_Reader_put T) (hr.mono (by decide)) (takes_of rfl rfl rfl rfl) (cw_pos (da_cons (d_var 1) (da_cons (d_gstr T.g_PLACE) (da_cons (d_var 3) (da_cons (d_tupC (da_cons (d_var 3) (da_cons (d_ix hr.u1 (d_var 2) d_int) da_nil))) (da_cons d_str da_nil)))))))))))))
theorem ok_Reader_take_setting (T : Tx K mg base a) : Fd P w K mg base a.f_Reader_take_setting 2 3 [] gPos (m_Reader_take_setting K a):=by
 obtain ⟨fd,F⟩:=T.F_Reader_take_setting
 exact Fd.of (fn_Reader_take_setting F T) (bd_pos (F.binds (ps:=["self","at","setting"]) fun _ _ _ _ _ _ us hl=>(by obtain ⟨_,_,_,rfl⟩:=ls_3 hl; rfl)))
set_option maxHeartbeats 4000000 in
theorem fn_Reader_take {fd : FuncData} (F : Fun K "take" "Reader.take" s_Reader_take a.f_Reader_take fd) (T : Tx K mg base a) : FnG P w K mg base 5 a.f_Reader_take fd ["self","at","line"] (spM K 3 (m_Reader_take K a)) :=
 fn_ok F sc_Reader_take wCut_ok fun cdv A outer s H E hr=>(show DB _ _ _ (g_Reader_take K a) from
   (db_one (ds_if (dt_truth (d_m PySem.F.plainAttrs_str PySem.F.slot_str_startswith PySem.F.type_str_startswith mt_starts' (d_var 2) (da_cons d_str da_nil))) (db_one (ds_expr (d_meth (d_var 0) T.cl_Reader T.me_Reader_take_kept (ok_Reader_take_kept T) (hr.mono (by decide)) (takes_of rfl rfl rfl rfl) (cw_pos (da_cons (d_var 1) (da_cons (d_call (ok_kept_in T) T.m_kept_in T.k_kept_in (hr.mono (by decide)) (takes_of rfl rfl rfl rfl) (cw_pos (da_cons (d_var 2) da_nil))) da_nil)))))) (db_one (ds_if (dw_pt (dw_or (dt_cmp (op_eq' hr.u64) (d_var 2) d_str) (dw_or1 (dt_truth (d_m PySem.F.plainAttrs_str PySem.F.slot_str_startswith PySem.F.type_str_startswith mt_starts' (d_var 2) (da_cons d_str da_nil)))))) (db_one (ds_expr (d_m PySem.F.plainAttrs_list PySem.F.slot_list_append PySem.F.type_list_append mt_append' (d_fld (cs:=[a.C_Reader]) (d_var 0) T.fl_parts_Reader) (da_cons (d_tupC (da_cons (d_var 1) (da_cons (d_gstr T.g_REMARK) (da_cons (d_var 2) da_nil)))) da_nil)))) (db_one (ds_if (dt_cmp op_notN' (d_call (ok_section_in T) T.m_section_in T.k_section_in (hr.mono (by decide)) (takes_of rfl rfl rfl rfl) (cw_pos (da_cons (d_var 2) da_nil))) d_non) (db_cons (ds_fld (cs:=[a.C_Reader]) (d_var 0) (d_call (ok_section_in T) T.m_section_in T.k_section_in (hr.mono (by decide)) (takes_of rfl rfl rfl rfl) (cw_pos (da_cons (d_var 2) da_nil))) T.fl_section_Reader)
   (db_one (ds_expr (d_meth (d_var 0) T.cl_Reader T.me_Reader_put (ok_Reader_put T) (hr.mono (by decide)) (takes_of rfl rfl rfl rfl) (cw_pos (da_cons (d_var 1) (da_cons (d_gstr T.g_SECTION) (da_cons (d_fld (cs:=[a.C_Reader]) (d_var 0) T.fl_section_Reader) (da_cons (d_fld (cs:=[a.C_Reader]) (d_var 0) T.fl_section_Reader) (da_cons (d_gstr T.g_SECTION) da_nil)))))))))) (db_one (ds_expr (d_meth (d_var 0) T.cl_Reader T.me_Reader_take_setting (ok_Reader_take_setting T) (hr.mono (by decide)) (takes_of rfl rfl rfl rfl) (cw_pos (da_cons (d_var 1) (da_cons (d_call (ok_setting_in T) T.m_setting_in T.k_setting_in (hr.mono (by decide)) (takes_of rfl rfl rfl rfl) (cw_pos (da_cons (d_var 2) da_nil))) da_nil)))))))))))))
theorem ok_Reader_take (T : Tx K mg base a) : Fd P w K mg base a.f_Reader_take 5 3 [] gPos (m_Reader_take K a):=by
 obtain ⟨fd,F⟩:=T.F_Reader_take
 exact Fd.of (fn_Reader_take F T) (bd_pos (F.binds (ps:=["self","at","line"]) fun _ _ _ _ _ _ us hl=>(by obtain ⟨_,_,_,rfl⟩:=ls_3 hl; rfl)))
set_option maxHeartbeats 4000000 in
theorem fn_parts_of {fd : FuncData} (F : Fun K "parts_of" "parts_of" s_parts_of a.f_parts_of fd) (T : Tx K mg base a) : FnG P w K mg base 1 a.f_parts_of fd ["parts"] (spM K 1 (m_parts_of K a)) :=
 fn_ok F sc_parts_of wFrz_ok fun cdv A outer s H E hr=>(show DB _ _ _ (g_parts_of K a) from
   (db_one (ds_ret (d_lcV rfl sc_parts_of.nd (d_iter (d_var 0)) (blkOk_by (N:=N_parts_of) (sc:=defScope s_parts_of) (own:=[("at",1),("word",2),("thing",3)]) (by decide +kernel)) (fun _ _ _ _ _=>(dg_tup rfl (dgs_cons (dg_name 1 sc_parts_of.nd) (dgs_cons (dg_name 2 sc_parts_of.nd) (dgs_cons (dg_name 3 sc_parts_of.nd) dgs_nil))))) (fun _ _ _ _ _=>(dts_one (dt_cmp (op_ne' hr.u64) (d_var 2) (d_gstr T.g_REMARK)))) (fun _ _ _ _ _=>(d_tupC (da_cons (d_var 1) (da_cons (d_var 2) (da_cons (d_if (dt_cmp (op_eq' hr.u64) (d_var 2) (d_gstr T.g_PLACE)) (d_ix hr.u1 (d_var 3) d_int) (d_var 3)) da_nil)))))))))
theorem ok_parts_of (T : Tx K mg base a) : Fd P w K mg base a.f_parts_of 1 1 [] gPos (m_parts_of K a):=by
 obtain ⟨fd,F⟩:=T.F_parts_of
 exact Fd.of (fn_parts_of F T) (bd_pos (F.binds (ps:=["parts"]) fun _ _ _ _ _ _ us hl=>(by obtain ⟨_,rfl⟩:=ls_1 hl; rfl)))
set_option maxHeartbeats 4000000 in
theorem fn_SettingsFile_init {fd : FuncData} (F : Fun K "__init__" "SettingsFile.__init__" s_SettingsFile_init a.f_SettingsFile_init fd) (T : Tx K mg base a) : FnG P w K mg base 6 a.f_SettingsFile_init fd ["self","text"] (spM K 2 (m_SettingsFile_init K a)) :=
 fn_ok F sc_SettingsFile_init wId_ok fun cdv A outer s H E hr=>(show DB _ _ _ (g_SettingsFile_init K a) from
   (db_cons (ds_if (dt_not (dt_truth (d_bi (cr_isi T.own) T.z_isinstance bt_isinstance (da_cons (d_var 1) (da_cons (d_ty T.z_str bt_str) da_nil))))) db_no db_nil)
   (db_cons (ds_set 2 sc_SettingsFile_init.nd (d_make T.mk_Reader (ok_Reader_init T) T.m_Reader (hr.mono (by decide)) (takes_of rfl rfl rfl rfl) cw_none))
   (db_cons (ds_for (passes_of rfl) rfl (d_enum T.z_enumerate (da_cons (d_call (ok_lines_of T) T.m_lines_of T.k_lines_of (hr.mono (by decide)) (takes_of rfl rfl rfl rfl) (cw_pos (da_cons (d_var 1) da_nil))) da_nil)) (dg_tup rfl (dgs_cons (dg_name 3 sc_SettingsFile_init.nd) (dgs_cons (dg_name 4 sc_SettingsFile_init.nd) dgs_nil))) (db_one (ds_expr (d_meth (d_var 2) T.cl_Reader T.me_Reader_take (ok_Reader_take T) (hr.mono (by decide)) (takes_of rfl rfl rfl rfl) (cw_pos (da_cons (d_var 3) (da_cons (d_var 4) da_nil)))))))
   (db_cons (ds_fld (cs:=[a.C_SettingsFile]) (d_var 0) (d_var 1) T.fl_whole_SettingsFile)
   (db_cons (ds_fld (cs:=[a.C_SettingsFile]) (d_var 0) (d_fld (cs:=[a.C_Reader]) (d_var 2) T.fl_parts_Reader) T.fl_all_parts_SettingsFile)
   (db_cons (ds_fld (cs:=[a.C_SettingsFile]) (d_var 0) (d_call (ok_parts_of T) T.m_parts_of T.k_parts_of (hr.mono (by decide)) (takes_of rfl rfl rfl rfl) (cw_pos (da_cons (d_fld (cs:=[a.C_Reader]) (d_var 2) T.fl_parts_Reader) da_nil))) T.fl_parts_SettingsFile)
   (db_one (ds_fld (cs:=[a.C_SettingsFile]) (d_var 0) (d_bt (cr_dict rfl) T.z_dict bt_dict (da_cons (d_lcV rfl sc_SettingsFile_init.nd (d_iter (d_fld (cs:=[a.C_Reader]) (d_var 2) T.fl_parts_Reader)) (blkOk_by (N:=N_SettingsFile_init) (sc:=defScope s_SettingsFile_init) (own:=[("at",3),("word",5),("thing",6)]) (by decide +kernel)) (fun _ _ _ _ _=>(dg_tup rfl (dgs_cons (dg_name 3 sc_SettingsFile_init.nd) (dgs_cons (dg_name 5 sc_SettingsFile_init.nd) (dgs_cons (dg_name 6 sc_SettingsFile_init.nd) dgs_nil))))) (fun _ _ _ _ _=>(dts_one (dt_cmp (op_eq' hr.u64) (d_var 5) (d_gstr T.g_PLACE)))) (fun _ _ _ _ _=>(d_var 6))) da_nil)) T.fl_settings_read_SettingsFile)))))))))
theorem ok_SettingsFile_init (T : Tx K mg base a) : Fd P w K mg base a.f_SettingsFile_init 6 2 [] gPos (m_SettingsFile_init K a):=by
 obtain ⟨fd,F⟩:=T.F_SettingsFile_init
 exact Fd.of (fn_SettingsFile_init F T) (bd_pos (F.binds (ps:=["self","text"]) fun _ _ _ _ _ _ us hl=>(by obtain ⟨_,_,rfl⟩:=ls_2 hl; rfl)))
set_option maxHeartbeats 4000000 in
theorem fn_SettingsFile_places {fd : FuncData} (F : Fun K "places" "SettingsFile.places" s_SettingsFile_places a.f_SettingsFile_places fd) (T : Tx K mg base a) : FnG P w K mg base 1 a.f_SettingsFile_places fd ["self"] (spM K 1 (m_SettingsFile_places K a)) :=
 fn_ok F sc_SettingsFile_places wFrz_ok fun cdv A outer s H E hr=>(show DB _ _ _ (g_SettingsFile_places K a) from
   (db_one (ds_ret (d_lcV rfl sc_SettingsFile_places.nd (d_iter (d_fld (cs:=[a.C_SettingsFile]) (d_var 0) T.fl_all_parts_SettingsFile)) (blkOk_by (N:=N_SettingsFile_places) (sc:=defScope s_SettingsFile_places) (own:=[("at",1),("word",2),("thing",3)]) (by decide +kernel)) (fun _ _ _ _ _=>(dg_tup rfl (dgs_cons (dg_name 1 sc_SettingsFile_places.nd) (dgs_cons (dg_name 2 sc_SettingsFile_places.nd) (dgs_cons (dg_name 3 sc_SettingsFile_places.nd) dgs_nil))))) (fun _ _ _ _ _=>(dts_one (dt_cmp (op_eq' hr.u64) (d_var 2) (d_gstr T.g_PLACE)))) (fun _ _ _ _ _=>(d_ix hr.u1 (d_var 3) d_int))))))
theorem ok_SettingsFile_places (T : Tx K mg base a) : Fd P w K mg base a.f_SettingsFile_places 1 1 [] gPos (m_SettingsFile_places K a):=by
 obtain ⟨fd,F⟩:=T.F_SettingsFile_places
 exact Fd.of (fn_SettingsFile_places F T) (bd_pos (F.binds (ps:=["self"]) fun _ _ _ _ _ _ us hl=>(by obtain ⟨_,rfl⟩:=ls_1 hl; rfl)))
set_option maxHeartbeats 4000000 in
theorem fn_SettingsFile_sections {fd : FuncData} (F : Fun K "sections" "SettingsFile.sections" s_SettingsFile_sections a.f_SettingsFile_sections fd) (T : Tx K mg base a) : FnG P w K mg base 1 a.f_SettingsFile_sections fd ["self"] (spM K 1 (m_SettingsFile_sections K a)) :=
 fn_ok F sc_SettingsFile_sections wFrz_ok fun cdv A outer s H E hr=>(show DB _ _ _ (g_SettingsFile_sections K a) from
   (db_one (ds_ret (d_lcV rfl sc_SettingsFile_sections.nd (d_iter (d_fld (cs:=[a.C_SettingsFile]) (d_var 0) T.fl_all_parts_SettingsFile)) (blkOk_by (N:=N_SettingsFile_sections) (sc:=defScope s_SettingsFile_sections) (own:=[("at",1),("word",2),("thing",3)]) (by decide +kernel)) (fun _ _ _ _ _=>(dg_tup rfl (dgs_cons (dg_name 1 sc_SettingsFile_sections.nd) (dgs_cons (dg_name 2 sc_SettingsFile_sections.nd) (dgs_cons (dg_name 3 sc_SettingsFile_sections.nd) dgs_nil))))) (fun _ _ _ _ _=>(dts_one (dt_cmp (op_eq' hr.u64) (d_var 2) (d_gstr T.g_SECTION)))) (fun _ _ _ _ _=>(d_var 3))))))
theorem ok_SettingsFile_sections (T : Tx K mg base a) : Fd P w K mg base a.f_SettingsFile_sections 1 1 [] gPos (m_SettingsFile_sections K a):=by
 obtain ⟨fd,F⟩:=T.F_SettingsFile_sections
 exact Fd.of (fn_SettingsFile_sections F T) (bd_pos (F.binds (ps:=["self"]) fun _ _ _ _ _ _ us hl=>(by obtain ⟨_,rfl⟩:=ls_1 hl; rfl)))
set_option maxHeartbeats 4000000 in
theorem fn_SettingsFile_block {fd : FuncData} (F : Fun K "block" "SettingsFile.block" s_SettingsFile_block a.f_SettingsFile_block fd) (T : Tx K mg base a) : FnG P w K mg base 1 a.f_SettingsFile_block fd ["self","thing"] (spM K 2 (m_SettingsFile_block K a)) :=
 fn_ok F sc_SettingsFile_block wFrz_ok fun cdv A outer s H E hr=>(show DB _ _ _ (g_SettingsFile_block K a) from
   (db_cons (ds_if (dt_not (dt_truth (d_bi (cr_isi T.own) T.z_isinstance bt_isinstance (da_cons (d_var 1) (da_cons (d_ty T.z_str bt_str) da_nil))))) db_no db_nil)
   (db_cons (ds_set 2 sc_SettingsFile_block.nd (d_lstC da_nil))
   (db_cons (ds_for (passes_of rfl) rfl (d_iter (d_fld (cs:=[a.C_SettingsFile]) (d_var 0) T.fl_all_parts_SettingsFile)) (dg_tup rfl (dgs_cons (dg_name 3 sc_SettingsFile_block.nd) (dgs_cons (dg_name 4 sc_SettingsFile_block.nd) (dgs_cons (dg_name 5 sc_SettingsFile_block.nd) dgs_nil)))) (db_one (ds_if (dt_cmp (op_eq' hr.u64) (d_var 4) (d_gstr T.g_REMARK)) (db_one (ds_expr (d_m PySem.F.plainAttrs_list PySem.F.slot_list_append PySem.F.type_list_append mt_append' (d_var 2) (da_cons (d_var 5) da_nil)))) (db_one (ds_if (dw_pt (dw_or (dt_cmp (op_eq' hr.u64) (d_var 4) (d_gstr T.g_SECTION)) (dw_or1 (dt_cmp (op_eq' hr.u64) (d_var 4) (d_gstr T.g_PLACE))))) (db_cons (ds_if (dt_cmp (op_eq' hr.u64) (d_var 1) (d_if (dt_cmp (op_eq' hr.u64) (d_var 4) (d_gstr T.g_SECTION)) (d_var 5) (d_ix hr.u1 (d_var 5) d_int))) (db_one (ds_ret (d_var 2))) db_nil)
   (db_one (ds_set 2 sc_SettingsFile_block.nd (d_lstC da_nil)))) db_nil)))))
   (db_one ds_no)))))
theorem ok_SettingsFile_block (T : Tx K mg base a) : Fd P w K mg base a.f_SettingsFile_block 1 2 [] gPos (m_SettingsFile_block K a):=by
 obtain ⟨fd,F⟩:=T.F_SettingsFile_block
 exact Fd.of (fn_SettingsFile_block F T) (bd_pos (F.binds (ps:=["self","thing"]) fun _ _ _ _ _ _ us hl=>(by obtain ⟨_,_,rfl⟩:=ls_2 hl; rfl)))
set_option maxHeartbeats 4000000 in
theorem fn_SettingsFile_value {fd : FuncData} (F : Fun K "value" "SettingsFile.value" s_SettingsFile_value a.f_SettingsFile_value fd) (T : Tx K mg base a) : FnG P w K mg base 4 a.f_SettingsFile_value fd ["self","place"] (spM K 2 (m_SettingsFile_value K a)) :=
 fn_ok F sc_SettingsFile_value wFrz_ok fun cdv A outer s H E hr=>(show DB _ _ _ (g_SettingsFile_value K a) from
   (db_cons (ds_if (dw_pt (dw_or (dt_not (dt_truth (d_call (ok_is_place T) T.m_is_place T.k_is_place (hr.mono (by decide)) (takes_of rfl rfl rfl rfl) (cw_pos (da_cons (d_var 1) da_nil))))) (dw_or1 (dt_cmp (op_notInDct hr.u1) (d_var 1) (d_fld (cs:=[a.C_SettingsFile]) (d_var 0) T.fl_settings_read_SettingsFile))))) db_no db_nil)
   (db_one (ds_ret (d_ix hr.u1 (d_fld (cs:=[a.C_SettingsFile]) (d_var 0) T.fl_settings_read_SettingsFile) (d_var 1))))))
theorem ok_SettingsFile_value (T : Tx K mg base a) : Fd P w K mg base a.f_SettingsFile_value 4 2 [] gPos (m_SettingsFile_value K a):=by
 obtain ⟨fd,F⟩:=T.F_SettingsFile_value
 exact Fd.of (fn_SettingsFile_value F T) (bd_pos (F.binds (ps:=["self","place"]) fun _ _ _ _ _ _ us hl=>(by obtain ⟨_,_,rfl⟩:=ls_2 hl; rfl)))
set_option maxHeartbeats 4000000 in
theorem fn_SettingsFile_tail {fd : FuncData} (F : Fun K "tail" "SettingsFile.tail" s_SettingsFile_tail a.f_SettingsFile_tail fd) (T : Tx K mg base a) : FnG P w K mg base 1 a.f_SettingsFile_tail fd ["self"] (spM K 1 (m_SettingsFile_tail K a)) :=
 fn_ok F sc_SettingsFile_tail wFrz_ok fun cdv A outer s H E hr=>(show DB _ _ _ (g_SettingsFile_tail K a) from
   (db_cons (ds_set 1 sc_SettingsFile_tail.nd (d_lstC da_nil))
   (db_cons (ds_for (passes_of rfl) rfl (d_iter (d_fld (cs:=[a.C_SettingsFile]) (d_var 0) T.fl_all_parts_SettingsFile)) (dg_tup rfl (dgs_cons (dg_name 2 sc_SettingsFile_tail.nd) (dgs_cons (dg_name 3 sc_SettingsFile_tail.nd) (dgs_cons (dg_name 4 sc_SettingsFile_tail.nd) dgs_nil)))) (db_one (ds_if (dt_cmp (op_eq' hr.u64) (d_var 3) (d_gstr T.g_REMARK)) (db_one (ds_expr (d_m PySem.F.plainAttrs_list PySem.F.slot_list_append PySem.F.type_list_append mt_append' (d_var 1) (da_cons (d_var 4) da_nil)))) (db_one (ds_if (dt_cmp (op_ne' hr.u64) (d_var 3) (d_gstr T.g_KEPT)) (db_one (ds_set 1 sc_SettingsFile_tail.nd (d_lstC da_nil))) db_nil)))))
   (db_one (ds_ret (d_var 1))))))
theorem ok_SettingsFile_tail (T : Tx K mg base a) : Fd P w K mg base a.f_SettingsFile_tail 1 1 [] gPos (m_SettingsFile_tail K a):=by
 obtain ⟨fd,F⟩:=T.F_SettingsFile_tail
 exact Fd.of (fn_SettingsFile_tail F T) (bd_pos (F.binds (ps:=["self"]) fun _ _ _ _ _ _ us hl=>(by obtain ⟨_,rfl⟩:=ls_1 hl; rfl)))
set_option maxHeartbeats 4000000 in
theorem fn_L_law_together {fd : FuncData} (F : Fun K "_law_together" "_law_together" s_L_law_together a.f_L_law_together fd) (T : Tx K mg base a) : FnG P w K mg base 5 a.f_L_law_together fd ["_law_file"] (spM K 1 (m_L_law_together K a)) :=
 fn_ok F sc_L_law_together wFrz_ok fun cdv A outer s H E hr=>(show DB _ _ _ (g_L_law_together K a) from
   (db_cons (ds_par 1 2 rfl sc_L_law_together.nd (da_cons (d_lst da_nil) (da_cons (d_meth (d_var 0) T.cl_SettingsFile T.me_SettingsFile_places (ok_SettingsFile_places T) (hr.mono (by decide)) (takes_of rfl rfl rfl rfl) cw_none) da_nil)) (by decide) rfl)
   (db_cons (ds_for (passes_of rfl) rfl (d_iter (d_meth (d_var 0) T.cl_SettingsFile T.me_SettingsFile_sections (ok_SettingsFile_sections T) (hr.mono (by decide)) (takes_of rfl rfl rfl rfl) cw_none)) (dg_name 3 sc_L_law_together.nd) (db_cons (ds_set 1 sc_L_law_together.nd (d_op op_add' (d_op op_add' (d_var 1) (d_meth (d_var 0) T.cl_SettingsFile T.me_SettingsFile_block (ok_SettingsFile_block T) (hr.mono (by decide)) (takes_of rfl rfl rfl rfl) (cw_pos (da_cons (d_var 3) da_nil)))) (d_lst (da_cons (d_op op_add' (d_op op_add' d_str (d_var 3)) d_str) da_nil))))
   (db_one (ds_for (passes_of rfl) rfl (d_iter (d_lcV rfl sc_L_law_together.nd (d_iter (d_var 2)) (blkOk_by (N:=N_L_law_together) (sc:=defScope s_L_law_together) (own:=[("_law_one",5)]) (by decide +kernel)) (fun _ _ _ _ _=>(dg_name 5 sc_L_law_together.nd)) (fun _ _ _ _ _=>(dts_one (dt_truth (d_m PySem.F.plainAttrs_str PySem.F.slot_str_startswith PySem.F.type_str_startswith mt_starts' (d_var 5) (da_cons (d_op op_add' (d_var 3) d_str) da_nil))))) (fun _ _ _ _ _=>(d_var 5)))) (dg_name 4 sc_L_law_together.nd) (db_cons (ds_set 6 sc_L_law_together.nd (d_ix hr.u1 (d_m PySem.F.plainAttrs_str PySem.F.slot_str_split PySem.F.type_str_split mt_split' (d_var 4) (da_cons d_str da_nil)) d_int))
   (db_one (ds_set 1 sc_L_law_together.nd (d_op op_add' (d_op op_add' (d_var 1) (d_meth (d_var 0) T.cl_SettingsFile T.me_SettingsFile_block (ok_SettingsFile_block T) (hr.mono (by decide)) (takes_of rfl rfl rfl rfl) (cw_pos (da_cons (d_var 4) da_nil)))) (d_lst (da_cons (d_op op_add' (d_op op_add' (d_var 6) d_str) (d_meth (d_var 0) T.cl_SettingsFile T.me_SettingsFile_value (ok_SettingsFile_value T) (hr.mono (by decide)) (takes_of rfl rfl rfl rfl) (cw_pos (da_cons (d_var 4) da_nil)))) da_nil))))))))))
   (db_one (ds_ret (d_op op_add' (d_var 1) (d_meth (d_var 0) T.cl_SettingsFile T.me_SettingsFile_tail (ok_SettingsFile_tail T) (hr.mono (by decide)) (takes_of rfl rfl rfl rfl) cw_none)))))))
theorem ok_L_law_together (T : Tx K mg base a) : Fd P w K mg base a.f_L_law_together 5 1 [] gPos (m_L_law_together K a):=by
 obtain ⟨fd,F⟩:=T.F_L_law_together
 exact Fd.of (fn_L_law_together F T) (bd_pos (F.binds (ps:=["_law_file"]) fun _ _ _ _ _ _ us hl=>(by obtain ⟨_,rfl⟩:=ls_1 hl; rfl)))
set_option maxHeartbeats 4000000 in
theorem fn_SettingsFile_kept {fd : FuncData} (F : Fun K "kept" "SettingsFile.kept" s_SettingsFile_kept a.f_SettingsFile_kept fd) (T : Tx K mg base a) : FnG P w K mg base 1 a.f_SettingsFile_kept fd ["self"] (spM K 1 (m_SettingsFile_kept K a)) :=
 fn_ok F sc_SettingsFile_kept wFrz_ok fun cdv A outer s H E hr=>(show DB _ _ _ (g_SettingsFile_kept K a) from
   (db_one (ds_ret (d_lcV rfl sc_SettingsFile_kept.nd (d_iter (d_fld (cs:=[a.C_SettingsFile]) (d_var 0) T.fl_all_parts_SettingsFile)) (blkOk_by (N:=N_SettingsFile_kept) (sc:=defScope s_SettingsFile_kept) (own:=[("at",1),("word",2),("thing",3)]) (by decide +kernel)) (fun _ _ _ _ _=>(dg_tup rfl (dgs_cons (dg_name 1 sc_SettingsFile_kept.nd) (dgs_cons (dg_name 2 sc_SettingsFile_kept.nd) (dgs_cons (dg_name 3 sc_SettingsFile_kept.nd) dgs_nil))))) (fun _ _ _ _ _=>(dts_one (dt_cmp (op_eq' hr.u64) (d_var 2) (d_gstr T.g_KEPT)))) (fun _ _ _ _ _=>(d_var 3))))))
theorem ok_SettingsFile_kept (T : Tx K mg base a) : Fd P w K mg base a.f_SettingsFile_kept 1 1 [] gPos (m_SettingsFile_kept K a):=by
 obtain ⟨fd,F⟩:=T.F_SettingsFile_kept
 exact Fd.of (fn_SettingsFile_kept F T) (bd_pos (F.binds (ps:=["self"]) fun _ _ _ _ _ _ us hl=>(by obtain ⟨_,rfl⟩:=ls_1 hl; rfl)))
set_option maxHeartbeats 4000000 in
theorem fn_L_law_kept {fd : FuncData} (F : Fun K "_law_kept" "_law_kept" s_L_law_kept a.f_L_law_kept fd) (T : Tx K mg base a) : FnG P w K mg base 2 a.f_L_law_kept fd ["_law_file"] (spM K 1 (m_L_law_kept K a)) :=
 fn_ok F sc_L_law_kept wFrz_ok fun cdv A outer s H E hr=>(show DB _ _ _ (g_L_law_kept K a) from
   (db_cons (ds_set 1 sc_L_law_kept.nd (d_lstC da_nil))
   (db_cons (ds_for (passes_of rfl) rfl (d_iter (d_meth (d_var 0) T.cl_SettingsFile T.me_SettingsFile_kept (ok_SettingsFile_kept T) (hr.mono (by decide)) (takes_of rfl rfl rfl rfl) cw_none)) (dg_tup rfl (dgs_cons (dg_name 2 sc_L_law_kept.nd) (dgs_cons (dg_name 3 sc_L_law_kept.nd) (dgs_cons (dg_name 4 sc_L_law_kept.nd) dgs_nil)))) (db_cons (ds_set 5 sc_L_law_kept.nd (d_op op_add' (d_op op_add' (d_op op_add' d_str (d_bt cr_str T.z_str bt_str (da_cons (d_var 2) da_nil))) d_str) (d_var 3)))
   (db_one (ds_expr (d_m PySem.F.plainAttrs_list PySem.F.slot_list_append PySem.F.type_list_append mt_append' (d_var 1) (da_cons (d_if (dt_cmp op_isN' (d_var 4) d_non) (d_var 5) (d_op op_add' (d_op op_add' (d_var 5) d_str) (d_var 4))) da_nil))))))
   (db_one (ds_ret (d_var 1))))))
theorem ok_L_law_kept (T : Tx K mg base a) : Fd P w K mg base a.f_L_law_kept 2 1 [] gPos (m_L_law_kept K a):=by
 obtain ⟨fd,F⟩:=T.F_L_law_kept
 exact Fd.of (fn_L_law_kept F T) (bd_pos (F.binds (ps:=["_law_file"]) fun _ _ _ _ _ _ us hl=>(by obtain ⟨_,rfl⟩:=ls_1 hl; rfl)))
set_option maxHeartbeats 4000000 in
theorem gf_SettingsFile_pairs (T : Tx K mg base a) : GnF P w K mg base a.f_SettingsFile_pairs 1 (q_SettingsFile_pairs a):=by
 obtain ⟨fd,F⟩:=T.F_SettingsFile_pairs
 exact ⟨⟨fd,N_SettingsFile_pairs,"pairs","SettingsFile.pairs","self",s_SettingsFile_pairs,_,_,_,_,_,_,_,_,_,_,_,_,_,W0,F,sc_SettingsFile_pairs,F.binds (ps:=["self"]) (fun _ _ _ _ _ _ us hl=>(by obtain ⟨_,rfl⟩:=ls_1 hl; rfl)),fun _ _=>rfl,fun _ _ _=>rfl,rfl,fun _ _ _ _=>rfl,fun cdv A outer s H E pn hr=>⟨(d_iter (d_fld (cs:=[a.C_SettingsFile]) (d_var 0) T.fl_all_parts_SettingsFile)),(dg_tup rfl (dgs_cons (dg_name 1 sc_SettingsFile_pairs.nd) (dgs_cons (dg_name 2 sc_SettingsFile_pairs.nd) (dgs_cons (dg_name 3 sc_SettingsFile_pairs.nd) dgs_nil)))),(dt_cmp (op_eq' hr.u64) (d_var 2) (d_gstr T.g_PLACE)),(d_var 3)⟩,fun u ys h=>rowQ_sim h⟩⟩
set_option maxHeartbeats 4000000 in
theorem fn_SettingsFile_lines {fd : FuncData} (F : Fun K "lines" "SettingsFile.lines" s_SettingsFile_lines a.f_SettingsFile_lines fd) (T : Tx K mg base a) : FnG P w K mg base 2 a.f_SettingsFile_lines fd ["self"] (spM K 1 (m_SettingsFile_lines K a)) :=
 fn_ok F sc_SettingsFile_lines wFrz_ok fun cdv A outer s H E hr=>(show DB _ _ _ (g_SettingsFile_lines K a) from
   (db_one (ds_ret (d_call (ok_lines_of T) T.m_lines_of T.k_lines_of (hr.mono (by decide)) (takes_of rfl rfl rfl rfl) (cw_pos (da_cons (d_fld (cs:=[a.C_SettingsFile]) (d_var 0) T.fl_whole_SettingsFile) da_nil))))))
theorem ok_SettingsFile_lines (T : Tx K mg base a) : Fd P w K mg base a.f_SettingsFile_lines 2 1 [] gPos (m_SettingsFile_lines K a):=by
 obtain ⟨fd,F⟩:=T.F_SettingsFile_lines
 exact Fd.of (fn_SettingsFile_lines F T) (bd_pos (F.binds (ps:=["self"]) fun _ _ _ _ _ _ us hl=>(by obtain ⟨_,rfl⟩:=ls_1 hl; rfl)))
set_option maxHeartbeats 4000000 in
theorem fn_law {fd : FuncData} (F : Fun K "law" "law" s_law a.f_law fd) (T : Tx K mg base a) : FnG P w K mg base 8 a.f_law fd ["_law_script"] (spM K 1 (m_law K a)) :=
 fn_ok F sc_law wFrz_ok fun cdv A outer s H E hr=>(show DB _ _ _ (g_law K a) from
   (db_cons (ds_for (passes_of rfl) rfl (d_range1 T.z_range (da_cons (d_bi (cr_max rfl) T.z_max bt_max (da_cons d_int (da_cons (d_bi (cr_min rfl) T.z_min bt_min (da_cons d_int (da_cons (d_bi cr_len T.z_len bt_len (da_cons (d_var 0) da_nil)) da_nil))) da_nil))) da_nil)) (dg_name 1 sc_law.nd) (db_cons (ds_set 2 sc_law.nd (d_call (ok_L_law_bag T) T.m_L_law_bag T.k_L_law_bag (hr.mono (by decide)) (takes_of rfl rfl rfl rfl) (cw_pos (da_cons (d_var 0) (da_cons (d_var 1) da_nil)))))
   (db_one (ds_for (passes_of rfl) rfl (d_range1 T.z_range (da_cons d_int da_nil)) (dg_name 3 sc_law.nd) (db_cons (ds_set 4 sc_law.nd (d_call (ok_L_law_drawn T) T.m_L_law_drawn T.k_L_law_drawn (hr.mono (by decide)) (takes_of rfl rfl rfl rfl) (cw_pos (da_cons (d_var 2) (da_cons (d_cmp (op_eq' hr.u64) (d_op op_mod' (d_var 3) d_int) d_int) da_nil)))))
   (db_cons (ds_set 5 sc_law.nd (d_wr wFrz_ok (d_make T.mk_SettingsFile (ok_SettingsFile_init T) T.m_SettingsFile (hr.mono (by decide)) (takes_of rfl rfl rfl rfl) (cw_pos (da_cons (d_m PySem.F.plainAttrs_str PySem.F.slot_str_join PySem.F.type_str_join mt_join' d_str (da_cons (d_var 4) da_nil)) da_nil)))))
   (db_cons (ds_set 4 sc_law.nd (d_if (dt_cmp (op_eq' hr.u64) (d_var 4) (d_lst (da_cons d_str da_nil))) (d_lst da_nil) (d_var 4)))
   (db_cons (ds_if (dt_cmp (op_ne' hr.u64) (d_call (ok_L_law_together T) T.m_L_law_together T.k_L_law_together (hr.mono (by decide)) (takes_of rfl rfl rfl rfl) (cw_pos (da_cons (d_var 5) da_nil))) (d_lcV rfl sc_law.nd (d_iter (d_var 4)) (blkOk_by (N:=N_law) (sc:=defScope s_law) (own:=[("_law_line",6)]) (by decide +kernel)) (fun _ _ _ _ _=>(dg_name 6 sc_law.nd)) (fun _ _ _ _ _=>(dts_one (dt_not (dt_truth (d_m PySem.F.plainAttrs_str PySem.F.slot_str_startswith PySem.F.type_str_startswith mt_starts' (d_var 6) (da_cons d_str da_nil)))))) (fun _ _ _ _ _=>(d_var 6)))) (db_one (ds_ret d_bl)) db_nil)
   (db_cons (ds_if (dt_cmp (op_ne' hr.u64) (d_call (ok_L_law_kept T) T.m_L_law_kept T.k_L_law_kept (hr.mono (by decide)) (takes_of rfl rfl rfl rfl) (cw_pos (da_cons (d_var 5) da_nil))) (d_lcV rfl sc_law.nd (d_iter (d_var 4)) (blkOk_by (N:=N_law) (sc:=defScope s_law) (own:=[("_law_line",6)]) (by decide +kernel)) (fun _ _ _ _ _=>(dg_name 6 sc_law.nd)) (fun _ _ _ _ _=>(dts_one (dt_truth (d_m PySem.F.plainAttrs_str PySem.F.slot_str_startswith PySem.F.type_str_startswith mt_starts' (d_var 6) (da_cons d_str da_nil))))) (fun _ _ _ _ _=>(d_var 6)))) (db_one (ds_ret d_bl)) db_nil)
   (db_one (ds_if (dw_pt (dw_or (dt_cmp (op_ne' hr.u64) (d_bi cr_sortS T.z_sorted bt_sorted (da_cons (d_meth (d_var 5) T.cl_SettingsFile T.me_SettingsFile_places (ok_SettingsFile_places T) (hr.mono (by decide)) (takes_of rfl rfl rfl rfl) cw_none) da_nil)) (d_bi cr_sortS T.z_sorted bt_sorted (da_cons (d_lcG (d_var 5) T.cl_SettingsFile T.me_SettingsFile_pairs (gf_SettingsFile_pairs T) ((hr.mono (by decide)).rm) sc_law.nd (blkOk_by (N:=N_law) (sc:=defScope s_law) (own:=[("_law_spot",7),("_law_worth",8)]) (by decide +kernel)) (fun _=>rfl) (fun _ _ _ _ _=>(dg_tup rfl (dgs_cons (dg_name 7 sc_law.nd) (dgs_cons (dg_name 8 sc_law.nd) dgs_nil)))) (fun _ _ _ _ _=>(d_var 7))) da_nil))) (dw_or1 (dt_cmp (op_ne' hr.u64) (d_prop (d_var 5) T.cl_SettingsFile T.pp_SettingsFile_lines (ok_SettingsFile_lines T) (hr.mono (by decide))) (d_var 4))))) (db_one (ds_ret d_bl)) db_nil)))))))))))
   (db_one (ds_ret d_bl))))
end
/-- the plain facts of the classes -/
structure Kx (K : PySem.W.Frag) (a : Ad) : Prop where
 dummy : True
noncomputable def LawOk : Prop:=∀ (K : PySem.W.Frag) (a : Ad),Kx K a → ∀ ns : List Int,ns.length ≤ 63 → ∃ st,m_law K a [.d (.scr ns)] [] = .ok (.d (.bl true)) st
noncomputable def spAll (K : PySem.W.Frag) : Sp:=fun vs H Q E=>∀ a : Ad,Kx K a → spM K 1 (m_law K a) vs H Q E
set_option maxHeartbeats 4000000 in
theorem all_mk {w : World} {K : PySem.W.Frag} {h : Heap} {mg : Str → Option Value} {fa : Addr} {l : PySem.W.OpenLaw} (X : PySem.W.Frag.In K h) (G : h.Ns mainGlobals mg) (hfa : mg "law" = some (.ref fa)) {C_Reader C_SettingsFile f_L_law_bag f_L_law_take f_L_law_of f_L_law_mixed f_L_law_drawn f_Reader_init f_lines_of f_is_made_of f_is_number f_is_name f_is_place f_is_value f_kept_in f_Reader_put f_Reader_take_kept f_section_in f_setting_in f_Reader_take_setting f_Reader_take f_parts_of f_SettingsFile_init f_SettingsFile_places f_SettingsFile_sections f_SettingsFile_block f_SettingsFile_value f_SettingsFile_tail f_L_law_together f_SettingsFile_kept f_L_law_kept f_SettingsFile_pairs f_SettingsFile_lines f_law p_SettingsFile_lines : Addr} {od1 an1 od2 an2 od3 an3 od4 an4 od5 an5 od6 an6 od7 an7 od8 an8 od9 an9 od10 an10 od11 an11 od12 an12 od13 an13 od14 an14 od15 an15 od16 an16 od17 an17 od18 an18 od19 an19 od20 an20 od21 an21 od22 an22 od23 an23 od24 an24 od25 an25 od26 an26 od27 an27 od28 an28 od29 an29 od30 an30 od31 an31 od32 an32 : Option Addr} {sl1 sl2 sl3 sl4 sl5 sl6 sl7 sl8 sl9 sl10 sl11 sl12 sl13 sl14 sl15 sl16 sl17 sl18 sl19 sl20 sl21 sl22 sl23 sl24 sl25 sl26 sl27 sl28 sl29 sl30 sl31 sl32 : Array (Option Value)} {oc1 kV1 dc1 pm1 cd1 ct1 oc2 kV2 dc2 pm2 cd2 ct2 oc3 kV3 dc3 pm3 cd3 ct3 oc4 kV4 dc4 pm4 cd4 ct4 oc5 kV5 dc5 pm5 cd5 ct5 oc6 kV6 dc6 pm6 cd6 ct6 oc7 kV7 dc7 pm7 cd7 ct7 oc8 kV8 dc8 pm8 cd8 ct8 oc9 kV9 dc9 pm9 cd9 ct9 oc10 kV10 dc10 pm10 cd10 ct10 oc11 kV11 dc11 pm11 cd11 ct11 oc12 kV12 dc12 pm12 cd12 ct12 oc13 kV13 dc13 pm13 cd13 ct13 oc14 kV14 dc14 pm14 cd14 ct14 oc15 kV15 dc15 pm15 cd15 ct15 oc16 kV16 dc16 pm16 cd16 ct16 oc17 kV17 dc17 pm17 cd17 ct17 oc18 kV18 dc18 pm18 cd18 ct18 oc19 kV19 dc19 pm19 cd19 ct19 oc20 kV20 dc20 pm20 cd20 ct20 oc21 kV21 dc21 pm21 cd21 ct21 oc22 kV22 dc22 pm22 cd22 ct22 oc23 kV23 dc23 pm23 cd23 ct23 oc24 kV24 dc24 pm24 cd24 ct24 oc25 kV25 dc25 pm25 cd25 ct25 oc26 kV26 dc26 pm26 cd26 ct26 oc27 kV27 dc27 pm27 cd27 ct27 oc28 kV28 dc28 pm28 cd28 ct28 oc29 kV29 dc29 pm29 cd29 ct29 oc30 kV30 dc30 pm30 cd30 ct30 oc31 kV31 dc31 pm31 cd31 ct31 oc32 kV32 dc32 pm32 cd32 ct32 : Value} {pr31 : List Value} {t_DIGITS t_KEPT t_LETTERS t_MOST_LETTERS t_MOST_SIGNS t_PLACE t_REMARK t_SECTION : Tok}
  (a1 : PySem.W.nsIn K mainGlobals "_law_bag" = some (some (.ref f_L_law_bag)))
  (l1 : K.lookup f_L_law_bag = some ⟨oc1,od1,.func (PySem.W.fnOf "_law_bag" "_law_bag" (defArgs s_L_law_bag) (defBody s_L_law_bag) (defScope s_L_law_bag) .none kV1 dc1 pm1 an1 cd1 ct1),sl1⟩)
  (c1 : PySem.W.codeIn K cd1 "_law_bag" = true)
  (k1 : PySem.W.keepIn K (.ref f_L_law_bag) = true)
  (a2 : PySem.W.nsIn K mainGlobals "_law_take" = some (some (.ref f_L_law_take)))
  (l2 : K.lookup f_L_law_take = some ⟨oc2,od2,.func (PySem.W.fnOf "_law_take" "_law_take" (defArgs s_L_law_take) (defBody s_L_law_take) (defScope s_L_law_take) .none kV2 dc2 pm2 an2 cd2 ct2),sl2⟩)
  (c2 : PySem.W.codeIn K cd2 "_law_take" = true)
  (k2 : PySem.W.keepIn K (.ref f_L_law_take) = true)
  (a3 : PySem.W.nsIn K mainGlobals "_law_of" = some (some (.ref f_L_law_of)))
  (l3 : K.lookup f_L_law_of = some ⟨oc3,od3,.func (PySem.W.fnOf "_law_of" "_law_of" (defArgs s_L_law_of) (defBody s_L_law_of) (defScope s_L_law_of) .none kV3 dc3 pm3 an3 cd3 ct3),sl3⟩)
  (c3 : PySem.W.codeIn K cd3 "_law_of" = true)
  (k3 : PySem.W.keepIn K (.ref f_L_law_of) = true)
  (a4 : PySem.W.nsIn K mainGlobals "_law_mixed" = some (some (.ref f_L_law_mixed)))
  (l4 : K.lookup f_L_law_mixed = some ⟨oc4,od4,.func (PySem.W.fnOf "_law_mixed" "_law_mixed" (defArgs s_L_law_mixed) (defBody s_L_law_mixed) (defScope s_L_law_mixed) .none kV4 dc4 pm4 an4 cd4 ct4),sl4⟩)
  (c4 : PySem.W.codeIn K cd4 "_law_mixed" = true)
  (k4 : PySem.W.keepIn K (.ref f_L_law_mixed) = true)
  (a5 : PySem.W.nsIn K mainGlobals "_law_drawn" = some (some (.ref f_L_law_drawn)))
  (l5 : K.lookup f_L_law_drawn = some ⟨oc5,od5,.func (PySem.W.fnOf "_law_drawn" "_law_drawn" (defArgs s_L_law_drawn) (defBody s_L_law_drawn) (defScope s_L_law_drawn) .none kV5 dc5 pm5 an5 cd5 ct5),sl5⟩)
  (c5 : PySem.W.codeIn K cd5 "_law_drawn" = true)
  (k5 : PySem.W.keepIn K (.ref f_L_law_drawn) = true)
  (a6 : PySem.W.findIn K (.ref C_Reader) "__init__" = some (some (.ref f_Reader_init)))
  (i6 : PySem.W.isFn K (.ref f_Reader_init) = true)
  (l6 : K.lookup f_Reader_init = some ⟨oc6,od6,.func (PySem.W.fnOf "__init__" "Reader.__init__" (defArgs s_Reader_init) (defBody s_Reader_init) (defScope s_Reader_init) .none kV6 dc6 pm6 an6 cd6 ct6),sl6⟩)
  (c6 : PySem.W.codeIn K cd6 "Reader.__init__" = true)
  (k6 : PySem.W.keepIn K (.ref f_Reader_init) = true)
  (a7 : PySem.W.nsIn K mainGlobals "lines_of" = some (some (.ref f_lines_of)))
  (l7 : K.lookup f_lines_of = some ⟨oc7,od7,.func (PySem.W.fnOf "lines_of" "lines_of" (defArgs s_lines_of) (defBody s_lines_of) (defScope s_lines_of) .none kV7 dc7 pm7 an7 cd7 ct7),sl7⟩)
  (c7 : PySem.W.codeIn K cd7 "lines_of" = true)
  (k7 : PySem.W.keepIn K (.ref f_lines_of) = true)
  (a8 : PySem.W.nsIn K mainGlobals "is_made_of" = some (some (.ref f_is_made_of)))
  (l8 : K.lookup f_is_made_of = some ⟨oc8,od8,.func (PySem.W.fnOf "is_made_of" "is_made_of" (defArgs s_is_made_of) (defBody s_is_made_of) (defScope s_is_made_of) .none kV8 dc8 pm8 an8 cd8 ct8),sl8⟩)
  (c8 : PySem.W.codeIn K cd8 "is_made_of" = true)
  (k8 : PySem.W.keepIn K (.ref f_is_made_of) = true)
  (a9 : PySem.W.nsIn K mainGlobals "is_number" = some (some (.ref f_is_number)))
  (l9 : K.lookup f_is_number = some ⟨oc9,od9,.func (PySem.W.fnOf "is_number" "is_number" (defArgs s_is_number) (defBody s_is_number) (defScope s_is_number) .none kV9 dc9 pm9 an9 cd9 ct9),sl9⟩)
  (c9 : PySem.W.codeIn K cd9 "is_number" = true)
  (k9 : PySem.W.keepIn K (.ref f_is_number) = true)
  (a10 : PySem.W.nsIn K mainGlobals "is_name" = some (some (.ref f_is_name)))
  (l10 : K.lookup f_is_name = some ⟨oc10,od10,.func (PySem.W.fnOf "is_name" "is_name" (defArgs s_is_name) (defBody s_is_name) (defScope s_is_name) .none kV10 dc10 pm10 an10 cd10 ct10),sl10⟩)
  (c10 : PySem.W.codeIn K cd10 "is_name" = true)
  (k10 : PySem.W.keepIn K (.ref f_is_name) = true)
  (a11 : PySem.W.nsIn K mainGlobals "is_place" = some (some (.ref f_is_place)))
  (l11 : K.lookup f_is_place = some ⟨oc11,od11,.func (PySem.W.fnOf "is_place" "is_place" (defArgs s_is_place) (defBody s_is_place) (defScope s_is_place) .none kV11 dc11 pm11 an11 cd11 ct11),sl11⟩)
  (c11 : PySem.W.codeIn K cd11 "is_place" = true)
  (k11 : PySem.W.keepIn K (.ref f_is_place) = true)
  (a12 : PySem.W.nsIn K mainGlobals "is_value" = some (some (.ref f_is_value)))
  (l12 : K.lookup f_is_value = some ⟨oc12,od12,.func (PySem.W.fnOf "is_value" "is_value" (defArgs s_is_value) (defBody s_is_value) (defScope s_is_value) .none kV12 dc12 pm12 an12 cd12 ct12),sl12⟩)
  (c12 : PySem.W.codeIn K cd12 "is_value" = true)
  (k12 : PySem.W.keepIn K (.ref f_is_value) = true)
  (a13 : PySem.W.nsIn K mainGlobals "kept_in" = some (some (.ref f_kept_in)))
  (l13 : K.lookup f_kept_in = some ⟨oc13,od13,.func (PySem.W.fnOf "kept_in" "kept_in" (defArgs s_kept_in) (defBody s_kept_in) (defScope s_kept_in) .none kV13 dc13 pm13 an13 cd13 ct13),sl13⟩)
  (c13 : PySem.W.codeIn K cd13 "kept_in" = true)
  (k13 : PySem.W.keepIn K (.ref f_kept_in) = true)
  (a14 : PySem.W.findIn K (.ref C_Reader) "put" = some (some (.ref f_Reader_put)))
  (i14 : PySem.W.isFn K (.ref f_Reader_put) = true)
  (l14 : K.lookup f_Reader_put = some ⟨oc14,od14,.func (PySem.W.fnOf "put" "Reader.put" (defArgs s_Reader_put) (defBody s_Reader_put) (defScope s_Reader_put) .none kV14 dc14 pm14 an14 cd14 ct14),sl14⟩)
  (c14 : PySem.W.codeIn K cd14 "Reader.put" = true)
  (k14 : PySem.W.keepIn K (.ref f_Reader_put) = true)
  (a15 : PySem.W.findIn K (.ref C_Reader) "take_kept" = some (some (.ref f_Reader_take_kept)))
  (i15 : PySem.W.isFn K (.ref f_Reader_take_kept) = true)
  (l15 : K.lookup f_Reader_take_kept = some ⟨oc15,od15,.func (PySem.W.fnOf "take_kept" "Reader.take_kept" (defArgs s_Reader_take_kept) (defBody s_Reader_take_kept) (defScope s_Reader_take_kept) .none kV15 dc15 pm15 an15 cd15 ct15),sl15⟩)
  (c15 : PySem.W.codeIn K cd15 "Reader.take_kept" = true)
  (k15 : PySem.W.keepIn K (.ref f_Reader_take_kept) = true)
  (a16 : PySem.W.nsIn K mainGlobals "section_in" = some (some (.ref f_section_in)))
  (l16 : K.lookup f_section_in = some ⟨oc16,od16,.func (PySem.W.fnOf "section_in" "section_in" (defArgs s_section_in) (defBody s_section_in) (defScope s_section_in) .none kV16 dc16 pm16 an16 cd16 ct16),sl16⟩)
  (c16 : PySem.W.codeIn K cd16 "section_in" = true)
  (k16 : PySem.W.keepIn K (.ref f_section_in) = true)
  (a17 : PySem.W.nsIn K mainGlobals "setting_in" = some (some (.ref f_setting_in)))
  (l17 : K.lookup f_setting_in = some ⟨oc17,od17,.func (PySem.W.fnOf "setting_in" "setting_in" (defArgs s_setting_in) (defBody s_setting_in) (defScope s_setting_in) .none kV17 dc17 pm17 an17 cd17 ct17),sl17⟩)
  (c17 : PySem.W.codeIn K cd17 "setting_in" = true)
  (k17 : PySem.W.keepIn K (.ref f_setting_in) = true)
  (a18 : PySem.W.findIn K (.ref C_Reader) "take_setting" = some (some (.ref f_Reader_take_setting)))
  (i18 : PySem.W.isFn K (.ref f_Reader_take_setting) = true)
  (l18 : K.lookup f_Reader_take_setting = some ⟨oc18,od18,.func (PySem.W.fnOf "take_setting" "Reader.take_setting" (defArgs s_Reader_take_setting) (defBody s_Reader_take_setting) (defScope s_Reader_take_setting) .none kV18 dc18 pm18 an18 cd18 ct18),sl18⟩)
  (c18 : PySem.W.codeIn K cd18 "Reader.take_setting" = true)
  (k18 : PySem.W.keepIn K (.ref f_Reader_take_setting) = true)
  (a19 : PySem.W.findIn K (.ref C_Reader) "take" = some (some (.ref f_Reader_take)))
  (i19 : PySem.W.isFn K (.ref f_Reader_take) = true)
  (l19 : K.lookup f_Reader_take = some ⟨oc19,od19,.func (PySem.W.fnOf "take" "Reader.take" (defArgs s_Reader_take) (defBody s_Reader_take) (defScope s_Reader_take) .none kV19 dc19 pm19 an19 cd19 ct19),sl19⟩)
  (c19 : PySem.W.codeIn K cd19 "Reader.take" = true)
  (k19 : PySem.W.keepIn K (.ref f_Reader_take) = true)
  (a20 : PySem.W.nsIn K mainGlobals "parts_of" = some (some (.ref f_parts_of)))
  (l20 : K.lookup f_parts_of = some ⟨oc20,od20,.func (PySem.W.fnOf "parts_of" "parts_of" (defArgs s_parts_of) (defBody s_parts_of) (defScope s_parts_of) .none kV20 dc20 pm20 an20 cd20 ct20),sl20⟩)
  (c20 : PySem.W.codeIn K cd20 "parts_of" = true)
  (k20 : PySem.W.keepIn K (.ref f_parts_of) = true)
  (a21 : PySem.W.findIn K (.ref C_SettingsFile) "__init__" = some (some (.ref f_SettingsFile_init)))
  (i21 : PySem.W.isFn K (.ref f_SettingsFile_init) = true)
  (l21 : K.lookup f_SettingsFile_init = some ⟨oc21,od21,.func (PySem.W.fnOf "__init__" "SettingsFile.__init__" (defArgs s_SettingsFile_init) (defBody s_SettingsFile_init) (defScope s_SettingsFile_init) .none kV21 dc21 pm21 an21 cd21 ct21),sl21⟩)
  (c21 : PySem.W.codeIn K cd21 "SettingsFile.__init__" = true)
  (k21 : PySem.W.keepIn K (.ref f_SettingsFile_init) = true)
  (a22 : PySem.W.findIn K (.ref C_SettingsFile) "places" = some (some (.ref f_SettingsFile_places)))
  (i22 : PySem.W.isFn K (.ref f_SettingsFile_places) = true)
  (l22 : K.lookup f_SettingsFile_places = some ⟨oc22,od22,.func (PySem.W.fnOf "places" "SettingsFile.places" (defArgs s_SettingsFile_places) (defBody s_SettingsFile_places) (defScope s_SettingsFile_places) .none kV22 dc22 pm22 an22 cd22 ct22),sl22⟩)
  (c22 : PySem.W.codeIn K cd22 "SettingsFile.places" = true)
  (k22 : PySem.W.keepIn K (.ref f_SettingsFile_places) = true)
  (a23 : PySem.W.findIn K (.ref C_SettingsFile) "sections" = some (some (.ref f_SettingsFile_sections)))
  (i23 : PySem.W.isFn K (.ref f_SettingsFile_sections) = true)
  (l23 : K.lookup f_SettingsFile_sections = some ⟨oc23,od23,.func (PySem.W.fnOf "sections" "SettingsFile.sections" (defArgs s_SettingsFile_sections) (defBody s_SettingsFile_sections) (defScope s_SettingsFile_sections) .none kV23 dc23 pm23 an23 cd23 ct23),sl23⟩)
  (c23 : PySem.W.codeIn K cd23 "SettingsFile.sections" = true)
  (k23 : PySem.W.keepIn K (.ref f_SettingsFile_sections) = true)
  (a24 : PySem.W.findIn K (.ref C_SettingsFile) "block" = some (some (.ref f_SettingsFile_block)))
  (i24 : PySem.W.isFn K (.ref f_SettingsFile_block) = true)
  (l24 : K.lookup f_SettingsFile_block = some ⟨oc24,od24,.func (PySem.W.fnOf "block" "SettingsFile.block" (defArgs s_SettingsFile_block) (defBody s_SettingsFile_block) (defScope s_SettingsFile_block) .none kV24 dc24 pm24 an24 cd24 ct24),sl24⟩)
  (c24 : PySem.W.codeIn K cd24 "SettingsFile.block" = true)
  (k24 : PySem.W.keepIn K (.ref f_SettingsFile_block) = true)
  (a25 : PySem.W.findIn K (.ref C_SettingsFile) "value" = some (some (.ref f_SettingsFile_value)))
  (i25 : PySem.W.isFn K (.ref f_SettingsFile_value) = true)
  (l25 : K.lookup f_SettingsFile_value = some ⟨oc25,od25,.func (PySem.W.fnOf "value" "SettingsFile.value" (defArgs s_SettingsFile_value) (defBody s_SettingsFile_value) (defScope s_SettingsFile_value) .none kV25 dc25 pm25 an25 cd25 ct25),sl25⟩)
  (c25 : PySem.W.codeIn K cd25 "SettingsFile.value" = true)
  (k25 : PySem.W.keepIn K (.ref f_SettingsFile_value) = true)
  (a26 : PySem.W.findIn K (.ref C_SettingsFile) "tail" = some (some (.ref f_SettingsFile_tail)))
  (i26 : PySem.W.isFn K (.ref f_SettingsFile_tail) = true)
  (l26 : K.lookup f_SettingsFile_tail = some ⟨oc26,od26,.func (PySem.W.fnOf "tail" "SettingsFile.tail" (defArgs s_SettingsFile_tail) (defBody s_SettingsFile_tail) (defScope s_SettingsFile_tail) .none kV26 dc26 pm26 an26 cd26 ct26),sl26⟩)
  (c26 : PySem.W.codeIn K cd26 "SettingsFile.tail" = true)
  (k26 : PySem.W.keepIn K (.ref f_SettingsFile_tail) = true)
  (a27 : PySem.W.nsIn K mainGlobals "_law_together" = some (some (.ref f_L_law_together)))
  (l27 : K.lookup f_L_law_together = some ⟨oc27,od27,.func (PySem.W.fnOf "_law_together" "_law_together" (defArgs s_L_law_together) (defBody s_L_law_together) (defScope s_L_law_together) .none kV27 dc27 pm27 an27 cd27 ct27),sl27⟩)
  (c27 : PySem.W.codeIn K cd27 "_law_together" = true)
  (k27 : PySem.W.keepIn K (.ref f_L_law_together) = true)
  (a28 : PySem.W.findIn K (.ref C_SettingsFile) "kept" = some (some (.ref f_SettingsFile_kept)))
  (i28 : PySem.W.isFn K (.ref f_SettingsFile_kept) = true)
  (l28 : K.lookup f_SettingsFile_kept = some ⟨oc28,od28,.func (PySem.W.fnOf "kept" "SettingsFile.kept" (defArgs s_SettingsFile_kept) (defBody s_SettingsFile_kept) (defScope s_SettingsFile_kept) .none kV28 dc28 pm28 an28 cd28 ct28),sl28⟩)
  (c28 : PySem.W.codeIn K cd28 "SettingsFile.kept" = true)
  (k28 : PySem.W.keepIn K (.ref f_SettingsFile_kept) = true)
  (a29 : PySem.W.nsIn K mainGlobals "_law_kept" = some (some (.ref f_L_law_kept)))
  (l29 : K.lookup f_L_law_kept = some ⟨oc29,od29,.func (PySem.W.fnOf "_law_kept" "_law_kept" (defArgs s_L_law_kept) (defBody s_L_law_kept) (defScope s_L_law_kept) .none kV29 dc29 pm29 an29 cd29 ct29),sl29⟩)
  (c29 : PySem.W.codeIn K cd29 "_law_kept" = true)
  (k29 : PySem.W.keepIn K (.ref f_L_law_kept) = true)
  (a30 : PySem.W.findIn K (.ref C_SettingsFile) "pairs" = some (some (.ref f_SettingsFile_pairs)))
  (i30 : PySem.W.isFn K (.ref f_SettingsFile_pairs) = true)
  (l30 : K.lookup f_SettingsFile_pairs = some ⟨oc30,od30,.func (PySem.W.fnOf "pairs" "SettingsFile.pairs" (defArgs s_SettingsFile_pairs) (defBody s_SettingsFile_pairs) (defScope s_SettingsFile_pairs) .none kV30 dc30 pm30 an30 cd30 ct30),sl30⟩)
  (c30 : PySem.W.codeIn K cd30 "SettingsFile.pairs" = true)
  (k30 : PySem.W.keepIn K (.ref f_SettingsFile_pairs) = true)
  (aP_31 : PySem.W.findIn K (.ref C_SettingsFile) "lines" = some (some (.ref p_SettingsFile_lines)))
  (aQ_31 : PySem.W.recIn K p_SettingsFile_lines "property" = some (.ref f_SettingsFile_lines :: pr31))
  (aR_31 : PySem.W.specialIn K (.ref p_SettingsFile_lines) "__get__" = some (some (.builtin "property.__get__")))
  (aS_31 : PySem.W.takesIn K (.ref p_SettingsFile_lines) = some true)
  (l31 : K.lookup f_SettingsFile_lines = some ⟨oc31,od31,.func (PySem.W.fnOf "lines" "SettingsFile.lines" (defArgs s_SettingsFile_lines) (defBody s_SettingsFile_lines) (defScope s_SettingsFile_lines) .none kV31 dc31 pm31 an31 cd31 ct31),sl31⟩)
  (c31 : PySem.W.codeIn K cd31 "SettingsFile.lines" = true)
  (k31 : PySem.W.keepIn K (.ref f_SettingsFile_lines) = true)
  (a32 : PySem.W.nsIn K mainGlobals "law" = some (some (.ref f_law)))
  (l32 : K.lookup f_law = some ⟨oc32,od32,.func (PySem.W.fnOf "law" "law" (defArgs s_law) (defBody s_law) (defScope s_law) .none kV32 dc32 pm32 an32 cd32 ct32),sl32⟩)
  (c32 : PySem.W.codeIn K cd32 "law" = true)
  (k32 : PySem.W.keepIn K (.ref f_law) = true)
  (z_abs : PySem.W.nsIn K mainGlobals "abs" = some none)
  (z_all : PySem.W.nsIn K mainGlobals "all" = some none)
  (z_dict : PySem.W.nsIn K mainGlobals "dict" = some none)
  (z_enumerate : PySem.W.nsIn K mainGlobals "enumerate" = some none)
  (z_int : PySem.W.nsIn K mainGlobals "int" = some none)
  (z_isinstance : PySem.W.nsIn K mainGlobals "isinstance" = some none)
  (z_len : PySem.W.nsIn K mainGlobals "len" = some none)
  (z_list : PySem.W.nsIn K mainGlobals "list" = some none)
  (z_max : PySem.W.nsIn K mainGlobals "max" = some none)
  (z_min : PySem.W.nsIn K mainGlobals "min" = some none)
  (z_range : PySem.W.nsIn K mainGlobals "range" = some none)
  (z_sorted : PySem.W.nsIn K mainGlobals "sorted" = some none)
  (z_str : PySem.W.nsIn K mainGlobals "str" = some none)
  (g_DIGITS : PySem.W.nsIn K mainGlobals "DIGITS" = some (some (.str "0123456789" t_DIGITS)))
  (g_KEPT : PySem.W.nsIn K mainGlobals "KEPT" = some (some (.str "kept" t_KEPT)))
  (g_LETTERS : PySem.W.nsIn K mainGlobals "LETTERS" = some (some (.str "abcdefghijklmnopqrstuvwxyz" t_LETTERS)))
  (g_MOST_LETTERS : PySem.W.nsIn K mainGlobals "MOST_LETTERS" = some (some (.int 8 t_MOST_LETTERS)))
  (g_MOST_SIGNS : PySem.W.nsIn K mainGlobals "MOST_SIGNS" = some (some (.int 12 t_MOST_SIGNS)))
  (g_PLACE : PySem.W.nsIn K mainGlobals "PLACE" = some (some (.str "place" t_PLACE)))
  (g_REMARK : PySem.W.nsIn K mainGlobals "REMARK" = some (some (.str "remark" t_REMARK)))
  (g_SECTION : PySem.W.nsIn K mainGlobals "SECTION" = some (some (.str "section" t_SECTION)))
  (aC_Reader : PySem.W.nsIn K mainGlobals "Reader" = some (some (.ref C_Reader)))
  (pg_Reader : PySem.W.plainGet K C_Reader Str.empty = true)
  (hd_Reader : PySem.W.hasDictIn K C_Reader = true)
  (po_Reader : PySem.W.plainOver K C_Reader = true)
  (sa_Reader : PySem.W.findIn K (.ref C_Reader) "__setattr__" = some (some (.builtin "object.__setattr__")))
  (aC_SettingsFile : PySem.W.nsIn K mainGlobals "SettingsFile" = some (some (.ref C_SettingsFile)))
  (pg_SettingsFile : PySem.W.plainGet K C_SettingsFile Str.empty = true)
  (hd_SettingsFile : PySem.W.hasDictIn K C_SettingsFile = true)
  (po_SettingsFile : PySem.W.plainOver K C_SettingsFile = true)
  (sa_SettingsFile : PySem.W.findIn K (.ref C_SettingsFile) "__setattr__" = some (some (.builtin "object.__setattr__")))
  (mk_Reader : PySem.W.makesIn K C_Reader = true)
  (kc_Reader : PySem.W.keepIn K (.ref C_Reader) = true)
  (mk_SettingsFile : PySem.W.makesIn K C_SettingsFile = true)
  (kc_SettingsFile : PySem.W.keepIn K (.ref C_SettingsFile) = true)
  (nf_all_parts_SettingsFile : PySem.W.findIn K (.ref C_SettingsFile) "all_parts" = some none)
  (nf_met_Reader : PySem.W.findIn K (.ref C_Reader) "met" = some none)
  (nf_parts_Reader : PySem.W.findIn K (.ref C_Reader) "parts" = some none)
  (nf_parts_SettingsFile : PySem.W.findIn K (.ref C_SettingsFile) "parts" = some none)
  (nf_section_Reader : PySem.W.findIn K (.ref C_Reader) "section" = some none)
  (nf_settings_read_SettingsFile : PySem.W.findIn K (.ref C_SettingsFile) "settings_read" = some none)
  (nf_whole_SettingsFile : PySem.W.findIn K (.ref C_SettingsFile) "whole" = some none) :
  ∃ fd : FuncData,(∀ (s : Shared) (v : Value),BindsTo s fd { pos:=[v] } [("_law_script",v)]) ∧ ∀ base : Heap,PySem.W.Frag.In K base → base.Ns mainGlobals mg → FnG l.prog w K mg base 8 fa fd ["_law_script"] (spAll K):=by
 have e:=hfa.symm.trans (PySem.W.mg_of X G a32)
 cases e
 have KK : Kx K ⟨C_Reader,C_SettingsFile,f_L_law_bag,f_L_law_take,f_L_law_of,f_L_law_mixed,f_L_law_drawn,f_Reader_init,f_lines_of,f_is_made_of,f_is_number,f_is_name,f_is_place,f_is_value,f_kept_in,f_Reader_put,f_Reader_take_kept,f_section_in,f_setting_in,f_Reader_take_setting,f_Reader_take,f_parts_of,f_SettingsFile_init,f_SettingsFile_places,f_SettingsFile_sections,f_SettingsFile_block,f_SettingsFile_value,f_SettingsFile_tail,f_L_law_together,f_SettingsFile_kept,f_L_law_kept,f_SettingsFile_pairs,f_SettingsFile_lines,fa,p_SettingsFile_lines⟩:=⟨trivial⟩
 refine ⟨PySem.W.fnOf "law" "law" (defArgs s_law) (defBody s_law) (defScope s_law) .none kV32 dc32 pm32 an32 cd32 ct32,fun s v=>.of_eq rfl,fun base _ _=>?_⟩
 have T : Tx K mg base ⟨C_Reader,C_SettingsFile,f_L_law_bag,f_L_law_take,f_L_law_of,f_L_law_mixed,f_L_law_drawn,f_Reader_init,f_lines_of,f_is_made_of,f_is_number,f_is_name,f_is_place,f_is_value,f_kept_in,f_Reader_put,f_Reader_take_kept,f_section_in,f_setting_in,f_Reader_take_setting,f_Reader_take,f_parts_of,f_SettingsFile_init,f_SettingsFile_places,f_SettingsFile_sections,f_SettingsFile_block,f_SettingsFile_value,f_SettingsFile_tail,f_L_law_together,f_SettingsFile_kept,f_L_law_kept,f_SettingsFile_pairs,f_SettingsFile_lines,fa,p_SettingsFile_lines⟩:=by
  refine ⟨?_,?_,?_,?_,?_,?_,?_,?_,?_,?_,?_,?_,?_,?_,?_,?_,?_,?_,?_,?_,?_,?_,?_,?_,?_,?_,?_,?_,?_,?_,?_,?_,?_,?_,?_,?_,?_,?_,?_,?_,?_,?_,?_,?_,?_,?_,?_,?_,?_,?_,?_,?_,?_,?_,?_,?_,?_,?_,?_,?_,?_,?_,?_,?_,?_,?_,?_,?_,?_,?_,?_,?_,?_,?_,?_,?_,?_,?_,?_,?_,?_,?_,?_,?_,?_,?_,?_,?_,?_,?_,?_,?_,?_,?_,?_,?_,?_,?_,?_,?_,?_,?_,?_,?_,?_,?_,?_,?_,?_,?_,?_,?_⟩
  ·exact PySem.W.mg_none_of X G z_abs
  ·exact PySem.W.mg_none_of X G z_all
  ·exact PySem.W.mg_none_of X G z_dict
  ·exact PySem.W.mg_none_of X G z_enumerate
  ·exact PySem.W.mg_none_of X G z_int
  ·exact PySem.W.mg_none_of X G z_isinstance
  ·exact PySem.W.mg_none_of X G z_len
  ·exact PySem.W.mg_none_of X G z_list
  ·exact PySem.W.mg_none_of X G z_max
  ·exact PySem.W.mg_none_of X G z_min
  ·exact PySem.W.mg_none_of X G z_range
  ·exact PySem.W.mg_none_of X G z_sorted
  ·exact PySem.W.mg_none_of X G z_str
  ·exact ⟨_,PySem.W.mg_of X G g_DIGITS,_,rfl⟩
  ·exact ⟨_,PySem.W.mg_of X G g_KEPT,_,rfl⟩
  ·exact ⟨_,PySem.W.mg_of X G g_LETTERS,_,rfl⟩
  ·exact ⟨_,PySem.W.mg_of X G g_MOST_LETTERS,_,rfl⟩
  ·exact ⟨_,PySem.W.mg_of X G g_MOST_SIGNS,_,rfl⟩
  ·exact ⟨_,PySem.W.mg_of X G g_PLACE,_,rfl⟩
  ·exact ⟨_,PySem.W.mg_of X G g_REMARK,_,rfl⟩
  ·exact ⟨_,PySem.W.mg_of X G g_SECTION,_,rfl⟩
  ·exact PySem.W.mg_of X G aC_Reader
  ·exact ⟨pg_Reader,hd_Reader,po_Reader,sa_Reader⟩
  ·exact PySem.W.mg_of X G aC_SettingsFile
  ·exact ⟨pg_SettingsFile,hd_SettingsFile,po_SettingsFile,sa_SettingsFile⟩
  ·exact ⟨mk_Reader,a6,i6,kc_Reader⟩
  ·exact ⟨mk_SettingsFile,a21,i21,kc_SettingsFile⟩
  ·exact ⟨a14,i14,k14⟩
  ·exact ⟨a19,i19,k19⟩
  ·exact ⟨a15,i15,k15⟩
  ·exact ⟨a18,i18,k18⟩
  ·exact ⟨a24,i24,k24⟩
  ·exact ⟨a28,i28,k28⟩
  ·exact ⟨a30,i30,k30⟩
  ·exact ⟨a22,i22,k22⟩
  ·exact ⟨a23,i23,k23⟩
  ·exact ⟨a26,i26,k26⟩
  ·exact ⟨a25,i25,k25⟩
  ·exact fun C hC=>by
    simp only [List.mem_cons,List.not_mem_nil,or_false] at hC
    rcases hC with rfl
    ·exact ⟨⟨pg_SettingsFile,hd_SettingsFile,po_SettingsFile,sa_SettingsFile⟩,nf_all_parts_SettingsFile⟩
  ·exact fun C hC=>by
    simp only [List.mem_cons,List.not_mem_nil,or_false] at hC
    rcases hC with rfl
    ·exact ⟨⟨pg_Reader,hd_Reader,po_Reader,sa_Reader⟩,nf_met_Reader⟩
  ·exact fun C hC=>by
    simp only [List.mem_cons,List.not_mem_nil,or_false] at hC
    rcases hC with rfl
    ·exact ⟨⟨pg_Reader,hd_Reader,po_Reader,sa_Reader⟩,nf_parts_Reader⟩
  ·exact fun C hC=>by
    simp only [List.mem_cons,List.not_mem_nil,or_false] at hC
    rcases hC with rfl
    ·exact ⟨⟨pg_SettingsFile,hd_SettingsFile,po_SettingsFile,sa_SettingsFile⟩,nf_parts_SettingsFile⟩
  ·exact fun C hC=>by
    simp only [List.mem_cons,List.not_mem_nil,or_false] at hC
    rcases hC with rfl
    ·exact ⟨⟨pg_Reader,hd_Reader,po_Reader,sa_Reader⟩,nf_section_Reader⟩
  ·exact fun C hC=>by
    simp only [List.mem_cons,List.not_mem_nil,or_false] at hC
    rcases hC with rfl
    ·exact ⟨⟨pg_SettingsFile,hd_SettingsFile,po_SettingsFile,sa_SettingsFile⟩,nf_settings_read_SettingsFile⟩
  ·exact fun C hC=>by
    simp only [List.mem_cons,List.not_mem_nil,or_false] at hC
    rcases hC with rfl
    ·exact ⟨⟨pg_SettingsFile,hd_SettingsFile,po_SettingsFile,sa_SettingsFile⟩,nf_whole_SettingsFile⟩
  ·exact PySem.W.mg_of X G a1
  ·exact k1
  ·exact ⟨_,fun_mk (st:=s_L_law_bag) l1 c1 k1⟩
  ·exact PySem.W.mg_of X G a2
  ·exact k2
  ·exact ⟨_,fun_mk (st:=s_L_law_take) l2 c2 k2⟩
  ·exact PySem.W.mg_of X G a3
  ·exact k3
  ·exact ⟨_,fun_mk (st:=s_L_law_of) l3 c3 k3⟩
  ·exact PySem.W.mg_of X G a4
  ·exact k4
  ·exact ⟨_,fun_mk (st:=s_L_law_mixed) l4 c4 k4⟩
  ·exact PySem.W.mg_of X G a5
  ·exact k5
  ·exact ⟨_,fun_mk (st:=s_L_law_drawn) l5 c5 k5⟩
  ·exact ⟨_,fun_mk (st:=s_Reader_init) l6 c6 k6⟩
  ·exact PySem.W.mg_of X G a7
  ·exact k7
  ·exact ⟨_,fun_mk (st:=s_lines_of) l7 c7 k7⟩
  ·exact PySem.W.mg_of X G a8
  ·exact k8
  ·exact ⟨_,fun_mk (st:=s_is_made_of) l8 c8 k8⟩
  ·exact PySem.W.mg_of X G a9
  ·exact k9
  ·exact ⟨_,fun_mk (st:=s_is_number) l9 c9 k9⟩
  ·exact PySem.W.mg_of X G a10
  ·exact k10
  ·exact ⟨_,fun_mk (st:=s_is_name) l10 c10 k10⟩
  ·exact PySem.W.mg_of X G a11
  ·exact k11
  ·exact ⟨_,fun_mk (st:=s_is_place) l11 c11 k11⟩
  ·exact PySem.W.mg_of X G a12
  ·exact k12
  ·exact ⟨_,fun_mk (st:=s_is_value) l12 c12 k12⟩
  ·exact PySem.W.mg_of X G a13
  ·exact k13
  ·exact ⟨_,fun_mk (st:=s_kept_in) l13 c13 k13⟩
  ·exact ⟨_,fun_mk (st:=s_Reader_put) l14 c14 k14⟩
  ·exact ⟨_,fun_mk (st:=s_Reader_take_kept) l15 c15 k15⟩
  ·exact PySem.W.mg_of X G a16
  ·exact k16
  ·exact ⟨_,fun_mk (st:=s_section_in) l16 c16 k16⟩
  ·exact PySem.W.mg_of X G a17
  ·exact k17
  ·exact ⟨_,fun_mk (st:=s_setting_in) l17 c17 k17⟩
  ·exact ⟨_,fun_mk (st:=s_Reader_take_setting) l18 c18 k18⟩
  ·exact ⟨_,fun_mk (st:=s_Reader_take) l19 c19 k19⟩
  ·exact PySem.W.mg_of X G a20
  ·exact k20
  ·exact ⟨_,fun_mk (st:=s_parts_of) l20 c20 k20⟩
  ·exact ⟨_,fun_mk (st:=s_SettingsFile_init) l21 c21 k21⟩
  ·exact ⟨_,fun_mk (st:=s_SettingsFile_places) l22 c22 k22⟩
  ·exact ⟨_,fun_mk (st:=s_SettingsFile_sections) l23 c23 k23⟩
  ·exact ⟨_,fun_mk (st:=s_SettingsFile_block) l24 c24 k24⟩
  ·exact ⟨_,fun_mk (st:=s_SettingsFile_value) l25 c25 k25⟩
  ·exact ⟨_,fun_mk (st:=s_SettingsFile_tail) l26 c26 k26⟩
  ·exact PySem.W.mg_of X G a27
  ·exact k27
  ·exact ⟨_,fun_mk (st:=s_L_law_together) l27 c27 k27⟩
  ·exact ⟨_,fun_mk (st:=s_SettingsFile_kept) l28 c28 k28⟩
  ·exact PySem.W.mg_of X G a29
  ·exact k29
  ·exact ⟨_,fun_mk (st:=s_L_law_kept) l29 c29 k29⟩
  ·exact ⟨_,fun_mk (st:=s_SettingsFile_pairs) l30 c30 k30⟩
  ·exact ⟨_,fun_mk (st:=s_SettingsFile_lines) l31 c31 k31⟩
  ·exact ⟨aP_31,aR_31,aS_31,⟨_,aQ_31⟩⟩
  ·exact fun C hC=>absurd hC List.not_mem_nil
 exact (fn_law (fun_mk (st:=s_law) l32 c32 k32) T).imp fun vs H Q E h=>h _ KK
end VL.K08
namespace VL.K08
open PySem PySem.Spec PyProof.Rows L2 VL
variable {K : PySem.W.Frag} {a : Ad} {st : Store}
local macro_rules | `(tactic| simp_all? only [$ts,*])=>`(tactic| simp only [fnM,sSeq,sRet,sRetN,sExpr,sIf,sNil,sNo,sAsg,tgN,bndS,bnd,vVar,vC,f2,f1,fB,pu,fN,vTup,vLst,fTup,fCons,fNil,fPure,fIf,fAnd,fOr,fNot,asB,asT,bAnd,bOr,bNot,fChain,fCall,fCW,gPos,gApp,R.of,R.of2,fM,pu4,tgT,tgCons,tgNil,unp,pureL,sPar,sPar3,fLstC,fFld,oFld,fMeth,insU,sFldS,setFld,fSl,oNone,oSome,tgSub,setU,fIter,fItN,fItS,sFor,getL,getT,VL.getD,keyD,tyB,lstC,oAdd,oSub,oMul,oFdiv,oMod,oPow,oNeg,oLt,oLe,oGt,oGe,oEq,oNe,oIsN,oNotN,oIn,oNotIn,oIx,oLen,oInt,oAbs,oMin,oMax,oStr,oList,oListC,oTuple,oAll,oAny,itemsU,lenN,truB,fJs,oFmt,List.map_cons,List.map_nil,List.length_cons,List.length_nil,List.replicate_succ,List.replicate_zero,List.cons_append,List.nil_append,List.append_nil,List.getElem?_cons_zero,List.getElem?_cons_succ,List.set_cons_zero,List.set_cons_succ,Nat.reduceAdd,Nat.reduceSub,Option.map_some,Option.map_none,if_true,if_false,ite_true,ite_false,Bool.false_eq_true,reduceCtorEq,true_and,and_true,and_self,Bool.not_true,Bool.not_false,Nat.zero_add,Option.bind_some,Option.bind_eq_bind,Option.pure_def,decide_true,decide_false,eq_self,Nat.reduceEqDiff,Nat.reduceLT,Nat.reduceLeDiff,Int.reduceLT,Int.reduceLE,Int.reduceEq,Bool.and_true,Bool.true_and,Bool.false_and,Bool.or_false,Bool.or_true,Bool.true_or,Bool.false_or,sz0,szl0,sz1,szl1,sz2,szl2,sz3,szl3,sz4,szl4,sz5,szl5,sz6,szl6,sz7,szl7,sz8,szl8,sz9,szl9,sz10,szl10,sz11,szl11,sz12,szl12,sz13,szl13,sz14,szl14,sz15,szl15,$ts,*])
noncomputable def inS (c : Nat) (g : Str) : Bool:=!(Builtin.Str.occurrences g ⟨#[c]⟩ 0 g.length 1).isEmpty
noncomputable def madeOf (s g : Str) (m : Int) : Bool:=decide ((1 : Int) ≤ (s.length : Nat)) && (decide (((s.length : Nat) : Int) ≤ m) && s.cps.toList.all fun c=>inS c g)
theorem ev_made (h : WF st) (s g : Str) (m : Int) (hs : s.length ≤ sizeLine) : m_is_made_of K a [.d (.str s),.d (.str g),.d (.int m)] st = .ok (.d (.bl (madeOf s g m))) st:=by
 have e : ∀ st : Store,WF st → c_is_made_of_1 K a [some (.d (.str s)),some (.d (.str g)),some (.d (.int m)),none] st = .ok (.d (.lst (s.cps.toList.map fun c=>D.bl (inS c g)))) st:=fun st h=>by
  unfold c_is_made_of_1
  rw [fLc_pure (us:=s.cps.toList.map fun c=>.d (.str ⟨#[c]⟩)) (P:=fun _=>true) (q:=fun u=>match u with
   | .d (.str c)=>D.bl (!(Builtin.Str.occurrences g c 0 g.length 1).isEmpty)
   | _=>.non) h]
  ·rw [List.filter_eq_self.mpr (fun _ _=>rfl),List.map_map]; rfl
  ·simp_all? only [itV_str]
  ·rw [List.length_map,Array.length_toList]; exact hs
  ·intro u hu st' h'
   obtain ⟨c,hc,rfl⟩:=List.mem_map.mp hu
   refine ⟨_,rfl,rfl,fun _=>?_⟩
   simp_all? only [wipeE,inB]
 unfold m_is_made_of g_is_made_of madeOf
 by_cases h1 : (1 : Int) ≤ (s.length : Nat)
 ·by_cases h2 : ((s.length : Nat) : Int) ≤ m
  ·simp_all? only [oIsi,tyN,isi_str,hs,e st h,decide_eq_true h1,decide_eq_true h2,List.map_map,Function.comp_def,blsU_map,wFrz_d h,Bool.true_and,List.all_map,id_eq]
  ·simp_all? only [oIsi,tyN,isi_str,hs,decide_eq_true h1,decide_eq_false h2,wFrz_d h,Bool.false_and,Bool.and_false]
 ·simp_all? only [oIsi,tyN,isi_str,hs,decide_eq_false h1,wFrz_d h,Bool.false_and]
noncomputable def LETTERS : Str:="abcdefghijklmnopqrstuvwxyz"
noncomputable def DIGITS : Str:="0123456789"
noncomputable def isName (s : Str) : Bool:=madeOf s "abcdefghijklmnopqrstuvwxyz" 8
theorem ev_name (h : WF st) (s : Str) (hs : s.length ≤ sizeLine) : m_is_name K a [.d (.str s)] st = .ok (.d (.bl (isName s))) st:=by
 unfold m_is_name g_is_name
 simp_all? only [ev_made h _ _ _ hs,wFrz_d h,isName]
noncomputable def isPlace (s : Str) : Bool:=isName (Txt.partition s ".").1 && isName (Txt.partition s ".").2.2
theorem part_len1 (s t : Str) : (Txt.partition s t).1.length ≤ s.length:=by
 unfold Txt.partition
 split
 ·exact strSub_length_le _ _ _
 ·exact Nat.le_refl _
theorem part_len3 (s t : Str) : (Txt.partition s t).2.2.length ≤ s.length:=by
 unfold Txt.partition
 split
 ·exact strSub_length_le _ _ _
 ·exact Nat.zero_le _
theorem ev_place (h : WF st) (s : Str) (hs : s.length ≤ sizeLine) : m_is_place K a [.d (.str s)] st = .ok (.d (.bl (isPlace s))) st:=by
 have l1 : (Txt.partition s ".").1.length ≤ sizeLine:=Nat.le_trans (part_len1 _ _) hs
 have l2 : (Txt.partition s ".").2.2.length ≤ sizeLine:=Nat.le_trans (part_len3 _ _) hs
 have hd : (("." : Str).length == 0) = false:=by decide +kernel
 unfold m_is_place g_is_place isPlace
 cases e : isName (Txt.partition s ".").1 with
 | true=>simp_all? only [oIsi,tyN,isi_str,mPartition,hd,hs,ev_name h _ l1,ev_name h _ l2,wFrz_d h,e]
 | false=>simp_all? only [oIsi,tyN,isi_str,mPartition,hd,hs,ev_name h _ l1,ev_name h _ l2,wFrz_d h,e]
/-- the first sign -/
noncomputable def first (s : Str) : Str:=match s.cps.toList with
 | []=>Str.empty
 | c :: _=>⟨#[c]⟩
theorem at0 {s : Str} (h : 1 ≤ s.length) : (atI s.cps.toList 0).map (fun c=>U.d (.str ⟨#[c]⟩)) = some (.d (.str (first s))):=by
 unfold first
 have hl : s.cps.toList.length = s.length:=Array.length_toList
 cases e : s.cps.toList with
 | nil=>rw [e] at hl; simp at hl; omega
 | cons c r =>
  unfold atI ixN
  simp
theorem made_pos {s g : Str} {m : Int} (h : madeOf s g m = true) : 1 ≤ s.length:=by
 unfold madeOf at h
 rw [Bool.and_eq_true] at h
 have:=of_decide_eq_true h.1
 omega
theorem vals_len : ("abcdefghijklmnopqrstuvwxyz" : Str).length + ("0123456789" : Str).length ≤ sizeLine:=by decide +kernel
theorem vals_len2 : (("abcdefghijklmnopqrstuvwxyz" : Str) ++ ("0123456789" : Str)).length + ("-" : Str).length ≤ sizeLine:=by decide +kernel
noncomputable def VALS : Str:=("abcdefghijklmnopqrstuvwxyz" : Str) ++ ("0123456789" : Str) ++ ("-" : Str)
noncomputable def isValue (s : Str) : Bool:=madeOf s VALS 12 && !decide (first s = "-")
theorem ev_value (h : WF st) (s : Str) (hs : s.length ≤ sizeLine) : m_is_value K a [.d (.str s)] st = .ok (.d (.bl (isValue s))) st:=by
 unfold m_is_value g_is_value isValue
 cases e : madeOf s VALS 12 with
 | false=>
  have em:=ev_made (K:=K) (a:=a) h s VALS 12 hs
  unfold VALS at em e
  simp_all? only [vals_len,vals_len2,em,wFrz_d h,e]
 | true =>
  have a0:=at0 (made_pos e)
  have em:=ev_made (K:=K) (a:=a) h s VALS 12 hs
  unfold VALS at em e
  simp_all? only [vals_len,vals_len2,em,wFrz_d h,e,eqB,hs,a0]
/-- the first sign -/
noncomputable def isNumber (s : Str) : Bool:=madeOf s "0123456789" 2 && (decide (s = "0") || !decide (first s = "0"))
theorem ev_number (h : WF st) (s : Str) (hs : s.length ≤ sizeLine) : m_is_number K a [.d (.str s)] st = .ok (.d (.bl (isNumber s))) st:=by
 unfold m_is_number g_is_number isNumber
 cases e : madeOf s "0123456789" 2 with
 | false=>simp_all? only [ev_made h _ _ _ hs,wFrz_d h,e]
 | true =>
  have a0:=at0 (made_pos e)
  by_cases e2 : s = "0"
  ·simp_all? only [ev_made h _ _ _ hs,wFrz_d h,e,eqB,decide_eq_true e2]
  ·simp_all? only [ev_made h _ _ _ hs,wFrz_d h,e,eqB,decide_eq_false e2,hs,a0]
noncomputable def settingIn (s : Str) : D:=if (isName (Txt.partition s " = ").1 && isValue (Txt.partition s " = ").2.2) = true then .tup [.str (Txt.partition s " = ").1,.str (Txt.partition s " = ").2.2] else .non
theorem ev_setting (h : WF st) (s : Str) (hs : s.length ≤ sizeLine) : m_setting_in K a [.d (.str s)] st = .ok (.d (settingIn s)) st:=by
 have l1 : (Txt.partition s " = ").1.length ≤ sizeLine:=Nat.le_trans (part_len1 _ _) hs
 have l2 : (Txt.partition s " = ").2.2.length ≤ sizeLine:=Nat.le_trans (part_len3 _ _) hs
 have hd : ((" = " : Str).length == 0) = false:=by decide +kernel
 unfold m_setting_in g_setting_in settingIn
 cases e : isName (Txt.partition s " = ").1 with
 | false=>simp_all? only [mPartition,hd,hs,ev_name h _ l1,wFrz_d h,e]
 | true =>
  cases e2 : isValue (Txt.partition s " = ").2.2 with
  | true=>simp_all? only [mPartition,hd,hs,ev_name h _ l1,ev_value h _ l2,wFrz_d h,e,e2]
  | false=>simp_all? only [mPartition,hd,hs,ev_name h _ l1,ev_value h _ l2,wFrz_d h,e,e2]
noncomputable def sectionIn (s : Str) : D:=if decide (L2.cutS s none (some 1) = "[") && decide (L2.cutS s (some (-1)) none = "]") && isName (L2.cutS s (some 1) (some (-1))) then .str (L2.cutS s (some 1) (some (-1))) else .non
theorem ev_section (h : WF st) (s : Str) (hs : s.length ≤ sizeLine) : m_section_in K a [.d (.str s)] st = .ok (.d (sectionIn s)) st:=by
 have l1 : (L2.cutS s (some 1) (some (-1))).length ≤ sizeLine:=Nat.le_trans (cut_len _ _ _) hs
 unfold m_section_in g_section_in sectionIn
 by_cases e1 : L2.cutS s none (some 1) = "["
 ·by_cases e2 : L2.cutS s (some (-1)) none = "]"
  ·cases e3 : isName (L2.cutS s (some 1) (some (-1))) with
   | true=>simp_all? only [oSl,hs,ev_name h _ l1,wFrz_d h,eqB,decide_eq_true e1,decide_eq_true e2,e3]
   | false=>simp_all? only [oSl,hs,ev_name h _ l1,wFrz_d h,eqB,decide_eq_true e1,decide_eq_true e2,e3]
  ·simp_all? only [oSl,hs,ev_name h _ l1,wFrz_d h,eqB,decide_eq_true e1,decide_eq_false e2]
 ·simp_all? only [oSl,hs,ev_name h _ l1,wFrz_d h,eqB,decide_eq_false e1]
/-- a kept line's parts: release,place,value -/
structure KeptOk (line : Str) (n : Int) (p : Str) (v : D) : Prop where
 ln : line.length + 2 ≤ sizeLine
 ex : (∃ w1,Txt.split line " " = [("#~" : Str),w1,p] ∧ isNumber w1 = true ∧ intText? w1 = some n ∧ w1.length ≤ 640 ∧ v = .non) ∨
  ∃ w1 w,Txt.split line " " = [("#~" : Str),w1,p,("=" : Str),w] ∧ isNumber w1 = true ∧ intText? w1 = some n ∧ w1.length ≤ 640 ∧ isValue w = true ∧ w.length ≤ sizeLine ∧ v = .str w
 pl : isPlace p = true
 ps : p.length ≤ sizeLine
theorem ev_kept (h : WF st) {line : Str} {n : Int} {p : Str} {v : D} (k : KeptOk line n p v) : m_kept_in K a [.d (.str line)] st = .ok (.d (.tup [.int n,.str p,v])) st:=by
 have hd : ((" " : Str).length == 0) = false:=by decide +kernel
 have pl:=k.pl
 have e0 : decide (("#~" : Str) = ("#~" : Str)) = true:=decide_eq_true rfl
 have e1 : decide (("=" : Str) = ("=" : Str)) = true:=decide_eq_true rfl
 unfold m_kept_in g_kept_in
 rcases k.ex with ⟨w1,e,n1,i1,l1,rfl⟩ | ⟨w1,w,e,n1,i1,l1,v1,lw,rfl⟩
 ·simp_all? only [mSplit,hd,k.ln,e,at_0,at_1,at_2,inB,flatD,allM,List.any_cons,List.any_nil,eqv_int,eqB,e0,ev_number h _ (w640 l1),ev_place h _ k.ps,n1,pl,i1,l1,wFrz_d h,Int.reduceBEq,Int.cast_ofNat_Int,beq_self_eq_true]
 ·simp_all? only [mSplit,hd,k.ln,e,at_0,at_1,at_2,at_3,at_4,inB,flatD,allM,List.any_cons,List.any_nil,eqv_int,eqB,e0,e1,ev_number h _ (w640 l1),ev_place h _ k.ps,ev_value h _ lw,v1,n1,pl,i1,l1,wFrz_d h,Int.reduceBEq,Int.cast_ofNat_Int,beq_self_eq_true]
theorem lk_sec (x y z : U) : List.lookup ("section" : Str) [(("section" : Str),x),(("met" : Str),y),(("parts" : Str),z)] = some x:=rfl
theorem lk_met (x y z : U) : List.lookup ("met" : Str) [(("section" : Str),x),(("met" : Str),y),(("parts" : Str),z)] = some y:=rfl
theorem lk_parts (x y z : U) : List.lookup ("parts" : Str) [(("section" : Str),x),(("met" : Str),y),(("parts" : Str),z)] = some z:=rfl
theorem lk_put (x y z : U) : List.lookup ("put" : Str) [(("section" : Str),x),(("met" : Str),y),(("parts" : Str),z)] = none:=rfl
theorem lk_tk (x y z : U) : List.lookup ("take_kept" : Str) [(("section" : Str),x),(("met" : Str),y),(("parts" : Str),z)] = none:=rfl
theorem lk_ts (x y z : U) : List.lookup ("take_setting" : Str) [(("section" : Str),x),(("met" : Str),y),(("parts" : Str),z)] = none:=rfl
theorem lk_take (x y z : U) : List.lookup ("take" : Str) [(("section" : Str),x),(("met" : Str),y),(("parts" : Str),z)] = none:=rfl
structure RdAt (a : Ad) (st : Store) (r i j : Nat) (sec : D) (met parts : List D) : Prop where
 r0 : st[r]? = some (.ins a.C_Reader [("section",.d sec),("met",.ref i),("parts",.ref j)])
 i0 : st[i]? = some (.lst (met.map U.d))
 j0 : st[j]? = some (.lst (parts.map U.d))
 ri : r ≠ i
 rj : r ≠ j
 ij : i ≠ j
/-- not among those met -/
structure NewIn (met : List D) (x : D) : Prop where
 ex : ∃ qs p,toPs met = some qs ∧ toP x = some p ∧ SeqAt.shaped p = true ∧ SeqAt.shaped (.list qs) = true ∧ (qs.any fun q=>PyData.eqv q p) = false
theorem NewIn.inB {st : Store} {i : Nat} {met : List D} {w : Str} {nm : D} (h : NewIn met (.tup [.str w,nm])) (hi : st[i]? = some (.lst (met.map U.d))) : inB st (.d (.tup [.str w,nm])) (.ref i) = some false:=by
 obtain ⟨qs,p,h1,h2,h3,h4,h5⟩:=h.ex
 unfold VL.inB
 simp only [asP_d,asP_ref hi,h1,h2,Option.map_some,h3,h4,and_self,if_true,h5]
theorem ev_put (h : WF st) {r i j : Nat} {sec : D} {met parts : List D} (rd : RdAt a st r i j sec met parts) {t : Int} {w kd : Str} {nm th : D} (N : NewIn met (.tup [.str w,nm])) (l1 : met.length < sizeLine) (l2 : parts.length < sizeLine) :
  m_Reader_put K a [.ref r,.d (.int t),.d (.str w),.d nm,.d th,.d (.str kd)] st = .ok (.d .non) ((st.set i (.lst ((met ++ [D.tup [.str w,nm]]).map U.d))).set j (.lst ((parts ++ [D.tup [.int t,.str w,th]]).map U.d))):=by
 have hn:=N.inB rd.i0
 have l1' : (met.map U.d).length < sizeLine:=by rw [List.length_map]; exact l1
 have l2' : (parts.map U.d).length < sizeLine:=by rw [List.length_map]; exact l2
 have e1 : (st.set i (.lst ((met ++ [D.tup [.str w,nm]]).map U.d)))[r]? = some (.ins a.C_Reader [("section",.d sec),("met",.ref i),("parts",.ref j)]):=by rw [List.getElem?_set_ne rd.ri.symm]; exact rd.r0
 have e2 : (st.set i (.lst ((met ++ [D.tup [.str w,nm]]).map U.d)))[j]? = some (.lst (parts.map U.d)):=by rw [List.getElem?_set_ne rd.ij]; exact rd.j0
 have hw : WF ((st.set i (.lst ((met ++ [D.tup [.str w,nm]]).map U.d))).set j (.lst ((parts ++ [D.tup [.int t,.str w,th]]).map U.d))):=(h.setL _ _).setL _ _
 unfold m_Reader_put g_Reader_put
 simp_all? only [rd.r0,rd.i0,hn,List.mem_cons,List.not_mem_nil,or_false,lk_met,lk_parts,mAppend,l1',l2',map_snoc,e1,e2]
 exact wCut_len hw (by rw [List.length_set,List.length_set]) _
theorem RdAt.put {r i j : Nat} {sec : D} {met parts : List D} (rd : RdAt a st r i j sec met parts) (m' p' : List D) : RdAt a ((st.set i (.lst (m'.map U.d))).set j (.lst (p'.map U.d))) r i j sec m' p':=by
 have li:=(List.getElem?_eq_some_iff.mp rd.i0).1
 have lj:=(List.getElem?_eq_some_iff.mp rd.j0).1
 refine ⟨?_,?_,?_,rd.ri,rd.rj,rd.ij⟩
 ·rw [List.getElem?_set_ne rd.rj.symm,List.getElem?_set_ne rd.ri.symm]; exact rd.r0
 ·rw [List.getElem?_set_ne rd.ij.symm,List.getElem?_set_self li]
 ·rw [List.getElem?_set_self (by rw [List.length_set]; exact lj)]
theorem ev_take_kept (h : WF st) {r i j : Nat} {sec : D} {met parts : List D} (rd : RdAt a st r i j sec met parts) {t : Int} {n p v : D} (N : NewIn met (.tup [.str "kept",.tup [n,p]])) (l1 : met.length < sizeLine) (l2 : parts.length < sizeLine) :
  m_Reader_take_kept K a [.ref r,.d (.int t),.d (.tup [n,p,v])] st = .ok (.d .non) ((st.set i (.lst ((met ++ [D.tup [.str "kept",.tup [n,p]]]).map U.d))).set j (.lst ((parts ++ [D.tup [.int t,.str "kept",.tup [n,p,v]]]).map U.d))):=by
 have hp:=ev_put (K:=K) h rd (t:=t) (kd:="again") (th:=.tup [n,p,v]) N l1 l2
 have hw : WF ((st.set i (.lst ((met ++ [D.tup [.str "kept",.tup [n,p]]]).map U.d))).set j (.lst ((parts ++ [D.tup [.int t,.str "kept",.tup [n,p,v]]]).map U.d))):=(h.setL _ _).setL _ _
 have hc : cutG [n,p,v] none (some 2) = [n,p]:=rfl
 unfold m_Reader_take_kept g_Reader_take_kept
 simp_all? only [rd.r0,lk_put,oSl,hc,hp,List.length_set,wCut_len hw rfl]
 exact wCut_len hw (by rw [List.length_set,List.length_set]) _
theorem ev_take_setting (h : WF st) {r i j : Nat} {s : Str} {met parts : List D} (rd : RdAt a st r i j (.str s) met parts) {t : Int} {k v : Str} (N : NewIn met (.tup [.str "place",.str (s ++ "." ++ k)])) (l1 : met.length < sizeLine) (l2 : parts.length < sizeLine)
  (l3 : s.length ≤ sizeLine) (l4 : (s ++ ".").length ≤ sizeLine) (l5 : (s ++ "." ++ k).length ≤ sizeLine) (l6 : k.length ≤ sizeLine) :
  m_Reader_take_setting K a [.ref r,.d (.int t),.d (.tup [.str k,.str v])] st = .ok (.d .non) ((st.set i (.lst ((met ++ [D.tup [.str "place",.str (s ++ "." ++ k)]]).map U.d))).set j (.lst ((parts ++ [D.tup [.int t,.str "place",.tup [.str (s ++ "." ++ k),.str v]]]).map U.d))):=by
 have hp:=ev_put (K:=K) h rd (t:=t) (kd:="key") (th:=.tup [.str (s ++ "." ++ k),.str v]) N l1 l2
 have hw : WF ((st.set i (.lst ((met ++ [D.tup [.str "place",.str (s ++ "." ++ k)]]).map U.d))).set j (.lst ((parts ++ [D.tup [.int t,.str "place",.tup [.str (s ++ "." ++ k),.str v]]]).map U.d))):=(h.setL _ _).setL _ _
 have he : Str.empty ++ s = s:=by
  show Str.append _ _ = _
  unfold Str.append Str.empty
  simp
 unfold m_Reader_take_setting g_Reader_take_setting
 simp_all? only [rd.r0,lk_put,lk_sec,List.mem_cons,List.not_mem_nil,or_false,he,l3,l4,l5,l6,at_0,at_1,List.map_cons,List.map_nil,hp]
 exact wCut_len hw (by rw [List.length_set,List.length_set]) _
structure Fr (st st' : Store) (r i j : Nat) : Prop where
 wf : WF st'
 len : st'.length = st.length
 fr : ∀ n,n ≠ r → n ≠ i → n ≠ j → st'[n]? = st[n]?
theorem Fr.trans {s0 s1 s2 : Store} {r i j : Nat} (x : Fr s0 s1 r i j) (y : Fr s1 s2 r i j) : Fr s0 s2 r i j :=
 ⟨y.wf,y.len.trans x.len,fun n h1 h2 h3=>(y.fr n h1 h2 h3).trans (x.fr n h1 h2 h3)⟩
theorem fr_ij (h : WF st) (r i j : Nat) (m p : List D) : Fr st ((st.set i (.lst (m.map U.d))).set j (.lst (p.map U.d))) r i j :=
 ⟨(h.setL _ _).setL _ _,by rw [List.length_set,List.length_set],fun n _ h2 h3=>by rw [List.getElem?_set_ne (Ne.symm h3),List.getElem?_set_ne (Ne.symm h2)]⟩
/-- a line of a text -/
inductive Ln where
 | rem (s : Str) | kept (s : Str) (n : Int) (p : Str) (v : D) | head (n : Str) | set (k v : Str)
noncomputable def Ln.text : Ln → Str
 | .rem s=>s
 | .kept s _ _ _=>s
 | .head n=>("[" : Str) ++ n ++ ("]" : Str)
 | .set k v=>k ++ (" = " : Str) ++ v
structure Plain (s : Str) : Prop where
 a1 : Txt.startswith s "#~" = false
 a2 : s ≠ ("" : Str)
 a3 : Txt.startswith s "#" = false
noncomputable def Ln.Ok (l : Ln) : Prop:=l.text.length ≤ sizeLine ∧ match l with
 | .rem s=>Txt.startswith s "#~" = false ∧ (s = ("" : Str) ∨ Txt.startswith s "#" = true)
 | .kept s n p v=>Txt.startswith s "#~" = true ∧ KeptOk s n p v
 | .head n=>Plain (Ln.text (.head n)) ∧ sectionIn (Ln.text (.head n)) = .str n
 | .set k v=>Plain (Ln.text (.set k v)) ∧ sectionIn (Ln.text (.set k v)) = .non ∧ settingIn (Ln.text (.set k v)) = .tup [.str k,.str v] ∧ k.length ≤ sizeLine
/-- what the reader has of it -/
noncomputable def Ln.sec (s : D) : Ln → D
 | .head n=>.str n
 | _=>s
noncomputable def pl (s : D) (k : Str) : Str:=match s with
 | .str x=>x ++ ("." : Str) ++ k
 | _=>k
noncomputable def Ln.met (s : D) : Ln → List D
 | .rem _=>[]
 | .kept _ n p _=>[.tup [.str "kept",.tup [.int n,.str p]]]
 | .head n=>[.tup [.str "section",.str n]]
 | .set k _=>[.tup [.str "place",.str (pl s k)]]
noncomputable def Ln.part (s : D) (t : Int) : Ln → D
 | .rem x=>.tup [.int t,.str "remark",.str x]
 | .kept _ n p v=>.tup [.int t,.str "kept",.tup [.int n,.str p,v]]
 | .head n=>.tup [.int t,.str "section",.str n]
 | .set k v=>.tup [.int t,.str "place",.tup [.str (pl s k),.str v]]
/-- a section stands above -/
noncomputable def Ln.In (s : D) : Ln → Prop
 | .set k _=>∃ x,s = .str x ∧ x.length ≤ sizeLine ∧ (x ++ ("." : Str)).length ≤ sizeLine ∧ (x ++ ("." : Str) ++ k).length ≤ sizeLine
 | _=>True
theorem pf_sec (u x y z : U) : putFU ("section" : Str) u [(("section" : Str),x),(("met" : Str),y),(("parts" : Str),z)] = [(("section" : Str),u),(("met" : Str),y),(("parts" : Str),z)]:=rfl
theorem app_rd {r i j : Nat} {sec : D} {met parts : List D} (rd : RdAt a st r i j sec met parts) (h : WF st) (p' : List D) : RdAt a (st.set j (.lst (p'.map U.d))) r i j sec met p' ∧ Fr st (st.set j (.lst (p'.map U.d))) r i j:=by
 have lj:=(List.getElem?_eq_some_iff.mp rd.j0).1
 refine ⟨⟨?_,?_,?_,rd.ri,rd.rj,rd.ij⟩,h.setL _ _,List.length_set,fun n _ _ h3=>List.getElem?_set_ne (Ne.symm h3)⟩
 ·rw [List.getElem?_set_ne rd.rj.symm]; exact rd.r0
 ·rw [List.getElem?_set_ne rd.ij.symm]; exact rd.i0
 ·rw [List.getElem?_set_self lj]
theorem sec_rd {r i j : Nat} {sec : D} {met parts : List D} (rd : RdAt a st r i j sec met parts) (h : WF st) (s : D) : RdAt a (st.set r (.ins a.C_Reader [("section",.d s),("met",.ref i),("parts",.ref j)])) r i j s met parts ∧ Fr st (st.set r (.ins a.C_Reader [("section",.d s),("met",.ref i),("parts",.ref j)])) r i j:=by
 have lr:=(List.getElem?_eq_some_iff.mp rd.r0).1
 have li:=(List.getElem?_eq_some_iff.mp rd.i0).1
 have lj:=(List.getElem?_eq_some_iff.mp rd.j0).1
 refine ⟨⟨?_,?_,?_,rd.ri,rd.rj,rd.ij⟩,h.set ?_,List.length_set,fun n h1 _ _=>List.getElem?_set_ne (Ne.symm h1)⟩
 ·rw [List.getElem?_set_self lr]
 ·rw [List.getElem?_set_ne rd.ri]; exact rd.i0
 ·rw [List.getElem?_set_ne rd.rj]; exact rd.j0
 ·show (true && (decide (i < st.length) && (decide (j < st.length) && true))) = true
  simp [li,lj]
theorem ev_take (h : WF st) {r i j : Nat} {sec : D} {met parts : List D} (rd : RdAt a st r i j sec met parts) (l : Ln) (ok : l.Ok) (hin : l.In sec) (t : Int) (N : ∀ x ∈ l.met sec,NewIn met x) (l1 : met.length < sizeLine) (l2 : parts.length < sizeLine) :
  ∃ st',m_Reader_take K a [.ref r,.d (.int t),.d (.str l.text)] st = .ok (.d .non) st' ∧ Fr st st' r i j ∧ RdAt a st' r i j (l.sec sec) (met ++ l.met sec) (parts ++ [l.part sec t]):=by
 have l2' : (parts.map U.d).length < sizeLine:=by rw [List.length_map]; exact l2
 obtain ⟨hl,ok⟩:=ok
 unfold m_Reader_take g_Reader_take
 cases l with
 | rem s =>
  obtain ⟨a1,a2⟩:=ok
  obtain ⟨g1,g2⟩:=app_rd rd h (parts ++ [D.tup [.int t,.str "remark",.str s]])
  refine ⟨_,?_,g2,?_⟩
  ·by_cases he : s = ("" : Str)
   ·simp_all? only [Ln.text,mStarts,a1,eqB,decide_eq_true he,rd.r0,rd.j0,List.mem_cons,List.not_mem_nil,or_false,lk_parts,mAppend,l2',map_snoc]
    exact wCut_len g2.wf g2.len _
   ·have a3:=a2.resolve_left he
    simp_all? only [Ln.text,mStarts,a1,a3,eqB,decide_eq_false he,rd.r0,rd.j0,List.mem_cons,List.not_mem_nil,or_false,lk_parts,mAppend,l2',map_snoc]
    exact wCut_len g2.wf g2.len _
  ·show RdAt a _ r i j sec (met ++ []) _
   rw [List.append_nil]; exact g1
 | kept s n p v =>
  obtain ⟨a1,k⟩:=ok
  have hk:=ev_take_kept (K:=K) h rd (t:=t) (v:=v) (N _ (List.mem_singleton.mpr rfl)) l1 l2
  have fr:=fr_ij h r i j (met ++ [.tup [.str "kept",.tup [.int n,.str p]]]) (parts ++ [.tup [.int t,.str "kept",.tup [.int n,.str p,v]]])
  refine ⟨_,?_,fr,rd.put _ _⟩
  simp_all? only [Ln.text,mStarts,a1,rd.r0,lk_tk,ev_kept h k,hk]
  exact wCut_len fr.wf fr.len _
 | head n =>
  obtain ⟨⟨a1,a2,a3⟩,e⟩:=ok
  obtain ⟨g1,g2⟩:=sec_rd rd h (.str n)
  have hp:=ev_put (K:=K) g2.wf g1 (t:=t) (kd:="section") (th:=.str n) (N _ (List.mem_singleton.mpr rfl)) l1 l2
  have fr:=fr_ij g2.wf r i j (met ++ [.tup [.str "section",.str n]]) (parts ++ [.tup [.int t,.str "section",.str n]])
  refine ⟨_,?_,g2.trans fr,g1.put _ _⟩
  have hs:=ev_section (K:=K) (a:=a) h _ hl
  rw [e] at hs
  simp_all? only [mStarts,a1,a3,eqB,decide_eq_false a2,hs,rd.r0,List.mem_cons,List.not_mem_nil,or_false,g1.r0,lk_put,lk_sec,pf_sec,hp]
  exact wCut_len fr.wf (fr.len.trans g2.len) _
 | set k v =>
  obtain ⟨⟨a1,a2,a3⟩,e,e2,lk⟩:=ok
  obtain ⟨x,rfl,x1,x2,x3⟩:=hin
  have hk:=ev_take_setting (K:=K) h rd (t:=t) (k:=k) (v:=v) (N _ (List.mem_singleton.mpr rfl)) l1 l2 x1 x2 x3 lk
  have fr:=fr_ij h r i j (met ++ [.tup [.str "place",.str (x ++ ("." : Str) ++ k)]]) (parts ++ [.tup [.int t,.str "place",.tup [.str (x ++ ("." : Str) ++ k),.str v]]])
  refine ⟨_,?_,fr,rd.put _ _⟩
  have hs:=ev_section (K:=K) (a:=a) h _ hl
  have hs2:=ev_setting (K:=K) (a:=a) h _ hl
  rw [e] at hs
  rw [e2] at hs2
  simp_all? only [mStarts,a1,a3,eqB,decide_eq_false a2,hs,hs2,rd.r0,lk_ts,hk]
  exact wCut_len fr.wf fr.len _
theorem pf0 (u : U) : putFU ("section" : Str) u [] = [(("section" : Str),u)]:=rfl
theorem pf1 (u x : U) : putFU ("met" : Str) u [(("section" : Str),x)] = [(("section" : Str),x),(("met" : Str),u)]:=rfl
theorem pf2 (u x y : U) : putFU ("parts" : Str) u [(("section" : Str),x),(("met" : Str),y)] = [(("section" : Str),x),(("met" : Str),y),(("parts" : Str),u)]:=rfl
theorem ev_rinit (h : WF st) {r : Nat} (hr : st[r]? = some (.ins a.C_Reader [])) :
  ∃ st',m_Reader_init K a [.ref r] st = .ok (.d .non) st' ∧ WF st' ∧ st'.length = st.length + 2 ∧ RdAt a st' r st.length (st.length + 1) .non [] [] ∧ ∀ n,n ≠ r → n < st.length → st'[n]? = st[n]?:=by
 have lr:=(List.getElem?_eq_some_iff.mp hr).1
 let A : O:=.ins a.C_Reader [(("section" : Str),.d .non)]
 let B : O:=.ins a.C_Reader [(("section" : Str),.d .non),(("met" : Str),.ref st.length)]
 let C : O:=.ins a.C_Reader [(("section" : Str),.d .non),(("met" : Str),.ref st.length),(("parts" : Str),.ref (st.length + 1))]
 have e1 : (st.set r A)[r]? = some A:=set_at hr
 have e2 : (st.set r A ++ [O.lst []])[r]? = some A:=app_at e1
 have e3 : ((st.set r A ++ [O.lst []]).set r B)[r]? = some B:=set_at e2
 have e4 : ((st.set r A ++ [O.lst []]).set r B ++ [O.lst []])[r]? = some B:=app_at e3
 have e5 : (((st.set r A ++ [O.lst []]).set r B ++ [O.lst []]).set r C)[r]? = some C:=set_at e4
 refine ⟨((st.set r A ++ [O.lst []]).set r B ++ [O.lst []]).set r C,?_,?_,?_,⟨e5,?_,?_,?_,?_,?_⟩,?_⟩
 ·simp only [A,B,C] at *
  unfold m_Reader_init g_Reader_init
  simp_all? only [hr,List.mem_cons,List.not_mem_nil,or_false,pf0,e2,pf1,e4,pf2,wId,List.length_set,List.length_append]
 ·refine WF.set (WF.push (WF.set (WF.push (WF.set h ?_) rfl) ?_) rfl) ?_
  ·rfl
  ·show (true && (decide (st.length < _) && true)) = true
   simp
  ·show (true && (decide (st.length < _) && (decide (st.length + 1 < _) && true))) = true
   simp
   omega
 ·simp
 ·rw [List.getElem?_set_ne (by omega),app_at (o:=.lst [])]
  ·rfl
  ·rw [List.getElem?_set_ne (by omega)]
   have:=new_at (st:=st.set r A) (o:=.lst [])
   rw [List.length_set] at this
   exact this
 ·rw [List.getElem?_set_ne (by omega)]
  have:=new_at (st:=(st.set r A ++ [O.lst []]).set r B) (o:=.lst [])
  simpa using this
 ·omega
 ·omega
 ·omega
 ·intro n h1 h2
  rw [List.getElem?_set_ne (Ne.symm h1),List.getElem?_append_left (by simp; omega),List.getElem?_set_ne (Ne.symm h1),List.getElem?_append_left (by simp; omega),List.getElem?_set_ne (Ne.symm h1)]
noncomputable def Vd : D → List D → List Ln → Prop
 | _,_,[]=>True
 | s,m,l :: ls=>l.Ok ∧ l.In s ∧ (∀ x ∈ l.met s,NewIn m x) ∧ Vd (l.sec s) (m ++ l.met s) ls
noncomputable def partsL : D → Nat → List Ln → List D
 | _,_,[]=>[]
 | s,k,l :: ls=>l.part s (k : Nat) :: partsL (l.sec s) (k + 1) ls
noncomputable def secL : D → List Ln → D
 | s,[]=>s
 | s,l :: ls=>secL (l.sec s) ls
theorem met_len (s : D) (l : Ln) : (l.met s).length ≤ 1:=by cases l <;> simp [Ln.met]
theorem ev_lines {r i j : Nat} {u0 u1 : Option U} {x5 x6 : Option U} : ∀ (ls : List Ln) (k : Nat) (x3 x4 : Option U) (st : Store) (sec : D) (met parts : List D),WF st → RdAt a st r i j sec met parts → Vd sec met ls → met.length + ls.length < sizeLine → parts.length + ls.length < sizeLine →
  ∃ x3' x4' st' met',loopL (tgT 2 (tgCons (tgN 3) (tgCons (tgN 4) tgNil))) (b_SettingsFile_init_1 K a) (pairsFrom k (ls.map fun l=>D.str l.text)) [u0,u1,some (.ref r),x3,x4,x5,x6] st = .ok [u0,u1,some (.ref r),x3',x4',x5,x6] .nx st' ∧ Fr st st' r i j ∧ RdAt a st' r i j (secL sec ls) met' (parts ++ partsL sec k ls)
 | [],k,x3,x4,st,sec,met,parts,h,rd,_,_,_=>⟨x3,x4,st,met,rfl,⟨h,rfl,fun _ _ _ _=>rfl⟩,by rw [show partsL sec k [] = [] from rfl,List.append_nil]; exact rd⟩
 | l :: ls,k,x3,x4,st,sec,met,parts,h,rd,⟨v1,v2,v3,v4⟩,l1,l2=>by
  rw [List.length_cons] at l1 l2
  obtain ⟨st1,e1,f1,rd1⟩:=ev_take (K:=K) h rd l v1 v2 (k : Nat) v3 (by omega) (by omega)
  have ml:=met_len sec l
  obtain ⟨y3,y4,st2,met2,e2,f2,rd2⟩:=ev_lines (u0:=u0) (u1:=u1) (x5:=x5) (x6:=x6) ls (k + 1) (some (.d (.int (k : Nat)))) (some (.d (.str l.text))) st1 (l.sec sec) (met ++ l.met sec) (parts ++ [l.part sec (k : Nat)]) f1.wf rd1 v4 (by rw [List.length_append]; omega) (by rw [List.length_append,List.length_singleton]; omega)
  refine ⟨y3,y4,st2,met2,?_,f1.trans f2,?_⟩
  ·rw [List.map_cons,pairsFrom,loopL]
   have eb : b_SettingsFile_init_1 K a [u0,u1,some (.ref r),some (.d (.int (k : Nat))),some (.d (.str l.text)),x5,x6] st = .ok [u0,u1,some (.ref r),some (.d (.int (k : Nat))),some (.d (.str l.text)),x5,x6] .nx st1:=by
    unfold b_SettingsFile_init_1
    simp_all? only [rd.r0,lk_take,e1]
   simp_all? only [eb,e2]
  ·rw [show partsL sec k (l :: ls) = l.part sec (k : Nat) :: partsL (l.sec sec) (k + 1) ls from rfl]
   rw [List.append_assoc] at rd2
   exact rd2
noncomputable def linesOf (s : Str) : List Str:=if s = ("" : Str) then [] else Txt.split s ("\n" : Str)
theorem ev_lines_of (h : WF st) (s : Str) (hs : s.length + 2 ≤ sizeLine) : m_lines_of K a [.d (.str s)] st = .ok (.d (.lst ((linesOf s).map .str))) st:=by
 have hd : (("\n" : Str).length == 0) = false:=by decide +kernel
 unfold m_lines_of g_lines_of linesOf
 by_cases e : s = ("" : Str)
 ·rw [if_pos e]
  simp_all? only [eqB,decide_eq_true e,wFrz_d h]
 ·rw [if_neg e]
  simp_all? only [eqB,decide_eq_false e,mSplit,hd,hs,wFrz_d h]
/-- what a part is like -/
inductive PartOk : D → Prop
 | rem (t : Int) (x : Str) : PartOk (.tup [.int t,.str "remark",.str x])
 | kept (t n : Int) (p : Str) (v : D) : PartOk (.tup [.int t,.str "kept",.tup [.int n,.str p,v]])
 | head (t : Int) (n : Str) : PartOk (.tup [.int t,.str "section",.str n])
 | set (t : Int) (p v : Str) : PartOk (.tup [.int t,.str "place",.tup [.str p,.str v]])
theorem partsL_ok : ∀ (ls : List Ln) (s : D) (k : Nat),∀ p ∈ partsL s k ls,PartOk p
 | [],_,_,p,h=>by cases h
 | l :: ls,s,k,p,h=>by
  rcases List.mem_cons.mp h with rfl | h
  ·cases l with
   | rem x=>exact .rem _ _
   | kept x n p v=>exact .kept _ _ _ _
   | head n=>exact .head _ _
   | set k v=>exact .set _ _ _
  ·exact partsL_ok ls _ _ p h
noncomputable def isRem : U → Bool
 | .d (.tup [_,.str w,_])=>decide (w = ("remark" : Str))
 | _=>false
noncomputable def isSet : U → Bool
 | .d (.tup [_,.str w,_])=>decide (w = ("place" : Str))
 | _=>false
noncomputable def shortP : U → D
 | .d (.tup [t,.str w,th])=>.tup [t,.str w,if w = ("place" : Str) then (match th with | .tup (x :: _)=>x | _=>.non) else th]
 | _=>.non
noncomputable def thingP : U → D
 | .d (.tup [_,_,th])=>th
 | _=>.non
theorem ne_rem1 : ¬ (("kept" : Str) = ("remark" : Str)):=by decide +kernel
theorem ne_rem2 : ¬ (("section" : Str) = ("remark" : Str)):=by decide +kernel
theorem ne_rem3 : ¬ (("place" : Str) = ("remark" : Str)):=by decide +kernel
theorem ne_pl1 : ¬ (("remark" : Str) = ("place" : Str)):=by decide +kernel
theorem ne_pl2 : ¬ (("kept" : Str) = ("place" : Str)):=by decide +kernel
theorem ne_pl3 : ¬ (("section" : Str) = ("place" : Str)):=by decide +kernel
theorem ev_parts_of (h : WF st) {j : Nat} {ps : List D} (hj : st[j]? = some (.lst (ps.map U.d))) (ok : ∀ p ∈ ps,PartOk p) (hl : ps.length ≤ sizeLine) :
  ∃ ds,m_parts_of K a [.ref j] st = .ok (.d (.lst ds)) st:=by
 have ec : c_parts_of_1 K a [some (.ref j),none,none,none] st = .ok (.d (.lst (((ps.map U.d).filter fun u=>!isRem u).map shortP))) st:=by
  unfold c_parts_of_1
  refine fLc_pureC (n:=j) (us:=ps.map U.d) (fun u=>!isRem u) shortP h ?_ hj (by rw [List.length_map]; exact hl) fun u hu st' h'=>?_
  ·simp_all? only [itV,hj]
  ·obtain ⟨p,hp,rfl⟩:=List.mem_map.mp hu
   have:=ok p hp
   cases this with
   | rem t x=>exact ⟨_,rfl,by simp only [fnM,sSeq,sRet,sRetN,sExpr,sIf,sNil,sNo,sAsg,tgN,bndS,bnd,vVar,vC,f2,f1,fB,pu,fN,vTup,vLst,fTup,fCons,fNil,fPure,fIf,fAnd,fOr,fNot,asB,asT,bAnd,bOr,bNot,fChain,fCall,fCW,gPos,gApp,R.of,R.of2,fM,pu4,tgT,tgCons,tgNil,unp,pureL,sPar,sPar3,fLstC,fFld,oFld,fMeth,insU,sFldS,setFld,fSl,oNone,oSome,tgSub,setU,fIter,fItN,fItS,sFor,getL,getT,VL.getD,keyD,tyB,lstC,oAdd,oSub,oMul,oFdiv,oMod,oPow,oNeg,oLt,oLe,oGt,oGe,oEq,oNe,oIsN,oNotN,oIn,oNotIn,oIx,oLen,oInt,oAbs,oMin,oMax,oStr,oList,oListC,oTuple,oAll,oAny,itemsU,lenN,truB,fJs,oFmt,List.map_cons,List.map_nil,List.length_cons,List.length_nil,List.replicate_succ,List.replicate_zero,List.cons_append,List.nil_append,List.append_nil,List.getElem?_cons_zero,List.getElem?_cons_succ,List.set_cons_zero,List.set_cons_succ,Nat.reduceAdd,Nat.reduceSub,Option.map_some,Option.map_none,if_true,if_false,ite_true,ite_false,Bool.false_eq_true,reduceCtorEq,true_and,and_true,and_self,Bool.not_true,Bool.not_false,Nat.zero_add,Option.bind_some,Option.bind_eq_bind,Option.pure_def,decide_true,decide_false,eq_self,Nat.reduceEqDiff,Nat.reduceLT,Nat.reduceLeDiff,Int.reduceLT,Int.reduceLE,Int.reduceEq,Bool.and_true,Bool.true_and,Bool.false_and,Bool.or_false,Bool.or_true,Bool.true_or,Bool.false_or,sz0,szl0,sz1,szl1,sz2,szl2,sz3,szl3,sz4,szl4,sz5,szl5,sz6,szl6,sz7,szl7,sz8,szl8,sz9,szl9,sz10,szl10,sz11,szl11,sz12,szl12,sz13,szl13,sz14,szl14,sz15,szl15,wipeE,eqB,isRem],fun e=>by simp only [isRem,decide_true,Bool.not_true] at e; cases e⟩
   | kept t n p v=>exact ⟨_,rfl,by simp only [fnM,sSeq,sRet,sRetN,sExpr,sIf,sNil,sNo,sAsg,tgN,bndS,bnd,vVar,vC,f2,f1,fB,pu,fN,vTup,vLst,fTup,fCons,fNil,fPure,fIf,fAnd,fOr,fNot,asB,asT,bAnd,bOr,bNot,fChain,fCall,fCW,gPos,gApp,R.of,R.of2,fM,pu4,tgT,tgCons,tgNil,unp,pureL,sPar,sPar3,fLstC,fFld,oFld,fMeth,insU,sFldS,setFld,fSl,oNone,oSome,tgSub,setU,fIter,fItN,fItS,sFor,getL,getT,VL.getD,keyD,tyB,lstC,oAdd,oSub,oMul,oFdiv,oMod,oPow,oNeg,oLt,oLe,oGt,oGe,oEq,oNe,oIsN,oNotN,oIn,oNotIn,oIx,oLen,oInt,oAbs,oMin,oMax,oStr,oList,oListC,oTuple,oAll,oAny,itemsU,lenN,truB,fJs,oFmt,List.map_cons,List.map_nil,List.length_cons,List.length_nil,List.replicate_succ,List.replicate_zero,List.cons_append,List.nil_append,List.append_nil,List.getElem?_cons_zero,List.getElem?_cons_succ,List.set_cons_zero,List.set_cons_succ,Nat.reduceAdd,Nat.reduceSub,Option.map_some,Option.map_none,if_true,if_false,ite_true,ite_false,Bool.false_eq_true,reduceCtorEq,true_and,and_true,and_self,Bool.not_true,Bool.not_false,Nat.zero_add,Option.bind_some,Option.bind_eq_bind,Option.pure_def,decide_true,decide_false,eq_self,Nat.reduceEqDiff,Nat.reduceLT,Nat.reduceLeDiff,Int.reduceLT,Int.reduceLE,Int.reduceEq,Bool.and_true,Bool.true_and,Bool.false_and,Bool.or_false,Bool.or_true,Bool.true_or,Bool.false_or,sz0,szl0,sz1,szl1,sz2,szl2,sz3,szl3,sz4,szl4,sz5,szl5,sz6,szl6,sz7,szl7,sz8,szl8,sz9,szl9,sz10,szl10,sz11,szl11,sz12,szl12,sz13,szl13,sz14,szl14,sz15,szl15,wipeE,eqB,isRem,decide_eq_false ne_rem1],fun e=>by simp only [fnM,sSeq,sRet,sRetN,sExpr,sIf,sNil,sNo,sAsg,tgN,bndS,bnd,vVar,vC,f2,f1,fB,pu,fN,vTup,vLst,fTup,fCons,fNil,fPure,fIf,fAnd,fOr,fNot,asB,asT,bAnd,bOr,bNot,fChain,fCall,fCW,gPos,gApp,R.of,R.of2,fM,pu4,tgT,tgCons,tgNil,unp,pureL,sPar,sPar3,fLstC,fFld,oFld,fMeth,insU,sFldS,setFld,fSl,oNone,oSome,tgSub,setU,fIter,fItN,fItS,sFor,getL,getT,VL.getD,keyD,tyB,lstC,oAdd,oSub,oMul,oFdiv,oMod,oPow,oNeg,oLt,oLe,oGt,oGe,oEq,oNe,oIsN,oNotN,oIn,oNotIn,oIx,oLen,oInt,oAbs,oMin,oMax,oStr,oList,oListC,oTuple,oAll,oAny,itemsU,lenN,truB,fJs,oFmt,List.map_cons,List.map_nil,List.length_cons,List.length_nil,List.replicate_succ,List.replicate_zero,List.cons_append,List.nil_append,List.append_nil,List.getElem?_cons_zero,List.getElem?_cons_succ,List.set_cons_zero,List.set_cons_succ,Nat.reduceAdd,Nat.reduceSub,Option.map_some,Option.map_none,if_true,if_false,ite_true,ite_false,Bool.false_eq_true,reduceCtorEq,true_and,and_true,and_self,Bool.not_true,Bool.not_false,Nat.zero_add,Option.bind_some,Option.bind_eq_bind,Option.pure_def,decide_true,decide_false,eq_self,Nat.reduceEqDiff,Nat.reduceLT,Nat.reduceLeDiff,Int.reduceLT,Int.reduceLE,Int.reduceEq,Bool.and_true,Bool.true_and,Bool.false_and,Bool.or_false,Bool.or_true,Bool.true_or,Bool.false_or,sz0,szl0,sz1,szl1,sz2,szl2,sz3,szl3,sz4,szl4,sz5,szl5,sz6,szl6,sz7,szl7,sz8,szl8,sz9,szl9,sz10,szl10,sz11,szl11,sz12,szl12,sz13,szl13,sz14,szl14,sz15,szl15,wipeE,eqB,shortP,decide_eq_false ne_pl2,if_neg ne_pl2]⟩
   | head t n=>exact ⟨_,rfl,by simp only [fnM,sSeq,sRet,sRetN,sExpr,sIf,sNil,sNo,sAsg,tgN,bndS,bnd,vVar,vC,f2,f1,fB,pu,fN,vTup,vLst,fTup,fCons,fNil,fPure,fIf,fAnd,fOr,fNot,asB,asT,bAnd,bOr,bNot,fChain,fCall,fCW,gPos,gApp,R.of,R.of2,fM,pu4,tgT,tgCons,tgNil,unp,pureL,sPar,sPar3,fLstC,fFld,oFld,fMeth,insU,sFldS,setFld,fSl,oNone,oSome,tgSub,setU,fIter,fItN,fItS,sFor,getL,getT,VL.getD,keyD,tyB,lstC,oAdd,oSub,oMul,oFdiv,oMod,oPow,oNeg,oLt,oLe,oGt,oGe,oEq,oNe,oIsN,oNotN,oIn,oNotIn,oIx,oLen,oInt,oAbs,oMin,oMax,oStr,oList,oListC,oTuple,oAll,oAny,itemsU,lenN,truB,fJs,oFmt,List.map_cons,List.map_nil,List.length_cons,List.length_nil,List.replicate_succ,List.replicate_zero,List.cons_append,List.nil_append,List.append_nil,List.getElem?_cons_zero,List.getElem?_cons_succ,List.set_cons_zero,List.set_cons_succ,Nat.reduceAdd,Nat.reduceSub,Option.map_some,Option.map_none,if_true,if_false,ite_true,ite_false,Bool.false_eq_true,reduceCtorEq,true_and,and_true,and_self,Bool.not_true,Bool.not_false,Nat.zero_add,Option.bind_some,Option.bind_eq_bind,Option.pure_def,decide_true,decide_false,eq_self,Nat.reduceEqDiff,Nat.reduceLT,Nat.reduceLeDiff,Int.reduceLT,Int.reduceLE,Int.reduceEq,Bool.and_true,Bool.true_and,Bool.false_and,Bool.or_false,Bool.or_true,Bool.true_or,Bool.false_or,sz0,szl0,sz1,szl1,sz2,szl2,sz3,szl3,sz4,szl4,sz5,szl5,sz6,szl6,sz7,szl7,sz8,szl8,sz9,szl9,sz10,szl10,sz11,szl11,sz12,szl12,sz13,szl13,sz14,szl14,sz15,szl15,wipeE,eqB,isRem,decide_eq_false ne_rem2],fun e=>by simp only [fnM,sSeq,sRet,sRetN,sExpr,sIf,sNil,sNo,sAsg,tgN,bndS,bnd,vVar,vC,f2,f1,fB,pu,fN,vTup,vLst,fTup,fCons,fNil,fPure,fIf,fAnd,fOr,fNot,asB,asT,bAnd,bOr,bNot,fChain,fCall,fCW,gPos,gApp,R.of,R.of2,fM,pu4,tgT,tgCons,tgNil,unp,pureL,sPar,sPar3,fLstC,fFld,oFld,fMeth,insU,sFldS,setFld,fSl,oNone,oSome,tgSub,setU,fIter,fItN,fItS,sFor,getL,getT,VL.getD,keyD,tyB,lstC,oAdd,oSub,oMul,oFdiv,oMod,oPow,oNeg,oLt,oLe,oGt,oGe,oEq,oNe,oIsN,oNotN,oIn,oNotIn,oIx,oLen,oInt,oAbs,oMin,oMax,oStr,oList,oListC,oTuple,oAll,oAny,itemsU,lenN,truB,fJs,oFmt,List.map_cons,List.map_nil,List.length_cons,List.length_nil,List.replicate_succ,List.replicate_zero,List.cons_append,List.nil_append,List.append_nil,List.getElem?_cons_zero,List.getElem?_cons_succ,List.set_cons_zero,List.set_cons_succ,Nat.reduceAdd,Nat.reduceSub,Option.map_some,Option.map_none,if_true,if_false,ite_true,ite_false,Bool.false_eq_true,reduceCtorEq,true_and,and_true,and_self,Bool.not_true,Bool.not_false,Nat.zero_add,Option.bind_some,Option.bind_eq_bind,Option.pure_def,decide_true,decide_false,eq_self,Nat.reduceEqDiff,Nat.reduceLT,Nat.reduceLeDiff,Int.reduceLT,Int.reduceLE,Int.reduceEq,Bool.and_true,Bool.true_and,Bool.false_and,Bool.or_false,Bool.or_true,Bool.true_or,Bool.false_or,sz0,szl0,sz1,szl1,sz2,szl2,sz3,szl3,sz4,szl4,sz5,szl5,sz6,szl6,sz7,szl7,sz8,szl8,sz9,szl9,sz10,szl10,sz11,szl11,sz12,szl12,sz13,szl13,sz14,szl14,sz15,szl15,wipeE,eqB,shortP,decide_eq_false ne_pl3,if_neg ne_pl3]⟩
   | set t p v=>exact ⟨_,rfl,by simp only [fnM,sSeq,sRet,sRetN,sExpr,sIf,sNil,sNo,sAsg,tgN,bndS,bnd,vVar,vC,f2,f1,fB,pu,fN,vTup,vLst,fTup,fCons,fNil,fPure,fIf,fAnd,fOr,fNot,asB,asT,bAnd,bOr,bNot,fChain,fCall,fCW,gPos,gApp,R.of,R.of2,fM,pu4,tgT,tgCons,tgNil,unp,pureL,sPar,sPar3,fLstC,fFld,oFld,fMeth,insU,sFldS,setFld,fSl,oNone,oSome,tgSub,setU,fIter,fItN,fItS,sFor,getL,getT,VL.getD,keyD,tyB,lstC,oAdd,oSub,oMul,oFdiv,oMod,oPow,oNeg,oLt,oLe,oGt,oGe,oEq,oNe,oIsN,oNotN,oIn,oNotIn,oIx,oLen,oInt,oAbs,oMin,oMax,oStr,oList,oListC,oTuple,oAll,oAny,itemsU,lenN,truB,fJs,oFmt,List.map_cons,List.map_nil,List.length_cons,List.length_nil,List.replicate_succ,List.replicate_zero,List.cons_append,List.nil_append,List.append_nil,List.getElem?_cons_zero,List.getElem?_cons_succ,List.set_cons_zero,List.set_cons_succ,Nat.reduceAdd,Nat.reduceSub,Option.map_some,Option.map_none,if_true,if_false,ite_true,ite_false,Bool.false_eq_true,reduceCtorEq,true_and,and_true,and_self,Bool.not_true,Bool.not_false,Nat.zero_add,Option.bind_some,Option.bind_eq_bind,Option.pure_def,decide_true,decide_false,eq_self,Nat.reduceEqDiff,Nat.reduceLT,Nat.reduceLeDiff,Int.reduceLT,Int.reduceLE,Int.reduceEq,Bool.and_true,Bool.true_and,Bool.false_and,Bool.or_false,Bool.or_true,Bool.true_or,Bool.false_or,sz0,szl0,sz1,szl1,sz2,szl2,sz3,szl3,sz4,szl4,sz5,szl5,sz6,szl6,sz7,szl7,sz8,szl8,sz9,szl9,sz10,szl10,sz11,szl11,sz12,szl12,sz13,szl13,sz14,szl14,sz15,szl15,wipeE,eqB,isRem,decide_eq_false ne_rem3],fun e=>by simp only [fnM,sSeq,sRet,sRetN,sExpr,sIf,sNil,sNo,sAsg,tgN,bndS,bnd,vVar,vC,f2,f1,fB,pu,fN,vTup,vLst,fTup,fCons,fNil,fPure,fIf,fAnd,fOr,fNot,asB,asT,bAnd,bOr,bNot,fChain,fCall,fCW,gPos,gApp,R.of,R.of2,fM,pu4,tgT,tgCons,tgNil,unp,pureL,sPar,sPar3,fLstC,fFld,oFld,fMeth,insU,sFldS,setFld,fSl,oNone,oSome,tgSub,setU,fIter,fItN,fItS,sFor,getL,getT,VL.getD,keyD,tyB,lstC,oAdd,oSub,oMul,oFdiv,oMod,oPow,oNeg,oLt,oLe,oGt,oGe,oEq,oNe,oIsN,oNotN,oIn,oNotIn,oIx,oLen,oInt,oAbs,oMin,oMax,oStr,oList,oListC,oTuple,oAll,oAny,itemsU,lenN,truB,fJs,oFmt,List.map_cons,List.map_nil,List.length_cons,List.length_nil,List.replicate_succ,List.replicate_zero,List.cons_append,List.nil_append,List.append_nil,List.getElem?_cons_zero,List.getElem?_cons_succ,List.set_cons_zero,List.set_cons_succ,Nat.reduceAdd,Nat.reduceSub,Option.map_some,Option.map_none,if_true,if_false,ite_true,ite_false,Bool.false_eq_true,reduceCtorEq,true_and,and_true,and_self,Bool.not_true,Bool.not_false,Nat.zero_add,Option.bind_some,Option.bind_eq_bind,Option.pure_def,decide_true,decide_false,eq_self,Nat.reduceEqDiff,Nat.reduceLT,Nat.reduceLeDiff,Int.reduceLT,Int.reduceLE,Int.reduceEq,Bool.and_true,Bool.true_and,Bool.false_and,Bool.or_false,Bool.or_true,Bool.true_or,Bool.false_or,sz0,szl0,sz1,szl1,sz2,szl2,sz3,szl3,sz4,szl4,sz5,szl5,sz6,szl6,sz7,szl7,sz8,szl8,sz9,szl9,sz10,szl10,sz11,szl11,sz12,szl12,sz13,szl13,sz14,szl14,sz15,szl15,wipeE,eqB,shortP,at_0]⟩
 refine ⟨((ps.map U.d).filter fun u=>!isRem u).map shortP,?_⟩
 unfold m_parts_of g_parts_of
 simp_all? only [ec,wFrz_d h]
theorem qf0 (u : U) : putFU ("whole" : Str) u [] = [(("whole" : Str),u)]:=rfl
theorem qf1 (u x : U) : putFU ("all_parts" : Str) u [(("whole" : Str),x)] = [(("whole" : Str),x),(("all_parts" : Str),u)]:=rfl
theorem qf2 (u x y : U) : putFU ("parts" : Str) u [(("whole" : Str),x),(("all_parts" : Str),y)] = [(("whole" : Str),x),(("all_parts" : Str),y),(("parts" : Str),u)]:=rfl
theorem qf3 (u x y z : U) : putFU ("settings_read" : Str) u [(("whole" : Str),x),(("all_parts" : Str),y),(("parts" : Str),z)] = [(("whole" : Str),x),(("all_parts" : Str),y),(("parts" : Str),z),(("settings_read" : Str),u)]:=rfl
/-- the settings,in order -/
noncomputable def setsL : D → List Ln → List (Str × Str)
 | _,[]=>[]
 | s,.set k v :: ls=>(pl s k,v) :: setsL s ls
 | s,.rem _ :: ls=>setsL s ls
 | s,.kept _ _ _ _ :: ls=>setsL s ls
 | _,.head n :: ls=>setsL (.str n) ls
noncomputable def kvD (ps : List (Str × Str)) : List (Key × D):=ps.map fun p=>(.inr p.1,.str p.2)
theorem pairs_ok2 : ∀ (ls : List Ln) (s : D) (k : Nat),allM pairD (((((partsL s k ls).map U.d).filter isSet).map thingP).map U.d) = some (kvD (setsL s ls))
 | [],_,_=>rfl
 | .rem x :: ls,s,k=>by
  show allM pairD (((((U.d (.tup [.int k,.str "remark",.str x]) :: (partsL s (k + 1) ls).map U.d)).filter isSet).map thingP).map U.d) = _
  rw [List.filter_cons_of_neg (by simp only [isSet,decide_eq_false ne_pl1]; exact Bool.false_ne_true)]
  exact pairs_ok2 ls s (k + 1)
 | .kept x n p v :: ls,s,k=>by
  show allM pairD (((((U.d (.tup [.int k,.str "kept",.tup [.int n,.str p,v]]) :: (partsL s (k + 1) ls).map U.d)).filter isSet).map thingP).map U.d) = _
  rw [List.filter_cons_of_neg (by simp only [isSet,decide_eq_false ne_pl2]; exact Bool.false_ne_true)]
  exact pairs_ok2 ls s (k + 1)
 | .head n :: ls,s,k=>by
  show allM pairD (((((U.d (.tup [.int k,.str "section",.str n]) :: (partsL (.str n) (k + 1) ls).map U.d)).filter isSet).map thingP).map U.d) = _
  rw [List.filter_cons_of_neg (by simp only [isSet,decide_eq_false ne_pl3]; exact Bool.false_ne_true)]
  exact pairs_ok2 ls (.str n) (k + 1)
 | .set x v :: ls,s,k=>by
  have ih:=pairs_ok2 ls s (k + 1)
  show allM pairD (((((U.d (.tup [.int k,.str "place",.tup [.str (pl s x),.str v]]) :: (partsL s (k + 1) ls).map U.d)).filter isSet).map thingP).map U.d) = _
  rw [List.filter_cons_of_pos (by simp only [isSet,decide_true]),List.map_cons,List.map_cons]
  unfold allM
  rw [ih]
  rfl
/-- a dict of settings of different places -/
theorem merge_app : ∀ (ps : List (Str × Str)) (acc : List (Key × D)),(∀ p ∈ ps,∀ q ∈ acc,q.1 ≠ .inr p.1) → (ps.map fun p=>p.1).Nodup → mergeD acc (kvD ps) = acc ++ kvD ps
 | [],acc,_,_=>by
  show acc = acc ++ []
  rw [List.append_nil]
 | p :: ps,acc,h,hn=>by
  have hn':=List.nodup_cons.mp hn
  have hno : (acc.any fun kv=>decide (kv.1 = (.inr p.1 : Key))) = false:=by
   rw [List.any_eq_false]
   intro q hq
   rw [decide_eq_true_eq]
   exact h p (List.mem_cons_self ..) q hq
  have e1 : putD acc (.inr p.1) (.str p.2) = acc ++ [(.inr p.1,.str p.2)]:=by
   unfold putD
   rw [hno]
   rfl
  show mergeD (putD acc (.inr p.1) (.str p.2)) (kvD ps) = _
  rw [e1,merge_app ps _ (fun r hr q hq=>?_) hn'.2,List.append_assoc]
  ·rfl
  ·rcases List.mem_append.mp hq with z | z
   ·exact h r (List.mem_cons_of_mem _ hr) q z
   ·rw [List.mem_singleton] at z
    subst z
    intro e
    have e' : p.1 = r.1:=Sum.inr.inj e
    exact hn'.1 (List.mem_map.mpr ⟨r,hr,e'.symm⟩)
theorem merge_nodup {ps : List (Str × Str)} (h : (ps.map fun p=>p.1).Nodup) : mergeD [] (kvD ps) = kvD ps:=by
 rw [merge_app ps [] (fun _ _ _ z=>nomatch z) h]
 rfl
theorem ev_comp (h : WF st) {r i j : Nat} {sec : D} {met ps : List D} {u0 u1 x3 x4 x5 x6 : Option U} (rd : RdAt a st r i j sec met ps) (ok : ∀ p ∈ ps,PartOk p) (hl : ps.length ≤ sizeLine) :
  c_SettingsFile_init_1 K a [u0,u1,some (.ref r),x3,x4,x5,x6] st = .ok (.d (.lst (((ps.map U.d).filter isSet).map thingP))) st:=by
 unfold c_SettingsFile_init_1
 refine fLc_pureC (n:=j) (us:=ps.map U.d) isSet thingP h ?_ rd.j0 (by rw [List.length_map]; exact hl) fun u hu st' h'=>?_
 ·simp_all? only [itV,rd.r0,rd.j0,List.mem_cons,List.not_mem_nil,or_false,lk_parts]
 ·obtain ⟨p,hp,rfl⟩:=List.mem_map.mp hu
  have:=ok p hp
  cases this with
  | rem t x=>exact ⟨_,rfl,by simp only [fnM,sSeq,sRet,sRetN,sExpr,sIf,sNil,sNo,sAsg,tgN,bndS,bnd,vVar,vC,f2,f1,fB,pu,fN,vTup,vLst,fTup,fCons,fNil,fPure,fIf,fAnd,fOr,fNot,asB,asT,bAnd,bOr,bNot,fChain,fCall,fCW,gPos,gApp,R.of,R.of2,fM,pu4,tgT,tgCons,tgNil,unp,pureL,sPar,sPar3,fLstC,fFld,oFld,fMeth,insU,sFldS,setFld,fSl,oNone,oSome,tgSub,setU,fIter,fItN,fItS,sFor,getL,getT,VL.getD,keyD,tyB,lstC,oAdd,oSub,oMul,oFdiv,oMod,oPow,oNeg,oLt,oLe,oGt,oGe,oEq,oNe,oIsN,oNotN,oIn,oNotIn,oIx,oLen,oInt,oAbs,oMin,oMax,oStr,oList,oListC,oTuple,oAll,oAny,itemsU,lenN,truB,fJs,oFmt,List.map_cons,List.map_nil,List.length_cons,List.length_nil,List.replicate_succ,List.replicate_zero,List.cons_append,List.nil_append,List.append_nil,List.getElem?_cons_zero,List.getElem?_cons_succ,List.set_cons_zero,List.set_cons_succ,Nat.reduceAdd,Nat.reduceSub,Option.map_some,Option.map_none,if_true,if_false,ite_true,ite_false,Bool.false_eq_true,reduceCtorEq,true_and,and_true,and_self,Bool.not_true,Bool.not_false,Nat.zero_add,Option.bind_some,Option.bind_eq_bind,Option.pure_def,decide_true,decide_false,eq_self,Nat.reduceEqDiff,Nat.reduceLT,Nat.reduceLeDiff,Int.reduceLT,Int.reduceLE,Int.reduceEq,Bool.and_true,Bool.true_and,Bool.false_and,Bool.or_false,Bool.or_true,Bool.true_or,Bool.false_or,sz0,szl0,sz1,szl1,sz2,szl2,sz3,szl3,sz4,szl4,sz5,szl5,sz6,szl6,sz7,szl7,sz8,szl8,sz9,szl9,sz10,szl10,sz11,szl11,sz12,szl12,sz13,szl13,sz14,szl14,sz15,szl15,wipeE,eqB,isSet,decide_eq_false ne_pl1],fun e=>by simp only [fnM,sSeq,sRet,sRetN,sExpr,sIf,sNil,sNo,sAsg,tgN,bndS,bnd,vVar,vC,f2,f1,fB,pu,fN,vTup,vLst,fTup,fCons,fNil,fPure,fIf,fAnd,fOr,fNot,asB,asT,bAnd,bOr,bNot,fChain,fCall,fCW,gPos,gApp,R.of,R.of2,fM,pu4,tgT,tgCons,tgNil,unp,pureL,sPar,sPar3,fLstC,fFld,oFld,fMeth,insU,sFldS,setFld,fSl,oNone,oSome,tgSub,setU,fIter,fItN,fItS,sFor,getL,getT,VL.getD,keyD,tyB,lstC,oAdd,oSub,oMul,oFdiv,oMod,oPow,oNeg,oLt,oLe,oGt,oGe,oEq,oNe,oIsN,oNotN,oIn,oNotIn,oIx,oLen,oInt,oAbs,oMin,oMax,oStr,oList,oListC,oTuple,oAll,oAny,itemsU,lenN,truB,fJs,oFmt,List.map_cons,List.map_nil,List.length_cons,List.length_nil,List.replicate_succ,List.replicate_zero,List.cons_append,List.nil_append,List.append_nil,List.getElem?_cons_zero,List.getElem?_cons_succ,List.set_cons_zero,List.set_cons_succ,Nat.reduceAdd,Nat.reduceSub,Option.map_some,Option.map_none,if_true,if_false,ite_true,ite_false,Bool.false_eq_true,reduceCtorEq,true_and,and_true,and_self,Bool.not_true,Bool.not_false,Nat.zero_add,Option.bind_some,Option.bind_eq_bind,Option.pure_def,decide_true,decide_false,eq_self,Nat.reduceEqDiff,Nat.reduceLT,Nat.reduceLeDiff,Int.reduceLT,Int.reduceLE,Int.reduceEq,Bool.and_true,Bool.true_and,Bool.false_and,Bool.or_false,Bool.or_true,Bool.true_or,Bool.false_or,sz0,szl0,sz1,szl1,sz2,szl2,sz3,szl3,sz4,szl4,sz5,szl5,sz6,szl6,sz7,szl7,sz8,szl8,sz9,szl9,sz10,szl10,sz11,szl11,sz12,szl12,sz13,szl13,sz14,szl14,sz15,szl15,wipeE,thingP]⟩
  | kept t n p v=>exact ⟨_,rfl,by simp only [fnM,sSeq,sRet,sRetN,sExpr,sIf,sNil,sNo,sAsg,tgN,bndS,bnd,vVar,vC,f2,f1,fB,pu,fN,vTup,vLst,fTup,fCons,fNil,fPure,fIf,fAnd,fOr,fNot,asB,asT,bAnd,bOr,bNot,fChain,fCall,fCW,gPos,gApp,R.of,R.of2,fM,pu4,tgT,tgCons,tgNil,unp,pureL,sPar,sPar3,fLstC,fFld,oFld,fMeth,insU,sFldS,setFld,fSl,oNone,oSome,tgSub,setU,fIter,fItN,fItS,sFor,getL,getT,VL.getD,keyD,tyB,lstC,oAdd,oSub,oMul,oFdiv,oMod,oPow,oNeg,oLt,oLe,oGt,oGe,oEq,oNe,oIsN,oNotN,oIn,oNotIn,oIx,oLen,oInt,oAbs,oMin,oMax,oStr,oList,oListC,oTuple,oAll,oAny,itemsU,lenN,truB,fJs,oFmt,List.map_cons,List.map_nil,List.length_cons,List.length_nil,List.replicate_succ,List.replicate_zero,List.cons_append,List.nil_append,List.append_nil,List.getElem?_cons_zero,List.getElem?_cons_succ,List.set_cons_zero,List.set_cons_succ,Nat.reduceAdd,Nat.reduceSub,Option.map_some,Option.map_none,if_true,if_false,ite_true,ite_false,Bool.false_eq_true,reduceCtorEq,true_and,and_true,and_self,Bool.not_true,Bool.not_false,Nat.zero_add,Option.bind_some,Option.bind_eq_bind,Option.pure_def,decide_true,decide_false,eq_self,Nat.reduceEqDiff,Nat.reduceLT,Nat.reduceLeDiff,Int.reduceLT,Int.reduceLE,Int.reduceEq,Bool.and_true,Bool.true_and,Bool.false_and,Bool.or_false,Bool.or_true,Bool.true_or,Bool.false_or,sz0,szl0,sz1,szl1,sz2,szl2,sz3,szl3,sz4,szl4,sz5,szl5,sz6,szl6,sz7,szl7,sz8,szl8,sz9,szl9,sz10,szl10,sz11,szl11,sz12,szl12,sz13,szl13,sz14,szl14,sz15,szl15,wipeE,eqB,isSet,decide_eq_false ne_pl2],fun e=>by simp only [fnM,sSeq,sRet,sRetN,sExpr,sIf,sNil,sNo,sAsg,tgN,bndS,bnd,vVar,vC,f2,f1,fB,pu,fN,vTup,vLst,fTup,fCons,fNil,fPure,fIf,fAnd,fOr,fNot,asB,asT,bAnd,bOr,bNot,fChain,fCall,fCW,gPos,gApp,R.of,R.of2,fM,pu4,tgT,tgCons,tgNil,unp,pureL,sPar,sPar3,fLstC,fFld,oFld,fMeth,insU,sFldS,setFld,fSl,oNone,oSome,tgSub,setU,fIter,fItN,fItS,sFor,getL,getT,VL.getD,keyD,tyB,lstC,oAdd,oSub,oMul,oFdiv,oMod,oPow,oNeg,oLt,oLe,oGt,oGe,oEq,oNe,oIsN,oNotN,oIn,oNotIn,oIx,oLen,oInt,oAbs,oMin,oMax,oStr,oList,oListC,oTuple,oAll,oAny,itemsU,lenN,truB,fJs,oFmt,List.map_cons,List.map_nil,List.length_cons,List.length_nil,List.replicate_succ,List.replicate_zero,List.cons_append,List.nil_append,List.append_nil,List.getElem?_cons_zero,List.getElem?_cons_succ,List.set_cons_zero,List.set_cons_succ,Nat.reduceAdd,Nat.reduceSub,Option.map_some,Option.map_none,if_true,if_false,ite_true,ite_false,Bool.false_eq_true,reduceCtorEq,true_and,and_true,and_self,Bool.not_true,Bool.not_false,Nat.zero_add,Option.bind_some,Option.bind_eq_bind,Option.pure_def,decide_true,decide_false,eq_self,Nat.reduceEqDiff,Nat.reduceLT,Nat.reduceLeDiff,Int.reduceLT,Int.reduceLE,Int.reduceEq,Bool.and_true,Bool.true_and,Bool.false_and,Bool.or_false,Bool.or_true,Bool.true_or,Bool.false_or,sz0,szl0,sz1,szl1,sz2,szl2,sz3,szl3,sz4,szl4,sz5,szl5,sz6,szl6,sz7,szl7,sz8,szl8,sz9,szl9,sz10,szl10,sz11,szl11,sz12,szl12,sz13,szl13,sz14,szl14,sz15,szl15,wipeE,thingP]⟩
  | head t n=>exact ⟨_,rfl,by simp only [fnM,sSeq,sRet,sRetN,sExpr,sIf,sNil,sNo,sAsg,tgN,bndS,bnd,vVar,vC,f2,f1,fB,pu,fN,vTup,vLst,fTup,fCons,fNil,fPure,fIf,fAnd,fOr,fNot,asB,asT,bAnd,bOr,bNot,fChain,fCall,fCW,gPos,gApp,R.of,R.of2,fM,pu4,tgT,tgCons,tgNil,unp,pureL,sPar,sPar3,fLstC,fFld,oFld,fMeth,insU,sFldS,setFld,fSl,oNone,oSome,tgSub,setU,fIter,fItN,fItS,sFor,getL,getT,VL.getD,keyD,tyB,lstC,oAdd,oSub,oMul,oFdiv,oMod,oPow,oNeg,oLt,oLe,oGt,oGe,oEq,oNe,oIsN,oNotN,oIn,oNotIn,oIx,oLen,oInt,oAbs,oMin,oMax,oStr,oList,oListC,oTuple,oAll,oAny,itemsU,lenN,truB,fJs,oFmt,List.map_cons,List.map_nil,List.length_cons,List.length_nil,List.replicate_succ,List.replicate_zero,List.cons_append,List.nil_append,List.append_nil,List.getElem?_cons_zero,List.getElem?_cons_succ,List.set_cons_zero,List.set_cons_succ,Nat.reduceAdd,Nat.reduceSub,Option.map_some,Option.map_none,if_true,if_false,ite_true,ite_false,Bool.false_eq_true,reduceCtorEq,true_and,and_true,and_self,Bool.not_true,Bool.not_false,Nat.zero_add,Option.bind_some,Option.bind_eq_bind,Option.pure_def,decide_true,decide_false,eq_self,Nat.reduceEqDiff,Nat.reduceLT,Nat.reduceLeDiff,Int.reduceLT,Int.reduceLE,Int.reduceEq,Bool.and_true,Bool.true_and,Bool.false_and,Bool.or_false,Bool.or_true,Bool.true_or,Bool.false_or,sz0,szl0,sz1,szl1,sz2,szl2,sz3,szl3,sz4,szl4,sz5,szl5,sz6,szl6,sz7,szl7,sz8,szl8,sz9,szl9,sz10,szl10,sz11,szl11,sz12,szl12,sz13,szl13,sz14,szl14,sz15,szl15,wipeE,eqB,isSet,decide_eq_false ne_pl3],fun e=>by simp only [fnM,sSeq,sRet,sRetN,sExpr,sIf,sNil,sNo,sAsg,tgN,bndS,bnd,vVar,vC,f2,f1,fB,pu,fN,vTup,vLst,fTup,fCons,fNil,fPure,fIf,fAnd,fOr,fNot,asB,asT,bAnd,bOr,bNot,fChain,fCall,fCW,gPos,gApp,R.of,R.of2,fM,pu4,tgT,tgCons,tgNil,unp,pureL,sPar,sPar3,fLstC,fFld,oFld,fMeth,insU,sFldS,setFld,fSl,oNone,oSome,tgSub,setU,fIter,fItN,fItS,sFor,getL,getT,VL.getD,keyD,tyB,lstC,oAdd,oSub,oMul,oFdiv,oMod,oPow,oNeg,oLt,oLe,oGt,oGe,oEq,oNe,oIsN,oNotN,oIn,oNotIn,oIx,oLen,oInt,oAbs,oMin,oMax,oStr,oList,oListC,oTuple,oAll,oAny,itemsU,lenN,truB,fJs,oFmt,List.map_cons,List.map_nil,List.length_cons,List.length_nil,List.replicate_succ,List.replicate_zero,List.cons_append,List.nil_append,List.append_nil,List.getElem?_cons_zero,List.getElem?_cons_succ,List.set_cons_zero,List.set_cons_succ,Nat.reduceAdd,Nat.reduceSub,Option.map_some,Option.map_none,if_true,if_false,ite_true,ite_false,Bool.false_eq_true,reduceCtorEq,true_and,and_true,and_self,Bool.not_true,Bool.not_false,Nat.zero_add,Option.bind_some,Option.bind_eq_bind,Option.pure_def,decide_true,decide_false,eq_self,Nat.reduceEqDiff,Nat.reduceLT,Nat.reduceLeDiff,Int.reduceLT,Int.reduceLE,Int.reduceEq,Bool.and_true,Bool.true_and,Bool.false_and,Bool.or_false,Bool.or_true,Bool.true_or,Bool.false_or,sz0,szl0,sz1,szl1,sz2,szl2,sz3,szl3,sz4,szl4,sz5,szl5,sz6,szl6,sz7,szl7,sz8,szl8,sz9,szl9,sz10,szl10,sz11,szl11,sz12,szl12,sz13,szl13,sz14,szl14,sz15,szl15,wipeE,thingP]⟩
  | set t p v=>exact ⟨_,rfl,by simp only [fnM,sSeq,sRet,sRetN,sExpr,sIf,sNil,sNo,sAsg,tgN,bndS,bnd,vVar,vC,f2,f1,fB,pu,fN,vTup,vLst,fTup,fCons,fNil,fPure,fIf,fAnd,fOr,fNot,asB,asT,bAnd,bOr,bNot,fChain,fCall,fCW,gPos,gApp,R.of,R.of2,fM,pu4,tgT,tgCons,tgNil,unp,pureL,sPar,sPar3,fLstC,fFld,oFld,fMeth,insU,sFldS,setFld,fSl,oNone,oSome,tgSub,setU,fIter,fItN,fItS,sFor,getL,getT,VL.getD,keyD,tyB,lstC,oAdd,oSub,oMul,oFdiv,oMod,oPow,oNeg,oLt,oLe,oGt,oGe,oEq,oNe,oIsN,oNotN,oIn,oNotIn,oIx,oLen,oInt,oAbs,oMin,oMax,oStr,oList,oListC,oTuple,oAll,oAny,itemsU,lenN,truB,fJs,oFmt,List.map_cons,List.map_nil,List.length_cons,List.length_nil,List.replicate_succ,List.replicate_zero,List.cons_append,List.nil_append,List.append_nil,List.getElem?_cons_zero,List.getElem?_cons_succ,List.set_cons_zero,List.set_cons_succ,Nat.reduceAdd,Nat.reduceSub,Option.map_some,Option.map_none,if_true,if_false,ite_true,ite_false,Bool.false_eq_true,reduceCtorEq,true_and,and_true,and_self,Bool.not_true,Bool.not_false,Nat.zero_add,Option.bind_some,Option.bind_eq_bind,Option.pure_def,decide_true,decide_false,eq_self,Nat.reduceEqDiff,Nat.reduceLT,Nat.reduceLeDiff,Int.reduceLT,Int.reduceLE,Int.reduceEq,Bool.and_true,Bool.true_and,Bool.false_and,Bool.or_false,Bool.or_true,Bool.true_or,Bool.false_or,sz0,szl0,sz1,szl1,sz2,szl2,sz3,szl3,sz4,szl4,sz5,szl5,sz6,szl6,sz7,szl7,sz8,szl8,sz9,szl9,sz10,szl10,sz11,szl11,sz12,szl12,sz13,szl13,sz14,szl14,sz15,szl15,wipeE,eqB,isSet],fun e=>by simp only [fnM,sSeq,sRet,sRetN,sExpr,sIf,sNil,sNo,sAsg,tgN,bndS,bnd,vVar,vC,f2,f1,fB,pu,fN,vTup,vLst,fTup,fCons,fNil,fPure,fIf,fAnd,fOr,fNot,asB,asT,bAnd,bOr,bNot,fChain,fCall,fCW,gPos,gApp,R.of,R.of2,fM,pu4,tgT,tgCons,tgNil,unp,pureL,sPar,sPar3,fLstC,fFld,oFld,fMeth,insU,sFldS,setFld,fSl,oNone,oSome,tgSub,setU,fIter,fItN,fItS,sFor,getL,getT,VL.getD,keyD,tyB,lstC,oAdd,oSub,oMul,oFdiv,oMod,oPow,oNeg,oLt,oLe,oGt,oGe,oEq,oNe,oIsN,oNotN,oIn,oNotIn,oIx,oLen,oInt,oAbs,oMin,oMax,oStr,oList,oListC,oTuple,oAll,oAny,itemsU,lenN,truB,fJs,oFmt,List.map_cons,List.map_nil,List.length_cons,List.length_nil,List.replicate_succ,List.replicate_zero,List.cons_append,List.nil_append,List.append_nil,List.getElem?_cons_zero,List.getElem?_cons_succ,List.set_cons_zero,List.set_cons_succ,Nat.reduceAdd,Nat.reduceSub,Option.map_some,Option.map_none,if_true,if_false,ite_true,ite_false,Bool.false_eq_true,reduceCtorEq,true_and,and_true,and_self,Bool.not_true,Bool.not_false,Nat.zero_add,Option.bind_some,Option.bind_eq_bind,Option.pure_def,decide_true,decide_false,eq_self,Nat.reduceEqDiff,Nat.reduceLT,Nat.reduceLeDiff,Int.reduceLT,Int.reduceLE,Int.reduceEq,Bool.and_true,Bool.true_and,Bool.false_and,Bool.or_false,Bool.or_true,Bool.true_or,Bool.false_or,sz0,szl0,sz1,szl1,sz2,szl2,sz3,szl3,sz4,szl4,sz5,szl5,sz6,szl6,sz7,szl7,sz8,szl8,sz9,szl9,sz10,szl10,sz11,szl11,sz12,szl12,sz13,szl13,sz14,szl14,sz15,szl15,wipeE,thingP]⟩
theorem RdAt.setO {r i j n : Nat} {sec : D} {met parts : List D} (rd : RdAt a st r i j sec met parts) (o : O) (h1 : n ≠ r) (h2 : n ≠ i) (h3 : n ≠ j) : RdAt a (st.set n o) r i j sec met parts :=
 ⟨by rw [List.getElem?_set_ne h1]; exact rd.r0,by rw [List.getElem?_set_ne h2]; exact rd.i0,by rw [List.getElem?_set_ne h3]; exact rd.j0,rd.ri,rd.rj,rd.ij⟩
/-- what a file's text is -/
structure TextOk (s : Str) (ls : List Ln) : Prop where
 ln : linesOf s = ls.map Ln.text
 vd : Vd .non [] ls
 l1 : s.length + 2 ≤ sizeLine
 l2 : ls.length < sizeLine
theorem ev_sinit (h : WF st) {sf : Nat} (hs : st[sf]? = some (.ins a.C_SettingsFile [])) {s : Str} {ls : List Ln} (T : TextOk s ls) :
  ∃ st' j ds,m_SettingsFile_init K a [.ref sf,.d (.str s)] st = .ok (.d .non) st' ∧ st'[sf]? = some (.ins a.C_SettingsFile [("whole",.d (.str s)),("all_parts",.ref j),("parts",.d (.lst ds)),("settings_read",.d (.dct (mergeD [] (kvD (setsL .non ls)))))]) ∧
   st'[j]? = some (.lst ((partsL .non 0 ls).map U.d)) ∧ st.length ≤ j ∧ ∀ n,n ≠ sf → n < st.length → st'[n]? = st[n]?:=by
 have ok:=partsL_ok ls .non 0
 have lsf:=(List.getElem?_eq_some_iff.mp hs).1
 have h0 : WF (st ++ [.ins a.C_Reader []]):=h.push rfl
 obtain ⟨st1,e1,w1,n1,rd1,fr1⟩:=ev_rinit (K:=K) h0 (r:=st.length) new_at
 rw [List.length_append,List.length_singleton] at n1 rd1 fr1
 have el:=ev_lines_of (K:=K) (a:=a) w1 s T.l1
 rw [T.ln,List.map_map] at el
 obtain ⟨y3,y4,st2,met2,e2,fr2,rd2⟩:=ev_lines (K:=K) (u0:=some (.ref sf)) (u1:=some (.d (.str s))) (x5:=none) (x6:=none) ls 0 none none st1 .non [] [] w1 rd1 T.vd (by simpa using T.l2) (by simpa using T.l2)
 rw [List.nil_append] at rd2
 have lp : (partsL .non 0 ls).length ≤ sizeLine:=by
  have : ∀ (ls : List Ln) (s : D) (k : Nat),(partsL s k ls).length = ls.length:=fun ls=>by
   induction ls with
   | nil=>intro s k; rfl
   | cons l ls ih=>intro s k; show (partsL _ _ ls).length + 1 = ls.length + 1; rw [ih]
  rw [this]; exact Nat.le_of_lt T.l2
 have hsf : st2[sf]? = some (.ins a.C_SettingsFile []):=by
  rw [fr2.fr sf (by omega) (by omega) (by omega),fr1 sf (by omega) (by omega),List.getElem?_append_left lsf]; exact hs
 have n2:=fr2.len.trans n1
 let A1 : O:=.ins a.C_SettingsFile [(("whole" : Str),.d (.str s))]
 let A2 : O:=.ins a.C_SettingsFile [(("whole" : Str),.d (.str s)),(("all_parts" : Str),.ref (st.length + 1 + 1))]
 have a1 : (st2.set sf A1)[sf]? = some A1:=set_at hsf
 have a2 : ((st2.set sf A1).set sf A2)[sf]? = some A2:=set_at a1
 have rd3:=rd2.setO (n:=sf) A1 (by omega) (by omega) (by omega)
 have rd4:=rd3.setO (n:=sf) A2 (by omega) (by omega) (by omega)
 have w4 : WF ((st2.set sf A1).set sf A2):=(fr2.wf.set rfl).set (by
  show (true && (decide (st.length + 1 + 1 < _) && true)) = true
  rw [List.length_set,n2]
  simp)
 obtain ⟨ds,ep⟩:=ev_parts_of (K:=K) (a:=a) w4 rd4.j0 ok lp
 let A3 : O:=.ins a.C_SettingsFile [(("whole" : Str),.d (.str s)),(("all_parts" : Str),.ref (st.length + 1 + 1)),(("parts" : Str),.d (.lst ds))]
 have a3 : (((st2.set sf A1).set sf A2).set sf A3)[sf]? = some A3:=set_at a2
 have rd5:=rd4.setO (n:=sf) A3 (by omega) (by omega) (by omega)
 have w5 : WF (((st2.set sf A1).set sf A2).set sf A3):=w4.set (by
  show (true && (decide (st.length + 1 + 1 < _) && (true && true))) = true
  rw [List.length_set,List.length_set,n2]
  simp)
 have ec:=ev_comp (K:=K) (u0:=some (.ref sf)) (u1:=some (.d (.str s))) (x3:=y3) (x4:=y4) (x5:=none) (x6:=none) w5 rd5 ok lp
 have ek:=pairs_ok2 ls .non 0
 let A4 : O:=.ins a.C_SettingsFile [(("whole" : Str),.d (.str s)),(("all_parts" : Str),.ref (st.length + 1 + 1)),(("parts" : Str),.d (.lst ds)),(("settings_read" : Str),.d (.dct (mergeD [] (kvD (setsL .non ls)))))]
 have a4 : ((((st2.set sf A1).set sf A2).set sf A3).set sf A4)[sf]? = some A4:=set_at a3
 have rd6:=rd5.setO (n:=sf) A4 (by omega) (by omega) (by omega)
 refine ⟨(((st2.set sf A1).set sf A2).set sf A3).set sf A4,st.length + 1 + 1,ds,?_,a4,rd6.j0,by omega,fun n hn hl=>?_⟩
 ·simp only [A1,A2,A3,A4] at *
  unfold m_SettingsFile_init g_SettingsFile_init
  simp_all? only [oIsi,tyN,isi_str,fMake,e1,el,itE,Function.comp_def,e2,hsf,List.mem_cons,List.not_mem_nil,or_false,qf0,qf1,qf2,qf3,a1,a2,a3,rd3.r0,rd4.r0,lk_parts,ep,ec,oDict,ek,wId]
 ·rw [List.getElem?_set_ne (Ne.symm hn),List.getElem?_set_ne (Ne.symm hn),List.getElem?_set_ne (Ne.symm hn),List.getElem?_set_ne (Ne.symm hn),fr2.fr n (by omega) (by omega) (by omega),fr1 n (by omega) (by omega),List.getElem?_append_left hl]
/-- a file as data -/
noncomputable def fileD (a : Ad) (s : Str) (ps ds : List D) (dd : List (Key × D)) : D:=.ins a.C_SettingsFile [("whole",.str s),("all_parts",.lst ps),("parts",.lst ds),("settings_read",.dct dd)]
theorem ev_make (h : WF st) {s : Str} {ls : List Ln} (T : TextOk s ls) {fc : F (List U × List U)} {env : VEnv} (hf : fc env st = .ok ([.d (.str s)],[]) st) :
  ∃ ds,fWr wFrz (fMake a.C_SettingsFile 1 0 gPos (m_SettingsFile_init K a) fc) env st = .ok (.d (fileD a s (partsL .non 0 ls) ds (mergeD [] (kvD (setsL .non ls))))) st:=by
 have h0 : WF (st ++ [.ins a.C_SettingsFile []]):=h.push rfl
 obtain ⟨st',j,ds,e,es,ej,lj,fr⟩:=ev_sinit (K:=K) (a:=a) h0 (sf:=st.length) new_at T
 rw [List.length_append,List.length_singleton] at lj fr
 refine ⟨ds,?_⟩
 have e2 : fMake a.C_SettingsFile 1 0 gPos (m_SettingsFile_init K a) fc env st = .ok (.ref st.length) st':=by
  unfold fMake
  simp_all? only [hf,e]
 have ec : cutS st.length st' = some st:=cut_same h fun n hn=>by rw [fr n (by omega) (by omega),List.getElem?_append_left hn]
 have hj : ¬ j < st.length:=by omega
 have ef : frz st' st.length 4 (.ref st.length) = some (fileD a s (partsL .non 0 ls) ds (mergeD [] (kvD (setsL .non ls)))):=by
  unfold frz
  rw [if_neg (Nat.lt_irrefl _)]
  simp only [es,allM]
  simp only [frz,if_neg hj,ej,allM_frz,Option.map_some,fileD]
 unfold fWr
 rw [e2]
 simp only [wFrz,ef,ec]
theorem ev_ltake {b : Nat} (h : WF st) (hb : Bag st b) {m : Int} (h0 : 0 < m) (h1 : m < 1073741824) :
  ∃ (d : Nat) (st' : Store),m_L_law_take K a [.ref b,.d (.int m)] st = .ok (.d (.int (d : Nat))) st' ∧ (d : Int) < m ∧ Fb st st' b:=by
 obtain ⟨n,x,hb⟩:=hb
 have hs:=fun (n' x' : Int)=>set_at (o':=.lst [.d (.int n'),.d (.int x')]) hb
 by_cases hn : 0 < n
 ·have e0 : 0 ≤ n % m:=Int.emod_nonneg _ (by omega)
  have e1 : n % m < m:=Int.emod_lt_of_pos _ h0
  have fb:=fb_set h hb (n / m) x
  refine ⟨(n % m).toNat,_,?_,by omega,fb⟩
  rw [Int.toNat_of_nonneg e0]
  unfold m_L_law_take g_L_law_take
  simp_all? only [hb,at_0,at_1,decide_eq_true hn,h0,h1,ixn0]
  exact wCut_len fb.wf fb.len _
 ·have hw : (0 : Int) < 64:=by decide
  have h7 : (0 : Int) < 7 ∧ (7 : Int) < 1073741824:=⟨by decide,by decide⟩
  have h64 : (0 : Int) < 64 ∧ (64 : Int) < 1073741824:=⟨by decide,by decide⟩
  have hq1 : (0 : Int) < 2147483399:=by decide
  have hq2 : (0 : Int) < 2147483587:=by decide
  have c1 : ∀ y : Int,((-(2 ^ 64) < y ∧ y < 2 ^ 64) ∨ (-(2 ^ 64) < (40692 : Int) ∧ (40692 : Int) < 2 ^ 64)):=fun y=>.inr ⟨by decide,by decide⟩
  have c2 : ∀ y : Int,((-(2 ^ 64) < y ∧ y < 2 ^ 64) ∨ (-(2 ^ 64) < (69621 : Int) ∧ (69621 : Int) < 2 ^ 64)):=fun y=>.inr ⟨by decide,by decide⟩
  let X : Int:=(x * 40692 + 2909) % 2147483399
  let Y : Int:=X / 7 * 69621 % 2147483587 / 64
  have e0 : 0 ≤ Y % m:=Int.emod_nonneg _ (by omega)
  have e1 : Y % m < m:=Int.emod_lt_of_pos _ h0
  have fb:=fb_set h hb n X
  refine ⟨(Y % m).toNat,_,?_,by omega,fb⟩
  rw [Int.toNat_of_nonneg e0]
  simp only [X,Y] at *
  unfold m_L_law_take g_L_law_take
  simp_all? only [hb,at_0,at_1,decide_eq_false hn,h0,h7,h64,hw,hq1,hq2,c1,c2,ixn1,hs]
  exact wCut_len fb.wf fb.len _
theorem ev_lof {b : Nat} (h : WF st) (hb : Bag st b) {ds : List D} (h0 : 0 < ds.length) (h1 : ds.length < 1073741824) :
  ∃ (x : D) (st' : Store),m_L_law_of K a [.ref b,.d (.lst ds)] st = .ok (.d x) st' ∧ x ∈ ds ∧ Fb st st' b:=by
 obtain ⟨d,st',e,hd,fb⟩:=ev_ltake (K:=K) (a:=a) h hb (m:=(ds.length : Nat)) (by omega) (by omega)
 have hd' : d < ds.length:=by omega
 have ha : atI (ds.map U.d) (d : Int) = some (.d ds[d]):=by
  rw [at_lt (by rw [List.length_map]; exact hd')]
  rw [List.getElem_map]
 refine ⟨ds[d],st',?_,List.getElem_mem hd',fb⟩
 have wc:=wFrz_d fb.wf ds[d]
 rw [fb.len] at wc
 unfold m_L_law_of g_L_law_of
 simp_all? only [List.length_map,e,ha,wc]
theorem ev_bagloop {u0 u1 u2 : Option U} : ∀ (ns : List Int) (k : Nat) (x : Int) (x4 x5 : Option U),∃ (x' : Int) (y4 y5 : Option U),loopL (tgT 2 (tgCons (tgN 4) (tgCons (tgN 5) tgNil))) (b_L_law_bag_1 K a) (pairsFrom k (ns.map .int)) [u0,u1,u2,some (.d (.int x)),x4,x5] st = .ok [u0,u1,u2,some (.d (.int x')),y4,y5] .nx st
 | [],k,x,x4,x5=>⟨x,x4,x5,rfl⟩
 | n :: ns,k,x,x4,x5=>by
  have c1 : ∀ y : Int,((-(2 ^ 64) < y ∧ y < 2 ^ 64) ∨ (-(2 ^ 64) < (40014 : Int) ∧ (40014 : Int) < 2 ^ 64)):=fun y=>.inr ⟨by decide,by decide⟩
  have c2 : ∀ y : Int,((-(2 ^ 64) < (83 : Int) ∧ (83 : Int) < 2 ^ 64) ∨ (-(2 ^ 64) < y ∧ y < 2 ^ 64)):=fun y=>.inl ⟨by decide,by decide⟩
  have hq : (0 : Int) < 2147483563:=by decide
  have hq5 : (0 : Int) < 2147483563:=by decide
  obtain ⟨x',y4,y5,e⟩:=ev_bagloop (u0:=u0) (u1:=u1) (u2:=u2) ns (k + 1) ((x * 40014 + n % 2147483563 + 83 * (k : Nat) + 7) % 2147483563) (some (.d (.int (k : Nat)))) (some (.d (.int n)))
  refine ⟨x',y4,y5,?_⟩
  rw [List.map_cons,pairsFrom,loopL]
  have eb : b_L_law_bag_1 K a [u0,u1,u2,some (.d (.int x)),some (.d (.int (k : Nat))),some (.d (.int n))] st = .ok [u0,u1,u2,some (.d (.int ((x * 40014 + n % 2147483563 + 83 * (k : Nat) + 7) % 2147483563))),some (.d (.int (k : Nat))),some (.d (.int n))] .nx st:=by
   unfold b_L_law_bag_1
   simp_all? only [c1,c2,hq,hq5]
  simp_all? only [eb,e]
theorem ev_lbag (h : WF st) (ns : List Int) (hn : ns.length ≤ 63) (t : Nat) (ht : t < 64) : ∃ n x : Int,m_L_law_bag K a [.d (.scr ns),.d (.int (t : Nat))] st = .ok (.ref st.length) (st ++ [.lst [.d (.int n),.d (.int x)]]):=by
 have c1 : ((-(2 ^ 64) < (4099 : Int) ∧ (4099 : Int) < 2 ^ 64) ∨ (-(2 ^ 64) < ((t : Nat) : Int) ∧ ((t : Nat) : Int) < 2 ^ 64)):=.inl ⟨by decide,by decide⟩
 have c3 : (0 : Int) ≤ 18 ∧ (18 : Int) ≤ 1000000 ∧ (10 : Int).natAbs < 2 ^ 64:=⟨by decide,by decide,by decide⟩
 obtain ⟨ms,hms⟩ : ∃ ms : List Int,cutG (ns.map fun i=>U.d (.int i)) none (some 40) = ms.map fun i=>U.d (.int i):=by
  rw [cutG_map (fun i=>U.d (.int i)) ns]; exact ⟨_,rfl⟩
 have fin : ∀ (n x : Int),wKeep st.length (.ref st.length) (st ++ [.lst [.d (.int n),.d (.int x)]]) = .ok (.ref st.length) (st ++ [.lst [.d (.int n),.d (.int x)]]):=fun n x =>
  wKeep_of (ds:=[.int n,.int x]) h (by rw [new_at]; rfl) (Nat.le_refl _) fun m hm=>List.getElem?_append_left hm
 obtain ⟨c,hc0⟩ : ∃ c : Int,∀ x' y4 y5,loopL (tgT 2 (tgCons (tgN 4) (tgCons (tgN 5) tgNil))) (b_L_law_bag_1 K a) (pairsFrom 0 (ms.map .int)) [some (.d (.scr ns)),some (.d (.int (t : Nat))),some (.d (.int c)),some (.d (.int (4099 * (t : Nat) + 53))),none,none] st = .ok [some (.d (.scr ns)),some (.d (.int (t : Nat))),some (.d (.int c)),some (.d (.int x')),y4,y5] .nx st →
   ∃ n x : Int,m_L_law_bag K a [.d (.scr ns),.d (.int (t : Nat))] st = .ok (.ref st.length) (st ++ [.lst [.d (.int n),.d (.int x)]]):=by
  by_cases hl : (t : Int) < (ns.length : Nat)
  ·have ha : ∃ c,atI (ns.map fun i=>U.d (.int i)) (t : Int) = some (.d (.int c)):=by
    rw [at_lt (by rw [List.length_map]; omega)]
    exact ⟨ns[t]'(by omega),by rw [List.getElem_map]⟩
   obtain ⟨c,ha⟩:=ha
   refine ⟨c,fun x' y4 y5 e=>?_⟩
   by_cases hc : (10 : Int) ^ (Int.toNat 18) ≤ (if c < 0 then -c else c)
   ·refine ⟨if c < 0 then -c else c,x',?_⟩
    unfold m_L_law_bag g_L_law_bag
    simp_all? only [List.length_map,decide_eq_true hl,ha,c1,oSl,hms,pure_ints,itE,e,c3,decide_eq_true hc]
    exact fin _ _
   ·refine ⟨0,x',?_⟩
    unfold m_L_law_bag g_L_law_bag
    simp_all? only [List.length_map,decide_eq_true hl,ha,c1,oSl,hms,pure_ints,itE,e,c3,decide_eq_false hc]
    exact fin _ _
  ·refine ⟨0,fun x' y4 y5 e=>⟨0,x',?_⟩⟩
   have hc : ¬ ((10 : Int) ^ (Int.toNat 18) ≤ (if (0 : Int) < 0 then -0 else 0)):=by decide
   unfold m_L_law_bag g_L_law_bag
   simp_all? only [List.length_map,decide_eq_false hl,c1,oSl,hms,pure_ints,itE,e,c3,decide_eq_false hc]
   exact fin _ _
 obtain ⟨x',y4,y5,e⟩:=ev_bagloop (K:=K) (a:=a) (st:=st) (u0:=some (.d (.scr ns))) (u1:=some (.d (.int (t : Nat)))) (u2:=some (.d (.int c))) ms 0 (4099 * (t : Nat) + 53) none none
 exact hc0 x' y4 y5 e
theorem ev_mloop {b i j : Nat} {u0 u1 : Option U} (hu : u0 = some (.ref b)) (hij : i ≠ j) (hbi : b ≠ i) (hbj : b ≠ j) : ∀ (N : Nat) (left found : List Str) (st : Store),left.length < N → st[i]? = some (.lst (sU left)) → st[j]? = some (.lst (sU found)) → (∀ s ∈ left,PyData.strOk s = true) → found.length + left.length ≤ 1000 → WF st → Bag st b →
  ∃ found' st',loopW (w_L_law_mixed_1 K a) (b_L_law_mixed_1 K a) N [u0,u1,some (.ref i),some (.ref j)] st = .ok [u0,u1,some (.ref i),some (.ref j)] .nx st' ∧ st'[j]? = some (.lst (sU found')) ∧ found'.Perm (found ++ left) ∧ WF st' ∧ Bag st' b ∧ st'.length = st.length ∧ ∀ n,n ≠ b → n ≠ i → n ≠ j → st'[n]? = st[n]?
 | 0,_,_,_,h,_,_,_,_,_,_=>absurd h (Nat.not_lt_zero _)
 | N + 1,left,found,st,hN,hi,hj,hs,hl,hw,hb=>by
  have ee:=eqB_empty hi hs
  cases left with
  | nil =>
   refine ⟨found,st,?_,hj,by rw [List.append_nil],hw,hb,rfl,fun _ _ _ _=>rfl⟩
   have ew : w_L_law_mixed_1 K a [u0,u1,some (.ref i),some (.ref j)] st = .ok false st:=by
    unfold w_L_law_mixed_1
    simp_all? only [ee,List.isEmpty_nil]
   unfold loopW
   simp only [bndS,ew,sNil,Bool.false_eq_true,if_false]
  | cons s0 left0 =>
   obtain ⟨d,st1,e1,hd,fb⟩:=ev_ltake (K:=K) (a:=a) hw hb (m:=((s0 :: left0).length : Nat)) (by rw [List.length_cons]; omega) (by rw [List.length_cons] at hl ⊢; omega)
   have hd' : d < (s0 :: left0).length:=by omega
   have i1 : st1[i]? = some (.lst (sU (s0 :: left0))):=by rw [fb.fr i hbi.symm]; exact hi
   have j1 : st1[j]? = some (.lst (sU found)):=by rw [fb.fr j hbj.symm]; exact hj
   have w2 : WF (st1.set i (.lst (sU ((s0 :: left0).eraseIdx d)))):=fb.wf.setL i _
   have j2 : (st1.set i (.lst (sU ((s0 :: left0).eraseIdx d))))[j]? = some (.lst (sU found)):=by rw [List.getElem?_set_ne hij]; exact j1
   have w3 : WF ((st1.set i (.lst (sU ((s0 :: left0).eraseIdx d)))).set j (.lst (sU (found ++ [(s0 :: left0)[d]])))):=w2.setL j _
   have lj:=(List.getElem?_eq_some_iff.mp j2).1
   have li:=(List.getElem?_eq_some_iff.mp i1).1
   have hlen : ((s0 :: left0).eraseIdx d).length + 1 = (s0 :: left0).length:=by rw [List.length_eraseIdx,if_pos hd']; omega
   obtain ⟨found',st',e2,k1,k2,k3,k4,k5,k6⟩:=ev_mloop (u0:=u0) (u1:=u1) hu hij hbi hbj N ((s0 :: left0).eraseIdx d) (found ++ [(s0 :: left0)[d]]) ((st1.set i (.lst (sU ((s0 :: left0).eraseIdx d)))).set j (.lst (sU (found ++ [(s0 :: left0)[d]]))))
    (by omega) (by rw [List.getElem?_set_ne hij.symm,List.getElem?_set_self li]) (by rw [List.getElem?_set_self lj]) (fun s h=>hs s (List.mem_of_mem_eraseIdx h)) (by rw [List.length_append,List.length_singleton]; omega) w3
    (by obtain ⟨n,x,q⟩:=fb.bag; exact ⟨n,x,by rw [List.getElem?_set_ne hbj.symm,List.getElem?_set_ne hbi.symm]; exact q⟩)
   refine ⟨found',st',?_,k1,?_,k3,k4,by rw [k5,List.length_set,List.length_set,fb.len],fun n h1 h2 h3=>by rw [k6 n h1 h2 h3,List.getElem?_set_ne h3.symm,List.getElem?_set_ne h2.symm,fb.fr n h1]⟩
   ·unfold loopW
    have hsz : found.length < sizeLine:=Nat.lt_of_lt_of_le (by omega : found.length < 1001) (by decide)
    have hd63 : (-2 ^ 63 ≤ (d : Int) ∧ (d : Int) < 2 ^ 63):=by rw [List.length_cons] at hd' hl; omega
    have hl0 : (sU (s0 :: left0)).length = (s0 :: left0).length:=sU_len _
    have eb : b_L_law_mixed_1 K a [u0,u1,some (.ref i),some (.ref j)] st = .ok [u0,u1,some (.ref i),some (.ref j)] .nx ((st1.set i (.lst (sU ((s0 :: left0).eraseIdx d)))).set j (.lst (sU (found ++ [(s0 :: left0)[d]])))):=by
     subst hu
     unfold b_L_law_mixed_1
     simp only [fM,sExpr,bndS,bnd,vVar,List.getElem?_cons_zero,List.getElem?_cons_succ,tyB,hj,decide_true,if_true,fCons,hi,fCall,fCW,fB,pu,oLen,lenN,getL,hl0,Option.map_some,R.of2,R.of,fNil,fPure,gPos,List.length_cons,List.length_nil,and_self,Nat.zero_add,Option.bind_eq_bind,Option.bind_some,Option.pure_def]
     rw [show (left0.length + 1 : Nat) = (s0 :: left0).length from rfl,e1]
     simp only [mPop,lstC,i1,hd63,and_self,if_true,hl0,seq_nat hd',sU_get hd',Option.map_some,sU_erase,mAppend,j2,sU_len,hsz,sU_snoc,R.of2,sNil]
    have ew : w_L_law_mixed_1 K a [u0,u1,some (.ref i),some (.ref j)] st = .ok true st:=by
     unfold w_L_law_mixed_1
     simp_all? only [ee,List.isEmpty_cons]
    simp only [bndS,ew,if_true,eb,e2]
   ·refine k2.trans ?_
    rw [List.append_assoc]
    refine List.Perm.append_left found ?_
    exact er_perm _ _ hd'
theorem ev_lmixed {b : Nat} (h : WF st) (hb : Bag st b) {ss : List Str} (hs : ∀ s ∈ ss,PyData.strOk s = true) (hl : ss.length ≤ 60) :
  ∃ ss' st',m_L_law_mixed K a [.ref b,.d (.lst (sD ss))] st = .ok (.d (.lst (sD ss'))) st' ∧ ss'.Perm ss ∧ Fb st st' b:=by
 have lb:=hb.lt
 have w1 : WF (st ++ [.lst (sU ss)] ++ [.lst (sU [])]):=(h.pushL (sD ss)).pushL []
 have i1 : (st ++ [O.lst (sU ss)] ++ [.lst (sU [])])[st.length]? = some (.lst (sU ss)):=app_at new_at
 have j1 : (st ++ [O.lst (sU ss)] ++ [.lst (sU [])])[st.length + 1]? = some (.lst (sU [])):=by
  have:=new_at (st:=st ++ [O.lst (sU ss)]) (o:=.lst (sU []))
  rwa [List.length_append,List.length_singleton] at this
 have b1 : Bag (st ++ [O.lst (sU ss)] ++ [.lst (sU [])]) b:=by
  obtain ⟨n,x,q⟩:=hb
  exact ⟨n,x,app_at (app_at q)⟩
 obtain ⟨found,st',e,k1,k2,k3,k4,k5,k6⟩:=ev_mloop (K:=K) (a:=a) (u0:=some (.ref b)) (u1:=some (.d (.lst (sD ss)))) rfl (by omega : st.length ≠ st.length + 1) (by omega) (by omega) 100 ss [] _ (by omega) i1 j1 hs (by simp; omega) w1 b1
 have k5' : st'.length = st.length + 1 + 1:=by rw [k5]; simp
 obtain ⟨c1,c2⟩:=cut_fb h k4 lb (by omega) fun n hn hnb=>by
  rw [k6 n hnb (by omega) (by omega),List.getElem?_append_left (by simp; omega),List.getElem?_append_left hn]
 refine ⟨found,_,?_,by simpa using k2,c2⟩
 unfold m_L_law_mixed g_L_law_mixed
 have hf:=frz_lst (k:=st.length) (f:=3) (by omega) k1
 simp only [fnM,List.map_cons,List.map_nil,List.length_cons,List.length_nil,List.replicate_succ,List.replicate_zero,List.cons_append,List.nil_append,Nat.reduceAdd,Nat.reduceSub,sSeq,sPar,bndS,bnd,fCons,fB,oListC,itemsU,getL,vVar,List.getElem?_cons_zero,List.getElem?_cons_succ,fNil,fPure,R.of2,fLstC,sz0,if_true,List.set_cons_zero,List.set_cons_succ,List.length_append]
 rw [show (sD ss).map U.d = sU ss from rfl]
 rw [show ([] : List U) = sU [] from rfl]
 rw [e]
 simp only [sRet,bndS,vVar,List.getElem?_cons_zero,List.getElem?_cons_succ,wFrz,hf,c1]
inductive En where
 | sec (h : Str) | plc (x : Str) | kp (m : Int) (p : Str)
 deriving DecidableEq
noncomputable def En.D : En → D
 | .sec h=>.tup [.str "section",.str h]
 | .plc x=>.tup [.str "place",.str x]
 | .kp m p=>.tup [.str "kept",.tup [.int m,.str p]]
noncomputable def En.P : En → PyData
 | .sec h=>.tuple [.str "section",.str h]
 | .plc x=>.tuple [.str "place",.str x]
 | .kp m p=>.tuple [.str "kept",.tuple [.int m,.str p]]
noncomputable def En.ok : En → Prop
 | .sec h=>PyData.strOk h = true
 | .plc x=>PyData.strOk x = true
 | .kp _ p=>PyData.strOk p = true
theorem En.toP (e : En) : toP e.D = some e.P:=by cases e <;> rfl
theorem En.toPs : ∀ es : List En,toPs (es.map En.D) = some (es.map En.P)
 | []=>rfl
 | e :: es=>by
  show (match VL.toP e.D,VL.toPs (es.map En.D) with
   | some p,some ps=>some (p :: ps)
   | _,_=>none) = _
  rw [En.toP,En.toPs es]
  rfl
theorem so1 : PyData.strOk "section" = true:=by decide +kernel
theorem so2 : PyData.strOk "place" = true:=by decide +kernel
theorem so3 : PyData.strOk "kept" = true:=by decide +kernel
theorem En.lay {e : En} (h : e.ok) : e.P.canLay0 = true:=by
 cases e with
 | sec x=>have h' : PyData.strOk x = true:=h; simp [En.P,PyData.canLay0,PyData.canLayAll0,so1,h']
 | plc x=>have h' : PyData.strOk x = true:=h; simp [En.P,PyData.canLay0,PyData.canLayAll0,so2,h']
 | kp m x=>have h' : PyData.strOk x = true:=h; simp [En.P,PyData.canLay0,PyData.canLayAll0,so3,h']
theorem En.depth (e : En) : e.P.depth ≤ 2:=by cases e <;> simp [En.P,PyData.depth,PyData.depthAll]
theorem En.shaped {e : En} (h : e.ok) : SeqAt.shaped e.P = true:=by
 unfold SeqAt.shaped
 have:=e.depth
 rw [En.lay h,Bool.true_and,decide_eq_true_eq]
 omega
theorem En.layAll : ∀ {es : List En},(∀ e ∈ es,e.ok) → PyData.canLayAll0 (es.map En.P) = true
 | [],_=>rfl
 | e :: es,h=>by
  rw [List.map_cons]
  simp [PyData.canLayAll0,En.lay (h e (List.mem_cons_self ..)),En.layAll fun x hx=>h x (List.mem_cons_of_mem _ hx)]
theorem En.depthAll : ∀ (es : List En),PyData.depthAll (es.map En.P) ≤ 2
 | []=>by simp [PyData.depthAll]
 | e :: es=>by
  have:=e.depth
  have:=En.depthAll es
  rw [List.map_cons]
  simp [PyData.depthAll]
  omega
theorem En.shapedL {es : List En} (h : ∀ e ∈ es,e.ok) : SeqAt.shaped (.list (es.map En.P)) = true:=by
 unfold SeqAt.shaped
 have:=En.depthAll es
 simp [PyData.canLay0,PyData.depth,En.layAll h]
 omega
theorem sec_place : (("section" : Str) == ("place" : Str)) = false:=by decide +kernel
theorem sec_kept : (("section" : Str) == ("kept" : Str)) = false:=by decide +kernel
theorem place_sec : (("place" : Str) == ("section" : Str)) = false:=by decide +kernel
theorem place_kept : (("place" : Str) == ("kept" : Str)) = false:=by decide +kernel
theorem kept_sec : (("kept" : Str) == ("section" : Str)) = false:=by decide +kernel
theorem kept_place : (("kept" : Str) == ("place" : Str)) = false:=by decide +kernel
theorem eqv_tup (a b : List PyData) : PyData.eqv (.tuple a) (.tuple b) = PyData.eqvAll a b:=by simp [PyData.eqv]
theorem eqv_cons (a b : List PyData) (x y : PyData) : PyData.eqvAll (x :: a) (y :: b) = (PyData.eqv x y && PyData.eqvAll a b):=by simp [PyData.eqvAll]
theorem eqv_ne {e f : En} (h : e ≠ f) : PyData.eqv e.P f.P = false:=by
 cases e with
 | sec x=>cases f with
  | sec y=>simp only [En.P,eqv_tup,eqv_cons,eqv_str]; simp; intro z; exact absurd (congrArg En.sec z) h
  | plc y=>simp only [En.P,eqv_tup,eqv_cons,eqv_str,sec_place,Bool.false_and]
  | kp m y=>simp only [En.P,eqv_tup,eqv_cons,eqv_str,sec_kept,Bool.false_and]
 | plc x=>cases f with
  | sec y=>simp only [En.P,eqv_tup,eqv_cons,eqv_str,place_sec,Bool.false_and]
  | plc y=>simp only [En.P,eqv_tup,eqv_cons,eqv_str]; simp; intro z; exact absurd (congrArg En.plc z) h
  | kp m y=>simp only [En.P,eqv_tup,eqv_cons,eqv_str,place_kept,Bool.false_and]
 | kp m x=>cases f with
  | sec y=>simp only [En.P,eqv_tup,eqv_cons,eqv_str,kept_sec,Bool.false_and]
  | plc y=>simp only [En.P,eqv_tup,eqv_cons,eqv_str,kept_place,Bool.false_and]
  | kp n y =>
   simp only [En.P,eqv_tup,eqv_cons,eqv_str,eqv_int]
   simp
   intro z1 z2
   subst z1; subst z2
   exact absurd rfl h
theorem En.new {es : List En} {e : En} (h : ∀ e ∈ es,e.ok) (he : e.ok) (hn : e ∉ es) : NewIn (es.map En.D) e.D :=
 ⟨es.map En.P,e.P,En.toPs es,En.toP e,En.shaped he,En.shapedL h,by
  rw [List.any_map]
  refine List.any_eq_false.mpr fun f hf=>?_
  show ¬ (PyData.eqv f.P e.P = true)
  rw [eqv_ne (fun z=>hn (by rw [← z]; exact hf))]
  exact Bool.false_ne_true⟩
section
variable {f fx fy : F U} {g g1 g2 : G} {env env1 : VEnv} {s s1 s2 : Store} {u y : U} {n p : Nat} {r : RS}
theorem asgA (e : f env s = .ok u s1) : sAsg f (tgN n) env s = .ok (env.set n (some u)) .nx s1:=by
 unfold sAsg bndS
 rw [e]
 rfl
theorem seqA (e : f env s = .ok u s1) (h : g (env.set n (some u)) s1 = r) : sSeq (sAsg f (tgN n)) g env s = r:=by
 unfold sSeq
 rw [asgA e]
 exact h
theorem seqG (e : g1 env s = .ok env1 .nx s1) (h : g2 env1 s1 = r) : sSeq g1 g2 env s = r:=by
 unfold sSeq
 rw [e]
 exact h
theorem retA (e : f env s = .ok u s1) : sRet f env s = .ok env (.rt u) s1:=by
 unfold sRet bndS
 rw [e]
theorem appE {xs : List U} (h1 : fx env s = .ok (.ref p) s) (h2 : fy env s = .ok y s1) (hg0 : s[p]? = some (.lst xs)) (hg : s1[p]? = some (.lst xs)) (hz : xs.length < sizeLine) : sExpr (fM "list" mAppend fx (fCons fy fNil)) env s = .ok env .nx (s1.set p (.lst (xs ++ [y]))):=by
 have ht : tyB "list" s (.ref p) = true:=by
  unfold tyB
  simp only [hg0]
  rfl
 have hf : fCons fy fNil env s = .ok [y] s1:=by
  unfold fCons fNil fPure bnd
  rw [h2]
 have hm : mAppend (.ref p) [y] s1 = some (.d .non,s1.set p (.lst (xs ++ [y]))):=by
  unfold mAppend lstC
  simp only [hg,if_pos hz]
 unfold sExpr bndS fM bnd
 rw [h1]
 simp only [ht,if_true,hf,hm]
 rfl
theorem loopN {us : List U} {env2 : VEnv} (h2 : g (env.set n (some u)) s = .ok env2 .nx s2) (h3 : loopL (tgN n) g us env2 s2 = r) : loopL (tgN n) g (u :: us) env s = r:=by
 have h1 : tgN n u env s = .ok (env.set n (some u)) .nx s:=rfl
 unfold loopL
 rw [h1]
 simp only
 rw [h2]
 exact h3
theorem f2A {o : P2} {x v : U} (h1 : fx env s = .ok x s1) (h2 : fy env s1 = .ok y s2) (h : o x y s2 = some v) : f2 o fx fy env s = .ok v s2:=by
 unfold f2 bnd
 rw [h1]
 simp only
 rw [h2]
 simp only [h,R.of]
theorem consA {fs : F (List U)} {us : List U} (h1 : fx env s = .ok u s1) (h2 : fs env s1 = .ok us s2) : fCons fx fs env s = .ok (u :: us) s2:=by
 unfold fCons bnd
 rw [h1]
 simp only
 rw [h2]
 rfl
theorem cons1 (h1 : fx env s = .ok u s1) : fCons fx fNil env s = .ok [u] s1:=consA h1 rfl
theorem callA {fs : F (List U)} {us : List U} {m : Nat} {mf : List U → M U} (h1 : fs env s = .ok us s1) (hl : us.length = m) (h : mf us s1 = .ok u s2) : fCall m 0 gPos mf (fCW fs fNil) env s = .ok u s2:=by
 have e : fCW fs fNil env s = .ok (us,[]) s1:=by
  unfold fCW bnd
  rw [h1]
  rfl
 unfold fCall bnd
 rw [e]
 simp only [hl,List.length_nil,and_self,if_true,gPos]
 exact h
theorem fnA {w : Wr} {us : List U} (h : g (us.map some ++ List.replicate (n - us.length) none) s = .ok env1 (.rt u) s1) : fnM n g w us s = w s.length u s1:=by
 unfold fnM
 rw [h]
theorem lstA {fs : F (List U)} {us : List U} (h : fs env s = .ok us s1) (hz : us.length ≤ sizeLine) : fLstC fs env s = .ok (.ref s1.length) (s1 ++ [.lst us]):=by
 unfold fLstC bnd
 rw [h]
 simp only [if_pos hz]
theorem itRn {m : Nat} (h : m < 1000) : itR [.d (.int ((m : Nat) : Int))] = some (.lst ((List.range m).map fun i=>U.d (.int (((0 + i : Nat)) : Int)))):=by
 rw [itR_eq h]
 congr 3
theorem asBA {k : Bool} (h : f env s = .ok (.d (.bl k)) s1) : asB f env s = .ok k s1:=by
 unfold asB bnd
 rw [h]
theorem bAndT {b1 b2 : F Bool} {k : Bool} (h1 : b1 env s = .ok true s1) (h2 : b2 env s1 = .ok k s2) : bAnd b1 b2 env s = .ok k s2:=by
 unfold bAnd bnd
 rw [h1]
 simp only [if_true]
 exact h2
theorem bAndF {b1 b2 : F Bool} (h1 : b1 env s = .ok false s1) : bAnd b1 b2 env s = .ok false s1:=by
 unfold bAnd bnd
 rw [h1]
 rfl
theorem ifT {c : F Bool} (h : c env s = .ok true s1) (h2 : g1 env s1 = r) : sIf c g1 g2 env s = r:=by
 unfold sIf bndS
 rw [h]
 exact h2
theorem ifF {c : F Bool} (h : c env s = .ok false s1) (h2 : g2 env s1 = r) : sIf c g1 g2 env s = r:=by
 unfold sIf bndS
 rw [h]
 exact h2
theorem parA {fs : F (List U)} {i j : Nat} {u w : U} (h : fs env s = .ok [u,w] s1) : sPar i j fs env s = .ok ((env.set i (some u)).set j (some w)) .nx s1:=by
 unfold sPar bndS
 rw [h]
theorem cwA {f g : F (List U)} {us ws : List U} (h1 : f env s = .ok us s1) (h2 : g env s1 = .ok ws s2) : fCW f g env s = .ok (us,ws) s2:=by
 unfold fCW bnd
 rw [h1]
 simp only
 rw [h2]
 rfl
theorem strM {x : Str} {fs : F (List U)} {us : List U} {mt : U → List U → Store → Option U} {v : U} (h1 : fx env s = .ok (.d (.str x)) s) (h2 : fs env s = .ok us s1) (h : mt (.d (.str x)) us s1 = some v) : fM "str" (pu4 mt) fx fs env s = .ok v s1:=by
 have ht : tyB "str" s (.d (.str x)) = true:=rfl
 unfold fM bnd
 rw [h1]
 simp only [ht,if_true,h2,pu4,h,Option.map_some]
 rfl
theorem puA {o : List U → Store → Option U} {fs : F (List U)} {us : List U} {v : U} (h1 : fs env s = .ok us s1) (h : o us s1 = some v) : fB (pu o) fs env s = .ok v s1:=by
 unfold fB bnd
 rw [h1]
 simp only [pu,h,Option.map_some]
 rfl
end
section
variable {f fx fy : F U} {g g1 g2 : G} {env env1 : VEnv} {s s1 s2 : Store} {u y : U} {n p : Nat} {r : RS}
theorem methA {C : Addr} {nm : Str} {k : Nat} {mf : List U → M U} {fs : F (List U)} {us : List U} {ws : List (Str × U)} {v : U} (h1 : fx env s = .ok u s) (hi : insU s u = some (C,ws)) (hl : ws.lookup nm = none) (h2 : fs env s = .ok us s1) (hk : us.length = k) (h : mf (u :: us) s1 = .ok v s2) : fMeth C nm k 0 gPos mf fx (fCW fs fNil) env s = .ok v s2:=by
 have e : fCW fs fNil env s = .ok (us,[]) s1:=cwA h2 rfl
 unfold fMeth bnd
 rw [h1]
 simp only [hi,hl,and_self,if_true]
 rw [e]
 simp only [hk,List.length_nil,and_self,if_true,gPos]
 exact h
theorem propA {C : Addr} {mf : List U → M U} {ws : List (Str × U)} {v : U} (h1 : fx env s = .ok u s1) (hi : insU s1 u = some (C,ws)) (h : mf [u] s1 = .ok v s2) : fProp C mf fx env s = .ok v s2:=by
 unfold fProp bnd
 rw [h1]
 simp only [hi,if_true,h]
end
section
variable {f fx fy : F U} {g g1 g2 : G} {env env1 : VEnv} {s s1 s2 : Store} {u y : U}
theorem asTA {k : Bool} (h : f env s = .ok u s1) (h2 : truB s1 u = some k) : asT f env s = .ok k s1:=by
 unfold asT bnd
 rw [h]
 simp only [h2,R.of]
theorem bNotA {b : F Bool} {k : Bool} (h : b env s = .ok k s1) : bNot b env s = .ok (!k) s1:=by
 unfold bNot bnd
 rw [h]
theorem bOrF {b1 b2 : F Bool} {k : Bool} (h1 : b1 env s = .ok false s1) (h2 : b2 env s1 = .ok k s2) : bOr b1 b2 env s = .ok k s2:=by
 unfold bOr bnd
 rw [h1]
 exact h2
theorem lstDA {fs : F (List U)} {ds : List D} (h : fs env s = .ok (ds.map U.d) s1) (hz : ds.length ≤ sizeLine) : fN vLst fs env s = .ok (.d (.lst ds)) s1:=by
 unfold fN bnd
 rw [h]
 simp only [vLst,pureL_map,if_pos hz,R.of]
end
section
variable {K : PySem.W.Frag} {f fx fy fa fb fc : F U} {g g1 g2 gb : G} {o o' : P2} {tg : U → G} {env env1 env2 : VEnv} {s s1 s2 s3 : Store} {u v w x y z : U} {us : List U} {r : RS} {c : F Bool} {k : Value} {cl : Value} {xf : XF} {i n : Nat} {gs : Addr → Option Addr → Value → G} {ks : List (Value × Nat × (Addr → Option Addr → Value → G))}
theorem loopT (h1 : tg u env s = .ok env1 .nx s) (h2 : g env1 s = .ok env2 .nx s2) (h3 : loopL tg g us env2 s2 = r) : loopL tg g (u :: us) env s = r:=by
 unfold loopL
 rw [h1]
 simp only
 rw [h2]
 exact h3
theorem fIfT (h : c env s = .ok true s1) (h2 : fx env s1 = .ok u s2) : fIf c fx fy env s = .ok u s2:=by
 unfold fIf bnd
 rw [h]
 exact h2
theorem fIfF (h : c env s = .ok false s1) (h2 : fy env s1 = .ok u s2) : fIf c fx fy env s = .ok u s2:=by
 unfold fIf bnd
 rw [h]
 exact h2
/-- a def that leaves the number of cells as it was -/
theorem fnL {d : D} (w : WF s1) (hl : s1.length = s.length) (h : g (us.map some ++ List.replicate (n - us.length) none) s = .ok env1 (.rt (.d d)) s1) : fnM n g wFrz us s = .ok (.d d) s1:=by
 rw [fnA h]
 unfold wFrz
 rw [frz_dd,← hl,w.cut]
theorem iterA {ds : List D} (h : fx env s = .ok (.d (.lst ds)) s1) : fIter fx env s = .ok (.lst (ds.map U.d)) s1:=by
 unfold fIter bnd
 rw [h]
 rfl
end
/-- a loop of which each turn ends well -/
theorem loopI {n : Nat} {g : G} (I : VEnv → Store → Prop) : ∀ (us : List U),(∀ u ∈ us,∀ (env : VEnv) (s : Store),I env s → ∃ env1 s1,g (env.set n (some u)) s = .ok env1 .nx s1 ∧ I env1 s1) → ∀ (env : VEnv) (s : Store),I env s → ∃ env1 s1,loopL (tgN n) g us env s = .ok env1 .nx s1 ∧ I env1 s1
 | [],_,env,s,i=>⟨env,s,rfl,i⟩
 | u :: us,h,env,s,i=>by
  obtain ⟨env1,s1,e1,i1⟩:=h u List.mem_cons_self env s i
  obtain ⟨env2,s2,e2,i2⟩:=loopI I us (fun v hv=>h v (List.mem_cons_of_mem _ hv)) env1 s1 i1
  exact ⟨env2,s2,loopN e1 e2,i2⟩
theorem sDlen (ss : List Str) : (sD ss).length = ss.length:=by unfold sD; rw [List.length_map]
theorem sUlen (ss : List Str) : (sU ss).length = ss.length:=by unfold sU sD; rw [List.length_map,List.length_map]
theorem sUapp (xs ys : List Str) : sU xs ++ sU ys = sU (xs ++ ys):=by unfold sU sD; rw [List.map_append,List.map_append]
theorem pure_sU (xs : List Str) : pureL (sU xs) = some (sD xs):=pureL_map _
theorem slTake (ss : List Str) (d : Nat) : oSl (.d (.lst (sD ss))) none (some (d : Int)) st = some (.d (.lst (sD (ss.take d)))):=by
 show (match pureL (cutG ((sD ss).map U.d) none (some (d : Int))) with
   | some ds=>some (U.d (.lst ds))
   | none=>none) = _
 have : cutG ((sD ss).map U.d) none (some (d : Int)) = sU (ss.take d):=by
  rw [cutG_map U.d (sD ss),cutTake]
  rfl
 rw [this,pure_sU]
theorem addC_g {u w : U} {xs ys : List Str} (hu : lstG st u = some (sU xs)) (hw : lstG st w = some (sU ys)) (hl : xs.length + ys.length ≤ 300) : vAddC u w st = .ok (.ref st.length) (st ++ [.lst (sU (xs ++ ys))]):=by
 have hz : (sU xs).length + (sU ys).length ≤ sizeLine:=by rw [sUlen,sUlen]; exact szb hl
 unfold vAddC
 simp only [hu,hw]
 rw [if_pos hz,sUapp]
theorem lg_at {n : Nat} {xs : List Str} (h : st[n]? = some (.lst (sU xs))) : lstG st (.ref n) = some (sU xs):=by
 unfold lstG
 simp only [h]
noncomputable def headsL : List Ln → List Str
 | []=>[]
 | .head n :: ls=>n :: headsL ls
 | .rem _ :: ls=>headsL ls
 | .kept _ _ _ _ :: ls=>headsL ls
 | .set _ _ :: ls=>headsL ls
noncomputable def isSec : U → Bool
 | .d (.tup [_,.str w,_])=>decide (w = ("section" : Str))
 | _=>false
theorem ne_se1 : ¬ (("remark" : Str) = ("section" : Str)):=by decide +kernel
theorem ne_se2 : ¬ (("kept" : Str) = ("section" : Str)):=by decide +kernel
theorem ne_se3 : ¬ (("place" : Str) = ("section" : Str)):=by decide +kernel
theorem secs_of : ∀ (ls : List Ln) (s : D) (k : Nat),(((partsL s k ls).map U.d).filter isSec).map thingP = sD (headsL ls)
 | [],_,_=>rfl
 | .rem x :: ls,s,k=>by
  show (((U.d (.tup [.int k,.str "remark",.str x]) :: (partsL s (k + 1) ls).map U.d)).filter isSec).map thingP = _
  rw [List.filter_cons_of_neg (by simp only [isSec,decide_eq_false ne_se1]; exact Bool.false_ne_true)]
  exact secs_of ls s (k + 1)
 | .kept x n p v :: ls,s,k=>by
  show (((U.d (.tup [.int k,.str "kept",.tup [.int n,.str p,v]]) :: (partsL s (k + 1) ls).map U.d)).filter isSec).map thingP = _
  rw [List.filter_cons_of_neg (by simp only [isSec,decide_eq_false ne_se2]; exact Bool.false_ne_true)]
  exact secs_of ls s (k + 1)
 | .head n :: ls,s,k=>by
  show (((U.d (.tup [.int k,.str "section",.str n]) :: (partsL (.str n) (k + 1) ls).map U.d)).filter isSec).map thingP = _
  rw [List.filter_cons_of_pos (by simp only [isSec,decide_true]),List.map_cons,secs_of ls (.str n) (k + 1)]
  rfl
 | .set x v :: ls,s,k=>by
  show (((U.d (.tup [.int k,.str "place",.tup [.str (pl s x),.str v]]) :: (partsL s (k + 1) ls).map U.d)).filter isSec).map thingP = _
  rw [List.filter_cons_of_neg (by simp only [isSec,decide_eq_false ne_se3]; exact Bool.false_ne_true)]
  exact secs_of ls s (k + 1)
noncomputable def pairD2 (p : Str × Str) : D:=.tup [.str p.1,.str p.2]
noncomputable def firstP : U → D
 | .d (.tup [_,_,.tup (x :: _)])=>x
 | _=>.non
theorem firsts_of : ∀ (ls : List Ln) (s : D) (k : Nat),(((partsL s k ls).map U.d).filter isSet).map firstP = sD ((setsL s ls).map fun p=>p.1)
 | [],_,_=>rfl
 | .rem x :: ls,s,k=>by
  show (((U.d (.tup [.int k,.str "remark",.str x]) :: (partsL s (k + 1) ls).map U.d)).filter isSet).map firstP = _
  rw [List.filter_cons_of_neg (by simp only [isSet,decide_eq_false ne_pl1]; exact Bool.false_ne_true)]
  exact firsts_of ls s (k + 1)
 | .kept x n p v :: ls,s,k=>by
  show (((U.d (.tup [.int k,.str "kept",.tup [.int n,.str p,v]]) :: (partsL s (k + 1) ls).map U.d)).filter isSet).map firstP = _
  rw [List.filter_cons_of_neg (by simp only [isSet,decide_eq_false ne_pl2]; exact Bool.false_ne_true)]
  exact firsts_of ls s (k + 1)
 | .head n :: ls,s,k=>by
  show (((U.d (.tup [.int k,.str "section",.str n]) :: (partsL (.str n) (k + 1) ls).map U.d)).filter isSet).map firstP = _
  rw [List.filter_cons_of_neg (by simp only [isSet,decide_eq_false ne_pl3]; exact Bool.false_ne_true)]
  exact firsts_of ls (.str n) (k + 1)
 | .set x v :: ls,s,k=>by
  show (((U.d (.tup [.int k,.str "place",.tup [.str (pl s x),.str v]]) :: (partsL s (k + 1) ls).map U.d)).filter isSet).map firstP = _
  rw [List.filter_cons_of_pos (by simp only [isSet,decide_true]),List.map_cons,firsts_of ls s (k + 1)]
  rfl
theorem lu_whole (w x y z : U) : List.lookup ("whole" : Str) [(("whole" : Str),w),(("all_parts" : Str),x),(("parts" : Str),y),(("settings_read" : Str),z)] = some w:=rfl
theorem lu_all (w x y z : U) : List.lookup ("all_parts" : Str) [(("whole" : Str),w),(("all_parts" : Str),x),(("parts" : Str),y),(("settings_read" : Str),z)] = some x:=rfl
theorem lu_read (w x y z : U) : List.lookup ("settings_read" : Str) [(("whole" : Str),w),(("all_parts" : Str),x),(("parts" : Str),y),(("settings_read" : Str),z)] = some z:=rfl
noncomputable abbrev FL (a : Ad) (s : Str) (ls : List Ln) (ds : List D) (dd : List (Key × D)) : D:=fileD a s (partsL .non 0 ls) ds dd
noncomputable def REMS : List Str:=["","# x","#","# [a]","#a = 1"]
noncomputable def HEADS : List Str:=["ui","net","zz"]
noncomputable def KEYS : List Str:=["x","port","a"]
noncomputable def WORTHS : List Str:=["0","on","a-1"]
noncomputable def dig (n : Nat) : Str:=Str.ofString (toString ((n : Nat) : Int))
noncomputable def ka (c : Nat) : Ln:=.kept (("#~ " : Str) ++ dig c ++ (" ui.x" : Str) ++ ("" : Str)) (c : Nat) "ui.x" .non
noncomputable def kb (c : Nat) : Ln:=.kept (("#~ " : Str) ++ dig c ++ (" ui.x" : Str) ++ (" = 1" : Str)) (c : Nat) "ui.x" (.str "1")
noncomputable def sz60 {n : Nat} (h : n ≤ 60) : n ≤ sizeLine:=Nat.le_trans h (by decide)
noncomputable def plainB (s : Str) : Bool:=!Txt.startswith s "#~" && !decide (s = ("" : Str)) && !Txt.startswith s "#"
noncomputable def secI (s : Str) : Bool:=decide (L2.cutS s none (some 1) = ("[" : Str)) && decide (L2.cutS s (some (-1)) none = ("]" : Str)) && isName (L2.cutS s (some 1) (some (-1)))
noncomputable def setI (s : Str) : Bool:=isName (Txt.partition s " = ").1 && isValue (Txt.partition s " = ").2.2
noncomputable def comB (s : Str) : Bool:=decide (s.length ≤ 60) && (!(s.cps.toList.contains 10) && PyData.strOk s)
noncomputable def remB (s : Str) : Bool:=comB s && (!Txt.startswith s "#~" && (decide (s = ("" : Str)) || Txt.startswith s "#"))
noncomputable def headB (h : Str) : Bool:=comB (Ln.text (.head h)) && (plainB (Ln.text (.head h)) && (secI (Ln.text (.head h)) && (decide (L2.cutS (Ln.text (.head h)) (some 1) (some (-1)) = h) && (PyData.strOk h && (decide (("[" : Str).length + h.length ≤ sizeLine) && decide ((("[" : Str) ++ h).length + ("]" : Str).length ≤ sizeLine))))))
noncomputable def setB (k v : Str) : Bool:=comB (Ln.text (.set k v)) && (plainB (Ln.text (.set k v)) && (!secI (Ln.text (.set k v)) && (setI (Ln.text (.set k v)) && (decide ((Txt.partition (Ln.text (.set k v)) " = ").1 = k) && (decide ((Txt.partition (Ln.text (.set k v)) " = ").2.2 = v) && (decide (k.length ≤ 60) &&
 (PyData.strOk v && (decide (k.length + (" = " : Str).length ≤ sizeLine) && decide ((k ++ (" = " : Str)).length + v.length ≤ sizeLine)))))))))
noncomputable def plcB (h k : Str) : Bool:=PyData.strOk (h ++ ("." : Str) ++ k) && (isPlace (h ++ ("." : Str) ++ k) && (!decide (h ++ ("." : Str) ++ k ∈ HEADS) && (decide (h.length ≤ 60) && (decide ((h ++ ("." : Str)).length ≤ 60) && (decide ((h ++ ("." : Str) ++ k).length ≤ 60) && (decide (h.length + ("." : Str).length ≤ sizeLine) && decide ((h ++ ("." : Str)).length + k.length ≤ sizeLine)))))))
noncomputable def kaB (c : Nat) : Bool:=comB (ka c).text && (Txt.startswith (ka c).text "#~" && (isNumber (dig c) && (decide (intText? (dig c) = some ((c : Nat) : Int)) && (decide ((dig c).length ≤ 640) && decide (Txt.split (ka c).text " " = [("#~" : Str),dig c,("ui.x" : Str)])))))
noncomputable def kbB (c : Nat) : Bool:=comB (kb c).text && (Txt.startswith (kb c).text "#~" && (isNumber (dig c) && (decide (intText? (dig c) = some ((c : Nat) : Int)) && (decide ((dig c).length ≤ 640) && decide (Txt.split (kb c).text " " = [("#~" : Str),dig c,("ui.x" : Str),("=" : Str),("1" : Str)])))))
theorem rem_t : ∀ s ∈ REMS,remB s = true:=by decide +kernel
theorem head_t : ∀ h ∈ HEADS,headB h = true:=by decide +kernel
theorem set_t : ∀ k ∈ KEYS,∀ v ∈ WORTHS,setB k v = true:=by decide +kernel
theorem plc_t : ∀ h ∈ HEADS,∀ k ∈ KEYS,plcB h k = true:=by decide +kernel
theorem ka_t : ∀ c : Fin 60,kaB c.val = true:=by decide +kernel
theorem kb_t : ∀ c : Fin 60,kbB c.val = true:=by decide +kernel
theorem plc_inj : ∀ h ∈ HEADS,∀ k ∈ KEYS,∀ h' ∈ HEADS,∀ k' ∈ KEYS,h ++ ("." : Str) ++ k = h' ++ ("." : Str) ++ k' → h = h' ∧ k = k':=by decide +kernel
theorem num_t : ∀ c : Fin 60,(("#~ " : Str).length + (dig c.val).length ≤ sizeLine ∧ (("#~ " : Str) ++ dig c.val).length + (" ui.x" : Str).length ≤ sizeLine ∧ (∀ s ∈ [("" : Str)," = 1"],(("#~ " : Str) ++ dig c.val ++ (" ui.x" : Str)).length + s.length ≤ sizeLine)) ∧ (((c.val : Nat) : Int)).natAbs.log2 < 1920:=by decide +kernel
structure LnG (l : Ln) : Prop where
 ok : l.Ok
 len : l.text.length ≤ 60
 nl : ¬ (10 ∈ TL.tl l.text)
 so : PyData.strOk l.text = true
theorem com_ok {s : Str} (h : comB s = true) : s.length ≤ 60 ∧ ¬ (10 ∈ TL.tl s) ∧ PyData.strOk s = true:=by
 unfold comB at h
 rw [Bool.and_eq_true,Bool.and_eq_true] at h
 refine ⟨of_decide_eq_true h.1,fun z=>?_,h.2.2⟩
 have:=h.2.1
 simp at this
 exact this (by simpa [TL.tl] using z)
theorem plain_ok {s : Str} (h : plainB s = true) : Plain s:=by
 unfold plainB at h
 simp only [Bool.and_eq_true,Bool.not_eq_true',decide_eq_false_iff_not] at h
 exact ⟨h.1.1,h.1.2,h.2⟩
theorem ln_rem {s : Str} (h : s ∈ REMS) : LnG (.rem s):=by
 have:=rem_t s h
 unfold remB at this
 simp only [Bool.and_eq_true,Bool.not_eq_true',Bool.or_eq_true,decide_eq_true_eq] at this
 obtain ⟨c1,c2,c3⟩:=com_ok this.1
 exact ⟨⟨sz60 c1,this.2⟩,c1,c2,c3⟩
theorem ln_head {h : Str} (hh : h ∈ HEADS) : LnG (.head h):=by
 have:=head_t h hh
 unfold headB at this
 simp only [Bool.and_eq_true,decide_eq_true_eq] at this
 obtain ⟨q1,q2,q3,q4,-⟩:=this
 obtain ⟨c1,c2,c3⟩:=com_ok q1
 refine ⟨⟨sz60 c1,plain_ok q2,?_⟩,c1,c2,c3⟩
 show (if secI (Ln.text (.head h)) = true then D.str (L2.cutS (Ln.text (.head h)) (some 1) (some (-1))) else D.non) = _
 rw [q3,q4]
 rfl
theorem ln_set {k v : Str} (hk : k ∈ KEYS) (hv : v ∈ WORTHS) : LnG (.set k v):=by
 have:=set_t k hk v hv
 unfold setB at this
 simp only [Bool.and_eq_true,Bool.not_eq_true',decide_eq_true_eq] at this
 obtain ⟨q1,q2,q3,q4,q5,q6,q7,-⟩:=this
 obtain ⟨c1,c2,c3⟩:=com_ok q1
 refine ⟨⟨sz60 c1,plain_ok q2,?_,?_,sz60 q7⟩,c1,c2,c3⟩
 ·show (if secI (Ln.text (.set k v)) = true then _ else D.non) = _
  rw [q3]
  rfl
 ·show (if setI (Ln.text (.set k v)) = true then D.tup [.str (Txt.partition (Ln.text (.set k v)) " = ").1,.str (Txt.partition (Ln.text (.set k v)) " = ").2.2] else D.non) = _
  rw [q4,q5,q6]
  rfl
theorem ln_ka {c : Nat} (hc : c < 60) : LnG (ka c):=by
 have:=ka_t ⟨c,hc⟩
 unfold kaB at this
 simp only [Bool.and_eq_true,decide_eq_true_eq] at this
 obtain ⟨q1,q2,q3,q4,q5,q6⟩:=this
 obtain ⟨c1,c2,c3⟩:=com_ok q1
 exact ⟨⟨sz60 c1,q2,⟨Nat.le_trans (Nat.add_le_add_right c1 2) (by decide),.inl ⟨_,q6,q3,q4,q5,rfl⟩,by decide +kernel,by decide⟩⟩,c1,c2,c3⟩
theorem ln_kb {c : Nat} (hc : c < 60) : LnG (kb c):=by
 have:=kb_t ⟨c,hc⟩
 unfold kbB at this
 simp only [Bool.and_eq_true,decide_eq_true_eq] at this
 obtain ⟨q1,q2,q3,q4,q5,q6⟩:=this
 obtain ⟨c1,c2,c3⟩:=com_ok q1
 exact ⟨⟨sz60 c1,q2,⟨Nat.le_trans (Nat.add_le_add_right c1 2) (by decide),.inr ⟨_,_,q6,q3,q4,q5,by decide +kernel,by decide,rfl⟩,by decide +kernel,by decide⟩⟩,c1,c2,c3⟩
/-- a good list of settings -/
noncomputable def PrOk (ss : List (Str × Str)) : Prop:=∀ p ∈ ss,PyData.strOk p.1 = true ∧ PyData.strOk p.2 = true
structure SetsOk (ss : List (Str × Str)) : Prop where
 nd : (ss.map fun p=>p.1).Nodup
 so : PrOk ss
 pl : ∀ p ∈ ss,isPlace p.1 = true
 ln : ∀ p ∈ ss,p.1.length ≤ sizeLine
/-- a line as drawn -/
inductive Lg : Ln → Prop
 | rem {x : Str} : x ∈ REMS → Lg (.rem x)
 | head {h : Str} : h ∈ HEADS → Lg (.head h)
 | set {k v : Str} : k ∈ KEYS → v ∈ WORTHS → Lg (.set k v)
 | kp {l : Ln} {c : Nat} : c < 60 → l = ka c ∨ l = kb c → Lg l
theorem Lg.lnG {l : Ln} (h : Lg l) : LnG l:=by
 cases h with
 | rem h=>exact ln_rem h
 | head h=>exact ln_head h
 | set h h'=>exact ln_set h h'
 | kp h h'=>exact h'.elim (fun e=>e ▸ ln_ka h) fun e=>e ▸ ln_kb h
noncomputable def metL : D → List Ln → List D
 | _,[]=>[]
 | s,l :: ls=>l.met s ++ metL (l.sec s) ls
theorem Vd_snoc : ∀ (ls : List Ln) (s : D) (m : List D) (l : Ln),Vd s m ls → l.Ok → l.In (secL s ls) → (∀ x ∈ l.met (secL s ls),NewIn (m ++ metL s ls) x) → Vd s m (ls ++ [l])
 | [],s,m,l,_,h1,h2,h3=>⟨h1,h2,by rw [show metL s [] = [] from rfl,List.append_nil] at h3; exact h3,trivial⟩
 | k :: ls,s,m,l,⟨v1,v2,v3,v4⟩,h1,h2,h3=>⟨v1,v2,v3,Vd_snoc ls _ _ l v4 h1 h2 (by rw [List.append_assoc]; exact h3)⟩
theorem secL_snoc : ∀ (ls : List Ln) (s : D) (l : Ln),secL s (ls ++ [l]) = l.sec (secL s ls)
 | [],_,_=>rfl
 | _ :: ls,_,l=>secL_snoc ls _ l
theorem metL_snoc : ∀ (ls : List Ln) (s : D) (l : Ln),metL s (ls ++ [l]) = metL s ls ++ l.met (secL s ls)
 | [],s,l=>by show l.met s ++ [] = [] ++ l.met s; rw [List.append_nil]; rfl
 | k :: ls,s,l=>by show k.met s ++ metL _ (ls ++ [l]) = (k.met s ++ metL _ ls) ++ _; rw [metL_snoc ls,List.append_assoc]; rfl
theorem headsL_app : ∀ (xs ys : List Ln),headsL (xs ++ ys) = headsL xs ++ headsL ys
 | [],_=>rfl
 | .rem _ :: xs,ys=>headsL_app xs ys
 | .kept _ _ _ _ :: xs,ys=>headsL_app xs ys
 | .set _ _ :: xs,ys=>headsL_app xs ys
 | .head n :: xs,ys=>by show n :: headsL (xs ++ ys) = n :: headsL xs ++ headsL ys; rw [headsL_app xs ys]; rfl
theorem setsL_app : ∀ (xs : List Ln) (s : D) (ys : List Ln),setsL s (xs ++ ys) = setsL s xs ++ setsL (secL s xs) ys
 | [],_,_=>rfl
 | .rem _ :: xs,s,ys=>setsL_app xs s ys
 | .kept _ _ _ _ :: xs,s,ys=>setsL_app xs s ys
 | .head n :: xs,_,ys=>setsL_app xs (.str n) ys
 | .set k v :: xs,s,ys=>by show (pl s k,v) :: setsL s (xs ++ ys) = (pl s k,v) :: setsL s xs ++ setsL (secL s xs) ys; rw [setsL_app xs s ys]; rfl
noncomputable def secOf : Option Str → D
 | none=>.non
 | some n=>.str n
structure Gn (ls : List Ln) (hd : Option Str) (es : List En) (H : List Str) (P : List (Str × Str)) (ss : List (Str × Str)) (c : Nat) : Prop where
 vd : Vd .non [] ls
 sec : secL .non ls = secOf hd
 met : metL .non ls = es.map En.D
 ok : ∀ e ∈ es,e.ok
 hs : headsL ls = H
 se : setsL .non ls = ss
 tx : ∀ l ∈ ls,Lg l
 esH : ∀ n,En.sec n ∈ es → n ∈ H
 esP : ∀ x,En.plc x ∈ es → ∃ p ∈ P,x = p.1 ++ ("." : Str) ++ p.2
 esK : ∀ m q,En.kp m q ∈ es → ∃ i : Nat,i < c ∧ m = (i : Nat)
 hH : ∀ n ∈ H,n ∈ HEADS
 pP : ∀ p ∈ P,p.1 ∈ HEADS ∧ p.2 ∈ KEYS
 ssP : ∀ p ∈ ss,∃ q ∈ P,p.1 = q.1 ++ ("." : Str) ++ q.2
 nd : (ss.map fun p=>p.1).Nodup
 so : ∀ p ∈ ss,PyData.strOk p.2 = true
 hnd : H.Nodup
theorem Gn.nil : Gn [] none [] [] [] [] 0:=⟨trivial,rfl,rfl,(fun _ h=>nomatch h),rfl,rfl,(fun _ h=>nomatch h),(fun _ h=>nomatch h),(fun _ h=>nomatch h),(fun _ _ h=>nomatch h),(fun _ h=>nomatch h),(fun _ h=>nomatch h),(fun _ h=>nomatch h),List.nodup_nil,(fun _ h=>nomatch h),List.nodup_nil⟩
theorem plc_ok {h k : Str} (hh : h ∈ HEADS) (hk : k ∈ KEYS) : PyData.strOk (h ++ ("." : Str) ++ k) = true ∧ isPlace (h ++ ("." : Str) ++ k) = true ∧ h ++ ("." : Str) ++ k ∉ HEADS ∧ h.length ≤ sizeLine ∧ (h ++ ("." : Str)).length ≤ sizeLine ∧ (h ++ ("." : Str) ++ k).length ≤ sizeLine ∧ h.length + ("." : Str).length ≤ sizeLine ∧ (h ++ ("." : Str)).length + k.length ≤ sizeLine:=by
 have:=plc_t h hh k hk
 unfold plcB at this
 simp only [Bool.and_eq_true,Bool.not_eq_true',decide_eq_true_eq,decide_eq_false_iff_not] at this
 obtain ⟨q1,q2,q3,q4,q5,q6,q7,q8⟩:=this
 exact ⟨q1,q2,q3,sz60 q4,sz60 q5,sz60 q6,q7,q8⟩
section
variable {ls : List Ln} {hd : Option Str} {es : List En} {H : List Str} {P ss : List (Str × Str)} {c : Nat}
theorem Gn.mono (g : Gn ls hd es H P ss c) {c' : Nat} (hc : c ≤ c') : Gn ls hd es H P ss c' :=
 { g with esK:=fun m q h=>by obtain ⟨i,h1,h2⟩:=g.esK m q h; exact ⟨i,by omega,h2⟩ }
theorem tx_snoc {l : Ln} (h : ∀ l ∈ ls,Lg l) (hl : Lg l) : ∀ k ∈ ls ++ [l],Lg k:=fun k hk=>by
 rcases List.mem_append.mp hk with q | q
 ·exact h k q
 ·rw [List.mem_singleton] at q; subst q; exact hl
theorem Gn.rem (g : Gn ls hd es H P ss c) {x : Str} (hx : x ∈ REMS) : Gn (ls ++ [.rem x]) hd es H P ss c :=
 {
  g with
  vd:=Vd_snoc ls _ _ _ g.vd (ln_rem hx).ok trivial (fun _ h=>nomatch h)
  sec:=by rw [secL_snoc]; exact g.sec
  met:=by rw [metL_snoc]; show metL _ ls ++ [] = _; rw [List.append_nil]; exact g.met
  hs:=by rw [headsL_app]; show headsL ls ++ [] = _; rw [List.append_nil]; exact g.hs
  se:=by rw [setsL_app]; show setsL _ ls ++ [] = _; rw [List.append_nil]; exact g.se
  tx:=tx_snoc g.tx (.rem hx) }
theorem mem1 {α : Type} {xs : List α} {x y : α} (h : y ∈ xs ++ [x]) : y ∈ xs ∨ y = x:=by
 rcases List.mem_append.mp h with q | q
 ·exact .inl q
 ·exact .inr (List.mem_singleton.mp q)
theorem Gn.kept (g : Gn ls hd es H P ss c) {s p : Str} {n : Int} {v : D} (hlg : Lg (.kept s n p v)) (hp : PyData.strOk p = true) {c' : Nat} (hc : c ≤ c') (hn : En.kp n p ∉ es) (hk : ∃ i : Nat,i < c' ∧ n = (i : Nat)) : Gn (ls ++ [.kept s n p v]) hd (es ++ [.kp n p]) H P ss c' :=
 {
  g with
  vd:=Vd_snoc ls _ _ _ g.vd hlg.lnG.ok trivial fun x hx=>by
   have hx' : x = (En.kp n p).D:=List.mem_singleton.mp hx
   subst hx'
   rw [List.nil_append,g.met]
   exact En.new g.ok hp hn
  sec:=by rw [secL_snoc]; exact g.sec
  met:=by rw [metL_snoc,g.met,List.map_append]; rfl
  ok:=fun e he=>by
   rcases mem1 he with q | rfl
   ·exact g.ok e q
   ·exact hp
  hs:=by rw [headsL_app]; show headsL ls ++ [] = _; rw [List.append_nil]; exact g.hs
  se:=by rw [setsL_app]; show setsL _ ls ++ [] = _; rw [List.append_nil]; exact g.se
  tx:=tx_snoc g.tx hlg
  esH:=fun x hx=>by
   rcases mem1 hx with q | q
   ·exact g.esH x q
   ·cases q
  esP:=fun x hx=>by
   rcases mem1 hx with q | q
   ·exact g.esP x q
   ·cases q
  esK:=fun m q hx=>by
   rcases mem1 hx with z | z
   ·obtain ⟨i,h1,h2⟩:=g.esK m q z
    exact ⟨i,by omega,h2⟩
   ·cases z; exact hk }
theorem Gn.head (g : Gn ls hd es H P ss c) {h : Str} (hh : h ∈ HEADS) (hn : h ∉ H) : Gn (ls ++ [.head h]) (some h) (es ++ [.sec h]) (H ++ [h]) P ss c :=
 {
  g with
  vd:=Vd_snoc ls _ _ _ g.vd (ln_head hh).ok trivial fun x hx=>by
   have hx' : x = (En.sec h).D:=List.mem_singleton.mp hx
   subst hx'
   rw [List.nil_append,g.met]
   exact En.new g.ok (by have:=head_t h hh; unfold headB at this; simp only [Bool.and_eq_true] at this; exact this.2.2.2.2.1) fun z=>hn (g.esH h z)
  sec:=by rw [secL_snoc]; rfl
  met:=by rw [metL_snoc,g.met,List.map_append]; rfl
  ok:=fun e he=>by
   rcases mem1 he with q | rfl
   ·exact g.ok e q
   ·have:=head_t h hh
    unfold headB at this
    simp only [Bool.and_eq_true] at this
    exact this.2.2.2.2.1
  hs:=by rw [headsL_app,g.hs]; rfl
  se:=by rw [setsL_app]; show setsL _ ls ++ [] = _; rw [List.append_nil]; exact g.se
  tx:=tx_snoc g.tx (.head hh)
  esH:=fun x hx=>by
   rcases mem1 hx with q | q
   ·exact List.mem_append_left _ (g.esH x q)
   ·cases q; exact List.mem_append_right _ (List.mem_singleton.mpr rfl)
  esP:=fun x hx=>by
   rcases mem1 hx with q | q
   ·exact g.esP x q
   ·cases q
  esK:=fun m q hx=>by
   rcases mem1 hx with z | z
   ·exact g.esK m q z
   ·cases z
  hH:=fun n hn'=>by
   rcases mem1 hn' with q | rfl
   ·exact g.hH n q
   ·exact hh
  hnd:=by
   rw [List.nodup_append]
   refine ⟨g.hnd,by simp,fun x hx y hy e=>?_⟩
   have hy' : y = h:=List.mem_singleton.mp hy
   exact hn (by rw [← hy',← e]; exact hx) }
theorem Gn.set {h : Str} (g : Gn ls (some h) es H P ss c) (hh : h ∈ HEADS) {k v : Str} (hk : k ∈ KEYS) (hv : v ∈ WORTHS) (hn : (h,k) ∉ P) : Gn (ls ++ [.set k v]) (some h) (es ++ [.plc (h ++ ("." : Str) ++ k)]) H (P ++ [(h,k)]) (ss ++ [(h ++ ("." : Str) ++ k,v)]) c:=by
 obtain ⟨q1,q2,q3,q4,q5,q6,q7,q8⟩:=plc_ok hh hk
 have hs:=g.sec
 have new : ∀ p ∈ P,h ++ ("." : Str) ++ k ≠ p.1 ++ ("." : Str) ++ p.2:=fun p hp e=>by
  obtain ⟨r1,r2⟩:=g.pP p hp
  obtain ⟨e1,e2⟩:=plc_inj h hh k hk p.1 r1 p.2 r2 e
  exact hn (by rw [e1,e2]; exact hp)
 exact { g with
  vd:=Vd_snoc ls _ _ _ g.vd (ln_set hk hv).ok (by rw [hs]; exact ⟨h,rfl,q4,q5,q6⟩) fun x hx=>by
   rw [hs] at hx
   have hx' : x = (En.plc (h ++ ("." : Str) ++ k)).D:=List.mem_singleton.mp hx
   subst hx'
   rw [List.nil_append,g.met]
   exact En.new g.ok q1 fun z=>by
    obtain ⟨p,hp,e⟩:=g.esP _ z
    exact new p hp e
  sec:=by rw [secL_snoc]; exact hs
  met:=by rw [metL_snoc,g.met,hs,List.map_append]; rfl
  ok:=fun e he=>by
   rcases mem1 he with q | rfl
   ·exact g.ok e q
   ·exact q1
  hs:=by rw [headsL_app]; show headsL ls ++ [] = _; rw [List.append_nil]; exact g.hs
  se:=by rw [setsL_app,g.se,hs]; rfl
  tx:=tx_snoc g.tx (.set hk hv)
  esH:=fun x hx=>by
   rcases mem1 hx with q | q
   ·exact g.esH x q
   ·cases q
  esP:=fun x hx=>by
   rcases mem1 hx with q | q
   ·obtain ⟨p,hp,e⟩:=g.esP x q
    exact ⟨p,List.mem_append_left _ hp,e⟩
   ·cases q; exact ⟨(h,k),List.mem_append_right _ (List.mem_singleton.mpr rfl),rfl⟩
  esK:=fun m q hx=>by
   rcases mem1 hx with z | z
   ·exact g.esK m q z
   ·cases z
  pP:=fun p hp=>by
   rcases mem1 hp with q | rfl
   ·exact g.pP p q
   ·exact ⟨hh,hk⟩
  ssP:=fun p hp=>by
   rcases mem1 hp with q | rfl
   ·obtain ⟨r,hr,e⟩:=g.ssP p q
    exact ⟨r,List.mem_append_left _ hr,e⟩
   ·exact ⟨(h,k),List.mem_append_right _ (List.mem_singleton.mpr rfl),rfl⟩
  nd:=by
   rw [List.map_append,List.nodup_append]
   refine ⟨g.nd,by simp,fun x hx y hy=>?_⟩
   have hy' : y = h ++ ("." : Str) ++ k:=List.mem_singleton.mp hy
   obtain ⟨p,hp,rfl⟩:=List.mem_map.mp hx
   obtain ⟨r,hr,e⟩:=g.ssP p hp
   rw [hy',e]
   exact (new r hr).symm
  so:=fun p hp=>by
   rcases mem1 hp with q | rfl
   ·exact g.so p q
   ·have:=set_t k hk v hv
    unfold setB at this
    simp only [Bool.and_eq_true] at this
    exact this.2.2.2.2.2.2.2.1 }
theorem Gn.sets (g : Gn ls hd es H P ss c) : SetsOk ss:=by
 have pl : ∀ p ∈ ss,∃ h k,h ∈ HEADS ∧ k ∈ KEYS ∧ p.1 = h ++ ("." : Str) ++ k:=fun p hp=>by
  obtain ⟨q,hq,e⟩:=g.ssP p hp
  obtain ⟨r1,r2⟩:=g.pP q hq
  exact ⟨q.1,q.2,r1,r2,e⟩
 refine ⟨g.nd,fun p hp=>?_,fun p hp=>?_,fun p hp=>?_⟩
 ·obtain ⟨h,k,hh,hk,e⟩:=pl p hp
  exact ⟨by rw [e]; exact (plc_ok hh hk).1,g.so p hp⟩
 ·obtain ⟨h,k,hh,hk,e⟩:=pl p hp
  rw [e]; exact (plc_ok hh hk).2.1
 ·obtain ⟨h,k,hh,hk,e⟩:=pl p hp
  rw [e]; exact (plc_ok hh hk).2.2.2.2.2.1
end
structure Ky where
 b : List Ln
 k : Str
 v : Str
structure Sc where
 b : List Ln
 h : Str
 ks : List Ky
noncomputable def flK (y : Ky) : List Ln:=y.b ++ [.set y.k y.v]
noncomputable def flS (s : Sc) : List Ln:=s.b ++ .head s.h :: s.ks.flatMap flK
noncomputable def isB : Ln → Prop
 | .rem _=>True
 | .kept _ _ _ _=>True
 | .head _=>False
 | .set _ _=>False
noncomputable def remT : List Ln → List Str
 | []=>[]
 | .rem x :: ls=>x :: remT ls
 | .kept _ _ _ _ :: ls=>remT ls
 | .head _ :: ls=>remT ls
 | .set _ _ :: ls=>remT ls
structure Flat (ls : List Ln) (SS : List Sc) (t : List Ln) : Prop where
 eq : ls = SS.flatMap flS ++ t
 bt : ∀ l ∈ t,isB l
 bs : ∀ s ∈ SS,(∀ l ∈ s.b,isB l) ∧ ∀ y ∈ s.ks,∀ l ∈ y.b,isB l
theorem Flat.nil : Flat [] [] []:=⟨rfl,(fun _ h=>nomatch h),fun _ h=>nomatch h⟩
theorem Flat.addB {ls t : List Ln} {SS : List Sc} (f : Flat ls SS t) {l : Ln} (h : isB l) : Flat (ls ++ [l]) SS (t ++ [l]) :=
 ⟨by rw [f.eq,List.append_assoc],fun k hk=>by
  rcases mem1 hk with q | rfl
  ·exact f.bt k q
  ·exact h,f.bs⟩
theorem Flat.addH {ls t : List Ln} {SS : List Sc} (f : Flat ls SS t) (h : Str) : Flat (ls ++ [.head h]) (SS ++ [⟨t,h,[]⟩]) [] :=
 ⟨by rw [f.eq,List.flatMap_append,List.append_nil,List.append_assoc]; simp [flS],(fun _ h=>nomatch h),fun s hs=>by
  rcases mem1 hs with q | rfl
  ·exact f.bs s q
  ·exact ⟨f.bt,fun _ h=>nomatch h⟩⟩
theorem Flat.addS {ls t : List Ln} {SS : List Sc} (f : Flat ls SS t) (hn : SS ≠ []) (k v : Str) : ∃ SS',Flat (ls ++ [.set k v]) SS' [] ∧ SS' ≠ []:=by
 obtain ⟨S0,s0,rfl⟩ : ∃ S0 s0,SS = S0 ++ [s0]:=⟨SS.dropLast,SS.getLast hn,(List.dropLast_concat_getLast hn).symm⟩
 refine ⟨S0 ++ [⟨s0.b,s0.h,s0.ks ++ [⟨t,k,v⟩]⟩],⟨?_,(fun _ h=>nomatch h),fun s hs=>?_⟩,by simp⟩
 ·rw [f.eq,List.flatMap_append,List.flatMap_append,List.append_nil]
  simp [flS,flK]
 ·rcases mem1 hs with q | rfl
  ·exact f.bs s (List.mem_append_left _ q)
  ·have h0:=f.bs s0 (List.mem_append_right _ (List.mem_singleton.mpr rfl))
   refine ⟨h0.1,fun y hy=>?_⟩
   rcases mem1 hy with q | rfl
   ·exact h0.2 y q
   ·exact f.bt
theorem parse : ∀ (ls ls0 : List Ln) (s : D) (m : List D) (SS : List Sc) (t : List Ln),Flat ls0 SS t → (∀ x,s = .str x → SS ≠ []) → Vd s m ls → ∃ SS' t',Flat (ls0 ++ ls) SS' t'
 | [],ls0,s,m,SS,t,f,_,_=>⟨SS,t,by rw [List.append_nil]; exact f⟩
 | l :: ls,ls0,s,m,SS,t,f,hs,⟨v1,v2,v3,v4⟩=>by
  have main : ∃ SS1 t1,Flat (ls0 ++ [l]) SS1 t1 ∧ ∀ x,l.sec s = .str x → SS1 ≠ []:=by
   cases l with
   | rem x=>exact ⟨SS,_,f.addB trivial,hs⟩
   | kept x n p v=>exact ⟨SS,_,f.addB trivial,hs⟩
   | head h=>exact ⟨_,_,f.addH h,fun _ _=>by simp⟩
   | set k v =>
    obtain ⟨x,hx,-⟩:=v2
    obtain ⟨SS',f',hn⟩:=f.addS (hs x hx) k v
    exact ⟨SS',_,f',fun _ _=>hn⟩
  obtain ⟨SS1,t1,f1,h1⟩:=main
  obtain ⟨SS',t',f'⟩:=parse ls _ _ _ SS1 t1 f1 h1 v4
  exact ⟨SS',t',by rw [List.append_assoc] at f'; exact f'⟩
noncomputable def nms : D → List Ln → List Str
 | _,[]=>[]
 | s,.rem _ :: ls=>nms s ls
 | s,.kept _ _ _ _ :: ls=>nms s ls
 | _,.head n :: ls=>n :: nms (.str n) ls
 | s,.set k _ :: ls=>pl s k :: nms s ls
theorem nms_app : ∀ (P : List Ln) (s : D) (Q : List Ln),nms s (P ++ Q) = nms s P ++ nms (secL s P) Q
 | [],_,_=>rfl
 | .rem _ :: P,s,Q=>nms_app P s Q
 | .kept _ _ _ _ :: P,s,Q=>nms_app P s Q
 | .head n :: P,_,Q=>congrArg (n :: ·) (nms_app P (.str n) Q)
 | .set k _ :: P,s,Q=>congrArg (pl s k :: ·) (nms_app P s Q)
theorem nms_perm : ∀ (ls : List Ln) (s : D),(nms s ls).Perm (headsL ls ++ (setsL s ls).map fun p=>p.1)
 | [],_=>.refl _
 | .rem _ :: ls,s=>nms_perm ls s
 | .kept _ _ _ _ :: ls,s=>nms_perm ls s
 | .head n :: ls,_=>(nms_perm ls (.str n)).cons n
 | .set k _ :: ls,s=>((nms_perm ls s).cons (pl s k)).trans List.perm_middle.symm
noncomputable def blockL (nm : Str) : D → List D → List Ln → Option (List D)
 | _,_,[]=>none
 | s,row,.rem x :: ls=>blockL nm s (row ++ [.str x]) ls
 | s,row,.kept _ _ _ _ :: ls=>blockL nm s row ls
 | s,row,.head n :: ls=>if nm = n then some row else blockL nm (.str n) [] ls
 | s,row,.set k _ :: ls=>if nm = pl s k then some row else blockL nm s [] ls
noncomputable def tailL : List D → List Ln → List D
 | row,[]=>row
 | row,.rem x :: ls=>tailL (row ++ [.str x]) ls
 | row,.kept _ _ _ _ :: ls=>tailL row ls
 | _,.head _ :: ls=>tailL [] ls
 | _,.set _ _ :: ls=>tailL [] ls
theorem blk_skip {nm : Str} : ∀ (P : List Ln) (s : D) (row : List D) (Q : List Ln),nm ∉ nms s P → blockL nm s row (P ++ Q) = blockL nm (secL s P) (tailL row P) Q
 | [],_,_,_,_=>rfl
 | .rem _ :: P,s,row,Q,h=>blk_skip P s _ Q h
 | .kept _ _ _ _ :: P,s,row,Q,h=>blk_skip P s _ Q h
 | .head n :: P,s,row,Q,h=>by
  have h' : ¬ nm = n ∧ nm ∉ nms (.str n) P:=⟨fun e=>h (by rw [e]; exact List.mem_cons_self ..),fun z=>h (List.mem_cons_of_mem _ z)⟩
  show (if nm = n then some row else blockL nm (.str n) [] (P ++ Q)) = _
  rw [if_neg h'.1]
  exact blk_skip P (.str n) [] Q h'.2
 | .set k _ :: P,s,row,Q,h=>by
  have h' : ¬ nm = pl s k ∧ nm ∉ nms s P:=⟨fun e=>h (by rw [e]; exact List.mem_cons_self ..),fun z=>h (List.mem_cons_of_mem _ z)⟩
  show (if nm = pl s k then some row else blockL nm s [] (P ++ Q)) = _
  rw [if_neg h'.1]
  exact blk_skip P s [] Q h'.2
theorem tail_app : ∀ (P : List Ln) (row : List D) (Q : List Ln),tailL row (P ++ Q) = tailL (tailL row P) Q
 | [],_,_=>rfl
 | .rem _ :: P,row,Q=>tail_app P _ Q
 | .kept _ _ _ _ :: P,row,Q=>tail_app P _ Q
 | .head _ :: P,row,Q=>tail_app P _ Q
 | .set _ _ :: P,row,Q=>tail_app P _ Q
section
variable {b : List Ln}
theorem b_nms : ∀ (b : List Ln) (s : D),(∀ l ∈ b,isB l) → nms s b = []
 | [],_,_=>rfl
 | .rem _ :: b,s,h=>b_nms b s fun l hl=>h l (List.mem_cons_of_mem _ hl)
 | .kept _ _ _ _ :: b,s,h=>b_nms b s fun l hl=>h l (List.mem_cons_of_mem _ hl)
 | .head _ :: b,s,h=>(h _ (List.mem_cons_self ..)).elim
 | .set _ _ :: b,s,h=>(h _ (List.mem_cons_self ..)).elim
theorem b_sec : ∀ (b : List Ln) (s : D),(∀ l ∈ b,isB l) → secL s b = s
 | [],_,_=>rfl
 | .rem _ :: b,s,h=>b_sec b s fun l hl=>h l (List.mem_cons_of_mem _ hl)
 | .kept _ _ _ _ :: b,s,h=>b_sec b s fun l hl=>h l (List.mem_cons_of_mem _ hl)
 | .head _ :: b,s,h=>(h _ (List.mem_cons_self ..)).elim
 | .set _ _ :: b,s,h=>(h _ (List.mem_cons_self ..)).elim
theorem b_heads : ∀ (b : List Ln),(∀ l ∈ b,isB l) → headsL b = []
 | [],_=>rfl
 | .rem _ :: b,h=>b_heads b fun l hl=>h l (List.mem_cons_of_mem _ hl)
 | .kept _ _ _ _ :: b,h=>b_heads b fun l hl=>h l (List.mem_cons_of_mem _ hl)
 | .head _ :: b,h=>(h _ (List.mem_cons_self ..)).elim
 | .set _ _ :: b,h=>(h _ (List.mem_cons_self ..)).elim
theorem b_sets : ∀ (b : List Ln) (s : D),(∀ l ∈ b,isB l) → setsL s b = []
 | [],_,_=>rfl
 | .rem _ :: b,s,h=>b_sets b s fun l hl=>h l (List.mem_cons_of_mem _ hl)
 | .kept _ _ _ _ :: b,s,h=>b_sets b s fun l hl=>h l (List.mem_cons_of_mem _ hl)
 | .head _ :: b,s,h=>(h _ (List.mem_cons_self ..)).elim
 | .set _ _ :: b,s,h=>(h _ (List.mem_cons_self ..)).elim
theorem b_tail : ∀ (b : List Ln) (row : List D),(∀ l ∈ b,isB l) → tailL row b = row ++ sD (remT b)
 | [],row,_=>(List.append_nil _).symm
 | .rem x :: b,row,h=>by
  show tailL (row ++ [.str x]) b = row ++ (.str x :: sD (remT b))
  rw [b_tail b _ fun l hl=>h l (List.mem_cons_of_mem _ hl),List.append_assoc]
  rfl
 | .kept _ _ _ _ :: b,row,h=>b_tail b row fun l hl=>h l (List.mem_cons_of_mem _ hl)
 | .head _ :: b,row,h=>(h _ (List.mem_cons_self ..)).elim
 | .set _ _ :: b,row,h=>(h _ (List.mem_cons_self ..)).elim
end
theorem blk_at {P b Q : List Ln} {l : Ln} {nm : Str} (hn : (nms .non (P ++ (b ++ l :: Q))).Nodup) (hb : ∀ k ∈ b,isB k) (ht : tailL [] P = []) (hl : l = .head nm ∨ ∃ k v,l = .set k v ∧ pl (secL .non P) k = nm) : blockL nm .non [] (P ++ (b ++ l :: Q)) = some (sD (remT b)):=by
 have hx : nm ∉ nms .non P:=fun z=>by
  rw [nms_app,nms_app,b_nms b _ hb,List.nil_append,b_sec b _ hb] at hn
  have hm : nm ∈ nms (secL .non P) (l :: Q):=by
   rcases hl with rfl | ⟨k,v,rfl,rfl⟩ <;> exact List.mem_cons_self ..
  exact (List.nodup_append.mp hn).2.2 nm z nm hm rfl
 rw [blk_skip P _ _ _ hx,blk_skip b _ _ _ (by rw [b_nms b _ hb]; exact List.not_mem_nil),b_sec b _ hb,ht,b_tail b _ hb,List.nil_append]
 rcases hl with rfl | ⟨k,v,rfl,rfl⟩
 ·exact if_pos rfl
 ·exact if_pos rfl
theorem ks_tail : ∀ (ks : List Ky),tailL [] (ks.flatMap flK) = []
 | []=>rfl
 | y :: ks=>by
  rw [List.flatMap_cons,tail_app]
  have : tailL [] (flK y) = []:=by
   unfold flK
   rw [tail_app]
   rfl
  rw [this]
  exact ks_tail ks
theorem sc_tail (s : Sc) (row : List D) : tailL row (flS s) = []:=by
 unfold flS
 rw [tail_app]
 exact ks_tail s.ks
theorem fl_tail : ∀ (SS : List Sc),tailL [] (SS.flatMap flS) = []
 | []=>rfl
 | s :: SS=>by
  rw [List.flatMap_cons,tail_app,sc_tail]
  exact fl_tail SS
theorem ks_sec : ∀ (ks : List Ky) (s : D),(∀ y ∈ ks,∀ l ∈ y.b,isB l) → secL s (ks.flatMap flK) = s ∧ headsL (ks.flatMap flK) = [] ∧ setsL s (ks.flatMap flK) = ks.map fun y=>(pl s y.k,y.v)
 | [],_,_=>⟨rfl,rfl,rfl⟩
 | y :: ks,s,h=>by
  obtain ⟨i1,i2,i3⟩:=ks_sec ks s fun z hz=>h z (List.mem_cons_of_mem _ hz)
  have hb:=h y (List.mem_cons_self ..)
  have e1 : secL s (flK y) = s:=by unfold flK; rw [secL_snoc,b_sec _ _ hb]; rfl
  have sa : ∀ (xs ys : List Ln) (s : D),secL s (xs ++ ys) = secL (secL s xs) ys:=fun xs=>by
   induction xs with
   | nil=>intro ys s; rfl
   | cons x xs ih=>intro ys s; exact ih ys _
  refine ⟨?_,?_,?_⟩
  ·rw [List.flatMap_cons,sa,e1]; exact i1
  ·rw [List.flatMap_cons,headsL_app,i2]; unfold flK; rw [headsL_app,b_heads _ hb]; rfl
  ·rw [List.flatMap_cons,setsL_app,e1,i3]; unfold flK; rw [setsL_app,b_sets _ _ hb,b_sec _ _ hb]; rfl
theorem secL_app : ∀ (xs ys : List Ln) (s : D),secL s (xs ++ ys) = secL (secL s xs) ys
 | [],_,_=>rfl
 | _ :: xs,ys,_=>secL_app xs ys _
noncomputable def scS (s : Sc) : List (Str × Str):=s.ks.map fun y=>(s.h ++ ("." : Str) ++ y.k,y.v)
theorem fl_names : ∀ (SS : List Sc) (s : D),(∀ s ∈ SS,(∀ l ∈ s.b,isB l) ∧ ∀ y ∈ s.ks,∀ l ∈ y.b,isB l) → headsL (SS.flatMap flS) = SS.map (fun s=>s.h) ∧ setsL s (SS.flatMap flS) = SS.flatMap scS
 | [],_,_=>⟨rfl,rfl⟩
 | c :: SS,s,h=>by
  obtain ⟨hb,hk⟩:=h c (List.mem_cons_self ..)
  obtain ⟨k1,k2,k3⟩:=ks_sec c.ks (.str c.h) hk
  have e1 : secL s (flS c) = .str c.h:=by unfold flS; rw [secL_app]; exact k1
  obtain ⟨i1,i2⟩:=fl_names SS (.str c.h) fun z hz=>h z (List.mem_cons_of_mem _ hz)
  refine ⟨?_,?_⟩
  ·rw [List.flatMap_cons,headsL_app,i1]
   unfold flS
   rw [headsL_app,b_heads _ hb,List.nil_append]
   show c.h :: headsL (c.ks.flatMap flK) ++ _ = _
   rw [k2]
   rfl
  ·rw [List.flatMap_cons,setsL_app,e1,i2]
   unfold flS
   rw [setsL_app,b_sets _ _ hb,List.nil_append]
   show setsL (.str c.h) (c.ks.flatMap flK) ++ _ = _
   rw [k3]
   rfl
noncomputable def tgK (y : Ky) : List Str:=remT y.b ++ [y.k ++ (" = " : Str) ++ y.v]
noncomputable def tgS (s : Sc) : List Str:=remT s.b ++ [("[" : Str) ++ s.h ++ ("]" : Str)] ++ s.ks.flatMap tgK
noncomputable def tx (ls : List Ln) : List Str:=ls.map Ln.text
theorem tx_app (xs ys : List Ln) : tx (xs ++ ys) = tx xs ++ tx ys:=List.map_append
theorem tx_len (ls : List Ln) : (tx ls).length = ls.length:=List.length_map ..
noncomputable def nk (s : Str) : Bool:=!Txt.startswith s "#~"
theorem Lg.nk_rem {x : Str} (h : Lg (.rem x)) : nk x = true:=by
 unfold nk
 rw [h.lnG.ok.2.1]
 rfl
theorem Lg.nk_kept {x p : Str} {n : Int} {v : D} (h : Lg (.kept x n p v)) : nk x = false:=by
 unfold nk
 rw [h.lnG.ok.2.1]
 rfl
theorem Lg.nk_head {n : Str} (h : Lg (.head n)) : nk (("[" : Str) ++ n ++ ("]" : Str)) = true:=by
 have:=h.lnG.ok.2.1.a1
 unfold nk
 rw [show Txt.startswith (("[" : Str) ++ n ++ ("]" : Str)) "#~" = false from this]
 rfl
theorem Lg.nk_set {k v : Str} (h : Lg (.set k v)) : nk (k ++ (" = " : Str) ++ v) = true:=by
 have:=h.lnG.ok.2.1.a1
 unfold nk
 rw [show Txt.startswith (k ++ (" = " : Str) ++ v) "#~" = false from this]
 rfl
theorem b_nk : ∀ (b : List Ln),(∀ l ∈ b,isB l) → (∀ l ∈ b,Lg l) → (tx b).filter nk = remT b
 | [],_,_=>rfl
 | .rem x :: b,h,g=>by
  show (x :: tx b).filter nk = x :: remT b
  rw [List.filter_cons_of_pos (g _ (List.mem_cons_self ..)).nk_rem,b_nk b (fun l hl=>h l (List.mem_cons_of_mem _ hl)) fun l hl=>g l (List.mem_cons_of_mem _ hl)]
 | .kept x n p v :: b,h,g=>by
  show (x :: tx b).filter nk = remT b
  rw [List.filter_cons_of_neg (by rw [(g _ (List.mem_cons_self ..)).nk_kept]; exact Bool.false_ne_true),b_nk b (fun l hl=>h l (List.mem_cons_of_mem _ hl)) fun l hl=>g l (List.mem_cons_of_mem _ hl)]
 | .head _ :: b,h,_=>(h _ (List.mem_cons_self ..)).elim
 | .set _ _ :: b,h,_=>(h _ (List.mem_cons_self ..)).elim
theorem ks_nk : ∀ (ks : List Ky),(∀ y ∈ ks,∀ l ∈ y.b,isB l) → (∀ l ∈ ks.flatMap flK,Lg l) → (tx (ks.flatMap flK)).filter nk = ks.flatMap tgK
 | [],_,_=>rfl
 | y :: ks,h,g=>by
  rw [List.flatMap_cons] at g ⊢
  have hs : Lg (.set y.k y.v):=g _ (List.mem_append_left _ (List.mem_append_right _ (List.mem_singleton.mpr rfl)))
  rw [tx_app,List.filter_append,ks_nk ks (fun z hz=>h z (List.mem_cons_of_mem _ hz)) fun l hl=>g l (List.mem_append_right _ hl),List.flatMap_cons]
  congr 1
  unfold flK tgK
  rw [tx_app,List.filter_append,b_nk y.b (h y (List.mem_cons_self ..)) fun l hl=>g l (List.mem_append_left _ (List.mem_append_left _ hl))]
  congr 1
  exact List.filter_cons_of_pos hs.nk_set
theorem fl_nk : ∀ (SS : List Sc),(∀ s ∈ SS,(∀ l ∈ s.b,isB l) ∧ ∀ y ∈ s.ks,∀ l ∈ y.b,isB l) → (∀ l ∈ SS.flatMap flS,Lg l) → (tx (SS.flatMap flS)).filter nk = SS.flatMap tgS
 | [],_,_=>rfl
 | s :: SS,h,g=>by
  obtain ⟨hb,hk⟩:=h s (List.mem_cons_self ..)
  rw [List.flatMap_cons] at g ⊢
  have gs : ∀ l ∈ flS s,Lg l:=fun l hl=>g l (List.mem_append_left _ hl)
  unfold flS at gs
  have hs : Lg (.head s.h):=gs _ (List.mem_append_right _ (List.mem_cons_self ..))
  rw [tx_app,List.filter_append,fl_nk SS (fun z hz=>h z (List.mem_cons_of_mem _ hz)) fun l hl=>g l (List.mem_append_right _ hl),List.flatMap_cons]
  congr 1
  unfold flS tgS
  rw [tx_app,List.filter_append,b_nk s.b hb fun l hl=>gs l (List.mem_append_left _ hl),List.append_assoc]
  congr 1
  show ((("[" : Str) ++ s.h ++ ("]" : Str)) :: tx (s.ks.flatMap flK)).filter nk = _
  rw [List.filter_cons_of_pos hs.nk_head,ks_nk s.ks hk fun l hl=>gs l (List.mem_append_right _ (List.mem_cons_of_mem _ hl))]
  rfl
theorem Flat.nk {ls t : List Ln} {SS : List Sc} (f : Flat ls SS t) (g : ∀ l ∈ ls,Lg l) : (tx ls).filter nk = SS.flatMap tgS ++ remT t:=by
 have:=f.eq
 subst this
 rw [tx_app,List.filter_append,fl_nk SS f.bs fun l hl=>g l (List.mem_append_left _ hl),b_nk t f.bt fun l hl=>g l (List.mem_append_right _ hl)]
theorem lu_value (w x y z : U) : List.lookup ("value" : Str) [(("whole" : Str),w),(("all_parts" : Str),x),(("parts" : Str),y),(("settings_read" : Str),z)] = none:=rfl
theorem lu_sections (w x y z : U) : List.lookup ("sections" : Str) [(("whole" : Str),w),(("all_parts" : Str),x),(("parts" : Str),y),(("settings_read" : Str),z)] = none:=rfl
theorem lu_places (w x y z : U) : List.lookup ("places" : Str) [(("whole" : Str),w),(("all_parts" : Str),x),(("parts" : Str),y),(("settings_read" : Str),z)] = none:=rfl
theorem lu_pairs (w x y z : U) : List.lookup ("pairs" : Str) [(("whole" : Str),w),(("all_parts" : Str),x),(("parts" : Str),y),(("settings_read" : Str),z)] = none:=rfl
theorem lu_block (w x y z : U) : List.lookup ("block" : Str) [(("whole" : Str),w),(("all_parts" : Str),x),(("parts" : Str),y),(("settings_read" : Str),z)] = none:=rfl
theorem lu_tail (w x y z : U) : List.lookup ("tail" : Str) [(("whole" : Str),w),(("all_parts" : Str),x),(("parts" : Str),y),(("settings_read" : Str),z)] = none:=rfl
theorem lu_kept (w x y z : U) : List.lookup ("kept" : Str) [(("whole" : Str),w),(("all_parts" : Str),x),(("parts" : Str),y),(("settings_read" : Str),z)] = none:=rfl
theorem eqvAll_strs : ∀ xs ys : List Str,PyData.eqvAll (xs.map .str) (ys.map .str) = decide (xs = ys)
 | [],[]=>by simp [PyData.eqvAll]
 | [],y :: ys=>by simp [PyData.eqvAll]
 | x :: xs,[]=>by simp [PyData.eqvAll]
 | x :: xs,y :: ys=>by
  rw [List.map_cons,List.map_cons,eqv_cons,eqv_str,eqvAll_strs xs ys,Bool.eq_iff_iff]
  simp
theorem eqB_strs2 {xs ys : List Str} (hx : ∀ s ∈ xs,PyData.strOk s = true) (hy : ∀ s ∈ ys,PyData.strOk s = true) : eqB st (.d (.lst (sD xs))) (.d (.lst (sD ys))) = some (decide (xs = ys)):=by
 have e1:=toP_strs xs
 have e2:=toP_strs ys
 have s1:=shaped_strs xs hx
 have s2:=shaped_strs ys hy
 have hv : PyData.eqv (.list (xs.map .str)) (.list (ys.map .str)) = decide (xs = ys):=by
  rw [show PyData.eqv (.list (xs.map .str)) (.list (ys.map .str)) = PyData.eqvAll (xs.map .str) (ys.map .str) by simp [PyData.eqv]]
  exact eqvAll_strs xs ys
 unfold eqB
 simp only [asP_d,e1,e2,s1,s2,hv,and_self,if_true]
section
theorem ne_sec1 : ¬ (("kept" : Str) = ("section" : Str)):=by decide +kernel
theorem ne_sec2 : ¬ (("place" : Str) = ("section" : Str)):=by decide +kernel
theorem ne_k1 : ¬ (("section" : Str) = ("kept" : Str)):=by decide +kernel
theorem ne_k2 : ¬ (("place" : Str) = ("kept" : Str)):=by decide +kernel
theorem ev_bloop {nm : Str} {F : D} {k0 : Nat} : ∀ (ls : List Ln) (s : D) (k : Nat) (row r : List D) (n : Nat) (x3 x4 x5 : Option U) (st : Store),st[n]? = some (.lst (row.map U.d)) → k0 ≤ n → row.length + ls.length < sizeLine → blockL nm s row ls = some r →
  ∃ env' st' n',loopL (tgT 3 (tgCons (tgN 3) (tgCons (tgN 4) (tgCons (tgN 5) tgNil)))) (b_SettingsFile_block_1 K a) ((partsL s k ls).map U.d) [some (.d F),some (.d (.str nm)),some (.ref n),x3,x4,x5] st = .ok env' (.rt (.ref n')) st' ∧ st'[n']? = some (.lst (r.map U.d)) ∧ k0 ≤ n' ∧ ∀ m,m < k0 → st'[m]? = st[m]?
 | [],s,k,row,r,n,x3,x4,x5,st,hn,hk,hl,e=>by cases e
 | .rem x :: ls,s,k,row,r,n,x3,x4,x5,st,hn,hk,hl,e=>by
  rw [List.length_cons] at hl
  obtain ⟨env',st',n',e1,e2,e3,e4⟩:=ev_bloop (k0:=k0) (F:=F) ls s (k + 1) (row ++ [.str x]) r n (some (.d (.int (k : Nat)))) (some (.d (.str "remark"))) (some (.d (.str x))) (st.set n (.lst ((row ++ [D.str x]).map U.d))) (set_at hn) hk (by rw [List.length_append,List.length_singleton]; omega) e
  refine ⟨env',st',n',?_,e2,e3,fun m hm=>by rw [e4 m hm,List.getElem?_set_ne (by omega)]⟩
  have hl' : (row.map U.d).length < sizeLine:=by rw [List.length_map]; omega
  rw [show partsL s k (.rem x :: ls) = .tup [.int (k : Nat),.str "remark",.str x] :: partsL s (k + 1) ls from rfl,List.map_cons,loopL]
  have eb : b_SettingsFile_block_1 K a [some (.d F),some (.d (.str nm)),some (.ref n),some (.d (.int (k : Nat))),some (.d (.str "remark")),some (.d (.str x))] st = .ok [some (.d F),some (.d (.str nm)),some (.ref n),some (.d (.int (k : Nat))),some (.d (.str "remark")),some (.d (.str x))] .nx (st.set n (.lst ((row ++ [D.str x]).map U.d))):=by
   unfold b_SettingsFile_block_1
   simp_all? only [eqB,hn,mAppend,hl',map_snoc]
  simp_all? only [eb,e1]
 | .kept y i p v :: ls,s,k,row,r,n,x3,x4,x5,st,hn,hk,hl,e=>by
  rw [List.length_cons] at hl
  obtain ⟨env',st',n',e1,e2,e3,e4⟩:=ev_bloop (k0:=k0) (F:=F) ls s (k + 1) row r n (some (.d (.int (k : Nat)))) (some (.d (.str "kept"))) (some (.d (.tup [.int i,.str p,v]))) st hn hk (by omega) e
  refine ⟨env',st',n',?_,e2,e3,e4⟩
  rw [show partsL s k (.kept y i p v :: ls) = .tup [.int (k : Nat),.str "kept",.tup [.int i,.str p,v]] :: partsL s (k + 1) ls from rfl,List.map_cons,loopL]
  have eb : b_SettingsFile_block_1 K a [some (.d F),some (.d (.str nm)),some (.ref n),some (.d (.int (k : Nat))),some (.d (.str "kept")),some (.d (.tup [.int i,.str p,v]))] st = .ok [some (.d F),some (.d (.str nm)),some (.ref n),some (.d (.int (k : Nat))),some (.d (.str "kept")),some (.d (.tup [.int i,.str p,v]))] .nx st:=by
   unfold b_SettingsFile_block_1
   simp_all? only [eqB,decide_eq_false ne_rem1,decide_eq_false ne_sec1,decide_eq_false ne_pl2]
  simp_all? only [eb,e1]
 | .head y :: ls,s,k,row,r,n,x3,x4,x5,st,hn,hk,hl,e=>by
  rw [List.length_cons] at hl
  rw [show partsL s k (.head y :: ls) = .tup [.int (k : Nat),.str "section",.str y] :: partsL (.str y) (k + 1) ls from rfl,List.map_cons,loopL]
  rw [show blockL nm s row (.head y :: ls) = if nm = y then some row else blockL nm (.str y) [] ls from rfl] at e
  by_cases hy : nm = y
  ·rw [if_pos hy] at e
   cases e
   refine ⟨[some (.d F),some (.d (.str nm)),some (.ref n),some (.d (.int (k : Nat))),some (.d (.str "section")),some (.d (.str y))],st,n,?_,hn,hk,fun _ _=>rfl⟩
   have eb : b_SettingsFile_block_1 K a [some (.d F),some (.d (.str nm)),some (.ref n),some (.d (.int (k : Nat))),some (.d (.str "section")),some (.d (.str y))] st = .ok [some (.d F),some (.d (.str nm)),some (.ref n),some (.d (.int (k : Nat))),some (.d (.str "section")),some (.d (.str y))] (.rt (.ref n)) st:=by
    unfold b_SettingsFile_block_1
    simp_all? only [eqB,decide_eq_false ne_rem2,decide_eq_true hy]
   simp_all? only [eb]
  ·rw [if_neg hy] at e
   obtain ⟨env',st',n',e1,e2,e3,e4⟩:=ev_bloop (k0:=k0) (F:=F) ls (.str y) (k + 1) [] r st.length (some (.d (.int (k : Nat)))) (some (.d (.str "section"))) (some (.d (.str y))) (st ++ [.lst []]) new_at (by have:=(List.getElem?_eq_some_iff.mp hn).1; omega) (by simp; omega) e
   refine ⟨env',st',n',?_,e2,e3,fun m hm=>by rw [e4 m hm,List.getElem?_append_left (by have:=(List.getElem?_eq_some_iff.mp hn).1; omega)]⟩
   have eb : b_SettingsFile_block_1 K a [some (.d F),some (.d (.str nm)),some (.ref n),some (.d (.int (k : Nat))),some (.d (.str "section")),some (.d (.str y))] st = .ok [some (.d F),some (.d (.str nm)),some (.ref st.length),some (.d (.int (k : Nat))),some (.d (.str "section")),some (.d (.str y))] .nx (st ++ [.lst []]):=by
    unfold b_SettingsFile_block_1
    simp_all? only [eqB,decide_eq_false ne_rem2,decide_eq_false hy]
   simp_all? only [eb,e1]
 | .set y v :: ls,s,k,row,r,n,x3,x4,x5,st,hn,hk,hl,e=>by
  rw [List.length_cons] at hl
  rw [show partsL s k (.set y v :: ls) = .tup [.int (k : Nat),.str "place",.tup [.str (pl s y),.str v]] :: partsL s (k + 1) ls from rfl,List.map_cons,loopL]
  rw [show blockL nm s row (.set y v :: ls) = if nm = pl s y then some row else blockL nm s [] ls from rfl] at e
  by_cases hy : nm = pl s y
  ·rw [if_pos hy] at e
   cases e
   refine ⟨[some (.d F),some (.d (.str nm)),some (.ref n),some (.d (.int (k : Nat))),some (.d (.str "place")),some (.d (.tup [.str (pl s y),.str v]))],st,n,?_,hn,hk,fun _ _=>rfl⟩
   have eb : b_SettingsFile_block_1 K a [some (.d F),some (.d (.str nm)),some (.ref n),some (.d (.int (k : Nat))),some (.d (.str "place")),some (.d (.tup [.str (pl s y),.str v]))] st = .ok [some (.d F),some (.d (.str nm)),some (.ref n),some (.d (.int (k : Nat))),some (.d (.str "place")),some (.d (.tup [.str (pl s y),.str v]))] (.rt (.ref n)) st:=by
    unfold b_SettingsFile_block_1
    simp_all? only [eqB,decide_eq_false ne_rem3,decide_eq_false ne_sec2,at_0,decide_eq_true hy]
   simp_all? only [eb]
  ·rw [if_neg hy] at e
   obtain ⟨env',st',n',e1,e2,e3,e4⟩:=ev_bloop (k0:=k0) (F:=F) ls s (k + 1) [] r st.length (some (.d (.int (k : Nat)))) (some (.d (.str "place"))) (some (.d (.tup [.str (pl s y),.str v]))) (st ++ [.lst []]) new_at (by have:=(List.getElem?_eq_some_iff.mp hn).1; omega) (by simp; omega) e
   refine ⟨env',st',n',?_,e2,e3,fun m hm=>by rw [e4 m hm,List.getElem?_append_left (by have:=(List.getElem?_eq_some_iff.mp hn).1; omega)]⟩
   have eb : b_SettingsFile_block_1 K a [some (.d F),some (.d (.str nm)),some (.ref n),some (.d (.int (k : Nat))),some (.d (.str "place")),some (.d (.tup [.str (pl s y),.str v]))] st = .ok [some (.d F),some (.d (.str nm)),some (.ref st.length),some (.d (.int (k : Nat))),some (.d (.str "place")),some (.d (.tup [.str (pl s y),.str v]))] .nx (st ++ [.lst []]):=by
    unfold b_SettingsFile_block_1
    simp_all? only [eqB,decide_eq_false ne_rem3,decide_eq_false ne_sec2,at_0,decide_eq_false hy]
   simp_all? only [eb,e1]
theorem ev_tloop {F : D} {k0 : Nat} : ∀ (ls : List Ln) (s : D) (k : Nat) (row : List D) (n : Nat) (x3 x4 x5 : Option U) (st : Store),st[n]? = some (.lst (row.map U.d)) → k0 ≤ n → row.length + ls.length < sizeLine →
  ∃ y3 y4 y5 st' n',loopL (tgT 3 (tgCons (tgN 2) (tgCons (tgN 3) (tgCons (tgN 4) tgNil)))) (b_SettingsFile_tail_1 K a) ((partsL s k ls).map U.d) [some (.d F),some (.ref n),x3,x4,x5] st = .ok [some (.d F),some (.ref n'),y3,y4,y5] .nx st' ∧ st'[n']? = some (.lst ((tailL row ls).map U.d)) ∧ k0 ≤ n' ∧ ∀ m,m < k0 → st'[m]? = st[m]?
 | [],s,k,row,n,x3,x4,x5,st,hn,hk,hl=>⟨x3,x4,x5,st,n,rfl,hn,hk,fun _ _=>rfl⟩
 | .rem x :: ls,s,k,row,n,x3,x4,x5,st,hn,hk,hl=>by
  rw [List.length_cons] at hl
  obtain ⟨y3,y4,y5,st',n',e1,e2,e3,e4⟩:=ev_tloop (k0:=k0) (F:=F) ls s (k + 1) (row ++ [.str x]) n (some (.d (.int (k : Nat)))) (some (.d (.str "remark"))) (some (.d (.str x))) (st.set n (.lst ((row ++ [D.str x]).map U.d))) (set_at hn) hk (by rw [List.length_append,List.length_singleton]; omega)
  refine ⟨y3,y4,y5,st',n',?_,e2,e3,fun m hm=>by rw [e4 m hm,List.getElem?_set_ne (by omega)]⟩
  have hl' : (row.map U.d).length < sizeLine:=by rw [List.length_map]; omega
  rw [show partsL s k (.rem x :: ls) = .tup [.int (k : Nat),.str "remark",.str x] :: partsL s (k + 1) ls from rfl,List.map_cons,loopL]
  have eb : b_SettingsFile_tail_1 K a [some (.d F),some (.ref n),some (.d (.int (k : Nat))),some (.d (.str "remark")),some (.d (.str x))] st = .ok [some (.d F),some (.ref n),some (.d (.int (k : Nat))),some (.d (.str "remark")),some (.d (.str x))] .nx (st.set n (.lst ((row ++ [D.str x]).map U.d))):=by
   unfold b_SettingsFile_tail_1
   simp_all? only [eqB,hn,mAppend,hl',map_snoc]
  simp_all? only [eb,e1]
 | .kept y i p v :: ls,s,k,row,n,x3,x4,x5,st,hn,hk,hl=>by
  rw [List.length_cons] at hl
  obtain ⟨y3,y4,y5,st',n',e1,e2,e3,e4⟩:=ev_tloop (k0:=k0) (F:=F) ls s (k + 1) row n (some (.d (.int (k : Nat)))) (some (.d (.str "kept"))) (some (.d (.tup [.int i,.str p,v]))) st hn hk (by omega)
  refine ⟨y3,y4,y5,st',n',?_,e2,e3,e4⟩
  rw [show partsL s k (.kept y i p v :: ls) = .tup [.int (k : Nat),.str "kept",.tup [.int i,.str p,v]] :: partsL s (k + 1) ls from rfl,List.map_cons,loopL]
  have eb : b_SettingsFile_tail_1 K a [some (.d F),some (.ref n),some (.d (.int (k : Nat))),some (.d (.str "kept")),some (.d (.tup [.int i,.str p,v]))] st = .ok [some (.d F),some (.ref n),some (.d (.int (k : Nat))),some (.d (.str "kept")),some (.d (.tup [.int i,.str p,v]))] .nx st:=by
   unfold b_SettingsFile_tail_1
   simp_all? only [eqB,decide_eq_false ne_rem1]
  simp_all? only [eb,e1]
 | .head y :: ls,s,k,row,n,x3,x4,x5,st,hn,hk,hl=>by
  rw [List.length_cons] at hl
  rw [show partsL s k (.head y :: ls) = .tup [.int (k : Nat),.str "section",.str y] :: partsL (.str y) (k + 1) ls from rfl,List.map_cons,loopL]
  obtain ⟨y3,y4,y5,st',n',e1,e2,e3,e4⟩:=ev_tloop (k0:=k0) (F:=F) ls (.str y) (k + 1) [] st.length (some (.d (.int (k : Nat)))) (some (.d (.str "section"))) (some (.d (.str y))) (st ++ [.lst []]) new_at (by have:=(List.getElem?_eq_some_iff.mp hn).1; omega) (by simp; omega)
  refine ⟨y3,y4,y5,st',n',?_,e2,e3,fun m hm=>by rw [e4 m hm,List.getElem?_append_left (by have:=(List.getElem?_eq_some_iff.mp hn).1; omega)]⟩
  have eb : b_SettingsFile_tail_1 K a [some (.d F),some (.ref n),some (.d (.int (k : Nat))),some (.d (.str "section")),some (.d (.str y))] st = .ok [some (.d F),some (.ref st.length),some (.d (.int (k : Nat))),some (.d (.str "section")),some (.d (.str y))] .nx (st ++ [.lst []]):=by
   unfold b_SettingsFile_tail_1
   simp_all? only [eqB,decide_eq_false ne_rem2,decide_eq_false ne_k1]
  simp_all? only [eb,e1]
 | .set y v :: ls,s,k,row,n,x3,x4,x5,st,hn,hk,hl=>by
  rw [List.length_cons] at hl
  rw [show partsL s k (.set y v :: ls) = .tup [.int (k : Nat),.str "place",.tup [.str (pl s y),.str v]] :: partsL s (k + 1) ls from rfl,List.map_cons,loopL]
  obtain ⟨y3,y4,y5,st',n',e1,e2,e3,e4⟩:=ev_tloop (k0:=k0) (F:=F) ls s (k + 1) [] st.length (some (.d (.int (k : Nat)))) (some (.d (.str "place"))) (some (.d (.tup [.str (pl s y),.str v]))) (st ++ [.lst []]) new_at (by have:=(List.getElem?_eq_some_iff.mp hn).1; omega) (by simp; omega)
  refine ⟨y3,y4,y5,st',n',?_,e2,e3,fun m hm=>by rw [e4 m hm,List.getElem?_append_left (by have:=(List.getElem?_eq_some_iff.mp hn).1; omega)]⟩
  have eb : b_SettingsFile_tail_1 K a [some (.d F),some (.ref n),some (.d (.int (k : Nat))),some (.d (.str "place")),some (.d (.tup [.str (pl s y),.str v]))] st = .ok [some (.d F),some (.ref st.length),some (.d (.int (k : Nat))),some (.d (.str "place")),some (.d (.tup [.str (pl s y),.str v]))] .nx (st ++ [.lst []]):=by
   unfold b_SettingsFile_tail_1
   simp_all? only [eqB,decide_eq_false ne_rem3,decide_eq_false ne_k2]
  simp_all? only [eb,e1]
theorem wFrz_of {st st' : Store} (w : WF st) {n : Nat} {ds : List D} (h : st'[n]? = some (.lst (ds.map U.d))) (hn : st.length ≤ n) (hf : ∀ m,m < st.length → st'[m]? = st[m]?) : wFrz st.length (.ref n) st' = .ok (.d (.lst ds)) st:=by
 have ef : frz st' st.length 4 (.ref n) = some (.lst ds):=by
  unfold frz
  rw [if_neg (by omega)]
  simp only [h,allM_frz,Option.map_some]
 unfold wFrz
 simp only [ef,cut_same w hf]
noncomputable def isKp : U → Bool
 | .d (.tup [_,.str w,_])=>decide (w = ("kept" : Str))
 | _=>false
noncomputable def keptD : List Ln → List D
 | []=>[]
 | .kept _ n p v :: ls=>.tup [.int n,.str p,v] :: keptD ls
 | .rem _ :: ls=>keptD ls
 | .head _ :: ls=>keptD ls
 | .set _ _ :: ls=>keptD ls
theorem ne_kp1 : ¬ (("remark" : Str) = ("kept" : Str)):=by decide +kernel
theorem kepts_of : ∀ (ls : List Ln) (s : D) (k : Nat),(((partsL s k ls).map U.d).filter isKp).map thingP = keptD ls
 | [],_,_=>rfl
 | .rem x :: ls,s,k=>by
  show (((U.d (.tup [.int k,.str "remark",.str x]) :: (partsL s (k + 1) ls).map U.d)).filter isKp).map thingP = _
  rw [List.filter_cons_of_neg (by simp only [isKp,decide_eq_false ne_kp1]; exact Bool.false_ne_true)]
  exact kepts_of ls s (k + 1)
 | .kept x n p v :: ls,s,k=>by
  show (((U.d (.tup [.int k,.str "kept",.tup [.int n,.str p,v]]) :: (partsL s (k + 1) ls).map U.d)).filter isKp).map thingP = _
  rw [List.filter_cons_of_pos (by simp only [isKp,decide_true]),List.map_cons,kepts_of ls s (k + 1)]
  rfl
 | .head n :: ls,s,k=>by
  show (((U.d (.tup [.int k,.str "section",.str n]) :: (partsL (.str n) (k + 1) ls).map U.d)).filter isKp).map thingP = _
  rw [List.filter_cons_of_neg (by simp only [isKp,decide_eq_false ne_k1]; exact Bool.false_ne_true)]
  exact kepts_of ls (.str n) (k + 1)
 | .set x v :: ls,s,k=>by
  show (((U.d (.tup [.int k,.str "place",.tup [.str (pl s x),.str v]]) :: (partsL s (k + 1) ls).map U.d)).filter isKp).map thingP = _
  rw [List.filter_cons_of_neg (by simp only [isKp,decide_eq_false ne_k2]; exact Bool.false_ne_true)]
  exact kepts_of ls s (k + 1)
theorem parts_len : ∀ (ls : List Ln) (s : D) (k : Nat),(partsL s k ls).length = ls.length
 | [],_,_=>rfl
 | l :: ls,s,k=>by show (partsL _ _ ls).length + 1 = _; rw [parts_len ls]; rfl
theorem lookK_kv : ∀ (ss : List (Str × Str)) (p : Str),lookK ((kvD ss).map fun kv=>(kv.1,U.d kv.2)) (.inr p) = (ss.find? fun q=>decide (q.1 = p)).map fun q=>U.d (.str q.2)
 | [],_=>rfl
 | q :: ss,p=>by
  have ih:=lookK_kv ss p
  unfold lookK kvD at ih ⊢
  rw [List.map_cons,List.map_cons,List.find?_cons,List.find?_cons]
  by_cases e : q.1 = p
  ·rw [decide_eq_true e,decide_eq_true (show (Sum.inr q.1 : Key) = .inr p from by rw [e])]
   rfl
  ·rw [decide_eq_false e,decide_eq_false (show ¬ (Sum.inr q.1 : Key) = .inr p from fun z=>e (Sum.inr.inj z))]
   exact ih
noncomputable def hasP (ss : List (Str × Str)) (p : Str) : Bool:=(ss.find? fun q=>decide (q.1 = p)).isSome
theorem inDct_kv {ss : List (Str × Str)} {p : Str} : inDct st (.d (.str p)) (.d (.dct (kvD ss))) = some (hasP ss p):=by
 unfold inDct hasP
 rw [show VL.getD st (.d (.dct (kvD ss))) = some ((kvD ss).map fun kv=>(kv.1,U.d kv.2)) from rfl]
 simp only [keyD,lookK_kv]
 cases ss.find? fun q=>decide (q.1 = p) <;> rfl
theorem find_nd : ∀ {ss : List (Str × Str)},(ss.map fun p=>p.1).Nodup → ∀ p ∈ ss,(ss.find? fun q=>decide (q.1 = p.1)) = some p
 | q :: ss,hn,p,hp=>by
  have hn':=List.nodup_cons.mp hn
  rw [List.find?_cons]
  rcases List.mem_cons.mp hp with rfl | hp
  ·rw [decide_eq_true rfl]
  ·have : ¬ q.1 = p.1:=fun e=>hn'.1 (show q.1 ∈ _ from by rw [e]; exact List.mem_map.mpr ⟨p,hp,rfl⟩)
   rw [decide_eq_false this]
   exact find_nd hn'.2 p hp
section
variable {s : Str} {ls : List Ln} {ds : List D} {dd : List (Key × D)}
theorem ev_fsections (h : WF st) (hl : (partsL .non 0 ls).length ≤ sizeLine) : m_SettingsFile_sections K a [.d (FL a s ls ds dd)] st = .ok (.d (.lst (sD (headsL ls)))) st:=by
 have ok:=partsL_ok ls .non 0
 have e : c_SettingsFile_sections_1 K a [some (.d (FL a s ls ds dd)),none,none,none] st = .ok (.d (.lst (sD (headsL ls)))) st:=by
  rw [← secs_of ls .non 0]
  unfold c_SettingsFile_sections_1
  refine fLc_pure (us:=(partsL .non 0 ls).map U.d) isSec thingP h ?_ (by rw [List.length_map]; exact hl) fun u hu st' h'=>?_
  ·unfold FL fileD
   simp_all? only [itV,List.mem_cons,List.not_mem_nil,or_false,lu_all]
  ·obtain ⟨p,hp,rfl⟩:=List.mem_map.mp hu
   have:=ok p hp
   cases this with
   | rem t x=>exact ⟨_,rfl,by simp only [fnM,sSeq,sRet,sRetN,sExpr,sIf,sNil,sNo,sAsg,tgN,bndS,bnd,vVar,vC,f2,f1,fB,pu,fN,vTup,vLst,fTup,fCons,fNil,fPure,fIf,fAnd,fOr,fNot,asB,asT,bAnd,bOr,bNot,fChain,fCall,fCW,gPos,gApp,R.of,R.of2,fM,pu4,tgT,tgCons,tgNil,unp,pureL,sPar,sPar3,fLstC,fFld,oFld,fMeth,insU,sFldS,setFld,fSl,oNone,oSome,tgSub,setU,fIter,fItN,fItS,sFor,getL,getT,VL.getD,keyD,tyB,lstC,oAdd,oSub,oMul,oFdiv,oMod,oPow,oNeg,oLt,oLe,oGt,oGe,oEq,oNe,oIsN,oNotN,oIn,oNotIn,oIx,oLen,oInt,oAbs,oMin,oMax,oStr,oList,oListC,oTuple,oAll,oAny,itemsU,lenN,truB,fJs,oFmt,List.map_cons,List.map_nil,List.length_cons,List.length_nil,List.replicate_succ,List.replicate_zero,List.cons_append,List.nil_append,List.append_nil,List.getElem?_cons_zero,List.getElem?_cons_succ,List.set_cons_zero,List.set_cons_succ,Nat.reduceAdd,Nat.reduceSub,Option.map_some,Option.map_none,if_true,if_false,ite_true,ite_false,Bool.false_eq_true,reduceCtorEq,true_and,and_true,and_self,Bool.not_true,Bool.not_false,Nat.zero_add,Option.bind_some,Option.bind_eq_bind,Option.pure_def,decide_true,decide_false,eq_self,Nat.reduceEqDiff,Nat.reduceLT,Nat.reduceLeDiff,Int.reduceLT,Int.reduceLE,Int.reduceEq,Bool.and_true,Bool.true_and,Bool.false_and,Bool.or_false,Bool.or_true,Bool.true_or,Bool.false_or,sz0,szl0,sz1,szl1,sz2,szl2,sz3,szl3,sz4,szl4,sz5,szl5,sz6,szl6,sz7,szl7,sz8,szl8,sz9,szl9,sz10,szl10,sz11,szl11,sz12,szl12,sz13,szl13,sz14,szl14,sz15,szl15,wipeE,eqB,isSec,decide_eq_false ne_se1],fun e=>by simp only [isSec,decide_eq_false ne_se1] at e; cases e⟩
   | kept t n p v=>exact ⟨_,rfl,by simp only [fnM,sSeq,sRet,sRetN,sExpr,sIf,sNil,sNo,sAsg,tgN,bndS,bnd,vVar,vC,f2,f1,fB,pu,fN,vTup,vLst,fTup,fCons,fNil,fPure,fIf,fAnd,fOr,fNot,asB,asT,bAnd,bOr,bNot,fChain,fCall,fCW,gPos,gApp,R.of,R.of2,fM,pu4,tgT,tgCons,tgNil,unp,pureL,sPar,sPar3,fLstC,fFld,oFld,fMeth,insU,sFldS,setFld,fSl,oNone,oSome,tgSub,setU,fIter,fItN,fItS,sFor,getL,getT,VL.getD,keyD,tyB,lstC,oAdd,oSub,oMul,oFdiv,oMod,oPow,oNeg,oLt,oLe,oGt,oGe,oEq,oNe,oIsN,oNotN,oIn,oNotIn,oIx,oLen,oInt,oAbs,oMin,oMax,oStr,oList,oListC,oTuple,oAll,oAny,itemsU,lenN,truB,fJs,oFmt,List.map_cons,List.map_nil,List.length_cons,List.length_nil,List.replicate_succ,List.replicate_zero,List.cons_append,List.nil_append,List.append_nil,List.getElem?_cons_zero,List.getElem?_cons_succ,List.set_cons_zero,List.set_cons_succ,Nat.reduceAdd,Nat.reduceSub,Option.map_some,Option.map_none,if_true,if_false,ite_true,ite_false,Bool.false_eq_true,reduceCtorEq,true_and,and_true,and_self,Bool.not_true,Bool.not_false,Nat.zero_add,Option.bind_some,Option.bind_eq_bind,Option.pure_def,decide_true,decide_false,eq_self,Nat.reduceEqDiff,Nat.reduceLT,Nat.reduceLeDiff,Int.reduceLT,Int.reduceLE,Int.reduceEq,Bool.and_true,Bool.true_and,Bool.false_and,Bool.or_false,Bool.or_true,Bool.true_or,Bool.false_or,sz0,szl0,sz1,szl1,sz2,szl2,sz3,szl3,sz4,szl4,sz5,szl5,sz6,szl6,sz7,szl7,sz8,szl8,sz9,szl9,sz10,szl10,sz11,szl11,sz12,szl12,sz13,szl13,sz14,szl14,sz15,szl15,wipeE,eqB,isSec,decide_eq_false ne_se2],fun e=>by simp only [isSec,decide_eq_false ne_se2] at e; cases e⟩
   | head t n=>exact ⟨_,rfl,by simp only [fnM,sSeq,sRet,sRetN,sExpr,sIf,sNil,sNo,sAsg,tgN,bndS,bnd,vVar,vC,f2,f1,fB,pu,fN,vTup,vLst,fTup,fCons,fNil,fPure,fIf,fAnd,fOr,fNot,asB,asT,bAnd,bOr,bNot,fChain,fCall,fCW,gPos,gApp,R.of,R.of2,fM,pu4,tgT,tgCons,tgNil,unp,pureL,sPar,sPar3,fLstC,fFld,oFld,fMeth,insU,sFldS,setFld,fSl,oNone,oSome,tgSub,setU,fIter,fItN,fItS,sFor,getL,getT,VL.getD,keyD,tyB,lstC,oAdd,oSub,oMul,oFdiv,oMod,oPow,oNeg,oLt,oLe,oGt,oGe,oEq,oNe,oIsN,oNotN,oIn,oNotIn,oIx,oLen,oInt,oAbs,oMin,oMax,oStr,oList,oListC,oTuple,oAll,oAny,itemsU,lenN,truB,fJs,oFmt,List.map_cons,List.map_nil,List.length_cons,List.length_nil,List.replicate_succ,List.replicate_zero,List.cons_append,List.nil_append,List.append_nil,List.getElem?_cons_zero,List.getElem?_cons_succ,List.set_cons_zero,List.set_cons_succ,Nat.reduceAdd,Nat.reduceSub,Option.map_some,Option.map_none,if_true,if_false,ite_true,ite_false,Bool.false_eq_true,reduceCtorEq,true_and,and_true,and_self,Bool.not_true,Bool.not_false,Nat.zero_add,Option.bind_some,Option.bind_eq_bind,Option.pure_def,decide_true,decide_false,eq_self,Nat.reduceEqDiff,Nat.reduceLT,Nat.reduceLeDiff,Int.reduceLT,Int.reduceLE,Int.reduceEq,Bool.and_true,Bool.true_and,Bool.false_and,Bool.or_false,Bool.or_true,Bool.true_or,Bool.false_or,sz0,szl0,sz1,szl1,sz2,szl2,sz3,szl3,sz4,szl4,sz5,szl5,sz6,szl6,sz7,szl7,sz8,szl8,sz9,szl9,sz10,szl10,sz11,szl11,sz12,szl12,sz13,szl13,sz14,szl14,sz15,szl15,wipeE,eqB,isSec],fun e=>by simp only [fnM,sSeq,sRet,sRetN,sExpr,sIf,sNil,sNo,sAsg,tgN,bndS,bnd,vVar,vC,f2,f1,fB,pu,fN,vTup,vLst,fTup,fCons,fNil,fPure,fIf,fAnd,fOr,fNot,asB,asT,bAnd,bOr,bNot,fChain,fCall,fCW,gPos,gApp,R.of,R.of2,fM,pu4,tgT,tgCons,tgNil,unp,pureL,sPar,sPar3,fLstC,fFld,oFld,fMeth,insU,sFldS,setFld,fSl,oNone,oSome,tgSub,setU,fIter,fItN,fItS,sFor,getL,getT,VL.getD,keyD,tyB,lstC,oAdd,oSub,oMul,oFdiv,oMod,oPow,oNeg,oLt,oLe,oGt,oGe,oEq,oNe,oIsN,oNotN,oIn,oNotIn,oIx,oLen,oInt,oAbs,oMin,oMax,oStr,oList,oListC,oTuple,oAll,oAny,itemsU,lenN,truB,fJs,oFmt,List.map_cons,List.map_nil,List.length_cons,List.length_nil,List.replicate_succ,List.replicate_zero,List.cons_append,List.nil_append,List.append_nil,List.getElem?_cons_zero,List.getElem?_cons_succ,List.set_cons_zero,List.set_cons_succ,Nat.reduceAdd,Nat.reduceSub,Option.map_some,Option.map_none,if_true,if_false,ite_true,ite_false,Bool.false_eq_true,reduceCtorEq,true_and,and_true,and_self,Bool.not_true,Bool.not_false,Nat.zero_add,Option.bind_some,Option.bind_eq_bind,Option.pure_def,decide_true,decide_false,eq_self,Nat.reduceEqDiff,Nat.reduceLT,Nat.reduceLeDiff,Int.reduceLT,Int.reduceLE,Int.reduceEq,Bool.and_true,Bool.true_and,Bool.false_and,Bool.or_false,Bool.or_true,Bool.true_or,Bool.false_or,sz0,szl0,sz1,szl1,sz2,szl2,sz3,szl3,sz4,szl4,sz5,szl5,sz6,szl6,sz7,szl7,sz8,szl8,sz9,szl9,sz10,szl10,sz11,szl11,sz12,szl12,sz13,szl13,sz14,szl14,sz15,szl15,wipeE,thingP]⟩
   | set t p v=>exact ⟨_,rfl,by simp only [fnM,sSeq,sRet,sRetN,sExpr,sIf,sNil,sNo,sAsg,tgN,bndS,bnd,vVar,vC,f2,f1,fB,pu,fN,vTup,vLst,fTup,fCons,fNil,fPure,fIf,fAnd,fOr,fNot,asB,asT,bAnd,bOr,bNot,fChain,fCall,fCW,gPos,gApp,R.of,R.of2,fM,pu4,tgT,tgCons,tgNil,unp,pureL,sPar,sPar3,fLstC,fFld,oFld,fMeth,insU,sFldS,setFld,fSl,oNone,oSome,tgSub,setU,fIter,fItN,fItS,sFor,getL,getT,VL.getD,keyD,tyB,lstC,oAdd,oSub,oMul,oFdiv,oMod,oPow,oNeg,oLt,oLe,oGt,oGe,oEq,oNe,oIsN,oNotN,oIn,oNotIn,oIx,oLen,oInt,oAbs,oMin,oMax,oStr,oList,oListC,oTuple,oAll,oAny,itemsU,lenN,truB,fJs,oFmt,List.map_cons,List.map_nil,List.length_cons,List.length_nil,List.replicate_succ,List.replicate_zero,List.cons_append,List.nil_append,List.append_nil,List.getElem?_cons_zero,List.getElem?_cons_succ,List.set_cons_zero,List.set_cons_succ,Nat.reduceAdd,Nat.reduceSub,Option.map_some,Option.map_none,if_true,if_false,ite_true,ite_false,Bool.false_eq_true,reduceCtorEq,true_and,and_true,and_self,Bool.not_true,Bool.not_false,Nat.zero_add,Option.bind_some,Option.bind_eq_bind,Option.pure_def,decide_true,decide_false,eq_self,Nat.reduceEqDiff,Nat.reduceLT,Nat.reduceLeDiff,Int.reduceLT,Int.reduceLE,Int.reduceEq,Bool.and_true,Bool.true_and,Bool.false_and,Bool.or_false,Bool.or_true,Bool.true_or,Bool.false_or,sz0,szl0,sz1,szl1,sz2,szl2,sz3,szl3,sz4,szl4,sz5,szl5,sz6,szl6,sz7,szl7,sz8,szl8,sz9,szl9,sz10,szl10,sz11,szl11,sz12,szl12,sz13,szl13,sz14,szl14,sz15,szl15,wipeE,eqB,isSec,decide_eq_false ne_se3],fun e=>by simp only [isSec,decide_eq_false ne_se3] at e; cases e⟩
 exact fnL (us:=[.d (FL a s ls ds dd)]) (n:=4) (g:=g_SettingsFile_sections K a) h rfl (retA e)
theorem ev_fplaces (h : WF st) (hl : (partsL .non 0 ls).length ≤ sizeLine) : m_SettingsFile_places K a [.d (FL a s ls ds dd)] st = .ok (.d (.lst (sD ((setsL .non ls).map fun p=>p.1)))) st:=by
 have ok:=partsL_ok ls .non 0
 have e : c_SettingsFile_places_1 K a [some (.d (FL a s ls ds dd)),none,none,none] st = .ok (.d (.lst (sD ((setsL .non ls).map fun p=>p.1)))) st:=by
  rw [← firsts_of ls .non 0]
  unfold c_SettingsFile_places_1
  refine fLc_pure (us:=(partsL .non 0 ls).map U.d) isSet firstP h ?_ (by rw [List.length_map]; exact hl) fun u hu st' h'=>?_
  ·unfold FL fileD
   simp_all? only [itV,List.mem_cons,List.not_mem_nil,or_false,lu_all]
  ·obtain ⟨p,hp,rfl⟩:=List.mem_map.mp hu
   have:=ok p hp
   cases this with
   | rem t x=>exact ⟨_,rfl,by simp only [fnM,sSeq,sRet,sRetN,sExpr,sIf,sNil,sNo,sAsg,tgN,bndS,bnd,vVar,vC,f2,f1,fB,pu,fN,vTup,vLst,fTup,fCons,fNil,fPure,fIf,fAnd,fOr,fNot,asB,asT,bAnd,bOr,bNot,fChain,fCall,fCW,gPos,gApp,R.of,R.of2,fM,pu4,tgT,tgCons,tgNil,unp,pureL,sPar,sPar3,fLstC,fFld,oFld,fMeth,insU,sFldS,setFld,fSl,oNone,oSome,tgSub,setU,fIter,fItN,fItS,sFor,getL,getT,VL.getD,keyD,tyB,lstC,oAdd,oSub,oMul,oFdiv,oMod,oPow,oNeg,oLt,oLe,oGt,oGe,oEq,oNe,oIsN,oNotN,oIn,oNotIn,oIx,oLen,oInt,oAbs,oMin,oMax,oStr,oList,oListC,oTuple,oAll,oAny,itemsU,lenN,truB,fJs,oFmt,List.map_cons,List.map_nil,List.length_cons,List.length_nil,List.replicate_succ,List.replicate_zero,List.cons_append,List.nil_append,List.append_nil,List.getElem?_cons_zero,List.getElem?_cons_succ,List.set_cons_zero,List.set_cons_succ,Nat.reduceAdd,Nat.reduceSub,Option.map_some,Option.map_none,if_true,if_false,ite_true,ite_false,Bool.false_eq_true,reduceCtorEq,true_and,and_true,and_self,Bool.not_true,Bool.not_false,Nat.zero_add,Option.bind_some,Option.bind_eq_bind,Option.pure_def,decide_true,decide_false,eq_self,Nat.reduceEqDiff,Nat.reduceLT,Nat.reduceLeDiff,Int.reduceLT,Int.reduceLE,Int.reduceEq,Bool.and_true,Bool.true_and,Bool.false_and,Bool.or_false,Bool.or_true,Bool.true_or,Bool.false_or,sz0,szl0,sz1,szl1,sz2,szl2,sz3,szl3,sz4,szl4,sz5,szl5,sz6,szl6,sz7,szl7,sz8,szl8,sz9,szl9,sz10,szl10,sz11,szl11,sz12,szl12,sz13,szl13,sz14,szl14,sz15,szl15,wipeE,eqB,isSet,decide_eq_false ne_pl1],fun e=>by simp only [isSet,decide_eq_false ne_pl1] at e; cases e⟩
   | kept t n p v=>exact ⟨_,rfl,by simp only [fnM,sSeq,sRet,sRetN,sExpr,sIf,sNil,sNo,sAsg,tgN,bndS,bnd,vVar,vC,f2,f1,fB,pu,fN,vTup,vLst,fTup,fCons,fNil,fPure,fIf,fAnd,fOr,fNot,asB,asT,bAnd,bOr,bNot,fChain,fCall,fCW,gPos,gApp,R.of,R.of2,fM,pu4,tgT,tgCons,tgNil,unp,pureL,sPar,sPar3,fLstC,fFld,oFld,fMeth,insU,sFldS,setFld,fSl,oNone,oSome,tgSub,setU,fIter,fItN,fItS,sFor,getL,getT,VL.getD,keyD,tyB,lstC,oAdd,oSub,oMul,oFdiv,oMod,oPow,oNeg,oLt,oLe,oGt,oGe,oEq,oNe,oIsN,oNotN,oIn,oNotIn,oIx,oLen,oInt,oAbs,oMin,oMax,oStr,oList,oListC,oTuple,oAll,oAny,itemsU,lenN,truB,fJs,oFmt,List.map_cons,List.map_nil,List.length_cons,List.length_nil,List.replicate_succ,List.replicate_zero,List.cons_append,List.nil_append,List.append_nil,List.getElem?_cons_zero,List.getElem?_cons_succ,List.set_cons_zero,List.set_cons_succ,Nat.reduceAdd,Nat.reduceSub,Option.map_some,Option.map_none,if_true,if_false,ite_true,ite_false,Bool.false_eq_true,reduceCtorEq,true_and,and_true,and_self,Bool.not_true,Bool.not_false,Nat.zero_add,Option.bind_some,Option.bind_eq_bind,Option.pure_def,decide_true,decide_false,eq_self,Nat.reduceEqDiff,Nat.reduceLT,Nat.reduceLeDiff,Int.reduceLT,Int.reduceLE,Int.reduceEq,Bool.and_true,Bool.true_and,Bool.false_and,Bool.or_false,Bool.or_true,Bool.true_or,Bool.false_or,sz0,szl0,sz1,szl1,sz2,szl2,sz3,szl3,sz4,szl4,sz5,szl5,sz6,szl6,sz7,szl7,sz8,szl8,sz9,szl9,sz10,szl10,sz11,szl11,sz12,szl12,sz13,szl13,sz14,szl14,sz15,szl15,wipeE,eqB,isSet,decide_eq_false ne_pl2],fun e=>by simp only [isSet,decide_eq_false ne_pl2] at e; cases e⟩
   | head t n=>exact ⟨_,rfl,by simp only [fnM,sSeq,sRet,sRetN,sExpr,sIf,sNil,sNo,sAsg,tgN,bndS,bnd,vVar,vC,f2,f1,fB,pu,fN,vTup,vLst,fTup,fCons,fNil,fPure,fIf,fAnd,fOr,fNot,asB,asT,bAnd,bOr,bNot,fChain,fCall,fCW,gPos,gApp,R.of,R.of2,fM,pu4,tgT,tgCons,tgNil,unp,pureL,sPar,sPar3,fLstC,fFld,oFld,fMeth,insU,sFldS,setFld,fSl,oNone,oSome,tgSub,setU,fIter,fItN,fItS,sFor,getL,getT,VL.getD,keyD,tyB,lstC,oAdd,oSub,oMul,oFdiv,oMod,oPow,oNeg,oLt,oLe,oGt,oGe,oEq,oNe,oIsN,oNotN,oIn,oNotIn,oIx,oLen,oInt,oAbs,oMin,oMax,oStr,oList,oListC,oTuple,oAll,oAny,itemsU,lenN,truB,fJs,oFmt,List.map_cons,List.map_nil,List.length_cons,List.length_nil,List.replicate_succ,List.replicate_zero,List.cons_append,List.nil_append,List.append_nil,List.getElem?_cons_zero,List.getElem?_cons_succ,List.set_cons_zero,List.set_cons_succ,Nat.reduceAdd,Nat.reduceSub,Option.map_some,Option.map_none,if_true,if_false,ite_true,ite_false,Bool.false_eq_true,reduceCtorEq,true_and,and_true,and_self,Bool.not_true,Bool.not_false,Nat.zero_add,Option.bind_some,Option.bind_eq_bind,Option.pure_def,decide_true,decide_false,eq_self,Nat.reduceEqDiff,Nat.reduceLT,Nat.reduceLeDiff,Int.reduceLT,Int.reduceLE,Int.reduceEq,Bool.and_true,Bool.true_and,Bool.false_and,Bool.or_false,Bool.or_true,Bool.true_or,Bool.false_or,sz0,szl0,sz1,szl1,sz2,szl2,sz3,szl3,sz4,szl4,sz5,szl5,sz6,szl6,sz7,szl7,sz8,szl8,sz9,szl9,sz10,szl10,sz11,szl11,sz12,szl12,sz13,szl13,sz14,szl14,sz15,szl15,wipeE,eqB,isSet,decide_eq_false ne_pl3],fun e=>by simp only [isSet,decide_eq_false ne_pl3] at e; cases e⟩
   | set t p v=>exact ⟨_,rfl,by simp only [fnM,sSeq,sRet,sRetN,sExpr,sIf,sNil,sNo,sAsg,tgN,bndS,bnd,vVar,vC,f2,f1,fB,pu,fN,vTup,vLst,fTup,fCons,fNil,fPure,fIf,fAnd,fOr,fNot,asB,asT,bAnd,bOr,bNot,fChain,fCall,fCW,gPos,gApp,R.of,R.of2,fM,pu4,tgT,tgCons,tgNil,unp,pureL,sPar,sPar3,fLstC,fFld,oFld,fMeth,insU,sFldS,setFld,fSl,oNone,oSome,tgSub,setU,fIter,fItN,fItS,sFor,getL,getT,VL.getD,keyD,tyB,lstC,oAdd,oSub,oMul,oFdiv,oMod,oPow,oNeg,oLt,oLe,oGt,oGe,oEq,oNe,oIsN,oNotN,oIn,oNotIn,oIx,oLen,oInt,oAbs,oMin,oMax,oStr,oList,oListC,oTuple,oAll,oAny,itemsU,lenN,truB,fJs,oFmt,List.map_cons,List.map_nil,List.length_cons,List.length_nil,List.replicate_succ,List.replicate_zero,List.cons_append,List.nil_append,List.append_nil,List.getElem?_cons_zero,List.getElem?_cons_succ,List.set_cons_zero,List.set_cons_succ,Nat.reduceAdd,Nat.reduceSub,Option.map_some,Option.map_none,if_true,if_false,ite_true,ite_false,Bool.false_eq_true,reduceCtorEq,true_and,and_true,and_self,Bool.not_true,Bool.not_false,Nat.zero_add,Option.bind_some,Option.bind_eq_bind,Option.pure_def,decide_true,decide_false,eq_self,Nat.reduceEqDiff,Nat.reduceLT,Nat.reduceLeDiff,Int.reduceLT,Int.reduceLE,Int.reduceEq,Bool.and_true,Bool.true_and,Bool.false_and,Bool.or_false,Bool.or_true,Bool.true_or,Bool.false_or,sz0,szl0,sz1,szl1,sz2,szl2,sz3,szl3,sz4,szl4,sz5,szl5,sz6,szl6,sz7,szl7,sz8,szl8,sz9,szl9,sz10,szl10,sz11,szl11,sz12,szl12,sz13,szl13,sz14,szl14,sz15,szl15,wipeE,eqB,isSet],fun e=>by simp only [fnM,sSeq,sRet,sRetN,sExpr,sIf,sNil,sNo,sAsg,tgN,bndS,bnd,vVar,vC,f2,f1,fB,pu,fN,vTup,vLst,fTup,fCons,fNil,fPure,fIf,fAnd,fOr,fNot,asB,asT,bAnd,bOr,bNot,fChain,fCall,fCW,gPos,gApp,R.of,R.of2,fM,pu4,tgT,tgCons,tgNil,unp,pureL,sPar,sPar3,fLstC,fFld,oFld,fMeth,insU,sFldS,setFld,fSl,oNone,oSome,tgSub,setU,fIter,fItN,fItS,sFor,getL,getT,VL.getD,keyD,tyB,lstC,oAdd,oSub,oMul,oFdiv,oMod,oPow,oNeg,oLt,oLe,oGt,oGe,oEq,oNe,oIsN,oNotN,oIn,oNotIn,oIx,oLen,oInt,oAbs,oMin,oMax,oStr,oList,oListC,oTuple,oAll,oAny,itemsU,lenN,truB,fJs,oFmt,List.map_cons,List.map_nil,List.length_cons,List.length_nil,List.replicate_succ,List.replicate_zero,List.cons_append,List.nil_append,List.append_nil,List.getElem?_cons_zero,List.getElem?_cons_succ,List.set_cons_zero,List.set_cons_succ,Nat.reduceAdd,Nat.reduceSub,Option.map_some,Option.map_none,if_true,if_false,ite_true,ite_false,Bool.false_eq_true,reduceCtorEq,true_and,and_true,and_self,Bool.not_true,Bool.not_false,Nat.zero_add,Option.bind_some,Option.bind_eq_bind,Option.pure_def,decide_true,decide_false,eq_self,Nat.reduceEqDiff,Nat.reduceLT,Nat.reduceLeDiff,Int.reduceLT,Int.reduceLE,Int.reduceEq,Bool.and_true,Bool.true_and,Bool.false_and,Bool.or_false,Bool.or_true,Bool.true_or,Bool.false_or,sz0,szl0,sz1,szl1,sz2,szl2,sz3,szl3,sz4,szl4,sz5,szl5,sz6,szl6,sz7,szl7,sz8,szl8,sz9,szl9,sz10,szl10,sz11,szl11,sz12,szl12,sz13,szl13,sz14,szl14,sz15,szl15,wipeE,firstP,at_0]⟩
 exact fnL (us:=[.d (FL a s ls ds dd)]) (n:=4) (g:=g_SettingsFile_places K a) h rfl (retA e)
theorem ev_fkept (h : WF st) (hl : (partsL .non 0 ls).length ≤ sizeLine) : m_SettingsFile_kept K a [.d (FL a s ls ds dd)] st = .ok (.d (.lst (keptD ls))) st:=by
 have ok:=partsL_ok ls .non 0
 have e : c_SettingsFile_kept_1 K a [some (.d (FL a s ls ds dd)),none,none,none] st = .ok (.d (.lst (keptD ls))) st:=by
  rw [← kepts_of ls .non 0]
  unfold c_SettingsFile_kept_1
  refine fLc_pure (us:=(partsL .non 0 ls).map U.d) isKp thingP h ?_ (by rw [List.length_map]; exact hl) fun u hu st' h'=>?_
  ·unfold FL fileD
   simp_all? only [itV,List.mem_cons,List.not_mem_nil,or_false,lu_all]
  ·obtain ⟨p,hp,rfl⟩:=List.mem_map.mp hu
   have:=ok p hp
   cases this with
   | rem t x=>exact ⟨_,rfl,by simp only [fnM,sSeq,sRet,sRetN,sExpr,sIf,sNil,sNo,sAsg,tgN,bndS,bnd,vVar,vC,f2,f1,fB,pu,fN,vTup,vLst,fTup,fCons,fNil,fPure,fIf,fAnd,fOr,fNot,asB,asT,bAnd,bOr,bNot,fChain,fCall,fCW,gPos,gApp,R.of,R.of2,fM,pu4,tgT,tgCons,tgNil,unp,pureL,sPar,sPar3,fLstC,fFld,oFld,fMeth,insU,sFldS,setFld,fSl,oNone,oSome,tgSub,setU,fIter,fItN,fItS,sFor,getL,getT,VL.getD,keyD,tyB,lstC,oAdd,oSub,oMul,oFdiv,oMod,oPow,oNeg,oLt,oLe,oGt,oGe,oEq,oNe,oIsN,oNotN,oIn,oNotIn,oIx,oLen,oInt,oAbs,oMin,oMax,oStr,oList,oListC,oTuple,oAll,oAny,itemsU,lenN,truB,fJs,oFmt,List.map_cons,List.map_nil,List.length_cons,List.length_nil,List.replicate_succ,List.replicate_zero,List.cons_append,List.nil_append,List.append_nil,List.getElem?_cons_zero,List.getElem?_cons_succ,List.set_cons_zero,List.set_cons_succ,Nat.reduceAdd,Nat.reduceSub,Option.map_some,Option.map_none,if_true,if_false,ite_true,ite_false,Bool.false_eq_true,reduceCtorEq,true_and,and_true,and_self,Bool.not_true,Bool.not_false,Nat.zero_add,Option.bind_some,Option.bind_eq_bind,Option.pure_def,decide_true,decide_false,eq_self,Nat.reduceEqDiff,Nat.reduceLT,Nat.reduceLeDiff,Int.reduceLT,Int.reduceLE,Int.reduceEq,Bool.and_true,Bool.true_and,Bool.false_and,Bool.or_false,Bool.or_true,Bool.true_or,Bool.false_or,sz0,szl0,sz1,szl1,sz2,szl2,sz3,szl3,sz4,szl4,sz5,szl5,sz6,szl6,sz7,szl7,sz8,szl8,sz9,szl9,sz10,szl10,sz11,szl11,sz12,szl12,sz13,szl13,sz14,szl14,sz15,szl15,wipeE,eqB,isKp,decide_eq_false ne_kp1],fun e=>by simp only [isKp,decide_eq_false ne_kp1] at e; cases e⟩
   | kept t n p v=>exact ⟨_,rfl,by simp only [fnM,sSeq,sRet,sRetN,sExpr,sIf,sNil,sNo,sAsg,tgN,bndS,bnd,vVar,vC,f2,f1,fB,pu,fN,vTup,vLst,fTup,fCons,fNil,fPure,fIf,fAnd,fOr,fNot,asB,asT,bAnd,bOr,bNot,fChain,fCall,fCW,gPos,gApp,R.of,R.of2,fM,pu4,tgT,tgCons,tgNil,unp,pureL,sPar,sPar3,fLstC,fFld,oFld,fMeth,insU,sFldS,setFld,fSl,oNone,oSome,tgSub,setU,fIter,fItN,fItS,sFor,getL,getT,VL.getD,keyD,tyB,lstC,oAdd,oSub,oMul,oFdiv,oMod,oPow,oNeg,oLt,oLe,oGt,oGe,oEq,oNe,oIsN,oNotN,oIn,oNotIn,oIx,oLen,oInt,oAbs,oMin,oMax,oStr,oList,oListC,oTuple,oAll,oAny,itemsU,lenN,truB,fJs,oFmt,List.map_cons,List.map_nil,List.length_cons,List.length_nil,List.replicate_succ,List.replicate_zero,List.cons_append,List.nil_append,List.append_nil,List.getElem?_cons_zero,List.getElem?_cons_succ,List.set_cons_zero,List.set_cons_succ,Nat.reduceAdd,Nat.reduceSub,Option.map_some,Option.map_none,if_true,if_false,ite_true,ite_false,Bool.false_eq_true,reduceCtorEq,true_and,and_true,and_self,Bool.not_true,Bool.not_false,Nat.zero_add,Option.bind_some,Option.bind_eq_bind,Option.pure_def,decide_true,decide_false,eq_self,Nat.reduceEqDiff,Nat.reduceLT,Nat.reduceLeDiff,Int.reduceLT,Int.reduceLE,Int.reduceEq,Bool.and_true,Bool.true_and,Bool.false_and,Bool.or_false,Bool.or_true,Bool.true_or,Bool.false_or,sz0,szl0,sz1,szl1,sz2,szl2,sz3,szl3,sz4,szl4,sz5,szl5,sz6,szl6,sz7,szl7,sz8,szl8,sz9,szl9,sz10,szl10,sz11,szl11,sz12,szl12,sz13,szl13,sz14,szl14,sz15,szl15,wipeE,eqB,isKp],fun e=>by simp only [fnM,sSeq,sRet,sRetN,sExpr,sIf,sNil,sNo,sAsg,tgN,bndS,bnd,vVar,vC,f2,f1,fB,pu,fN,vTup,vLst,fTup,fCons,fNil,fPure,fIf,fAnd,fOr,fNot,asB,asT,bAnd,bOr,bNot,fChain,fCall,fCW,gPos,gApp,R.of,R.of2,fM,pu4,tgT,tgCons,tgNil,unp,pureL,sPar,sPar3,fLstC,fFld,oFld,fMeth,insU,sFldS,setFld,fSl,oNone,oSome,tgSub,setU,fIter,fItN,fItS,sFor,getL,getT,VL.getD,keyD,tyB,lstC,oAdd,oSub,oMul,oFdiv,oMod,oPow,oNeg,oLt,oLe,oGt,oGe,oEq,oNe,oIsN,oNotN,oIn,oNotIn,oIx,oLen,oInt,oAbs,oMin,oMax,oStr,oList,oListC,oTuple,oAll,oAny,itemsU,lenN,truB,fJs,oFmt,List.map_cons,List.map_nil,List.length_cons,List.length_nil,List.replicate_succ,List.replicate_zero,List.cons_append,List.nil_append,List.append_nil,List.getElem?_cons_zero,List.getElem?_cons_succ,List.set_cons_zero,List.set_cons_succ,Nat.reduceAdd,Nat.reduceSub,Option.map_some,Option.map_none,if_true,if_false,ite_true,ite_false,Bool.false_eq_true,reduceCtorEq,true_and,and_true,and_self,Bool.not_true,Bool.not_false,Nat.zero_add,Option.bind_some,Option.bind_eq_bind,Option.pure_def,decide_true,decide_false,eq_self,Nat.reduceEqDiff,Nat.reduceLT,Nat.reduceLeDiff,Int.reduceLT,Int.reduceLE,Int.reduceEq,Bool.and_true,Bool.true_and,Bool.false_and,Bool.or_false,Bool.or_true,Bool.true_or,Bool.false_or,sz0,szl0,sz1,szl1,sz2,szl2,sz3,szl3,sz4,szl4,sz5,szl5,sz6,szl6,sz7,szl7,sz8,szl8,sz9,szl9,sz10,szl10,sz11,szl11,sz12,szl12,sz13,szl13,sz14,szl14,sz15,szl15,wipeE,thingP]⟩
   | head t n=>exact ⟨_,rfl,by simp only [fnM,sSeq,sRet,sRetN,sExpr,sIf,sNil,sNo,sAsg,tgN,bndS,bnd,vVar,vC,f2,f1,fB,pu,fN,vTup,vLst,fTup,fCons,fNil,fPure,fIf,fAnd,fOr,fNot,asB,asT,bAnd,bOr,bNot,fChain,fCall,fCW,gPos,gApp,R.of,R.of2,fM,pu4,tgT,tgCons,tgNil,unp,pureL,sPar,sPar3,fLstC,fFld,oFld,fMeth,insU,sFldS,setFld,fSl,oNone,oSome,tgSub,setU,fIter,fItN,fItS,sFor,getL,getT,VL.getD,keyD,tyB,lstC,oAdd,oSub,oMul,oFdiv,oMod,oPow,oNeg,oLt,oLe,oGt,oGe,oEq,oNe,oIsN,oNotN,oIn,oNotIn,oIx,oLen,oInt,oAbs,oMin,oMax,oStr,oList,oListC,oTuple,oAll,oAny,itemsU,lenN,truB,fJs,oFmt,List.map_cons,List.map_nil,List.length_cons,List.length_nil,List.replicate_succ,List.replicate_zero,List.cons_append,List.nil_append,List.append_nil,List.getElem?_cons_zero,List.getElem?_cons_succ,List.set_cons_zero,List.set_cons_succ,Nat.reduceAdd,Nat.reduceSub,Option.map_some,Option.map_none,if_true,if_false,ite_true,ite_false,Bool.false_eq_true,reduceCtorEq,true_and,and_true,and_self,Bool.not_true,Bool.not_false,Nat.zero_add,Option.bind_some,Option.bind_eq_bind,Option.pure_def,decide_true,decide_false,eq_self,Nat.reduceEqDiff,Nat.reduceLT,Nat.reduceLeDiff,Int.reduceLT,Int.reduceLE,Int.reduceEq,Bool.and_true,Bool.true_and,Bool.false_and,Bool.or_false,Bool.or_true,Bool.true_or,Bool.false_or,sz0,szl0,sz1,szl1,sz2,szl2,sz3,szl3,sz4,szl4,sz5,szl5,sz6,szl6,sz7,szl7,sz8,szl8,sz9,szl9,sz10,szl10,sz11,szl11,sz12,szl12,sz13,szl13,sz14,szl14,sz15,szl15,wipeE,eqB,isKp,decide_eq_false ne_k1],fun e=>by simp only [isKp,decide_eq_false ne_k1] at e; cases e⟩
   | set t p v=>exact ⟨_,rfl,by simp only [fnM,sSeq,sRet,sRetN,sExpr,sIf,sNil,sNo,sAsg,tgN,bndS,bnd,vVar,vC,f2,f1,fB,pu,fN,vTup,vLst,fTup,fCons,fNil,fPure,fIf,fAnd,fOr,fNot,asB,asT,bAnd,bOr,bNot,fChain,fCall,fCW,gPos,gApp,R.of,R.of2,fM,pu4,tgT,tgCons,tgNil,unp,pureL,sPar,sPar3,fLstC,fFld,oFld,fMeth,insU,sFldS,setFld,fSl,oNone,oSome,tgSub,setU,fIter,fItN,fItS,sFor,getL,getT,VL.getD,keyD,tyB,lstC,oAdd,oSub,oMul,oFdiv,oMod,oPow,oNeg,oLt,oLe,oGt,oGe,oEq,oNe,oIsN,oNotN,oIn,oNotIn,oIx,oLen,oInt,oAbs,oMin,oMax,oStr,oList,oListC,oTuple,oAll,oAny,itemsU,lenN,truB,fJs,oFmt,List.map_cons,List.map_nil,List.length_cons,List.length_nil,List.replicate_succ,List.replicate_zero,List.cons_append,List.nil_append,List.append_nil,List.getElem?_cons_zero,List.getElem?_cons_succ,List.set_cons_zero,List.set_cons_succ,Nat.reduceAdd,Nat.reduceSub,Option.map_some,Option.map_none,if_true,if_false,ite_true,ite_false,Bool.false_eq_true,reduceCtorEq,true_and,and_true,and_self,Bool.not_true,Bool.not_false,Nat.zero_add,Option.bind_some,Option.bind_eq_bind,Option.pure_def,decide_true,decide_false,eq_self,Nat.reduceEqDiff,Nat.reduceLT,Nat.reduceLeDiff,Int.reduceLT,Int.reduceLE,Int.reduceEq,Bool.and_true,Bool.true_and,Bool.false_and,Bool.or_false,Bool.or_true,Bool.true_or,Bool.false_or,sz0,szl0,sz1,szl1,sz2,szl2,sz3,szl3,sz4,szl4,sz5,szl5,sz6,szl6,sz7,szl7,sz8,szl8,sz9,szl9,sz10,szl10,sz11,szl11,sz12,szl12,sz13,szl13,sz14,szl14,sz15,szl15,wipeE,eqB,isKp,decide_eq_false ne_k2],fun e=>by simp only [isKp,decide_eq_false ne_k2] at e; cases e⟩
 exact fnL (us:=[.d (FL a s ls ds dd)]) (n:=4) (g:=g_SettingsFile_kept K a) h rfl (retA e)
theorem ev_fvalue {ss : List (Str × Str)} (h : WF st) {p v : Str} (hp : p.length ≤ sizeLine) (q : isPlace p = true) (hf : (ss.find? fun q=>decide (q.1 = p)) = some (p,v)) : m_SettingsFile_value K a [.d (FL a s ls ds (kvD ss)),.d (.str p)] st = .ok (.d (.str v)) st:=by
 have e:=inDct_kv (st:=st) (ss:=ss) (p:=p)
 have hh : hasP ss p = true:=by unfold hasP; rw [hf]; rfl
 have l:=lookK_kv ss p
 rw [hf] at l
 have hx : oIx (.d (.dct (kvD ss))) (.d (.str p)) st = some (.d (.str v)):=by
  unfold oIx
  rw [show VL.getD st (.d (.dct (kvD ss))) = some ((kvD ss).map fun kv=>(kv.1,U.d kv.2)) from rfl]
  simp only [keyD,l]
  rfl
 rw [hh] at e
 have hx' : f2 oIx (fFld [a.C_SettingsFile] "settings_read" (vVar 0)) (vVar 1) [some (.d (fileD a s (partsL .non 0 ls) ds (kvD ss))),some (.d (.str p))] st = .ok (.d (.str v)) st:=by
  rw [f2_ok (x:=.d (.dct (kvD ss))) (y:=.d (.str p)) (st1:=st) (st2:=st) (by unfold fileD; simp_all? only [List.mem_cons,List.not_mem_nil,or_false,lu_read]) rfl,hx]
  rfl
 have hc : sIf (bOr (bNot (asT (fCall 1 0 gPos (m_is_place K a) (fCW (fCons (vVar 1) fNil) fNil)))) (asB (f2 oNotInD (vVar 1) (fFld [a.C_SettingsFile] "settings_read" (vVar 0))))) sNo sNil [some (.d (fileD a s (partsL .non 0 ls) ds (kvD ss))),some (.d (.str p))] st = .ok [some (.d (fileD a s (partsL .non 0 ls) ds (kvD ss))),some (.d (.str p))] .nx st:=by
  unfold fileD
  simp_all? only [ev_place h p hp,q,List.mem_cons,List.not_mem_nil,or_false,lu_read,oNotInD,e]
 unfold m_SettingsFile_value g_SettingsFile_value FL
 simp only [fnM,sSeq,List.map_cons,List.map_nil,List.length_cons,List.length_nil,Nat.reduceAdd,Nat.reduceSub,List.replicate_zero,List.append_nil,hc,sRet,bndS,hx',wFrz_d h]
theorem ev_flines (h : WF st) (hs : s.length + 2 ≤ sizeLine) : m_SettingsFile_lines K a [.d (FL a s ls ds dd)] st = .ok (.d (.lst (sD (linesOf s)))) st:=by
 have e:=ev_lines_of (K:=K) (a:=a) h s hs
 unfold m_SettingsFile_lines g_SettingsFile_lines FL fileD
 simp_all? only [List.mem_cons,List.not_mem_nil,or_false,lu_whole,e,wFrz_d h]
 rfl
theorem ev_fblock (h : WF st) (nm : Str) {r : List D} (e : blockL nm .non [] ls = some r) (hl : ls.length < sizeLine) :
  m_SettingsFile_block K a [.d (FL a s ls ds dd),.d (.str nm)] st = .ok (.d (.lst r)) st:=by
 obtain ⟨env',st',n',e1,e2,e3,e4⟩:=ev_bloop (K:=K) (a:=a) (F:=FL a s ls ds dd) (k0:=st.length) ls .non 0 [] r st.length none none none (st ++ [.lst []]) new_at (Nat.le_refl _) (by simpa using hl) e
 unfold m_SettingsFile_block g_SettingsFile_block
 unfold FL fileD at e1 ⊢
 simp_all? only [oIsi,tyN,isi_str,itV,List.mem_cons,List.not_mem_nil,or_false,lu_all,e1]
 exact wFrz_of h e2 e3 fun m hm=>by rw [e4 m hm,List.getElem?_append_left hm]
theorem ev_ftail (h : WF st) (hl : ls.length < sizeLine) :
  m_SettingsFile_tail K a [.d (FL a s ls ds dd)] st = .ok (.d (.lst (tailL [] ls))) st:=by
 obtain ⟨y3,y4,y5,st',n',e1,e2,e3,e4⟩:=ev_tloop (K:=K) (a:=a) (F:=FL a s ls ds dd) (k0:=st.length) ls .non 0 [] st.length none none none (st ++ [.lst []]) new_at (Nat.le_refl _) (by simpa using hl)
 unfold m_SettingsFile_tail g_SettingsFile_tail
 unfold FL fileD at e1 ⊢
 simp_all? only [itV,List.mem_cons,List.not_mem_nil,or_false,lu_all,e1]
 exact wFrz_of h e2 e3 fun m hm=>by rw [e4 m hm,List.getElem?_append_left hm]
theorem rowsD_sets : ∀ (ls : List Ln) (s : D) (k : Nat),rowsD ("place" : Str) (partsL s k ls) = some ((setsL s ls).map pairD2)
 | [],_,_=>rfl
 | .rem x :: ls,s,k=>by
  show (rowsD _ (partsL s (k + 1) ls)).map (fun zs=>if ("remark" : Str) = ("place" : Str) then D.str x :: zs else zs) = _
  rw [rowsD_sets ls s (k + 1),Option.map_some,if_neg ne_pl1]
  rfl
 | .kept x n p v :: ls,s,k=>by
  show (rowsD _ (partsL s (k + 1) ls)).map (fun zs=>if ("kept" : Str) = ("place" : Str) then D.tup [.int n,.str p,v] :: zs else zs) = _
  rw [rowsD_sets ls s (k + 1),Option.map_some,if_neg ne_pl2]
  rfl
 | .head n :: ls,s,k=>by
  show (rowsD _ (partsL (.str n) (k + 1) ls)).map (fun zs=>if ("section" : Str) = ("place" : Str) then D.str n :: zs else zs) = _
  rw [rowsD_sets ls (.str n) (k + 1),Option.map_some,if_neg ne_pl3]
  rfl
 | .set x v :: ls,s,k=>by
  show (rowsD _ (partsL s (k + 1) ls)).map (fun zs=>if ("place" : Str) = ("place" : Str) then D.tup [.str (pl s x),.str v] :: zs else zs) = _
  rw [rowsD_sets ls s (k + 1),Option.map_some,if_pos rfl]
  rfl
theorem q_pairs : q_SettingsFile_pairs a (.d (FL a s ls ds dd)) = some ((setsL .non ls).map pairD2):=by
 rw [← rowsD_sets ls .non 0]
 exact (if_pos rfl : (if a.C_SettingsFile = a.C_SettingsFile then rowsD ("place" : Str) (partsL .non 0 ls) else none) = _)
theorem ev_c3 (h : WF st) (hl : ls.length ≤ 200) {x0 x1 x2 x3 x4 x6 x7 x8 : Option U} : c_law_3 K a [x0,x1,x2,x3,x4,some (.d (FL a s ls ds dd)),x6,x7,x8] st = .ok (.d (.lst (sD ((setsL .non ls).map fun p=>p.1)))) st:=by
 have sl : ∀ (ls : List Ln) (s : D),(setsL s ls).length ≤ ls.length:=fun ls=>by
  induction ls with
  | nil=>intro s; exact Nat.le_refl _
  | cons l ls ih=>intro s; cases l with
   | rem x=>exact Nat.le_succ_of_le (ih s)
   | kept x n p v=>exact Nat.le_succ_of_le (ih s)
   | head n=>exact Nat.le_succ_of_le (ih _)
   | set k v=>exact Nat.succ_le_succ (ih s)
 have:=lcL_pure (st:=st) (env0:=wipeE [x0,x1,x2,x3,x4,some (.d (FL a s ls ds dd)),x6,x7,x8] [7,8]) (tg:=tgT 2 (tgCons (tgN 7) (tgCons (tgN 8) tgNil))) (tt:=tYesB) (fe:=vVar 7) (fun _=>true) (fun u=>match u with
   | .d (.tup (x :: _))=>x
   | _=>.non) rfl h (((setsL .non ls).map pairD2).map U.d) [] (by rw [List.length_map,List.length_map]; exact Nat.le_trans (Nat.le_trans (by simpa using sl ls .non) hl) (by decide)) fun u hu st' h'=>by
  obtain ⟨d,hd,rfl⟩:=List.mem_map.mp hu
  obtain ⟨p,hp,rfl⟩:=List.mem_map.mp hd
  exact ⟨_,rfl,rfl,fun _=>rfl⟩
 have hi : ∀ s0 : Store,insU s0 (.d (FL a s ls ds dd)) = some (a.C_SettingsFile,[(("whole" : Str),U.d (.str s)),(("all_parts" : Str),.d (.lst (partsL .non 0 ls))),(("parts" : Str),.d (.lst ds)),(("settings_read" : Str),.d (.dct dd))]):=fun _=>rfl
 unfold c_law_3 fLcG bnd
 simp only [vVar,List.getElem?_cons_zero,List.getElem?_cons_succ,hi,lu_pairs,and_self,if_true,q_pairs]
 rw [show ([] : List D).map U.d = [] from rfl] at this
 rw [this]
 unfold lcEnd
 simp only [List.getElem?_append_right (Nat.le_refl _),Nat.sub_self,List.getElem?_cons_zero,List.nil_append,pureL_map,h.cutA]
 rw [List.filter_eq_self.mpr (fun _ _=>rfl),List.map_map,List.map_map]
 unfold sD
 rw [List.map_map]
 rfl
end
end
theorem spl_t : ∀ h ∈ HEADS,∀ k ∈ KEYS,Txt.split (h ++ ("." : Str) ++ k) "." = [h,k] ∧ (h ++ ("." : Str) ++ k).length + 2 ≤ sizeLine:=by decide +kernel
theorem dot_t : ∀ h ∈ HEADS,∀ h' ∈ HEADS,∀ k ∈ KEYS,Txt.startswith (h' ++ ("." : Str) ++ k) (h ++ ("." : Str)) = decide (h' = h):=by decide +kernel
theorem hdot_t : ∀ h ∈ HEADS,h.length + ("." : Str).length ≤ sizeLine:=by decide +kernel
theorem plain_set {k v : Str} (hk : k ∈ KEYS) (hv : v ∈ WORTHS) : k.length + (" = " : Str).length ≤ sizeLine ∧ (k ++ (" = " : Str)).length + v.length ≤ sizeLine:=by
 have:=set_t k hk v hv
 unfold setB at this
 simp only [Bool.and_eq_true,decide_eq_true_eq] at this
 exact this.2.2.2.2.2.2.2.2
theorem plain_head {h : Str} (hh : h ∈ HEADS) : ("[" : Str).length + h.length ≤ sizeLine ∧ (("[" : Str) ++ h).length + ("]" : Str).length ≤ sizeLine:=by
 have:=head_t h hh
 unfold headB at this
 simp only [Bool.and_eq_true,decide_eq_true_eq] at this
 exact this.2.2.2.2.2
theorem flat_le {α β γ : Type} {f : α → List β} {g : α → List γ} : ∀ (l : List α),(∀ x ∈ l,(f x).length ≤ (g x).length) → (l.flatMap f).length ≤ (l.flatMap g).length
 | [],_=>Nat.le_refl _
 | x :: l,h=>by
  rw [List.flatMap_cons,List.flatMap_cons,List.length_append,List.length_append]
  exact Nat.add_le_add (h x (List.mem_cons_self ..)) (flat_le l fun y hy=>h y (List.mem_cons_of_mem _ hy))
theorem rem_le : ∀ (b : List Ln),(remT b).length ≤ b.length
 | []=>Nat.le_refl _
 | .rem x :: b=>Nat.succ_le_succ (rem_le b)
 | .kept _ _ _ _ :: b=>Nat.le_succ_of_le (rem_le b)
 | .head _ :: b=>Nat.le_succ_of_le (rem_le b)
 | .set _ _ :: b=>Nat.le_succ_of_le (rem_le b)
theorem tgK_le (y : Ky) : (tgK y).length ≤ (flK y).length:=by
 unfold tgK flK
 rw [List.length_append,List.length_append]
 exact Nat.add_le_add (rem_le y.b) (Nat.le_refl _)
theorem tgS_le (s : Sc) : (tgS s).length ≤ (flS s).length:=by
 unfold tgS flS
 simp only [List.length_append,List.length_cons,List.length_nil]
 have:=flat_le (f:=tgK) (g:=flK) s.ks fun y _=>tgK_le y
 have:=rem_le s.b
 omega
theorem addD (s0 : Store) {xs ys : List Str} (h : xs.length + ys.length ≤ 300) : oAdd (.d (.lst (sD xs))) (.d (.lst (sD ys))) s0 = some (.d (.lst (sD (xs ++ ys)))):=by
 show (if (sD xs).length + (sD ys).length ≤ sizeLine then some (U.d (.lst (sD xs ++ sD ys))) else none) = _
 rw [if_pos (by rw [sDlen,sDlen]; exact szb h)]
 unfold sD
 rw [List.map_append]
/-- a drawn file -/
structure Fi (ls : List Ln) (SS : List Sc) (t : List Ln) : Prop where
 f : Flat ls SS t
 lg : ∀ l ∈ ls,Lg l
 nd : (nms .non ls).Nodup
 st : SetsOk (setsL .non ls)
 len : ls.length ≤ 60
 vd : Vd .non [] ls
section
variable {s : Str} {ls t : List Ln} {SS : List Sc} {ds : List D}
theorem Fi.part (F : Fi ls SS t) {dn td : List Sc} (e : SS = dn ++ td) : ls = dn.flatMap flS ++ (td.flatMap flS ++ t):=by
 rw [F.f.eq,e,List.flatMap_append,List.append_assoc]
theorem Fi.sc (F : Fi ls SS t) {c : Sc} (hc : c ∈ SS) : c.h ∈ HEADS ∧ ∀ y ∈ c.ks,y.k ∈ KEYS ∧ y.v ∈ WORTHS:=by
 have hm : ∀ l ∈ flS c,Lg l:=fun l hl=>F.lg l (by rw [F.f.eq]; exact List.mem_append_left _ (List.mem_flatMap.mpr ⟨c,hc,hl⟩))
 unfold flS at hm
 refine ⟨?_,fun y hy=>?_⟩
 ·cases hm _ (List.mem_append_right _ (List.mem_cons_self ..)) with
  | head h=>exact h
  | kp h h'=>rcases h' with h' | h' <;> cases h'
 ·have : Lg (.set y.k y.v):=hm _ (List.mem_append_right _ (List.mem_cons_of_mem _ (List.mem_flatMap.mpr ⟨y,hy,List.mem_append_right _ (List.mem_singleton.mpr rfl)⟩)))
  cases this with
  | set h h'=>exact ⟨h,h'⟩
  | kp h h'=>rcases h' with h' | h' <;> cases h'
theorem Fi.names (F : Fi ls SS t) : headsL ls = SS.map (fun s=>s.h) ∧ setsL .non ls = SS.flatMap scS:=by
 obtain ⟨q1,q2⟩:=fl_names SS .non F.f.bs
 have:=F.f.eq
 subst this
 refine ⟨?_,?_⟩
 ·rw [headsL_app,q1,b_heads _ F.f.bt,List.append_nil]
 ·rw [setsL_app,q2,b_sets _ _ F.f.bt,List.append_nil]
theorem Fi.heads (F : Fi ls SS t) : (SS.map fun s=>s.h).Nodup:=by
 rw [← F.names.1]
 exact (List.nodup_append.mp ((nms_perm ls .non).nodup_iff.mp F.nd)).1
theorem Fi.blkH (F : Fi ls SS t) {dn td : List Sc} {c : Sc} (e : SS = dn ++ c :: td) : blockL c.h .non [] ls = some (sD (remT c.b)):=by
 have hc : c ∈ SS:=by rw [e]; exact List.mem_append_right _ (List.mem_cons_self ..)
 have h : ls = dn.flatMap flS ++ (c.b ++ .head c.h :: (c.ks.flatMap flK ++ (td.flatMap flS ++ t))):=by
  rw [F.part e,List.flatMap_cons]
  unfold flS
  rw [List.append_assoc,List.append_assoc,List.cons_append]
 have hn:=F.nd
 rw [h] at hn ⊢
 exact blk_at hn (F.f.bs c hc).1 (fl_tail dn) (.inl rfl)
theorem Fi.blkK (F : Fi ls SS t) {dn td : List Sc} {c : Sc} (e : SS = dn ++ c :: td) {k1 k2 : List Ky} {y : Ky} (ek : c.ks = k1 ++ y :: k2) : blockL (c.h ++ ("." : Str) ++ y.k) .non [] ls = some (sD (remT y.b)):=by
 have hc : c ∈ SS:=by rw [e]; exact List.mem_append_right _ (List.mem_cons_self ..)
 have hy : y ∈ c.ks:=by rw [ek]; exact List.mem_append_right _ (List.mem_cons_self ..)
 have hk:=(F.f.bs c hc).2
 have h : ls = (dn.flatMap flS ++ (c.b ++ .head c.h :: k1.flatMap flK)) ++ (y.b ++ .set y.k y.v :: (k2.flatMap flK ++ (td.flatMap flS ++ t))):=by
  rw [F.part e,List.flatMap_cons]
  unfold flS
  rw [ek,List.flatMap_append,List.flatMap_cons]
  unfold flK
  simp only [List.append_assoc,List.cons_append,List.nil_append]
 have hn:=F.nd
 rw [h] at hn ⊢
 refine blk_at hn (hk y hy) ?_ (.inr ⟨y.k,y.v,rfl,?_⟩)
 ·rw [tail_app,tail_app]
  exact ks_tail k1
 ·rw [secL_app,secL_app]
  show pl (secL (.str c.h) (k1.flatMap flK)) y.k = _
  rw [(ks_sec k1 (.str c.h) fun z hz=>hk z (by rw [ek]; exact List.mem_append_left _ hz)).1]
  rfl
theorem Fi.tail (F : Fi ls SS t) : tailL [] ls = sD (remT t):=by
 have:=F.f.eq
 subst this
 rw [tail_app,fl_tail,b_tail _ _ F.f.bt,List.nil_append]
noncomputable def spots (c : Sc) : List Str:=c.ks.map fun y=>c.h ++ ("." : Str) ++ y.k
theorem Fi.places (F : Fi ls SS t) : (setsL .non ls).map (fun p=>p.1) = SS.flatMap spots:=by
 rw [F.names.2,List.map_flatMap]
 congr 1
 funext c
 unfold scS spots
 rw [List.map_map]
 rfl
theorem fil_none (h : Str) (hh : h ∈ HEADS) : ∀ (SS : List Sc),(∀ c ∈ SS,c.h ∈ HEADS ∧ ∀ y ∈ c.ks,y.k ∈ KEYS ∧ y.v ∈ WORTHS) → (∀ c ∈ SS,c.h ≠ h) → (SS.flatMap spots).filter (fun p=>Txt.startswith p (h ++ ("." : Str))) = []
 | SS,hS,hn=>by
  rw [List.filter_eq_nil_iff]
  intro p hp
  obtain ⟨c,hc,hp⟩:=List.mem_flatMap.mp hp
  obtain ⟨y,hy,rfl⟩:=List.mem_map.mp hp
  rw [dot_t h hh c.h (hS c hc).1 y.k ((hS c hc).2 y hy).1,decide_eq_false (hn c hc)]
  exact Bool.false_ne_true
theorem Fi.own (F : Fi ls SS t) {dn td : List Sc} {c : Sc} (e : SS = dn ++ c :: td) : ((setsL .non ls).map (fun p=>p.1)).filter (fun p=>Txt.startswith p (c.h ++ ("." : Str))) = spots c:=by
 have hc : c ∈ SS:=by rw [e]; exact List.mem_append_right _ (List.mem_cons_self ..)
 have hh:=(F.sc hc).1
 have nd:=F.heads
 rw [e,List.map_append,List.map_cons,List.nodup_append] at nd
 obtain ⟨-,n2,n3⟩:=nd
 rw [F.places,e,List.flatMap_append,List.flatMap_cons,List.filter_append,List.filter_append,fil_none c.h hh dn (fun z hz=>F.sc (by rw [e]; exact List.mem_append_left _ hz)) (fun z hz q=>n3 z.h (List.mem_map.mpr ⟨z,hz,rfl⟩) c.h (List.mem_cons_self ..) q),fil_none c.h hh td (fun z hz=>F.sc (by rw [e]; exact List.mem_append_right _ (List.mem_cons_of_mem _ hz))) (fun z hz q=>(List.nodup_cons.mp n2).1 (by rw [← q]; exact List.mem_map.mpr ⟨z,hz,rfl⟩)),List.nil_append,List.append_nil,List.filter_eq_self]
 intro p hp
 obtain ⟨y,hy,rfl⟩:=List.mem_map.mp hp
 rw [dot_t c.h hh c.h hh y.k ((F.sc hc).2 y hy).1,decide_eq_true rfl]
noncomputable abbrev FV (a : Ad) (s : Str) (ls : List Ln) (ds : List D) : D:=FL a s ls ds (kvD (setsL .non ls))
theorem insF (s0 : Store) : insU s0 (.d (FV a s ls ds)) = some (a.C_SettingsFile,[(("whole" : Str),U.d (.str s)),(("all_parts" : Str),.d (.lst (partsL .non 0 ls))),(("parts" : Str),.d (.lst ds)),(("settings_read" : Str),.d (.dct (kvD (setsL .non ls))))]):=rfl
theorem ev_t1 (w : WF st) (F : Fi ls SS t) {dn td : List Sc} {c : Sc} (e : SS = dn ++ c :: td) {k1 k2 : List Ky} {y : Ky} (ek : c.ks = k1 ++ y :: k2) {L : List Str} (hL : L.length ≤ 150) {x2 x3 x5 x6 : Option U} :
  ∃ y6,b_L_law_together_1 K a [some (.d (FV a s ls ds)),some (.d (.lst (sD L))),x2,x3,some (.d (.str (c.h ++ ("." : Str) ++ y.k))),x5,x6] st = .ok [some (.d (FV a s ls ds)),some (.d (.lst (sD (L ++ tgK y)))),x2,x3,some (.d (.str (c.h ++ ("." : Str) ++ y.k))),x5,y6] .nx st:=by
 have hc : c ∈ SS:=by rw [e]; exact List.mem_append_right _ (List.mem_cons_self ..)
 have hy : y ∈ c.ks:=by rw [ek]; exact List.mem_append_right _ (List.mem_cons_self ..)
 obtain ⟨hh,hks⟩:=F.sc hc
 obtain ⟨hk,hv⟩:=hks y hy
 obtain ⟨t1,t2⟩:=spl_t c.h hh y.k hk
 have hll : ls.length < sizeLine:=Nat.lt_of_le_of_lt F.len (by decide)
 have e1:=ev_fblock (K:=K) (a:=a) (s:=s) (ls:=ls) (ds:=ds) (dd:=kvD (setsL .non ls)) w (c.h ++ ("." : Str) ++ y.k) (F.blkK e ek) hll
 have hm : (c.h ++ ("." : Str) ++ y.k,y.v) ∈ setsL .non ls:=by
  rw [F.names.2]
  exact List.mem_flatMap.mpr ⟨c,hc,List.mem_map.mpr ⟨y,hy,rfl⟩⟩
 have e2:=ev_fvalue (K:=K) (a:=a) (s:=s) (ls:=ls) (ds:=ds) (ss:=setsL .non ls) w (F.st.ln _ hm) (F.st.pl _ hm) (v:=y.v) (find_nd F.st.nd _ hm)
 obtain ⟨z1,z2⟩:=plain_set hk hv
 have o1 : oAdd (.d (.str y.k)) (.d (.str " = ")) st = some (.d (.str (y.k ++ (" = " : Str)))):=if_pos z1
 have o2 : oAdd (.d (.str (y.k ++ (" = " : Str)))) (.d (.str y.v)) st = some (.d (.str (y.k ++ (" = " : Str) ++ y.v))):=if_pos z2
 have hr : (remT y.b).length ≤ 60:=by
  refine Nat.le_trans (rem_le y.b) (Nat.le_trans ?_ F.len)
  have q1 : (flS c).length ≤ ls.length:=by rw [F.part e,List.flatMap_cons]; simp only [List.length_append]; omega
  have q2 : y.b.length ≤ (flS c).length:=by unfold flS; rw [ek,List.flatMap_append,List.flatMap_cons]; unfold flK; simp only [List.length_append,List.length_cons]; omega
  omega
 refine ⟨some (.d (.str y.k)),?_⟩
 have hsp : mSplit (.d (.str (c.h ++ ("." : Str) ++ y.k))) [.d (.str ".")] st = some (.d (.lst [.str c.h,.str y.k])):=by
  show (if _ then some (U.d (.lst ((Txt.split (c.h ++ ("." : Str) ++ y.k) ".").map D.str))) else none) = _
  rw [if_pos ⟨by decide +kernel,t2⟩,t1]
  rfl
 unfold b_L_law_together_1
 refine seqA (f2A (strM rfl (cons1 rfl) hsp) rfl (at_1 (U.d (.str c.h)) (U.d (.str y.k)) [])) (asgA (f2A (f2A rfl (methA rfl (insF st) (lu_block _ _ _ _) (cons1 rfl) rfl e1) (addD st (by omega))) (lstDA (ds:=[.str (y.k ++ (" = " : Str) ++ y.v)]) (cons1 (f2A (f2A rfl rfl o1) (methA rfl (insF st) (lu_value _ _ _ _) (cons1 rfl) rfl e2) o2)) (by show 1 ≤ sizeLine; decide)) ((addD st (ys:=[y.k ++ (" = " : Str) ++ y.v]) (by rw [List.length_append,List.length_singleton]; omega)).trans ?_)))
 rw [List.append_assoc]
 rfl
theorem ev_t1s (w : WF st) (F : Fi ls SS t) {dn td : List Sc} {c : Sc} (e : SS = dn ++ c :: td) {x2 x3 x5 : Option U} : ∀ (k2 k1 : List Ky) (L : List Str) (x4 x6 : Option U),c.ks = k1 ++ k2 → L.length + (k2.flatMap tgK).length ≤ 150 →
  ∃ y4 y6,loopL (tgN 4) (b_L_law_together_1 K a) ((sD (k2.map fun y=>c.h ++ ("." : Str) ++ y.k)).map U.d) [some (.d (FV a s ls ds)),some (.d (.lst (sD L))),x2,x3,x4,x5,x6] st = .ok [some (.d (FV a s ls ds)),some (.d (.lst (sD (L ++ k2.flatMap tgK)))),x2,x3,y4,x5,y6] .nx st
 | [],k1,L,x4,x6,_,_=>⟨x4,x6,by rw [List.flatMap_nil,List.append_nil]; rfl⟩
 | y :: k2,k1,L,x4,x6,ek,hl=>by
  rw [List.flatMap_cons,List.length_append] at hl
  obtain ⟨z6,e1⟩:=ev_t1 (K:=K) (a:=a) (s:=s) (ds:=ds) w F e ek (L:=L) (by omega) (x2:=x2) (x3:=x3) (x5:=x5) (x6:=x6)
  obtain ⟨y4,y6,e2⟩:=ev_t1s w F e k2 (k1 ++ [y]) (L ++ tgK y) (some (.d (.str (c.h ++ ("." : Str) ++ y.k)))) z6 (by rw [ek,List.append_assoc]; rfl) (by rw [List.length_append]; omega) (x2:=x2) (x3:=x3) (x5:=x5)
  refine ⟨y4,y6,loopN e1 ?_⟩
  rw [List.flatMap_cons,← List.append_assoc]
  exact e2
theorem ev_c1 (w : WF st) (F : Fi ls SS t) {dn td : List Sc} {c : Sc} (e : SS = dn ++ c :: td) {x0 x1 x4 x5 x6 : Option U} : c_L_law_together_1 K a [x0,x1,some (.d (.lst (sD ((setsL .non ls).map fun p=>p.1)))),some (.d (.str c.h)),x4,x5,x6] st = .ok (.d (.lst (sD (spots c)))) st:=by
 have hc : c ∈ SS:=by rw [e]; exact List.mem_append_right _ (List.mem_cons_self ..)
 have hz:=hdot_t c.h (F.sc hc).1
 have hlen : (setsL .non ls).length ≤ sizeLine:=by
  have sl : ∀ (ls : List Ln) (s : D),(setsL s ls).length ≤ ls.length:=fun ls=>by
   induction ls with
   | nil=>intro s; exact Nat.le_refl _
   | cons l ls ih=>intro s; cases l with
    | rem x=>exact Nat.le_succ_of_le (ih s)
    | kept x n p v=>exact Nat.le_succ_of_le (ih s)
    | head n=>exact Nat.le_succ_of_le (ih _)
    | set k v=>exact Nat.succ_le_succ (ih s)
  exact Nat.le_trans (sl ls .non) (Nat.le_trans F.len (by decide))
 have:=fLc_pure (fi:=fIter (vVar 2)) (tg:=tgN 5) (tt:=asT (fM "str" (pu4 mStarts) (vVar 5) (fCons (f2 oAdd (vVar 3) (vC (.str "."))) fNil))) (fe:=vVar 5) (vs:=[5]) (env:=[x0,x1,some (.d (.lst (sD ((setsL .non ls).map fun p=>p.1)))),some (.d (.str c.h)),x4,x5,x6]) (us:=((setsL .non ls).map fun p=>p.1).map fun p=>U.d (.str p)) (P:=fun u=>match u with
  | .d (.str x)=>Txt.startswith x (c.h ++ ("." : Str))
  | _=>false) (q:=fun u=>match u with
  | .d d=>d
  | _=>.non) w (by
   have e:=iterA (fx:=vVar 2) (env:=[x0,x1,some (.d (.lst (sD ((setsL .non ls).map fun p=>p.1)))),some (.d (.str c.h)),x4,x5,x6]) (s:=st) (s1:=st) (ds:=sD ((setsL .non ls).map fun p=>p.1)) rfl
   exact e.trans (by unfold sD; rw [List.map_map]; rfl)) (by rw [List.length_map,List.length_map]; exact hlen) fun u hu s0 hs=>by
  obtain ⟨p,hp,rfl⟩:=List.mem_map.mp hu
  exact ⟨_,rfl,asTA (strM rfl (cons1 (f2A rfl rfl (if_pos hz))) rfl) rfl,fun _=>rfl⟩
 unfold c_L_law_together_1
 rw [this,List.filter_map,List.map_map,← F.own e]
 rfl
theorem ev_t2 (w : WF st) (F : Fi ls SS t) {dn td : List Sc} {c : Sc} (e : SS = dn ++ c :: td) {L : List Str} (hL : L.length + (tgS c).length ≤ 150) {x4 x5 x6 : Option U} :
  ∃ y4 y6,b_L_law_together_2 K a [some (.d (FV a s ls ds)),some (.d (.lst (sD L))),some (.d (.lst (sD ((setsL .non ls).map fun p=>p.1)))),some (.d (.str c.h)),x4,x5,x6] st = .ok [some (.d (FV a s ls ds)),some (.d (.lst (sD (L ++ tgS c)))),some (.d (.lst (sD ((setsL .non ls).map fun p=>p.1)))),some (.d (.str c.h)),y4,x5,y6] .nx st:=by
 have hc : c ∈ SS:=by rw [e]; exact List.mem_append_right _ (List.mem_cons_self ..)
 have hll : ls.length < sizeLine:=Nat.lt_of_le_of_lt F.len (by decide)
 have e1:=ev_fblock (K:=K) (a:=a) (s:=s) (ls:=ls) (ds:=ds) (dd:=kvD (setsL .non ls)) w c.h (F.blkH e) hll
 obtain ⟨z1,z2⟩:=plain_head (F.sc hc).1
 have o1 : oAdd (.d (.str "[")) (.d (.str c.h)) st = some (.d (.str (("[" : Str) ++ c.h))):=if_pos z1
 have o2 : oAdd (.d (.str (("[" : Str) ++ c.h))) (.d (.str "]")) st = some (.d (.str (("[" : Str) ++ c.h ++ ("]" : Str)))):=if_pos z2
 have hs : (tgS c).length = (remT c.b).length + 1 + (c.ks.flatMap tgK).length:=by unfold tgS; rw [List.length_append,List.length_append,List.length_singleton]
 obtain ⟨y4,y6,e2⟩:=ev_t1s (K:=K) (a:=a) (s:=s) (ds:=ds) w F e c.ks [] (L ++ remT c.b ++ [("[" : Str) ++ c.h ++ ("]" : Str)]) x4 x6 rfl (by rw [List.length_append,List.length_append,List.length_singleton]; omega) (x2:=some (.d (.lst (sD ((setsL .non ls).map fun p=>p.1))))) (x3:=some (.d (.str c.h))) (x5:=x5)
 refine ⟨y4,y6,?_⟩
 unfold b_L_law_together_2
 refine seqA (f2A (f2A rfl (methA rfl (insF st) (lu_block _ _ _ _) (cons1 rfl) rfl e1) (addD st (by omega))) (lstDA (ds:=[.str (("[" : Str) ++ c.h ++ ("]" : Str))]) (cons1 (f2A (f2A rfl rfl o1) rfl o2)) (by show 1 ≤ sizeLine; decide)) (addD st (ys:=[("[" : Str) ++ c.h ++ ("]" : Str)]) (by rw [List.length_append,List.length_singleton]; omega))) ((sFor_lst (iterA (ev_c1 (K:=K) (a:=a) w F e))).trans (e2.trans ?_))
 unfold tgS
 simp only [List.append_assoc]
theorem ev_t2s (w : WF st) (F : Fi ls SS t) {x5 : Option U} : ∀ (td dn : List Sc) (L : List Str) (x3 x4 x6 : Option U),SS = dn ++ td → L.length + (td.flatMap tgS).length ≤ 150 →
  ∃ y3 y4 y6,loopL (tgN 3) (b_L_law_together_2 K a) ((sD (td.map fun c=>c.h)).map U.d) [some (.d (FV a s ls ds)),some (.d (.lst (sD L))),some (.d (.lst (sD ((setsL .non ls).map fun p=>p.1)))),x3,x4,x5,x6] st = .ok [some (.d (FV a s ls ds)),some (.d (.lst (sD (L ++ td.flatMap tgS)))),some (.d (.lst (sD ((setsL .non ls).map fun p=>p.1)))),y3,y4,x5,y6] .nx st
 | [],dn,L,x3,x4,x6,_,_=>⟨x3,x4,x6,by rw [List.flatMap_nil,List.append_nil]; rfl⟩
 | c :: td,dn,L,x3,x4,x6,e,hl=>by
  rw [List.flatMap_cons,List.length_append] at hl
  obtain ⟨z4,z6,e1⟩:=ev_t2 (K:=K) (a:=a) (s:=s) (ds:=ds) w F e (L:=L) (by omega) (x4:=x4) (x5:=x5) (x6:=x6)
  obtain ⟨y3,y4,y6,e2⟩:=ev_t2s w F td (dn ++ [c]) (L ++ tgS c) (some (.d (.str c.h))) z4 z6 (by rw [e,List.append_assoc]; rfl) (by rw [List.length_append]; omega) (x5:=x5)
  refine ⟨y3,y4,y6,loopN e1 ?_⟩
  rw [List.flatMap_cons,← List.append_assoc]
  exact e2
theorem ev_together (w : WF st) (F : Fi ls SS t) : m_L_law_together K a [.d (FV a s ls ds)] st = .ok (.d (.lst (sD ((tx ls).filter nk)))) st:=by
 have hll : ls.length < sizeLine:=Nat.lt_of_le_of_lt F.len (by decide)
 have hpl : (partsL .non 0 ls).length ≤ sizeLine:=by rw [parts_len]; exact Nat.le_of_lt hll
 have e1:=ev_fplaces (K:=K) (a:=a) (s:=s) (ls:=ls) (ds:=ds) (dd:=kvD (setsL .non ls)) w hpl
 have e2:=ev_fsections (K:=K) (a:=a) (s:=s) (ls:=ls) (ds:=ds) (dd:=kvD (setsL .non ls)) w hpl
 have e3:=ev_ftail (K:=K) (a:=a) (s:=s) (ls:=ls) (ds:=ds) (dd:=kvD (setsL .non ls)) w hll
 rw [F.tail] at e3
 rw [F.names.1] at e2
 have q1:=flat_le (f:=tgS) (g:=flS) SS fun s _=>tgS_le s
 have q2 : (SS.flatMap flS).length + t.length = ls.length:=by rw [F.f.eq,List.length_append]
 have q3:=rem_le t
 have q4:=F.len
 obtain ⟨y3,y4,y6,e4⟩:=ev_t2s (K:=K) (a:=a) (s:=s) (ds:=ds) w F SS [] [] none none none rfl (by rw [List.length_nil]; omega) (x5:=none)
 rw [List.nil_append] at e4
 rw [F.f.nk F.lg]
 refine fnL (us:=[.d (FV a s ls ds)]) (n:=7) (g:=g_L_law_together K a) (env1:=[some (.d (FV a s ls ds)),some (.d (.lst (sD (SS.flatMap tgS)))),some (.d (.lst (sD ((setsL .non ls).map fun p=>p.1)))),y3,y4,none,y6]) w rfl ?_
 unfold g_L_law_together
 refine seqG (parA (consA (lstDA (ds:=[]) rfl (Nat.zero_le _)) (cons1 (methA rfl (insF st) (lu_places _ _ _ _) rfl rfl e1)))) (seqG ((sFor_lst (iterA (methA rfl (insF st) (lu_sections _ _ _ _) rfl rfl e2))).trans e4) (retA (f2A rfl (methA rfl (insF st) (lu_tail _ _ _ _) rfl rfl e3) (addD st (by omega)))))
end
section
variable {fi : F Itb} {tg : U → G} {tt : F Bool} {fe : F U} {vs : List Nat} {env : VEnv} {us : List U}
theorem fLcC_fb {b : Nat} {st0 : Store} (Pd : U → D → Prop) (hw : WF st) (hb : Bag st b) (hi : fi env st0 = .ok (.lst us) st) (hl : us.length ≤ sizeLine)
  (h : ∀ u ∈ us,∀ st' : Store,WF st' → Bag st' b → ∃ env1 x st'',tg u (wipeE env vs) st' = .ok env1 .nx st' ∧ tt env1 st' = .ok true st' ∧ fe env1 st' = .ok (.d x) st'' ∧ Pd u x ∧ Fb st' st'' b) :
  ∃ ds st2,fLcC fi tg tt fe vs env st0 = .ok (.ref st.length) (st2 ++ [.lst (ds.map U.d)]) ∧ Fb st st2 b ∧ AllR Pd us ds:=by
 obtain ⟨ds,st2,e,f,r⟩:=lcL_fb (env0:=wipeE env vs) Pd us [] st hw hb (by simpa using hl) h
 refine ⟨ds,st2,?_,f,r⟩
 unfold fLcC bnd
 rw [hi]
 simp only
 rw [show (st ++ [O.lst (([] : List D).map U.d)]) = st ++ [O.lst []] from rfl,List.nil_append] at e
 rw [e]
 have hc:=(f.wf.pushL ds).cut
 rw [List.length_append,List.length_singleton] at hc
 unfold lcEndC
 rw [← f.len]
 simp only [new_at,hc]
end
theorem dstr_mem : ∀ {ds : List D} {ss : List Str},(∀ d ∈ ds,d ∈ sD ss) → ∃ xs : List Str,ds = sD xs ∧ ∀ x ∈ xs,x ∈ ss
 | [],_,_=>⟨[],rfl,fun _ h=>nomatch h⟩
 | d :: ds,ss,h=>by
  obtain ⟨xs,e,hx⟩:=dstr_mem (fun q hq=>h q (List.mem_cons_of_mem _ hq))
  obtain ⟨y,hy,rfl⟩:=List.mem_map.mp (h d (List.mem_cons_self ..))
  refine ⟨y :: xs,by rw [e]; rfl,fun x hx'=>?_⟩
  rcases List.mem_cons.mp hx' with rfl | q
  ·exact hy
  ·exact hx x q
theorem f2sA {fx fy : F U} {env : VEnv} {s s1 s2 : Store} {y : U} {o : P2S} {x : U} {r : R U} (h1 : fx env s = .ok x s1) (h2 : fy env s1 = .ok y s2) (h : o x y s2 = r) : f2s o fx fy env s = r:=by
 unfold f2s bnd
 rw [h1]
 simp only
 rw [h2]
 exact h
theorem slA {f : F U} {l h : F (Option Int)} {env : VEnv} {s s1 s2 s3 : Store} {u v : U} {lo hi : Option Int} (h1 : f env s = .ok u s1) (h2 : l env s1 = .ok lo s2) (h3 : h env s2 = .ok hi s3) (h4 : oSl u lo hi s3 = some v) : fSl f l h env s = .ok v s3:=by
 unfold fSl bnd
 rw [h1]
 simp only
 rw [h2]
 simp only
 rw [h3]
 simp only [h4,R.of]
theorem someA {f : F U} {env : VEnv} {s s1 : Store} {i : Int} (h : f env s = .ok (.d (.int i)) s1) : oSome f env s = .ok (some i) s1:=by
 unfold oSome bnd
 rw [h]
theorem tx_rems : ∀ (xs : List Str),tx (xs.map Ln.rem) = xs
 | []=>rfl
 | x :: xs=>by show x :: tx (xs.map Ln.rem) = _; rw [tx_rems xs]
theorem Gn.rems {hd : Option Str} {es : List En} {H : List Str} {P ss : List (Str × Str)} {c : Nat} : ∀ (xs : List Str) (ls : List Ln),Gn ls hd es H P ss c → (∀ x ∈ xs,x ∈ REMS) → Gn (ls ++ xs.map .rem) hd es H P ss c
 | [],ls,g,_=>by rw [List.map_nil,List.append_nil]; exact g
 | x :: xs,ls,g,h=>by
  have:=Gn.rems xs _ (g.rem (h x (List.mem_cons_self ..))) fun y hy=>h y (List.mem_cons_of_mem _ hy)
  rw [List.append_assoc] at this
  exact this
structure Li (st s : Store) (b p : Nat) (ls : List Ln) : Prop where
 wf : WF s
 bag : Bag s b
 li : s[p]? = some (.lst (sU (tx ls)))
 bl : b < st.length
 pl : st.length ≤ p
 le : st.length ≤ s.length
 fr : ∀ n,n < st.length → n ≠ b → s[n]? = st[n]?
section
variable {b p : Nat} {ls : List Ln} {s : Store}
theorem Li.fb (x : Li st s b p ls) {s' : Store} (f : Fb s s' b) : Li st s' b p ls :=
 ⟨f.wf,f.bag,by rw [f.fr p (by have:=x.bl; have:=x.pl; omega)]; exact x.li,x.bl,x.pl,by rw [f.len]; exact x.le,fun n h1 h2=>(f.fr n h2).trans (x.fr n h1 h2)⟩
theorem Li.push (x : Li st s b p ls) (ls' : List Ln) : Li st (s ++ [.lst (sU (tx ls'))]) b s.length ls' :=
 ⟨x.wf.pushL _,by obtain ⟨n,y,e⟩:=x.bag; exact ⟨n,y,app_at e⟩,new_at,x.bl,x.le,by rw [List.length_append]; have:=x.le; omega,fun n h1 h2=>by
  rw [List.getElem?_append_left (by have:=x.le; omega)]; exact x.fr n h1 h2⟩
theorem Li.set (x : Li st s b p ls) (l : Ln) : Li st (s.set p (.lst (sU (tx (ls ++ [l]))))) b p (ls ++ [l]) :=
 ⟨x.wf.setL _ _,x.bag.set (by have:=x.bl; have:=x.pl; omega) _,set_at x.li,x.bl,x.pl,by rw [List.length_set]; exact x.le,fun n h1 h2=>by
  rw [List.getElem?_set_ne (by have:=x.pl; omega)]; exact x.fr n h1 h2⟩
theorem Li.snoc (ls : List Ln) (l : Ln) : sU (tx ls) ++ [U.d (.str l.text)] = sU (tx (ls ++ [l])):=by rw [tx_app]; exact sUapp _ [_]
end
theorem draw_rems {b n : Nat} (h : WF st) (hb : Bag st b) (hn : 0 < n) (hn' : n ≤ 4) {x1 x3 x4 x5 x6 : Option U} :
  ∃ xs st',fLc (fItN itR (fCons (fCall 2 0 gPos (m_L_law_take K a) (fCW (fCons (vVar 0) (fCons (vC (.int (n : Nat))) fNil)) fNil)) fNil)) (tgN 4) tYesB (fCall 2 0 gPos (m_L_law_of K a) (fCW (fCons (vVar 0) (fCons (vVar 2) fNil)) fNil)) [4] [some (.ref b),x1,some (.d (.lst (sD REMS))),x3,x4,x5,x6] st = .ok (.d (.lst (sD xs))) st' ∧ Fb st st' b ∧ xs.length < n ∧ ∀ x ∈ xs,x ∈ REMS:=by
 obtain ⟨d,s1,e1,hd,k1⟩:=ev_ltake (K:=K) (a:=a) h hb (m:=(n : Nat)) (by omega) (by omega)
 obtain ⟨ds,s2,e2,k2,r2⟩:=fLc_fb (fi:=fItN itR (fCons (fCall 2 0 gPos (m_L_law_take K a) (fCW (fCons (vVar 0) (fCons (vC (.int (n : Nat))) fNil)) fNil)) fNil)) (tg:=tgN 4) (tt:=tYesB) (fe:=fCall 2 0 gPos (m_L_law_of K a) (fCW (fCons (vVar 0) (fCons (vVar 2) fNil)) fNil)) (vs:=[4]) (env:=[some (.ref b),x1,some (.d (.lst (sD REMS))),x3,x4,x5,x6]) (st0:=st)
  (fun _ x=>x ∈ sD REMS) k1.wf k1.bag (us:=(List.range d).map fun i=>U.d (.int (((0 + i : Nat)) : Int))) (fItN_ok (us:=[.d (.int (d : Nat))]) (cons1 (callA (consA rfl (cons1 rfl)) rfl e1)) (itRn (by omega))) (by rw [List.length_map,List.length_range]; exact Nat.le_trans (show d ≤ 4 by omega) (by decide)) (fun u _ st' w' b'=>by
   obtain ⟨x,s3,e3,hx,k3⟩:=ev_lof (K:=K) (a:=a) w' b' (ds:=sD REMS) (by decide) (by decide)
   exact ⟨[some (.ref b),x1,some (.d (.lst (sD REMS))),x3,some u,x5,x6],x,s3,rfl,rfl,callA (consA rfl (cons1 rfl)) rfl e3,hx,k3⟩)
 have hl:=AllR.length r2
 rw [List.length_map,List.length_range] at hl
 obtain ⟨xs,rfl,hx⟩:=dstr_mem (ss:=REMS) (AllR.right (Q:=fun q=>q ∈ sD REMS) (fun _ _ h=>h) r2)
 rw [sDlen] at hl
 exact ⟨xs,s2,e2,k1.trans k2,by omega,hx⟩
theorem draw_remsC {b n : Nat} (h : WF st) (hb : Bag st b) (hn : 0 < n) (hn' : n ≤ 4) {x1 x3 x4 x5 x6 : Option U} :
  ∃ xs st',fLcC (fItN itR (fCons (fCall 2 0 gPos (m_L_law_take K a) (fCW (fCons (vVar 0) (fCons (vC (.int (n : Nat))) fNil)) fNil)) fNil)) (tgN 4) tYesB (fCall 2 0 gPos (m_L_law_of K a) (fCW (fCons (vVar 0) (fCons (vVar 2) fNil)) fNil)) [4] [some (.ref b),x1,some (.d (.lst (sD REMS))),x3,x4,x5,x6] st = .ok (.ref st.length) (st' ++ [.lst (sU xs)]) ∧ Fb st st' b ∧ xs.length < n ∧ ∀ x ∈ xs,x ∈ REMS:=by
 obtain ⟨d,s1,e1,hd,k1⟩:=ev_ltake (K:=K) (a:=a) h hb (m:=(n : Nat)) (by omega) (by omega)
 obtain ⟨ds,s2,e2,k2,r2⟩:=fLcC_fb (fi:=fItN itR (fCons (fCall 2 0 gPos (m_L_law_take K a) (fCW (fCons (vVar 0) (fCons (vC (.int (n : Nat))) fNil)) fNil)) fNil)) (tg:=tgN 4) (tt:=tYesB) (fe:=fCall 2 0 gPos (m_L_law_of K a) (fCW (fCons (vVar 0) (fCons (vVar 2) fNil)) fNil)) (vs:=[4]) (env:=[some (.ref b),x1,some (.d (.lst (sD REMS))),x3,x4,x5,x6]) (st0:=st)
  (fun _ x=>x ∈ sD REMS) k1.wf k1.bag (us:=(List.range d).map fun i=>U.d (.int (((0 + i : Nat)) : Int))) (fItN_ok (us:=[.d (.int (d : Nat))]) (cons1 (callA (consA rfl (cons1 rfl)) rfl e1)) (itRn (by omega))) (by rw [List.length_map,List.length_range]; exact Nat.le_trans (show d ≤ 4 by omega) (by decide)) (fun u _ st' w' b'=>by
   obtain ⟨x,s3,e3,hx,k3⟩:=ev_lof (K:=K) (a:=a) w' b' (ds:=sD REMS) (by decide) (by decide)
   exact ⟨[some (.ref b),x1,some (.d (.lst (sD REMS))),x3,some u,x5,x6],x,s3,rfl,rfl,callA (consA rfl (cons1 rfl)) rfl e3,hx,k3⟩)
 have hl:=AllR.length r2
 rw [List.length_map,List.length_range] at hl
 obtain ⟨xs,rfl,hx⟩:=dstr_mem (ss:=REMS) (AllR.right (Q:=fun q=>q ∈ sD REMS) (fun _ _ h=>h) r2)
 rw [sDlen] at hl
 rw [k1.len] at e2
 exact ⟨xs,s2,e2,k1.trans k2,by omega,hx⟩
theorem ev_keep {b p : Nat} {ls : List Ln} {s : Store} (x : Li st s b p ls) (hc : ls.length < 60) {x1 x2 x4 x5 x6 : Option U} :
  ∃ l s',(l = ka ls.length ∨ l = kb ls.length) ∧ sExpr (fM "list" mAppend (vVar 3) (fCons (f2 oAdd (f2 oAdd (f2 oAdd (vC (.str "#~ ")) (fB (pu oStr) (fCons (fB (pu oLen) (fCons (vVar 3) fNil)) fNil))) (vC (.str " ui.x"))) (f2 oIx (fN vLst (fCons (vC (.str "")) (fCons (vC (.str " = 1")) fNil))) (fCall 2 0 gPos (m_L_law_take K a) (fCW (fCons (vVar 0) (fCons (vC (.int 2)) fNil)) fNil)))) fNil)) [some (.ref b),x1,x2,some (.ref p),x4,x5,x6] s = .ok [some (.ref b),x1,x2,some (.ref p),x4,x5,x6] .nx s' ∧ Li st s' b p (ls ++ [l]):=by
 obtain ⟨d,s1,e1,hd,k1⟩:=ev_ltake (K:=K) (a:=a) x.wf x.bag (m:=2) (by decide) (by decide)
 have x1':=x.fb k1
 obtain ⟨⟨n1,n2,n3⟩,n5⟩:=num_t ⟨ls.length,hc⟩
 simp only at n1 n2 n3 n5
 obtain ⟨l,z,hl,hz,hix,ht⟩ : ∃ l z,(l = ka ls.length ∨ l = kb ls.length) ∧ z ∈ [("" : Str)," = 1"] ∧ oIx (.d (.lst [.str "",.str " = 1"])) (.d (.int (d : Nat))) s1 = some (.d (.str z)) ∧ l.text = ("#~ " : Str) ++ dig ls.length ++ (" ui.x" : Str) ++ z:=by
  have : d = 0 ∨ d = 1:=by omega
  rcases this with rfl | rfl
  ·exact ⟨ka ls.length,"",.inl rfl,by decide,at_0 _ _,rfl⟩
  ·exact ⟨kb ls.length," = 1",.inr rfl,by decide,at_1 _ _ _,rfl⟩
 have hlen : fB (pu oLen) (fCons (vVar 3) fNil) [some (.ref b),x1,x2,some (.ref p),x4,x5,x6] s = .ok (.d (.int (ls.length : Nat))) s:=puA (cons1 rfl) (by
  simp only [oLen,lenN,getL,x.li,Option.map_some,sUlen,tx_len]
  rfl)
 have hst : oStr [.d (.int (ls.length : Nat))] s = some (.d (.str (dig ls.length))):=if_pos n5
 have o1 : oAdd (.d (.str "#~ ")) (.d (.str (dig ls.length))) s = some (.d (.str (("#~ " : Str) ++ dig ls.length))):=if_pos n1
 have o2 : oAdd (.d (.str (("#~ " : Str) ++ dig ls.length))) (.d (.str " ui.x")) s = some (.d (.str (("#~ " : Str) ++ dig ls.length ++ (" ui.x" : Str)))):=if_pos n2
 have o3 : oAdd (.d (.str (("#~ " : Str) ++ dig ls.length ++ (" ui.x" : Str)))) (.d (.str z)) s1 = some (.d (.str l.text)):=(if_pos (n3 z hz)).trans (by rw [ht])
 have hz2 : (sU (tx ls)).length < sizeLine:=by rw [sUlen,tx_len]; exact Nat.lt_trans hc (by decide)
 have eA:=appE (env:=[some (.ref b),x1,x2,some (.ref p),x4,x5,x6]) (fx:=vVar 3) (fy:=f2 oAdd (f2 oAdd (f2 oAdd (vC (.str "#~ ")) (fB (pu oStr) (fCons (fB (pu oLen) (fCons (vVar 3) fNil)) fNil))) (vC (.str " ui.x"))) (f2 oIx (fN vLst (fCons (vC (.str "")) (fCons (vC (.str " = 1")) fNil))) (fCall 2 0 gPos (m_L_law_take K a) (fCW (fCons (vVar 0) (fCons (vC (.int 2)) fNil)) fNil)))) rfl (f2A (f2A (f2A rfl (puA (cons1 hlen) hst) o1) rfl o2) (f2A (lstDA (ds:=[.str "",.str " = 1"]) (consA rfl (cons1 rfl)) (by decide)) (callA (consA rfl (cons1 rfl)) rfl e1) hix) o3) x.li x1'.li hz2
 rw [Li.snoc] at eA
 exact ⟨l,_,hl,eA,x1'.set l⟩
section
variable {b p : Nat} {ls : List Ln} {s : Store} {es : List En} {H : List Str} {P ss : List (Str × Str)} {h k : Str} {wk : Bool}
theorem Gn.keep {hd : Option Str} (g : Gn ls hd es H P ss ls.length) {l : Ln} (hl : l = ka ls.length ∨ l = kb ls.length) (hc : ls.length < 60) : ∃ es',Gn (ls ++ [l]) hd es' H P ss (ls ++ [l]).length:=by
 have oa : PyData.strOk "ui.x" = true:=by decide +kernel
 have hn : En.kp ((ls.length : Nat) : Int) "ui.x" ∉ es:=fun z=>by
  obtain ⟨i,h1,h2⟩:=g.esK _ _ z
  omega
 have hlen : (ls ++ [l]).length = ls.length + 1:=by rw [List.length_append,List.length_singleton]
 rw [hlen]
 rcases hl with rfl | rfl
 ·exact ⟨_,g.kept (.kp hc (.inl rfl)) oa (c':=ls.length + 1) (Nat.le_succ _) hn ⟨_,Nat.lt_succ_self _,rfl⟩⟩
 ·exact ⟨_,g.kept (.kp hc (.inr rfl)) oa (c':=ls.length + 1) (Nat.le_succ _) hn ⟨_,Nat.lt_succ_self _,rfl⟩⟩
theorem ev_mid {hd : Option Str} (x : Li st s b p ls) (g : Gn ls hd es H P ss ls.length) (hc : ls.length < 60) {x2 x4 x5 x6 : Option U} :
  ∃ ls' es' s',sIf (bAnd (asT (vVar 1)) (asB (f2 oEq (fCall 2 0 gPos (m_L_law_take K a) (fCW (fCons (vVar 0) (fCons (vC (.int 3)) fNil)) fNil)) (vC (.int 0)))))
  (sExpr (fM "list" mAppend (vVar 3) (fCons (f2 oAdd (f2 oAdd (f2 oAdd (vC (.str "#~ ")) (fB (pu oStr) (fCons (fB (pu oLen) (fCons (vVar 3) fNil)) fNil))) (vC (.str " ui.x"))) (f2 oIx (fN vLst (fCons (vC (.str "")) (fCons (vC (.str " = 1")) fNil))) (fCall 2 0 gPos (m_L_law_take K a) (fCW (fCons (vVar 0) (fCons (vC (.int 2)) fNil)) fNil)))) fNil)))
  sNil [some (.ref b),some (.d (.bl wk)),x2,some (.ref p),x4,x5,x6] s = .ok [some (.ref b),some (.d (.bl wk)),x2,some (.ref p),x4,x5,x6] .nx s' ∧ Li st s' b p ls' ∧ Gn ls' hd es' H P ss ls'.length ∧ ls'.length ≤ ls.length + 1:=by
 cases wk with
 | false=>exact ⟨ls,es,s,ifF (bAndF (asTA (u:=.d (.bl false)) rfl rfl)) rfl,x,g,by omega⟩
 | true =>
  obtain ⟨d,s1,e1,hd',k1⟩:=ev_ltake (K:=K) (a:=a) x.wf x.bag (m:=3) (by decide) (by decide)
  have x1:=x.fb k1
  have he : oEq (.d (.int (d : Nat))) (.d (.int 0)) s1 = some (.d (.bl (decide (d = 0)))):=by
   show some (U.d (.bl (decide ((d : Int) = 0)))) = _
   rw [show decide ((d : Int) = 0) = decide (d = 0) from decide_eq_decide.mpr (by omega)]
  have hT : bAnd (asT (vVar 1)) (asB (f2 oEq (fCall 2 0 gPos (m_L_law_take K a) (fCW (fCons (vVar 0) (fCons (vC (.int 3)) fNil)) fNil)) (vC (.int 0)))) [some (.ref b),some (.d (.bl true)),x2,some (.ref p),x4,x5,x6] s = .ok (decide (d = 0)) s1:=bAndT (asTA (u:=.d (.bl true)) rfl rfl) (asBA (f2A (callA (consA rfl (cons1 rfl)) rfl e1) rfl he))
  by_cases h0 : d = 0
  ·rw [decide_eq_true h0] at hT
   obtain ⟨l,s',hl,e2,x2'⟩:=ev_keep (K:=K) (a:=a) x1 hc (x1:=some (.d (.bl true))) (x2:=x2) (x4:=x4) (x5:=x5) (x6:=x6)
   obtain ⟨es',g'⟩:=g.keep hl hc
   exact ⟨_,es',s',ifT hT e2,x2',g',by rw [List.length_append,List.length_singleton]; omega⟩
  ·rw [decide_eq_false h0] at hT
   exact ⟨ls,es,s1,ifF hT rfl,x1,g,by omega⟩
theorem ev_d1 (x : Li st s b p ls) (g : Gn ls (some h) es H P ss ls.length) (hh : h ∈ HEADS) (hk : k ∈ KEYS) (hn : (h,k) ∉ P) (hl : ls.length ≤ 55) (x4 x5 : Option U) :
  ∃ p' ls' es' v s',b_L_law_drawn_1 K a [some (.ref b),some (.d (.bl wk)),some (.d (.lst (sD REMS))),some (.ref p),x4,x5,some (.d (.str k))] s = .ok [some (.ref b),some (.d (.bl wk)),some (.d (.lst (sD REMS))),some (.ref p'),x4,x5,some (.d (.str k))] .nx s' ∧
   Li st s' b p' ls' ∧ Gn ls' (some h) es' H (P ++ [(h,k)]) (ss ++ [(h ++ ("." : Str) ++ k,v)]) ls'.length ∧ ls'.length ≤ ls.length + 5:=by
 obtain ⟨xs,s1,e1,k1,hx3,hx⟩:=draw_rems (K:=K) (a:=a) x.wf x.bag (n:=4) (by decide) (by decide) (x1:=some (.d (.bl wk))) (x3:=some (.ref p)) (x4:=x4) (x5:=x5) (x6:=some (.d (.str k)))
 have x1:=x.fb k1
 have l1:=addC_g (lg_at x1.li) (w:=.d (.lst (sD xs))) (ys:=xs) rfl (by rw [tx_len]; omega)
 have htx : tx ls ++ xs = tx (ls ++ xs.map Ln.rem):=by rw [tx_app,tx_rems]
 rw [htx] at l1
 have x2:=x1.push (ls ++ xs.map Ln.rem)
 have hl1 : (ls ++ xs.map Ln.rem).length = ls.length + xs.length:=by rw [List.length_append,List.length_map]
 have g1:=(g.rems xs ls hx).mono (c':=(ls ++ xs.map Ln.rem).length) (by omega)
 obtain ⟨ls2,es2,s2,e2,x3,g2,hl2⟩:=ev_mid (K:=K) (a:=a) (wk:=wk) x2 g1 (by omega) (x2:=some (.d (.lst (sD REMS)))) (x4:=x4) (x5:=x5) (x6:=some (.d (.str k)))
 obtain ⟨y,s3,e3,hy,k3⟩:=ev_lof (K:=K) (a:=a) x3.wf x3.bag (ds:=sD WORTHS) (by decide) (by decide)
 obtain ⟨v,hv,rfl⟩:=List.mem_map.mp hy
 have x4':=x3.fb k3
 obtain ⟨z1,z2⟩:=plain_set hk hv
 have o1 : oAdd (.d (.str k)) (.d (.str " = ")) s2 = some (.d (.str (k ++ (" = " : Str)))):=if_pos z1
 have o2 : oAdd (.d (.str (k ++ (" = " : Str)))) (.d (.str v)) s3 = some (.d (.str (Ln.text (.set k v)))):=if_pos z2
 have hz2 : (sU (tx ls2)).length < sizeLine:=by rw [sUlen,tx_len]; exact Nat.lt_of_le_of_lt (show ls2.length ≤ 60 by omega) (by decide)
 have eA:=appE (env:=[some (.ref b),some (.d (.bl wk)),some (.d (.lst (sD REMS))),some (.ref s1.length),x4,x5,some (.d (.str k))]) (fx:=vVar 3) (fy:=f2 oAdd (f2 oAdd (vVar 6) (vC (.str " = "))) (fCall 2 0 gPos (m_L_law_of K a) (fCW (fCons (vVar 0) (fCons (fN vLst (fCons (vC (.str "0")) (fCons (vC (.str "on")) (fCons (vC (.str "a-1")) fNil)))) fNil)) fNil))) rfl (f2A (f2A rfl rfl o1) (callA (consA rfl (cons1 (lstDA (ds:=sD WORTHS) (consA rfl (consA rfl (cons1 rfl))) (by decide)))) rfl e3) o2) x3.li x4'.li hz2
 rw [Li.snoc] at eA
 have g3:=(g2.set hh hk hv hn).mono (c':=(ls2 ++ [Ln.set k v]).length) (by rw [List.length_append]; omega)
 refine ⟨s1.length,ls2 ++ [.set k v],_,v,_,?_,x4'.set (.set k v),g3,by rw [List.length_append,List.length_singleton]; omega⟩
 unfold b_L_law_drawn_1
 exact seqA (f2sA rfl e1 l1) (seqG e2 eA)
theorem keys_so : ∀ s ∈ KEYS,PyData.strOk s = true:=by decide +kernel
theorem heads_so : ∀ s ∈ HEADS,PyData.strOk s = true:=by decide +kernel
end
theorem ev_keyloop {b : Nat} {h : Str} {H : List Str} {wk : Bool} {x5 : Option U} (hh : h ∈ HEADS) : ∀ (kl : List Str) (ls : List Ln) (es : List En) (P ss : List (Str × Str)) (p : Nat) (x4 x6 : Option U) (s : Store),(∀ k ∈ kl,k ∈ KEYS) → kl.Nodup → (∀ k ∈ kl,(h,k) ∉ P) → ls.length + 5 * kl.length ≤ 60 → Li st s b p ls → Gn ls (some h) es H P ss ls.length →
  ∃ y6 p' ls' es' P' ss' s',loopL (tgN 6) (b_L_law_drawn_1 K a) ((sD kl).map U.d) [some (.ref b),some (.d (.bl wk)),some (.d (.lst (sD REMS))),some (.ref p),x4,x5,x6] s = .ok [some (.ref b),some (.d (.bl wk)),some (.d (.lst (sD REMS))),some (.ref p'),x4,x5,y6] .nx s' ∧ Li st s' b p' ls' ∧ Gn ls' (some h) es' H P' ss' ls'.length ∧ ls'.length ≤ ls.length + 5 * kl.length ∧ (∀ p ∈ P',p ∈ P ∨ p.1 = h)
 | [],ls,es,P,ss,p,x4,x6,s,_,_,_,_,x,g=>⟨x6,p,ls,es,P,ss,s,rfl,x,g,Nat.le_refl _,fun _ h=>.inl h⟩
 | k :: kl,ls,es,P,ss,p,x4,x6,s,hk,hnd,hP,hl,x,g=>by
  rw [List.length_cons] at hl
  have hk0:=hk k (List.mem_cons_self ..)
  obtain ⟨p1,ls1,es1,v,s1,e1,x1,g1,l1⟩:=ev_d1 (K:=K) (a:=a) (wk:=wk) x g hh hk0 (hP k (List.mem_cons_self ..)) (by omega) x4 x5
  have hn:=List.nodup_cons.mp hnd
  obtain ⟨y6,p',ls',es',P',ss',s',e2,x2,g2,l2,p2⟩:=ev_keyloop (b:=b) (h:=h) (H:=H) (wk:=wk) (x5:=x5) hh kl ls1 es1 (P ++ [(h,k)]) _ p1 x4 (some (.d (.str k))) s1 (fun q hq=>hk q (List.mem_cons_of_mem _ hq)) hn.2 (fun q hq z=>by
   rcases mem1 z with z | z
   ·exact hP q (List.mem_cons_of_mem _ hq) z
   ·have : q = k:=(Prod.mk.inj z).2
    subst this
    exact hn.1 hq) (by omega) x1 g1
  refine ⟨y6,p',ls',es',P',ss',s',loopN e1 e2,x2,g2,by rw [List.length_cons]; omega,fun q hq=>?_⟩
  rcases p2 q hq with z | z
  ·rcases mem1 z with z | z
   ·exact .inl z
   ·exact .inr (by rw [z])
  ·exact .inr z
section
variable {b p : Nat} {ls : List Ln} {s : Store} {es : List En} {H : List Str} {P ss : List (Str × Str)} {h : Str} {wk : Bool} {hd : Option Str}
theorem ev_d2 {i : Nat} (x : Li st s b p ls) (g : Gn ls hd es H P ss ls.length) (hh : h ∈ HEADS) (hn : h ∉ H) (hP : ∀ p ∈ P,p.1 ∈ H) (hi : i < 3) (hl : ls.length ≤ 2 + 18 * i) (x4 x6 : Option U) :
  ∃ y6 p' ls' es' P' ss' s',b_L_law_drawn_2 K a [some (.ref b),some (.d (.bl wk)),some (.d (.lst (sD REMS))),some (.ref p),x4,some (.d (.str h)),x6] s = .ok [some (.ref b),some (.d (.bl wk)),some (.d (.lst (sD REMS))),some (.ref p'),x4,some (.d (.str h)),y6] .nx s' ∧ Li st s' b p' ls' ∧ Gn ls' (some h) es' (H ++ [h]) P' ss' ls'.length ∧ ls'.length ≤ 2 + 18 * (i + 1) ∧ (∀ p ∈ P',p.1 ∈ H ++ [h]):=by
 obtain ⟨z1,z2⟩:=plain_head hh
 have o1 : oAdd (.d (.str "[")) (.d (.str h)) s = some (.d (.str (("[" : Str) ++ h))):=if_pos z1
 have o2 : oAdd (.d (.str (("[" : Str) ++ h))) (.d (.str "]")) s = some (.d (.str (Ln.text (.head h)))):=if_pos z2
 have hz2 : (sU (tx ls)).length < sizeLine:=by rw [sUlen,tx_len]; exact Nat.lt_of_le_of_lt (show ls.length ≤ 60 by omega) (by decide)
 have eA:=appE (env:=[some (.ref b),some (.d (.bl wk)),some (.d (.lst (sD REMS))),some (.ref p),x4,some (.d (.str h)),x6]) (fx:=vVar 3) (fy:=f2 oAdd (f2 oAdd (vC (.str "[")) (vVar 5)) (vC (.str "]"))) rfl (f2A (f2A rfl rfl o1) rfl o2) x.li x.li hz2
 rw [Li.snoc] at eA
 have x1:=x.set (.head h)
 have hl1 : (ls ++ [Ln.head h]).length = ls.length + 1:=by rw [List.length_append,List.length_singleton]
 have g1:=(g.head hh hn).mono (c':=(ls ++ [Ln.head h]).length) (by omega)
 obtain ⟨kl0,s1,e1,hp1,k1⟩:=ev_lmixed (K:=K) (a:=a) x1.wf x1.bag (ss:=KEYS) keys_so (by decide)
 have x2:=x1.fb k1
 obtain ⟨d,s2,e2,hd2,k2⟩:=ev_ltake (K:=K) (a:=a) x2.wf x2.bag (m:=4) (by decide) (by decide)
 have x3:=x2.fb k2
 have hkl : (kl0.take d).length ≤ 3:=by rw [List.length_take]; omega
 obtain ⟨y6,p',ls',es',P',ss',s3,e3,x4',g4,l4,p4⟩:=ev_keyloop (K:=K) (a:=a) (b:=b) (h:=h) (H:=H ++ [h]) (wk:=wk) (x5:=some (.d (.str h))) hh (kl0.take d) (ls ++ [.head h]) _ P ss p x4 x6 s2 (fun k hk=>hp1.mem_iff.mp (List.mem_of_mem_take hk)) ((hp1.nodup_iff.mpr (by decide +kernel : KEYS.Nodup)).sublist (List.take_sublist _ _)) (fun k _ z=>hn (hP _ z)) (by omega) x3 g1
 obtain ⟨xs,s4,e4,k4,hx3,hx⟩:=draw_rems (K:=K) (a:=a) x4'.wf x4'.bag (n:=3) (by decide) (by decide) (x1:=some (.d (.bl wk))) (x3:=some (.ref p')) (x4:=x4) (x5:=some (.d (.str h))) (x6:=y6)
 have x5:=x4'.fb k4
 have l1:=addC_g (lg_at x5.li) (w:=.d (.lst (sD xs))) (ys:=xs) rfl (by rw [tx_len]; omega)
 have htx : tx ls' ++ xs = tx (ls' ++ xs.map Ln.rem):=by rw [tx_app,tx_rems]
 rw [htx] at l1
 have hl5 : (ls' ++ xs.map Ln.rem).length = ls'.length + xs.length:=by rw [List.length_append,List.length_map]
 have g5:=(g4.rems xs ls' hx).mono (c':=(ls' ++ xs.map Ln.rem).length) (by omega)
 refine ⟨y6,s4.length,ls' ++ xs.map Ln.rem,_,P',ss',_,?_,x5.push _,g5,by omega,fun q hq=>?_⟩
 ·unfold b_L_law_drawn_2
  refine seqG eA (seqG ((sFor_lst (iterA (slA (callA (consA rfl (cons1 (lstDA (ds:=sD KEYS) (consA rfl (consA rfl (cons1 rfl))) (by decide)))) rfl e1) rfl (someA (callA (consA rfl (cons1 rfl)) rfl e2)) (slTake kl0 d)))).trans e3) (asgA (f2sA rfl e4 l1)))
 ·rcases p4 q hq with z | z
  ·exact List.mem_append_left _ (hP q z)
  ·rw [z]; exact List.mem_append_right _ (List.mem_singleton.mpr rfl)
end
theorem ev_headloop {b : Nat} {wk : Bool} : ∀ (hl : List Str) (ls : List Ln) (hd : Option Str) (es : List En) (H : List Str) (P ss : List (Str × Str)) (i p : Nat) (x4 x5 x6 : Option U) (s : Store),(∀ h ∈ hl,h ∈ HEADS) → hl.Nodup → (∀ h ∈ hl,h ∉ H) → (∀ p ∈ P,p.1 ∈ H) → i + hl.length ≤ 3 → ls.length ≤ 2 + 18 * i → Li st s b p ls → Gn ls hd es H P ss ls.length →
  ∃ y4 y5 y6 p' ls' hd' es' H' P' ss' s',loopL (tgN 5) (b_L_law_drawn_2 K a) ((sD hl).map U.d) [some (.ref b),some (.d (.bl wk)),some (.d (.lst (sD REMS))),some (.ref p),x4,x5,x6] s = .ok [some (.ref b),some (.d (.bl wk)),some (.d (.lst (sD REMS))),some (.ref p'),y4,y5,y6] .nx s' ∧ Li st s' b p' ls' ∧ Gn ls' hd' es' H' P' ss' ls'.length ∧ ls'.length ≤ 2 + 18 * (i + hl.length)
 | [],ls,hd,es,H,P,ss,i,p,x4,x5,x6,s,_,_,_,_,_,hr,x,g=>⟨x4,x5,x6,p,ls,hd,es,H,P,ss,s,rfl,x,g,hr⟩
 | h :: hl,ls,hd,es,H,P,ss,i,p,x4,x5,x6,s,hh,hnd,hH,hP,hi,hr,x,g=>by
  rw [List.length_cons] at hi
  obtain ⟨z6,p1,ls1,es1,P1,ss1,s1,e1,x1,g1,q2,q3⟩:=ev_d2 (K:=K) (a:=a) (wk:=wk) x g (hh h (List.mem_cons_self ..)) (hH h (List.mem_cons_self ..)) hP (by omega) hr x4 x6
  have hn:=List.nodup_cons.mp hnd
  obtain ⟨y4,y5,y6,p',ls',hd',es',H',P',ss',s',e2,x2,g2,l2⟩:=ev_headloop (b:=b) (wk:=wk) hl ls1 (some h) es1 (H ++ [h]) P1 ss1 (i + 1) p1 x4 (some (.d (.str h))) z6 s1 (fun q hq=>hh q (List.mem_cons_of_mem _ hq)) hn.2 (fun q hq z=>by
   rcases mem1 z with z | z
   ·exact hH q (List.mem_cons_of_mem _ hq) z
   ·subst z; exact hn.1 hq) q3 (by omega) q2 x1 g1
  exact ⟨y4,y5,y6,p',ls',hd',es',H',P',ss',s',loopN e1 e2,x2,g2,by rw [List.length_cons]; omega⟩
theorem Gn.fi {ls : List Ln} {hd : Option Str} {es : List En} {H : List Str} {P ss : List (Str × Str)} {c : Nat} (g : Gn ls hd es H P ss c) (hl : ls.length ≤ 60) : ∃ SS t,Fi ls SS t:=by
 obtain ⟨SS,t,f⟩:=parse ls [] .non [] [] [] Flat.nil (fun _ h=>nomatch h) g.vd
 rw [List.nil_append] at f
 refine ⟨SS,t,f,g.tx,?_,by rw [g.se]; exact g.sets,hl,g.vd⟩
 rw [(nms_perm ls .non).nodup_iff,g.hs,g.se,List.nodup_append]
 refine ⟨g.hnd,g.nd,fun x hx y hy e=>?_⟩
 obtain ⟨q,hq,rfl⟩:=List.mem_map.mp hy
 obtain ⟨r,hr,e2⟩:=g.ssP q hq
 obtain ⟨r1,r2⟩:=g.pP r hr
 have:=(plc_ok r1 r2).2.2.1
 rw [← e2,← e] at this
 exact this (g.hH x hx)
theorem ev_drawn {b : Nat} (w : WF st) (hb : Bag st b) (wk : Bool) : ∃ ls SS t s',m_L_law_drawn K a [.ref b,.d (.bl wk)] st = .ok (.d (.lst (sD (tx ls)))) s' ∧ Fi ls SS t ∧ Fb st s' b:=by
 have hbl:=hb.lt
 obtain ⟨xs,s0,e0,k0,hx3,hx⟩:=draw_remsC (K:=K) (a:=a) w hb (n:=3) (by decide) (by decide) (x1:=some (.d (.bl wk))) (x3:=none) (x4:=none) (x5:=none) (x6:=none)
 have g0:=(Gn.nil.rems xs [] hx).mono (c':=(([] : List Ln) ++ xs.map Ln.rem).length) (Nat.zero_le _)
 rw [List.nil_append] at g0
 have ht : xs = tx (xs.map Ln.rem):=(tx_rems xs).symm
 have x0 : Li st (s0 ++ [.lst (sU (tx (xs.map Ln.rem)))]) b st.length (xs.map Ln.rem) :=
  ⟨k0.wf.pushL _,by obtain ⟨n,y,e⟩:=k0.bag; exact ⟨n,y,app_at e⟩,by rw [← k0.len]; exact new_at,hbl,Nat.le_refl _,by rw [List.length_append,k0.len]; omega,fun n h1 h2=>by
   rw [List.getElem?_append_left (by rw [k0.len]; exact h1)]; exact k0.fr n h2⟩
 rw [ht] at e0
 obtain ⟨hl0,s1,e1,hp1,k1⟩:=ev_lmixed (K:=K) (a:=a) x0.wf x0.bag (ss:=HEADS) heads_so (by decide)
 have x1:=x0.fb k1
 obtain ⟨d,s2,e2,hd2,k2⟩:=ev_ltake (K:=K) (a:=a) x1.wf x1.bag (m:=4) (by decide) (by decide)
 have x2:=x1.fb k2
 have hkl : (hl0.take d).length ≤ 3:=by rw [List.length_take]; omega
 obtain ⟨y4,y5,y6,p',ls,hd,es,H,P,ss,s3,e3,x3,g3,l3⟩:=ev_headloop (K:=K) (a:=a) (b:=b) (wk:=wk) (hl0.take d) (xs.map Ln.rem) none [] [] [] [] 0 st.length none none none s2 (fun k hk=>hp1.mem_iff.mp (List.mem_of_mem_take hk)) ((hp1.nodup_iff.mpr (by decide +kernel : HEADS.Nodup)).sublist (List.take_sublist _ _)) (fun _ _ z=>nomatch z) (fun _ z=>nomatch z) (by omega) (by rw [List.length_map]; omega) x2 g0
 obtain ⟨SS,t,F⟩:=g3.fi (by omega)
 obtain ⟨ec,fb⟩:=cut_fb w x3.bag hbl x3.le x3.fr
 refine ⟨ls,SS,t,_,?_,F,fb⟩
 have main : g_L_law_drawn K a [some (.ref b),some (.d (.bl wk)),none,none,none,none,none] st = .ok [some (.ref b),some (.d (.bl wk)),some (.d (.lst (sD REMS))),some (.ref p'),y4,y5,y6] (.rt (.ref p')) s3:=by
  unfold g_L_law_drawn
  refine seqA (lstDA (ds:=sD REMS) (consA rfl (consA rfl (consA rfl (consA rfl (cons1 rfl))))) (by decide)) (seqA e0 (seqG ((sFor_lst (iterA (slA (callA (consA rfl (cons1 (lstDA (ds:=sD HEADS) (consA rfl (consA rfl (cons1 rfl))) (by decide)))) rfl e1) rfl (someA (callA (consA rfl (cons1 rfl)) rfl e2)) (slTake hl0 d)))).trans e3) (retA rfl)))
 have ef:=frz_lst (st:=s3) (k:=st.length) (n:=p') (f:=3) (ds:=sD (tx ls)) (by have:=x3.pl; omega) x3.li
 unfold m_L_law_drawn
 rw [fnA main]
 unfold wFrz
 rw [ef,ec]
noncomputable def jnL (ls : List Ln) : Str:=Txt.join ("\n" : Str) (tx ls)
theorem split_nl {parts : List Str} (h0 : parts ≠ []) (h : ∀ p ∈ parts,¬ (10 ∈ TL.tl p)) : Txt.split (Txt.join ("\n" : Str) parts) ("\n" : Str) = parts :=
 TL.split_join (y:=("\n" : Str)) (s:=10) (S:=[]) rfl (by decide +kernel) h0 h
theorem split_e : Txt.split ("" : Str) ("\n" : Str) = [("" : Str)]:=by decide +kernel
theorem strsU_sD (ss : List Str) : strsU ((sD ss).map U.d) = some ss:=by
 induction ss with
 | nil=>rfl
 | cons s ss ih =>
  unfold strsU at ih ⊢
  unfold sD at ih ⊢
  rw [List.map_cons,List.map_cons,allM,ih]
section
variable {ls : List Ln}
theorem tx_nl (h : ∀ l ∈ ls,LnG l) : ∀ p ∈ tx ls,¬ (10 ∈ TL.tl p):=fun p hp=>by
 obtain ⟨l,hl,rfl⟩:=List.mem_map.mp hp
 exact (h l hl).nl
theorem jnL_sum (h : ∀ l ∈ ls,LnG l) (hl : ls.length ≤ 200) : ((tx ls).map fun x=>x.length).sum + (tx ls).length * ("\n" : Str).length ≤ 61 * 200 :=
 join_len (tx ls) 200 (fun p hp=>by
  obtain ⟨l,hl,rfl⟩:=List.mem_map.mp hp
  exact (h l hl).len) (by rw [tx_len]; exact hl)
theorem jnL_len (h : ∀ l ∈ ls,LnG l) (hl : ls.length ≤ 200) : (jnL ls).length + 2 ≤ sizeLine:=by
 have hj:=jnL_sum h hl
 have hsz : (jnL ls).length ≤ ((tx ls).map fun x=>x.length).sum + (tx ls).length * ("\n" : Str).length:=by
  show (Builtin.Str.glued _ _).length ≤ _
  rw [size_glued]
  exact Nat.add_le_add_left (Nat.mul_le_mul_right _ (Nat.sub_le _ _)) _
 exact Nat.le_trans (Nat.add_le_add_right (Nat.le_trans hsz hj) 2) (by decide)
theorem jnL_ok (h : ∀ l ∈ ls,LnG l) (hl : ls.length ≤ 200) (st : Store) : mJoin (.d (.str "\n")) [.d (.lst (sD (tx ls)))] st = some (.d (.str (jnL ls))):=by
 have hs:=jnL_sum h hl
 unfold mJoin
 show (match strsU ((sD (tx ls)).map U.d) with
   | some ys=>if (ys.map fun x : Str=>x.length).sum + ys.length * ("\n" : Str).length ≤ 16777216 then some (U.d (.str (Txt.join "\n" ys))) else none
   | none=>none) = _
 rw [strsU_sD]
 exact if_pos (Nat.le_trans hs (by decide))
theorem lines_jn (h : ∀ l ∈ ls,LnG l) : linesOf (jnL ls) = if jnL ls = ("" : Str) then [] else tx ls:=by
 unfold linesOf
 by_cases e : jnL ls = ("" : Str)
 ·rw [if_pos e,if_pos e]
 ·rw [if_neg e,if_neg e]
  refine split_nl (fun z=>e ?_) (tx_nl h)
  unfold jnL
  rw [z,join_nil]
theorem empty_jn (h : ∀ l ∈ ls,LnG l) (e : jnL ls = ("" : Str)) : ls = [] ∨ ∃ l,ls = [l] ∧ l.text = ("" : Str):=by
 cases ls with
 | nil=>exact .inl rfl
 | cons l ls =>
  have hs:=split_nl (parts:=tx (l :: ls)) (by unfold tx; simp) (tx_nl h)
  rw [show Txt.join ("\n" : Str) (tx (l :: ls)) = ("" : Str) from e,split_e] at hs
  have h1 : l.text = ("" : Str):=(List.cons.inj hs).1.symm
  have h2 : tx ls = []:=(List.cons.inj hs).2.symm
  exact .inr ⟨l,by rw [List.map_eq_nil_iff.mp h2],h1⟩
end
theorem filS {L : List Str} {P : Str → Bool} {fi : F Itb} {tg : U → G} {tt : F Bool} {fe : F U} {vs : List Nat} {env : VEnv} (w : WF st) (hl : L.length ≤ 100) (hi : fi env st = .ok (.lst ((sD L).map U.d)) st) (h : ∀ (x : Str) (s : Store),∃ env1,tg (.d (.str x)) (wipeE env vs) s = .ok env1 .nx s ∧ tt env1 s = .ok (P x) s ∧ fe env1 s = .ok (.d (.str x)) s) : fLc fi tg tt fe vs env st = .ok (.d (.lst (sD (L.filter P)))) st:=by
 have:=fLc_pure (fi:=fi) (tg:=tg) (tt:=tt) (fe:=fe) (vs:=vs) (env:=env) (us:=L.map fun p=>U.d (.str p)) (P:=fun u=>match u with
  | .d (.str x)=>P x
  | _=>false) (q:=fun u=>match u with
  | .d d=>d
  | _=>.non) w (hi.trans (by unfold sD; rw [List.map_map]; rfl)) (by rw [List.length_map]; exact Nat.le_trans hl (by decide)) fun u hu s0 hs=>by
  obtain ⟨p,hp,rfl⟩:=List.mem_map.mp hu
  obtain ⟨env1,h1,h2,h3⟩:=h p s0
  exact ⟨env1,h1,h2,fun _=>h3⟩
 rw [this,List.filter_map,List.map_map]
 rfl
noncomputable def kk (s : Str) : Bool:=Txt.startswith s "#~"
theorem kk_nk {s : Str} (h : nk s = true) : kk s = false:=by
 unfold nk at h
 unfold kk
 cases e : Txt.startswith s "#~" with
 | false=>rfl
 | true=>rw [e] at h; cases h
theorem kk_k {s : Str} (h : nk s = false) : kk s = true:=by
 unfold nk at h
 unfold kk
 cases e : Txt.startswith s "#~" with
 | true=>rfl
 | false=>rw [e] at h; cases h
theorem kp_t : ∀ c : Fin 60,(("#~ " : Str) ++ dig c.val ++ (" " : Str) ++ ("ui.x" : Str) = (ka c.val).text ∧ (ka c.val).text ++ (" = " : Str) ++ ("1" : Str) = (kb c.val).text) ∧ (("#~ " : Str) ++ dig c.val).length + (" " : Str).length ≤ sizeLine ∧ (("#~ " : Str) ++ dig c.val ++ (" " : Str)).length + ("ui.x" : Str).length ≤ sizeLine ∧ (ka c.val).text.length + (" = " : Str).length ≤ sizeLine ∧ ((ka c.val).text ++ (" = " : Str)).length + ("1" : Str).length ≤ sizeLine:=by decide +kernel
theorem ev_k1 {c : Nat} (hc : c < 60) {v : D} {z : Str} (hv : v = .non ∧ z = (ka c).text ∨ v = .str "1" ∧ z = (kb c).text) {acc : List Str} {p : Nat} {s : Store} (hp : s[p]? = some (.lst (sU acc))) (hl : acc.length ≤ 200) {x0 x5 : Option U} :
  b_L_law_kept_1 K a [x0,some (.ref p),some (.d (.int (c : Nat))),some (.d (.str "ui.x")),some (.d v),x5] s = .ok [x0,some (.ref p),some (.d (.int (c : Nat))),some (.d (.str "ui.x")),some (.d v),some (.d (.str (ka c).text))] .nx (s.set p (.lst (sU (acc ++ [z])))):=by
 have t1 : ("#~ " : Str) ++ dig c ++ (" " : Str) ++ ("ui.x" : Str) = (ka c).text:=(kp_t ⟨c,hc⟩).1.1
 have t2 : (ka c).text ++ (" = " : Str) ++ ("1" : Str) = (kb c).text:=(kp_t ⟨c,hc⟩).1.2
 have n1 : (("#~ " : Str) ++ dig c).length + (" " : Str).length ≤ sizeLine:=(kp_t ⟨c,hc⟩).2.1
 have n2 : (("#~ " : Str) ++ dig c ++ (" " : Str)).length + ("ui.x" : Str).length ≤ sizeLine:=(kp_t ⟨c,hc⟩).2.2.1
 have n3 : (ka c).text.length + (" = " : Str).length ≤ sizeLine:=(kp_t ⟨c,hc⟩).2.2.2.1
 have n4 : ((ka c).text ++ (" = " : Str)).length + ("1" : Str).length ≤ sizeLine:=(kp_t ⟨c,hc⟩).2.2.2.2
 have m1 : ("#~ " : Str).length + (dig c).length ≤ sizeLine:=(num_t ⟨c,hc⟩).1.1
 have m5 : ((c : Nat) : Int).natAbs.log2 < 1920:=(num_t ⟨c,hc⟩).2
 generalize (ka c).text = A at *
 generalize (kb c).text = B at *
 have hst : oStr [.d (.int (c : Nat))] s = some (.d (.str (dig c))):=if_pos m5
 have o1 : oAdd (.d (.str "#~ ")) (.d (.str (dig c))) s = some (.d (.str (("#~ " : Str) ++ dig c))):=if_pos m1
 have o2 : oAdd (.d (.str (("#~ " : Str) ++ dig c))) (.d (.str " ")) s = some (.d (.str (("#~ " : Str) ++ dig c ++ (" " : Str)))):=if_pos n1
 have o3 : oAdd (.d (.str (("#~ " : Str) ++ dig c ++ (" " : Str)))) (.d (.str "ui.x")) s = some (.d (.str A)):=(if_pos n2).trans (by rw [t1])
 have o4 : oAdd (.d (.str A)) (.d (.str " = ")) s = some (.d (.str (A ++ (" = " : Str)))):=if_pos n3
 have o5 : oAdd (.d (.str (A ++ (" = " : Str)))) (.d (.str "1")) s = some (.d (.str B)):=(if_pos n4).trans (by rw [t2])
 have hz : (sU acc).length < sizeLine:=by rw [sUlen]; exact Nat.lt_of_le_of_lt hl (by decide)
 have hy : fIf (asB (f2 oIsN (vVar 4) (vC .non))) (vVar 5) (f2 oAdd (f2 oAdd (vVar 5) (vC (.str " = "))) (vVar 4)) [x0,some (.ref p),some (.d (.int (c : Nat))),some (.d (.str "ui.x")),some (.d v),some (.d (.str A))] s = .ok (.d (.str z)) s:=by
  rcases hv with ⟨rfl,rfl⟩ | ⟨rfl,rfl⟩
  ·exact fIfT (asBA (k:=true) (f2A rfl rfl rfl)) rfl
  ·exact fIfF (asBA (k:=false) (f2A rfl rfl rfl)) (f2A (f2A rfl rfl o4) rfl o5)
 have eA:=appE (env:=[x0,some (.ref p),some (.d (.int (c : Nat))),some (.d (.str "ui.x")),some (.d v),some (.d (.str A))]) (fx:=vVar 1) rfl hy hp hp hz
 rw [show sU acc ++ [U.d (.str z)] = sU (acc ++ [z]) from sUapp _ [_]] at eA
 unfold b_L_law_kept_1
 exact seqA (f2A (f2A (f2A rfl (puA (cons1 rfl) hst) o1) rfl o2) rfl o3) eA
theorem ev_kloop {x0 : Option U} {p k0 : Nat} (hk0 : k0 ≤ p) : ∀ (ls : List Ln) (acc : List Str) (s : Store) (x2 x3 x4 x5 : Option U),(∀ l ∈ ls,Lg l) → s[p]? = some (.lst (sU acc)) → acc.length + ls.length ≤ 200 →
  ∃ y2 y3 y4 y5 s',loopL (tgT 3 (tgCons (tgN 2) (tgCons (tgN 3) (tgCons (tgN 4) tgNil)))) (b_L_law_kept_1 K a) ((keptD ls).map U.d) [x0,some (.ref p),x2,x3,x4,x5] s = .ok [x0,some (.ref p),y2,y3,y4,y5] .nx s' ∧ s'[p]? = some (.lst (sU (acc ++ (tx ls).filter kk))) ∧ ∀ m,m < k0 → s'[m]? = s[m]?
 | [],acc,s,x2,x3,x4,x5,_,hp,_=>⟨x2,x3,x4,x5,s,rfl,by rw [show (tx ([] : List Ln)).filter kk = [] from rfl,List.append_nil]; exact hp,fun _ _=>rfl⟩
 | .rem x :: ls,acc,s,x2,x3,x4,x5,g,hp,hl=>by
  rw [List.length_cons] at hl
  have h:=ev_kloop (x0:=x0) hk0 ls acc s x2 x3 x4 x5 (fun l hl=>g l (List.mem_cons_of_mem _ hl)) hp (by omega)
  rwa [show (tx (.rem x :: ls)).filter kk = (tx ls).filter kk from List.filter_cons_of_neg (by show ¬ kk x = true; rw [kk_nk (g _ (List.mem_cons_self ..)).nk_rem]; exact Bool.false_ne_true)]
 | .head x :: ls,acc,s,x2,x3,x4,x5,g,hp,hl=>by
  rw [List.length_cons] at hl
  have h:=ev_kloop (x0:=x0) hk0 ls acc s x2 x3 x4 x5 (fun l hl=>g l (List.mem_cons_of_mem _ hl)) hp (by omega)
  rwa [show (tx (.head x :: ls)).filter kk = (tx ls).filter kk from List.filter_cons_of_neg (by show ¬ kk (("[" : Str) ++ x ++ ("]" : Str)) = true; rw [kk_nk (g _ (List.mem_cons_self ..)).nk_head]; exact Bool.false_ne_true)]
 | .set k v :: ls,acc,s,x2,x3,x4,x5,g,hp,hl=>by
  rw [List.length_cons] at hl
  have h:=ev_kloop (x0:=x0) hk0 ls acc s x2 x3 x4 x5 (fun l hl=>g l (List.mem_cons_of_mem _ hl)) hp (by omega)
  rwa [show (tx (.set k v :: ls)).filter kk = (tx ls).filter kk from List.filter_cons_of_neg (by show ¬ kk (k ++ (" = " : Str) ++ v) = true; rw [kk_nk (g _ (List.mem_cons_self ..)).nk_set]; exact Bool.false_ne_true)]
 | .kept x n q v :: ls,acc,s,x2,x3,x4,x5,g,hp,hl=>by
  rw [List.length_cons] at hl
  have hg:=g _ (List.mem_cons_self ..)
  obtain ⟨c,hc,rfl,rfl,hv⟩ : ∃ c,c < 60 ∧ n = ((c : Nat) : Int) ∧ q = ("ui.x" : Str) ∧ (v = .non ∧ x = (ka c).text ∨ v = .str "1" ∧ x = (kb c).text):=by
   cases hg with
   | kp h h' =>
    rcases h' with h' | h'
    ·injection h' with h1 h2 h3 h4
     exact ⟨_,h,h2,h3,.inl ⟨h4,h1⟩⟩
    ·injection h' with h1 h2 h3 h4
     exact ⟨_,h,h2,h3,.inr ⟨h4,h1⟩⟩
  have e1:=ev_k1 (K:=K) (a:=a) hc hv hp (by omega) (x0:=x0) (x5:=x5)
  obtain ⟨y2,y3,y4,y5,s',e2,h2,h3⟩:=ev_kloop (x0:=x0) hk0 ls (acc ++ [x]) (s.set p (.lst (sU (acc ++ [x])))) (some (.d (.int (c : Nat)))) (some (.d (.str "ui.x"))) (some (.d v)) (some (.d (.str (ka c).text))) (fun l hl=>g l (List.mem_cons_of_mem _ hl)) (set_at hp) (by rw [List.length_append,List.length_singleton]; omega)
  refine ⟨y2,y3,y4,y5,s',loopT rfl e1 e2,?_,fun m hm=>(h3 m hm).trans (List.getElem?_set_ne (by omega))⟩
  rw [show (tx (.kept x (c : Nat) "ui.x" v :: ls)).filter kk = x :: (tx ls).filter kk from List.filter_cons_of_pos (kk_k hg.nk_kept),List.append_cons]
  exact h2
theorem ev_lkept (w : WF st) {s : Str} {ls t : List Ln} {SS : List Sc} {ds : List D} (F : Fi ls SS t) : m_L_law_kept K a [.d (FV a s ls ds)] st = .ok (.d (.lst (sD ((tx ls).filter kk)))) st:=by
 have hpl : (partsL .non 0 ls).length ≤ sizeLine:=by rw [parts_len]; exact Nat.le_trans F.len (by decide)
 have w1 : WF (st ++ [.lst (sU [])]):=w.pushL []
 have e1:=ev_fkept (K:=K) (a:=a) (s:=s) (ls:=ls) (ds:=ds) (dd:=kvD (setsL .non ls)) w1 hpl
 obtain ⟨y2,y3,y4,y5,s',e2,h2,h3⟩:=ev_kloop (K:=K) (a:=a) (x0:=some (.d (FV a s ls ds))) (p:=st.length) (Nat.le_refl _) ls [] (st ++ [.lst (sU [])]) none none none none F.lg new_at (by have:=F.len; rw [List.length_nil]; omega)
 rw [List.nil_append] at h2
 have main : g_L_law_kept K a [some (.d (FV a s ls ds)),none,none,none,none,none] st = .ok [some (.d (FV a s ls ds)),some (.ref st.length),y2,y3,y4,y5] (.rt (.ref st.length)) s':=by
  unfold g_L_law_kept
  exact seqA (lstA (us:=[]) rfl (Nat.zero_le _)) (seqG ((sFor_lst (iterA (methA rfl (insF _) (lu_kept _ _ _ _) rfl rfl e1))).trans e2) (retA rfl))
 unfold m_L_law_kept
 refine (fnA (us:=[.d (FV a s ls ds)]) (n:=6) main).trans ?_
 exact wFrz_of w h2 (Nat.le_refl _) fun m hm=>(h3 m hm).trans (List.getElem?_append_left hm)
theorem Fi.nil : Fi [] [] []:=⟨Flat.nil,(fun _ h=>nomatch h),.nil,⟨.nil,(fun _ h=>nomatch h),(fun _ h=>nomatch h),fun _ h=>nomatch h⟩,Nat.zero_le _,trivial⟩
theorem Fi.so {ls t : List Ln} {SS : List Sc} (F : Fi ls SS t) : ∀ s ∈ tx ls,PyData.strOk s = true:=fun s hs=>by
 obtain ⟨l,hl,rfl⟩:=List.mem_map.mp hs
 exact (F.lg l hl).lnG.so
theorem join1 : Txt.join ("\n" : Str) [("" : Str)] = ("" : Str):=by decide +kernel
theorem Fi.file {ls t : List Ln} {SS : List Sc} (F : Fi ls SS t) : ∃ lf SS' t',Fi lf SS' t' ∧ TextOk (jnL ls) lf ∧ tx lf = (if tx ls = [("" : Str)] then [] else tx ls):=by
 have hl : ∀ l ∈ ls,LnG l:=fun l h=>(F.lg l h).lnG
 have h60 : ls.length ≤ 200:=Nat.le_trans F.len (by decide)
 by_cases e : jnL ls = ("" : Str)
 ·refine ⟨[],[],[],Fi.nil,⟨by rw [lines_jn hl,if_pos e]; rfl,trivial,jnL_len hl h60,by decide⟩,?_⟩
  rcases empty_jn hl e with rfl | ⟨l,rfl,h⟩
  ·rfl
  ·rw [if_pos (show tx [l] = [("" : Str)] from by show [l.text] = _; rw [h])]
   rfl
 ·refine ⟨ls,SS,t,F,⟨by rw [lines_jn hl,if_neg e]; rfl,F.vd,jnL_len hl h60,Nat.lt_of_le_of_lt F.len (by decide)⟩,?_⟩
  rw [if_neg fun z=>e (by unfold jnL; rw [z]; exact join1)]
theorem mk {s : Str} {ls t : List Ln} {SS : List Sc} (G : Fi ls SS t) (T : TextOk s ls) (w : WF st) : ∃ ds,∀ (fx : F U) (env : VEnv),fx env st = .ok (.d (.str s)) st → fWr wFrz (fMake a.C_SettingsFile 1 0 gPos (m_SettingsFile_init K a) (fCW (fCons fx fNil) fNil)) env st = .ok (.d (FV a s ls ds)) st:=by
 obtain ⟨ds,e⟩:=ev_make (K:=K) (a:=a) w T (fc:=fun _ st=>.ok ([.d (.str s)],[]) st) (env:=[]) rfl
 refine ⟨ds,fun fx env hf=>?_⟩
 rw [merge_nodup G.st.nd] at e
 rw [show FV a s ls ds = fileD a s (partsL .non 0 ls) ds (kvD (setsL .non ls)) from rfl,← e]
 have hc : fCW (fCons fx fNil) fNil env st = .ok ([.d (.str s)],[]) st:=cwA (cons1 hf) rfl
 unfold fWr fMake bnd
 rw [hc]
theorem eqSame {xs : List Str} (h : ∀ s ∈ xs,PyData.strOk s = true) (s0 : Store) : oNe (.d (.lst (sD xs))) (.d (.lst (sD xs))) s0 = some (.d (.bl false)):=by
 unfold oNe
 rw [eqB_strs2 h h,decide_eq_true rfl]
 rfl
theorem ev_turn {b : Nat} (w : WF st) (hb : Bag st b) (n : Int) {x0 x1 x4 x5 x6 x7 x8 : Option U} : ∃ (y4 y5 y6 y7 y8 : Option U) (s' : Store),b_law_1 K a [x0,x1,some (.ref b),some (.d (.int n)),x4,x5,x6,x7,x8] st = .ok [x0,x1,some (.ref b),some (.d (.int n)),y4,y5,y6,y7,y8] .nx s' ∧ Fb st s' b:=by
 obtain ⟨ls,SS,t,s1,e1,F,k1⟩:=ev_drawn (K:=K) (a:=a) w hb (decide (n % 2 = 1))
 have w1:=k1.wf
 have hl : ∀ l ∈ ls,LnG l:=fun l h=>(F.lg l h).lnG
 have j1:=jnL_ok hl (Nat.le_trans F.len (by decide)) s1
 obtain ⟨lf,SS',t',G,T,ht⟩:=F.file
 obtain ⟨ds,m1⟩:=mk (K:=K) (a:=a) G T w1
 have so:=F.so
 have so':=G.so
 have hlf:=G.len
 have hll : lf.length ≤ 200:=Nat.le_trans hlf (by decide)
 have hpl : (partsL .non 0 lf).length ≤ sizeLine:=by rw [parts_len]; exact Nat.le_trans hlf (by decide)
 have l1 : linesOf (jnL ls) = tx lf:=T.ln
 have e5:=ev_together (K:=K) (a:=a) (s:=jnL ls) (ds:=ds) w1 G
 have e6:=ev_lkept (K:=K) (a:=a) (s:=jnL ls) (ds:=ds) w1 G
 have e7:=ev_fplaces (K:=K) (a:=a) (s:=jnL ls) (ls:=lf) (ds:=ds) (dd:=kvD (setsL .non lf)) w1 hpl
 have e9:=ev_flines (K:=K) (a:=a) (s:=jnL ls) (ls:=lf) (ds:=ds) (dd:=kvD (setsL .non lf)) w1 T.l1
 rw [l1] at e9
 have hmod : f2 oEq (f2 oMod (vVar 3) (vC (.int 2))) (vC (.int 1)) [x0,x1,some (.ref b),some (.d (.int n)),x4,x5,x6,x7,x8] st = .ok (.d (.bl (decide (n % 2 = 1)))) st:=f2A (f2A rfl rfl (show oMod (.d (.int n)) (.d (.int 2)) st = some (.d (.int (n % 2))) from rfl)) rfl rfl
 have hfi : fIf (asB (f2 oEq (vVar 4) (fN vLst (fCons (vC (.str "")) fNil)))) (fN vLst fNil) (vVar 4) [x0,x1,some (.ref b),some (.d (.int n)),some (.d (.lst (sD (tx ls)))),some (.d (FV a (jnL ls) lf ds)),x6,x7,x8] s1 = .ok (.d (.lst (sD (tx lf)))) s1:=by
  have he : oEq (.d (.lst (sD (tx ls)))) (.d (.lst (sD [("" : Str)]))) s1 = some (.d (.bl (decide (tx ls = [("" : Str)])))):=by
   unfold oEq
   rw [eqB_strs2 so (by decide +kernel)]
   rfl
  have hc : ∀ k,decide (tx ls = [("" : Str)]) = k → asB (f2 oEq (vVar 4) (fN vLst (fCons (vC (.str "")) fNil))) [x0,x1,some (.ref b),some (.d (.int n)),some (.d (.lst (sD (tx ls)))),some (.d (FV a (jnL ls) lf ds)),x6,x7,x8] s1 = .ok k s1:=fun k h=>by
   rw [h] at he
   exact asBA (f2A rfl (lstDA (ds:=sD [("" : Str)]) (cons1 rfl) (by decide)) he)
  by_cases e : tx ls = [("" : Str)]
  ·rw [ht,if_pos e]
   exact fIfT (hc true (decide_eq_true e)) (lstDA (ds:=[]) rfl (Nat.zero_le _))
  ·rw [ht,if_neg e]
   exact fIfF (hc false (decide_eq_false e)) rfl
 have c1 : c_law_1 K a [x0,x1,some (.ref b),some (.d (.int n)),some (.d (.lst (sD (tx lf)))),some (.d (FV a (jnL ls) lf ds)),x6,x7,x8] s1 = .ok (.d (.lst (sD ((tx lf).filter nk)))) s1:=by
  unfold c_law_1
  exact filS w1 (by rw [tx_len]; omega) (iterA rfl) fun x s=>⟨_,rfl,bNotA (asTA (strM rfl (cons1 rfl) rfl) rfl),rfl⟩
 have c2 : c_law_2 K a [x0,x1,some (.ref b),some (.d (.int n)),some (.d (.lst (sD (tx lf)))),some (.d (FV a (jnL ls) lf ds)),x6,x7,x8] s1 = .ok (.d (.lst (sD ((tx lf).filter kk)))) s1:=by
  unfold c_law_2
  exact filS w1 (by rw [tx_len]; omega) (iterA rfl) fun x s=>⟨_,rfl,asTA (strM rfl (cons1 rfl) rfl) rfl,rfl⟩
 have c3:=ev_c3 (K:=K) (a:=a) (s:=jnL ls) (ls:=lf) (ds:=ds) (dd:=kvD (setsL .non lf)) w1 hll (x0:=x0) (x1:=x1) (x2:=some (.ref b)) (x3:=some (.d (.int n))) (x4:=some (.d (.lst (sD (tx lf))))) (x6:=x6) (x7:=x7) (x8:=x8)
 have sn : ((setsL .non lf).map fun p=>p.1).length < 64:=by
  have sl : ∀ (ls : List Ln) (s : D),(setsL s ls).length ≤ ls.length:=fun ls=>by
   induction ls with
   | nil=>intro s; exact Nat.le_refl _
   | cons l ls ih=>intro s; cases l with
    | rem x=>exact Nat.le_succ_of_le (ih s)
    | kept x n p v=>exact Nat.le_succ_of_le (ih s)
    | head n=>exact Nat.le_succ_of_le (ih _)
    | set k v=>exact Nat.succ_le_succ (ih s)
  rw [List.length_map]
  exact Nat.lt_of_le_of_lt (Nat.le_trans (sl lf .non) hlf) (by decide)
 have hso : oSortS [.d (.lst (sD ((setsL .non lf).map fun p=>p.1)))] s1 = some (.d (.lst (sD (sortS ((setsL .non lf).map fun p=>p.1))))):=by
  show (match strsU ((sD ((setsL .non lf).map fun p=>p.1)).map U.d) with
   | some ns=>if ns.length < 64 then some (U.d (.lst ((sortS ns).map .str))) else none
   | none=>none) = _
  rw [strsU_sD]
  exact if_pos sn
 have sso : ∀ s ∈ sortS ((setsL .non lf).map fun p=>p.1),PyData.strOk s = true:=fun s hs=>by
  obtain ⟨q,hq,rfl⟩:=List.mem_map.mp ((sortS_perm _).mem_iff.mp hs)
  exact (G.st.so q hq).1
 refine ⟨some (.d (.lst (sD (tx lf)))),some (.d (FV a (jnL ls) lf ds)),x6,x7,x8,s1,?_,k1⟩
 unfold b_law_1
 refine seqA (callA (consA rfl (cons1 hmod)) rfl e1) (seqA (m1 _ _ (strM rfl (cons1 rfl) j1)) (seqA hfi ?_))
 refine seqG (ifF (asBA (f2A (callA (cons1 rfl) rfl e5) c1 (eqSame (fun s hs=>so' s (List.mem_filter.mp hs).1) s1))) rfl) ?_
 refine seqG (ifF (asBA (f2A (callA (cons1 rfl) rfl e6) c2 (eqSame (fun s hs=>so' s (List.mem_filter.mp hs).1) s1))) rfl) ?_
 refine ifF (bOrF (asBA (f2A (puA (cons1 (methA rfl (insF s1) (lu_places _ _ _ _) rfl rfl e7)) hso) (puA (cons1 c3) hso) (eqSame sso s1))) (asBA (f2A (propA rfl (insF s1) e9) rfl (eqSame so' s1)))) rfl
theorem ev_at {ns : List Int} (hn : ns.length ≤ 63) {i : Nat} (hi : i < 64) (w : WF st) {x2 x3 x4 x5 x6 x7 x8 : Option U} : ∃ (y2 y3 y4 y5 y6 y7 y8 : Option U) (s' : Store),b_law_2 K a [some (.d (.scr ns)),some (.d (.int (i : Nat))),x2,x3,x4,x5,x6,x7,x8] st = .ok [some (.d (.scr ns)),some (.d (.int (i : Nat))),y2,y3,y4,y5,y6,y7,y8] .nx s' ∧ WF s':=by
 obtain ⟨n,x,e0⟩:=ev_lbag (K:=K) (a:=a) w ns hn i hi
 have w0 : WF (st ++ [.lst [.d (.int n),.d (.int x)]]):=w.pushL [.int n,.int x]
 have b0 : Bag (st ++ [.lst [.d (.int n),.d (.int x)]]) st.length:=⟨n,x,new_at⟩
 obtain ⟨env',s3,e4,⟨y3,y4,y5,y6,y7,y8,rfl,w3,b3⟩⟩:=loopI (n:=3) (g:=b_law_1 K a) (fun env s=>∃ y3 y4 y5 y6 y7 y8 : Option U,env = [some (.d (.scr ns)),some (.d (.int (i : Nat))),some (.ref st.length),y3,y4,y5,y6,y7,y8] ∧ WF s ∧ Bag s st.length) ((List.range 8).map fun i=>U.d (.int (((0 + i : Nat)) : Int))) (fun u hu env s ⟨y3,y4,y5,y6,y7,y8,he,ww,bb⟩=>by
  subst he
  obtain ⟨j,hj,rfl⟩:=List.mem_map.mp hu
  obtain ⟨z4,z5,z6,z7,z8,s',e,k'⟩:=ev_turn (K:=K) (a:=a) (x0:=some (.d (.scr ns))) (x1:=some (.d (.int (i : Nat)))) (x4:=y4) (x5:=y5) (x6:=y6) (x7:=y7) (x8:=y8) ww bb (((0 + j : Nat)) : Int)
  exact ⟨_,s',e,_,_,_,_,_,_,rfl,k'.wf,k'.bag⟩) [some (.d (.scr ns)),some (.d (.int (i : Nat))),some (.ref st.length),x3,x4,x5,x6,x7,x8] (st ++ [.lst [.d (.int n),.d (.int x)]]) ⟨_,_,_,_,_,_,rfl,w0,b0⟩
 refine ⟨some (.ref st.length),y3,y4,y5,y6,y7,y8,s3,?_,w3⟩
 unfold b_law_2
 exact seqA (callA (consA rfl (cons1 rfl)) rfl e0) ((sFor_lst (fItN_ok rfl (itRn (by decide)))).trans e4)
theorem minmax4 (L : Nat) : (if (if ((L : Nat) : Int) < 4 then ((L : Nat) : Int) else 4) > 1 then (if ((L : Nat) : Int) < 4 then ((L : Nat) : Int) else 4) else 1) = ((max 1 (min 4 L) : Nat) : Int):=by
 split <;> split <;> omega
theorem law_ok : LawOk:=by
 intro K a Q ns hn
 obtain ⟨env',s1,e1,⟨y1,y2,y3,y4,y5,y6,y7,y8,rfl,w1⟩⟩:=loopI (n:=1) (g:=b_law_2 K a) (fun env s=>∃ y1 y2 y3 y4 y5 y6 y7 y8 : Option U,env = [some (.d (.scr ns)),y1,y2,y3,y4,y5,y6,y7,y8] ∧ WF s) ((List.range (max 1 (min 4 ns.length))).map fun i=>U.d (.int (((0 + i : Nat)) : Int))) (fun u hu env s ⟨y1,y2,y3,y4,y5,y6,y7,y8,he,ww⟩=>by
  subst he
  obtain ⟨i,hi,rfl⟩:=List.mem_map.mp hu
  rw [List.mem_range] at hi
  obtain ⟨z2,z3,z4,z5,z6,z7,z8,s',e,w'⟩:=ev_at (K:=K) (a:=a) hn (i:=0 + i) (by omega) (x2:=y2) (x3:=y3) (x4:=y4) (x5:=y5) (x6:=y6) (x7:=y7) (x8:=y8) ww
  exact ⟨_,s',e,_,_,_,_,_,_,_,_,rfl,w'⟩) [some (.d (.scr ns)),none,none,none,none,none,none,none,none] [] ⟨_,_,_,_,_,_,_,_,rfl,WF.nil⟩
 have hfi : fItN itR (fCons (fB (pu oMax) (fCons (vC (.int 1)) (fCons (fB (pu oMin) (fCons (vC (.int 4)) (fCons (fB (pu oLen) (fCons (vVar 0) fNil)) fNil))) fNil))) fNil) [some (.d (.scr ns)),none,none,none,none,none,none,none,none] [] = .ok (.lst ((List.range (max 1 (min 4 ns.length))).map fun i=>U.d (.int (((0 + i : Nat)) : Int)))) []:=by
  refine fItN_ok (us:=[.d (.int ((max 1 (min 4 ns.length) : Nat) : Int))]) ?_ (itRn (by omega))
  have:=minmax4 ns.length
  simp_all? only [List.length_map,this]
 refine ⟨[],?_⟩
 have main : g_law K a [some (.d (.scr ns)),none,none,none,none,none,none,none,none] [] = .ok [some (.d (.scr ns)),y1,y2,y3,y4,y5,y6,y7,y8] (.rt (.d (.bl true))) s1:=by
  unfold g_law
  exact seqG ((sFor_lst hfi).trans e1) (retA rfl)
 have m9:=fnA (us:=[.d (.scr ns)]) (n:=9) (g:=g_law K a) (w:=wFrz) main
 refine m9.trans ?_
 unfold wFrz
 rw [frz_dd]
 rfl
end VL.K08
namespace VL.K08
open PySem PySem.Spec PyProof.Rows L2 VL VL.Hd
noncomputable def hl0 : List Str:=["__name__","BadText","NoPlace","LETTERS","DIGITS","MOST_LETTERS","MOST_SIGNS","SECTION","PLACE","KEPT","REMARK","is_made_of","is_name","is_place","is_value","is_number","kept_in","setting_in","section_in","Reader","lines_of","SettingsFile","parts_of","_law_bag","_law_take"]
noncomputable def hl1 : List Str:=["_law_of","_law_mixed","_law_drawn","_law_together","_law_kept"]
noncomputable def hl : List Str:=hl0 ++ (hl1)
noncomputable def hn0 : List Str:=["Reader","SettingsFile","_law_bag","_law_take","_law_of","_law_mixed","_law_drawn","lines_of","is_made_of","is_number","is_name","is_place","is_value","kept_in","section_in","setting_in","parts_of","_law_together","_law_kept","law"]
noncomputable def hn : List Str:=hn0
noncomputable def ad (K : PySem.W.Frag) : Ad where
 C_Reader:=He.ga K "Reader"
 C_SettingsFile:=He.ga K "SettingsFile"
 f_L_law_bag:=(He.ga K "_law_bag")
 f_L_law_take:=(He.ga K "_law_take")
 f_L_law_of:=(He.ga K "_law_of")
 f_L_law_mixed:=(He.ga K "_law_mixed")
 f_L_law_drawn:=(He.ga K "_law_drawn")
 f_Reader_init:=(He.ma K (He.ga K "Reader") "__init__")
 f_lines_of:=(He.ga K "lines_of")
 f_is_made_of:=(He.ga K "is_made_of")
 f_is_number:=(He.ga K "is_number")
 f_is_name:=(He.ga K "is_name")
 f_is_place:=(He.ga K "is_place")
 f_is_value:=(He.ga K "is_value")
 f_kept_in:=(He.ga K "kept_in")
 f_Reader_put:=(He.ma K (He.ga K "Reader") "put")
 f_Reader_take_kept:=(He.ma K (He.ga K "Reader") "take_kept")
 f_section_in:=(He.ga K "section_in")
 f_setting_in:=(He.ga K "setting_in")
 f_Reader_take_setting:=(He.ma K (He.ga K "Reader") "take_setting")
 f_Reader_take:=(He.ma K (He.ga K "Reader") "take")
 f_parts_of:=(He.ga K "parts_of")
 f_SettingsFile_init:=(He.ma K (He.ga K "SettingsFile") "__init__")
 f_SettingsFile_places:=(He.ma K (He.ga K "SettingsFile") "places")
 f_SettingsFile_sections:=(He.ma K (He.ga K "SettingsFile") "sections")
 f_SettingsFile_block:=(He.ma K (He.ga K "SettingsFile") "block")
 f_SettingsFile_value:=(He.ma K (He.ga K "SettingsFile") "value")
 f_SettingsFile_tail:=(He.ma K (He.ga K "SettingsFile") "tail")
 f_L_law_together:=(He.ga K "_law_together")
 f_SettingsFile_kept:=(He.ma K (He.ga K "SettingsFile") "kept")
 f_L_law_kept:=(He.ga K "_law_kept")
 f_SettingsFile_pairs:=(He.ma K (He.ga K "SettingsFile") "pairs")
 f_SettingsFile_lines:=(propF K (He.ma K (He.ga K "SettingsFile") "lines"))
 f_law:=(He.ga K "law")
 p_SettingsFile_lines:=He.ma K (He.ga K "SettingsFile") "lines"
noncomputable def fb0 (K : PySem.W.Frag) : List Bool:=[decide (PySem.W.nsIn K mainGlobals "_law_bag" = some (some (.ref (ad K).f_L_law_bag))),
 codeB K (ad K).f_L_law_bag "_law_bag",
 decide (PySem.W.keepIn K (.ref (ad K).f_L_law_bag) = true),
 decide (PySem.W.nsIn K mainGlobals "_law_take" = some (some (.ref (ad K).f_L_law_take))),
 codeB K (ad K).f_L_law_take "_law_take",
 decide (PySem.W.keepIn K (.ref (ad K).f_L_law_take) = true),
 decide (PySem.W.nsIn K mainGlobals "_law_of" = some (some (.ref (ad K).f_L_law_of))),
 codeB K (ad K).f_L_law_of "_law_of",
 decide (PySem.W.keepIn K (.ref (ad K).f_L_law_of) = true),
 decide (PySem.W.nsIn K mainGlobals "_law_mixed" = some (some (.ref (ad K).f_L_law_mixed))),
 codeB K (ad K).f_L_law_mixed "_law_mixed",
 decide (PySem.W.keepIn K (.ref (ad K).f_L_law_mixed) = true),
 decide (PySem.W.nsIn K mainGlobals "_law_drawn" = some (some (.ref (ad K).f_L_law_drawn))),
 codeB K (ad K).f_L_law_drawn "_law_drawn",
 decide (PySem.W.keepIn K (.ref (ad K).f_L_law_drawn) = true),
 decide (PySem.W.findIn K (.ref (ad K).C_Reader) "__init__" = some (some (.ref (ad K).f_Reader_init))),
 decide (PySem.W.isFn K (.ref (ad K).f_Reader_init) = true),
 codeB K (ad K).f_Reader_init "Reader.__init__",
 decide (PySem.W.keepIn K (.ref (ad K).f_Reader_init) = true),
 decide (PySem.W.nsIn K mainGlobals "lines_of" = some (some (.ref (ad K).f_lines_of))),
 codeB K (ad K).f_lines_of "lines_of",
 decide (PySem.W.keepIn K (.ref (ad K).f_lines_of) = true),
 decide (PySem.W.nsIn K mainGlobals "is_made_of" = some (some (.ref (ad K).f_is_made_of))),
 codeB K (ad K).f_is_made_of "is_made_of",
 decide (PySem.W.keepIn K (.ref (ad K).f_is_made_of) = true)]
noncomputable def fb1 (K : PySem.W.Frag) : List Bool:=[decide (PySem.W.nsIn K mainGlobals "is_number" = some (some (.ref (ad K).f_is_number))),
 codeB K (ad K).f_is_number "is_number",
 decide (PySem.W.keepIn K (.ref (ad K).f_is_number) = true),
 decide (PySem.W.nsIn K mainGlobals "is_name" = some (some (.ref (ad K).f_is_name))),
 codeB K (ad K).f_is_name "is_name",
 decide (PySem.W.keepIn K (.ref (ad K).f_is_name) = true),
 decide (PySem.W.nsIn K mainGlobals "is_place" = some (some (.ref (ad K).f_is_place))),
 codeB K (ad K).f_is_place "is_place",
 decide (PySem.W.keepIn K (.ref (ad K).f_is_place) = true),
 decide (PySem.W.nsIn K mainGlobals "is_value" = some (some (.ref (ad K).f_is_value))),
 codeB K (ad K).f_is_value "is_value",
 decide (PySem.W.keepIn K (.ref (ad K).f_is_value) = true),
 decide (PySem.W.nsIn K mainGlobals "kept_in" = some (some (.ref (ad K).f_kept_in))),
 codeB K (ad K).f_kept_in "kept_in",
 decide (PySem.W.keepIn K (.ref (ad K).f_kept_in) = true),
 decide (PySem.W.findIn K (.ref (ad K).C_Reader) "put" = some (some (.ref (ad K).f_Reader_put))),
 decide (PySem.W.isFn K (.ref (ad K).f_Reader_put) = true),
 codeB K (ad K).f_Reader_put "Reader.put",
 decide (PySem.W.keepIn K (.ref (ad K).f_Reader_put) = true),
 decide (PySem.W.findIn K (.ref (ad K).C_Reader) "take_kept" = some (some (.ref (ad K).f_Reader_take_kept))),
 decide (PySem.W.isFn K (.ref (ad K).f_Reader_take_kept) = true),
 codeB K (ad K).f_Reader_take_kept "Reader.take_kept",
 decide (PySem.W.keepIn K (.ref (ad K).f_Reader_take_kept) = true),
 decide (PySem.W.nsIn K mainGlobals "section_in" = some (some (.ref (ad K).f_section_in))),
 codeB K (ad K).f_section_in "section_in"]
noncomputable def fb2 (K : PySem.W.Frag) : List Bool:=[decide (PySem.W.keepIn K (.ref (ad K).f_section_in) = true),
 decide (PySem.W.nsIn K mainGlobals "setting_in" = some (some (.ref (ad K).f_setting_in))),
 codeB K (ad K).f_setting_in "setting_in",
 decide (PySem.W.keepIn K (.ref (ad K).f_setting_in) = true),
 decide (PySem.W.findIn K (.ref (ad K).C_Reader) "take_setting" = some (some (.ref (ad K).f_Reader_take_setting))),
 decide (PySem.W.isFn K (.ref (ad K).f_Reader_take_setting) = true),
 codeB K (ad K).f_Reader_take_setting "Reader.take_setting",
 decide (PySem.W.keepIn K (.ref (ad K).f_Reader_take_setting) = true),
 decide (PySem.W.findIn K (.ref (ad K).C_Reader) "take" = some (some (.ref (ad K).f_Reader_take))),
 decide (PySem.W.isFn K (.ref (ad K).f_Reader_take) = true),
 codeB K (ad K).f_Reader_take "Reader.take",
 decide (PySem.W.keepIn K (.ref (ad K).f_Reader_take) = true),
 decide (PySem.W.nsIn K mainGlobals "parts_of" = some (some (.ref (ad K).f_parts_of))),
 codeB K (ad K).f_parts_of "parts_of",
 decide (PySem.W.keepIn K (.ref (ad K).f_parts_of) = true),
 decide (PySem.W.findIn K (.ref (ad K).C_SettingsFile) "__init__" = some (some (.ref (ad K).f_SettingsFile_init))),
 decide (PySem.W.isFn K (.ref (ad K).f_SettingsFile_init) = true),
 codeB K (ad K).f_SettingsFile_init "SettingsFile.__init__",
 decide (PySem.W.keepIn K (.ref (ad K).f_SettingsFile_init) = true),
 decide (PySem.W.findIn K (.ref (ad K).C_SettingsFile) "places" = some (some (.ref (ad K).f_SettingsFile_places))),
 decide (PySem.W.isFn K (.ref (ad K).f_SettingsFile_places) = true),
 codeB K (ad K).f_SettingsFile_places "SettingsFile.places",
 decide (PySem.W.keepIn K (.ref (ad K).f_SettingsFile_places) = true),
 decide (PySem.W.findIn K (.ref (ad K).C_SettingsFile) "sections" = some (some (.ref (ad K).f_SettingsFile_sections))),
 decide (PySem.W.isFn K (.ref (ad K).f_SettingsFile_sections) = true)]
noncomputable def fb3 (K : PySem.W.Frag) : List Bool:=[codeB K (ad K).f_SettingsFile_sections "SettingsFile.sections",
 decide (PySem.W.keepIn K (.ref (ad K).f_SettingsFile_sections) = true),
 decide (PySem.W.findIn K (.ref (ad K).C_SettingsFile) "block" = some (some (.ref (ad K).f_SettingsFile_block))),
 decide (PySem.W.isFn K (.ref (ad K).f_SettingsFile_block) = true),
 codeB K (ad K).f_SettingsFile_block "SettingsFile.block",
 decide (PySem.W.keepIn K (.ref (ad K).f_SettingsFile_block) = true),
 decide (PySem.W.findIn K (.ref (ad K).C_SettingsFile) "value" = some (some (.ref (ad K).f_SettingsFile_value))),
 decide (PySem.W.isFn K (.ref (ad K).f_SettingsFile_value) = true),
 codeB K (ad K).f_SettingsFile_value "SettingsFile.value",
 decide (PySem.W.keepIn K (.ref (ad K).f_SettingsFile_value) = true),
 decide (PySem.W.findIn K (.ref (ad K).C_SettingsFile) "tail" = some (some (.ref (ad K).f_SettingsFile_tail))),
 decide (PySem.W.isFn K (.ref (ad K).f_SettingsFile_tail) = true),
 codeB K (ad K).f_SettingsFile_tail "SettingsFile.tail",
 decide (PySem.W.keepIn K (.ref (ad K).f_SettingsFile_tail) = true),
 decide (PySem.W.nsIn K mainGlobals "_law_together" = some (some (.ref (ad K).f_L_law_together))),
 codeB K (ad K).f_L_law_together "_law_together",
 decide (PySem.W.keepIn K (.ref (ad K).f_L_law_together) = true),
 decide (PySem.W.findIn K (.ref (ad K).C_SettingsFile) "kept" = some (some (.ref (ad K).f_SettingsFile_kept))),
 decide (PySem.W.isFn K (.ref (ad K).f_SettingsFile_kept) = true),
 codeB K (ad K).f_SettingsFile_kept "SettingsFile.kept",
 decide (PySem.W.keepIn K (.ref (ad K).f_SettingsFile_kept) = true),
 decide (PySem.W.nsIn K mainGlobals "_law_kept" = some (some (.ref (ad K).f_L_law_kept))),
 codeB K (ad K).f_L_law_kept "_law_kept",
 decide (PySem.W.keepIn K (.ref (ad K).f_L_law_kept) = true),
 decide (PySem.W.findIn K (.ref (ad K).C_SettingsFile) "pairs" = some (some (.ref (ad K).f_SettingsFile_pairs)))]
noncomputable def fb4 (K : PySem.W.Frag) : List Bool:=[decide (PySem.W.isFn K (.ref (ad K).f_SettingsFile_pairs) = true),
 codeB K (ad K).f_SettingsFile_pairs "SettingsFile.pairs",
 decide (PySem.W.keepIn K (.ref (ad K).f_SettingsFile_pairs) = true),
 decide (PySem.W.findIn K (.ref (ad K).C_SettingsFile) "lines" = some (some (.ref (ad K).p_SettingsFile_lines))),
 propB K (ad K).p_SettingsFile_lines,
 decide (PySem.W.specialIn K (.ref (ad K).p_SettingsFile_lines) "__get__" = some (some (.builtin "property.__get__"))),
 decide (PySem.W.takesIn K (.ref (ad K).p_SettingsFile_lines) = some true),
 codeB K (ad K).f_SettingsFile_lines "SettingsFile.lines",
 decide (PySem.W.keepIn K (.ref (ad K).f_SettingsFile_lines) = true),
 decide (PySem.W.nsIn K mainGlobals "law" = some (some (.ref (ad K).f_law))),
 codeB K (ad K).f_law "law",
 decide (PySem.W.keepIn K (.ref (ad K).f_law) = true),
 decide (PySem.W.nsIn K mainGlobals "abs" = some none),
 decide (PySem.W.nsIn K mainGlobals "all" = some none),
 decide (PySem.W.nsIn K mainGlobals "dict" = some none),
 decide (PySem.W.nsIn K mainGlobals "enumerate" = some none),
 decide (PySem.W.nsIn K mainGlobals "int" = some none),
 decide (PySem.W.nsIn K mainGlobals "isinstance" = some none),
 decide (PySem.W.nsIn K mainGlobals "len" = some none),
 decide (PySem.W.nsIn K mainGlobals "list" = some none),
 decide (PySem.W.nsIn K mainGlobals "max" = some none),
 decide (PySem.W.nsIn K mainGlobals "min" = some none),
 decide (PySem.W.nsIn K mainGlobals "range" = some none),
 decide (PySem.W.nsIn K mainGlobals "sorted" = some none),
 decide (PySem.W.nsIn K mainGlobals "str" = some none)]
noncomputable def fb5 (K : PySem.W.Frag) : List Bool:=[strB K "DIGITS" "0123456789",
 strB K "KEPT" "kept",
 strB K "LETTERS" "abcdefghijklmnopqrstuvwxyz",
 intB K "MOST_LETTERS" 8,
 intB K "MOST_SIGNS" 12,
 strB K "PLACE" "place",
 strB K "REMARK" "remark",
 strB K "SECTION" "section",
 decide (PySem.W.nsIn K mainGlobals "Reader" = some (some (.ref (ad K).C_Reader))),
 decide (PySem.W.plainGet K (ad K).C_Reader Str.empty = true),
 decide (PySem.W.hasDictIn K (ad K).C_Reader = true),
 decide (PySem.W.plainOver K (ad K).C_Reader = true),
 decide (PySem.W.findIn K (.ref (ad K).C_Reader) "__setattr__" = some (some (.builtin "object.__setattr__"))),
 decide (PySem.W.nsIn K mainGlobals "SettingsFile" = some (some (.ref (ad K).C_SettingsFile))),
 decide (PySem.W.plainGet K (ad K).C_SettingsFile Str.empty = true),
 decide (PySem.W.hasDictIn K (ad K).C_SettingsFile = true),
 decide (PySem.W.plainOver K (ad K).C_SettingsFile = true),
 decide (PySem.W.findIn K (.ref (ad K).C_SettingsFile) "__setattr__" = some (some (.builtin "object.__setattr__"))),
 decide (PySem.W.makesIn K (ad K).C_Reader = true),
 decide (PySem.W.keepIn K (.ref (ad K).C_Reader) = true),
 decide (PySem.W.makesIn K (ad K).C_SettingsFile = true),
 decide (PySem.W.keepIn K (.ref (ad K).C_SettingsFile) = true),
 decide (PySem.W.findIn K (.ref (ad K).C_SettingsFile) "all_parts" = some none),
 decide (PySem.W.findIn K (.ref (ad K).C_Reader) "met" = some none),
 decide (PySem.W.findIn K (.ref (ad K).C_Reader) "parts" = some none)]
noncomputable def fb6 (K : PySem.W.Frag) : List Bool:=[decide (PySem.W.findIn K (.ref (ad K).C_SettingsFile) "parts" = some none),
 decide (PySem.W.findIn K (.ref (ad K).C_Reader) "section" = some none),
 decide (PySem.W.findIn K (.ref (ad K).C_SettingsFile) "settings_read" = some none),
 decide (PySem.W.findIn K (.ref (ad K).C_SettingsFile) "whole" = some none)]
noncomputable def fb (K : PySem.W.Frag) : List (List Bool):=[fb0 K,fb1 K,fb2 K,fb3 K,fb4 K,fb5 K,fb6 K]
noncomputable def ff0 (K : PySem.W.Frag) : List He.FnV:=[fnV K (ad K).f_L_law_bag,fnV K (ad K).f_L_law_take,fnV K (ad K).f_L_law_of,fnV K (ad K).f_L_law_mixed,fnV K (ad K).f_L_law_drawn,fnV K (ad K).f_Reader_init,fnV K (ad K).f_lines_of,fnV K (ad K).f_is_made_of,fnV K (ad K).f_is_number,fnV K (ad K).f_is_name,fnV K (ad K).f_is_place,fnV K (ad K).f_is_value,fnV K (ad K).f_kept_in,fnV K (ad K).f_Reader_put,fnV K (ad K).f_Reader_take_kept,fnV K (ad K).f_section_in,fnV K (ad K).f_setting_in,fnV K (ad K).f_Reader_take_setting,fnV K (ad K).f_Reader_take,fnV K (ad K).f_parts_of,fnV K (ad K).f_SettingsFile_init,fnV K (ad K).f_SettingsFile_places,fnV K (ad K).f_SettingsFile_sections,fnV K (ad K).f_SettingsFile_block,fnV K (ad K).f_SettingsFile_value]
noncomputable def ff1 (K : PySem.W.Frag) : List He.FnV:=[fnV K (ad K).f_SettingsFile_tail,fnV K (ad K).f_L_law_together,fnV K (ad K).f_SettingsFile_kept,fnV K (ad K).f_L_law_kept,fnV K (ad K).f_SettingsFile_pairs,fnV K (ad K).f_SettingsFile_lines,fnV K (ad K).f_law]
noncomputable def ff (K : PySem.W.Frag) : List He.FnV:=ff0 K ++ (ff1 K)
noncomputable def fv0 : List He.FnV:=[fnT "_law_bag" "_law_bag" s_L_law_bag,fnT "_law_take" "_law_take" s_L_law_take,fnT "_law_of" "_law_of" s_L_law_of,fnT "_law_mixed" "_law_mixed" s_L_law_mixed,fnT "_law_drawn" "_law_drawn" s_L_law_drawn,fnT "__init__" "Reader.__init__" s_Reader_init,fnT "lines_of" "lines_of" s_lines_of,fnT "is_made_of" "is_made_of" s_is_made_of,fnT "is_number" "is_number" s_is_number,fnT "is_name" "is_name" s_is_name,fnT "is_place" "is_place" s_is_place,fnT "is_value" "is_value" s_is_value,fnT "kept_in" "kept_in" s_kept_in,fnT "put" "Reader.put" s_Reader_put,fnT "take_kept" "Reader.take_kept" s_Reader_take_kept,fnT "section_in" "section_in" s_section_in,fnT "setting_in" "setting_in" s_setting_in,fnT "take_setting" "Reader.take_setting" s_Reader_take_setting,fnT "take" "Reader.take" s_Reader_take,fnT "parts_of" "parts_of" s_parts_of,fnT "__init__" "SettingsFile.__init__" s_SettingsFile_init,fnT "places" "SettingsFile.places" s_SettingsFile_places,fnT "sections" "SettingsFile.sections" s_SettingsFile_sections,fnT "block" "SettingsFile.block" s_SettingsFile_block,fnT "value" "SettingsFile.value" s_SettingsFile_value]
noncomputable def fv1 : List He.FnV:=[fnT "tail" "SettingsFile.tail" s_SettingsFile_tail,fnT "_law_together" "_law_together" s_L_law_together,fnT "kept" "SettingsFile.kept" s_SettingsFile_kept,fnT "_law_kept" "_law_kept" s_L_law_kept,fnT "pairs" "SettingsFile.pairs" s_SettingsFile_pairs,fnT "lines" "SettingsFile.lines" s_SettingsFile_lines,fnT "law" "law" s_law]
noncomputable def fv : List He.FnV:=fv0 ++ (fv1)
noncomputable def tb (K : PySem.W.Frag) : List Addr:=[]
noncomputable abbrev hk : PySem.W.Hook:=hookV hn fb ff fv tb
noncomputable def ob (s : PySem.W.SharedT) : Al:=obsV hn fb ff tb (HandSHeadRun.getT s)
theorem ob_eq (s : PySem.W.SharedT) : ob s = hk.obs s.abs:=obsV_eq (HandSHeadRun.getT_eq s)
noncomputable abbrev RR : PySem.W.OpenRow:=PySem.W.OpenLaw.row PySem.Challenge.rw_settingsmerge_k08_whole_a_file_put_toget
set_option maxHeartbeats 0 in
theorem run (w : World) : HandSHeadRun.RunEq RR (PySem.W.view RR.prog [32]) hk ob 30000 hl w:=by
 intro os
 kernel_rfl
set_option maxHeartbeats 0 in
theorem all_hd {w : World} {K : PySem.W.Frag} {h : Heap} {mg : Str → Option Value} {fa : Addr} {l : PySem.W.OpenLaw} (X : PySem.W.Frag.In K h) (G : h.Ns mainGlobals mg) (hfa : mg "law" = some (.ref fa)) (c : Says hn fb ff fv tb h K) :
  ∃ fd : FuncData,(∀ (s : Shared) (v : Value),BindsTo s fd { pos:=[v] } [("_law_script",v)]) ∧ ∀ base : Heap,PySem.W.Frag.In K base → base.Ns mainGlobals mg → FnG l.prog w K mg base 8 fa fd ["_law_script"] (spAll K):=by
 have h_a1:=of_decide_eq_true (c.at 0 0)
 obtain ⟨_,_,_,_,_,_,_,_,_,h_l1,h_c1⟩:=fn_of (show fnV K (ad K).f_L_law_bag = fnT "_law_bag" "_law_bag" s_L_law_bag from c.fn 0) (c.at 0 1)
 have h_k1:=of_decide_eq_true (c.at 0 2)
 have h_a2:=of_decide_eq_true (c.at 0 3)
 obtain ⟨_,_,_,_,_,_,_,_,_,h_l2,h_c2⟩:=fn_of (show fnV K (ad K).f_L_law_take = fnT "_law_take" "_law_take" s_L_law_take from c.fn 1) (c.at 0 4)
 have h_k2:=of_decide_eq_true (c.at 0 5)
 have h_a3:=of_decide_eq_true (c.at 0 6)
 obtain ⟨_,_,_,_,_,_,_,_,_,h_l3,h_c3⟩:=fn_of (show fnV K (ad K).f_L_law_of = fnT "_law_of" "_law_of" s_L_law_of from c.fn 2) (c.at 0 7)
 have h_k3:=of_decide_eq_true (c.at 0 8)
 have h_a4:=of_decide_eq_true (c.at 0 9)
 obtain ⟨_,_,_,_,_,_,_,_,_,h_l4,h_c4⟩:=fn_of (show fnV K (ad K).f_L_law_mixed = fnT "_law_mixed" "_law_mixed" s_L_law_mixed from c.fn 3) (c.at 0 10)
 have h_k4:=of_decide_eq_true (c.at 0 11)
 have h_a5:=of_decide_eq_true (c.at 0 12)
 obtain ⟨_,_,_,_,_,_,_,_,_,h_l5,h_c5⟩:=fn_of (show fnV K (ad K).f_L_law_drawn = fnT "_law_drawn" "_law_drawn" s_L_law_drawn from c.fn 4) (c.at 0 13)
 have h_k5:=of_decide_eq_true (c.at 0 14)
 have h_a6:=of_decide_eq_true (c.at 0 15)
 have h_i6:=of_decide_eq_true (c.at 0 16)
 obtain ⟨_,_,_,_,_,_,_,_,_,h_l6,h_c6⟩:=fn_of (show fnV K (ad K).f_Reader_init = fnT "__init__" "Reader.__init__" s_Reader_init from c.fn 5) (c.at 0 17)
 have h_k6:=of_decide_eq_true (c.at 0 18)
 have h_a7:=of_decide_eq_true (c.at 0 19)
 obtain ⟨_,_,_,_,_,_,_,_,_,h_l7,h_c7⟩:=fn_of (show fnV K (ad K).f_lines_of = fnT "lines_of" "lines_of" s_lines_of from c.fn 6) (c.at 0 20)
 have h_k7:=of_decide_eq_true (c.at 0 21)
 have h_a8:=of_decide_eq_true (c.at 0 22)
 obtain ⟨_,_,_,_,_,_,_,_,_,h_l8,h_c8⟩:=fn_of (show fnV K (ad K).f_is_made_of = fnT "is_made_of" "is_made_of" s_is_made_of from c.fn 7) (c.at 0 23)
 have h_k8:=of_decide_eq_true (c.at 0 24)
 have h_a9:=of_decide_eq_true (c.at 1 0)
 obtain ⟨_,_,_,_,_,_,_,_,_,h_l9,h_c9⟩:=fn_of (show fnV K (ad K).f_is_number = fnT "is_number" "is_number" s_is_number from c.fn 8) (c.at 1 1)
 have h_k9:=of_decide_eq_true (c.at 1 2)
 have h_a10:=of_decide_eq_true (c.at 1 3)
 obtain ⟨_,_,_,_,_,_,_,_,_,h_l10,h_c10⟩:=fn_of (show fnV K (ad K).f_is_name = fnT "is_name" "is_name" s_is_name from c.fn 9) (c.at 1 4)
 have h_k10:=of_decide_eq_true (c.at 1 5)
 have h_a11:=of_decide_eq_true (c.at 1 6)
 obtain ⟨_,_,_,_,_,_,_,_,_,h_l11,h_c11⟩:=fn_of (show fnV K (ad K).f_is_place = fnT "is_place" "is_place" s_is_place from c.fn 10) (c.at 1 7)
 have h_k11:=of_decide_eq_true (c.at 1 8)
 have h_a12:=of_decide_eq_true (c.at 1 9)
 obtain ⟨_,_,_,_,_,_,_,_,_,h_l12,h_c12⟩:=fn_of (show fnV K (ad K).f_is_value = fnT "is_value" "is_value" s_is_value from c.fn 11) (c.at 1 10)
 have h_k12:=of_decide_eq_true (c.at 1 11)
 have h_a13:=of_decide_eq_true (c.at 1 12)
 obtain ⟨_,_,_,_,_,_,_,_,_,h_l13,h_c13⟩:=fn_of (show fnV K (ad K).f_kept_in = fnT "kept_in" "kept_in" s_kept_in from c.fn 12) (c.at 1 13)
 have h_k13:=of_decide_eq_true (c.at 1 14)
 have h_a14:=of_decide_eq_true (c.at 1 15)
 have h_i14:=of_decide_eq_true (c.at 1 16)
 obtain ⟨_,_,_,_,_,_,_,_,_,h_l14,h_c14⟩:=fn_of (show fnV K (ad K).f_Reader_put = fnT "put" "Reader.put" s_Reader_put from c.fn 13) (c.at 1 17)
 have h_k14:=of_decide_eq_true (c.at 1 18)
 have h_a15:=of_decide_eq_true (c.at 1 19)
 have h_i15:=of_decide_eq_true (c.at 1 20)
 obtain ⟨_,_,_,_,_,_,_,_,_,h_l15,h_c15⟩:=fn_of (show fnV K (ad K).f_Reader_take_kept = fnT "take_kept" "Reader.take_kept" s_Reader_take_kept from c.fn 14) (c.at 1 21)
 have h_k15:=of_decide_eq_true (c.at 1 22)
 have h_a16:=of_decide_eq_true (c.at 1 23)
 obtain ⟨_,_,_,_,_,_,_,_,_,h_l16,h_c16⟩:=fn_of (show fnV K (ad K).f_section_in = fnT "section_in" "section_in" s_section_in from c.fn 15) (c.at 1 24)
 have h_k16:=of_decide_eq_true (c.at 2 0)
 have h_a17:=of_decide_eq_true (c.at 2 1)
 obtain ⟨_,_,_,_,_,_,_,_,_,h_l17,h_c17⟩:=fn_of (show fnV K (ad K).f_setting_in = fnT "setting_in" "setting_in" s_setting_in from c.fn 16) (c.at 2 2)
 have h_k17:=of_decide_eq_true (c.at 2 3)
 have h_a18:=of_decide_eq_true (c.at 2 4)
 have h_i18:=of_decide_eq_true (c.at 2 5)
 obtain ⟨_,_,_,_,_,_,_,_,_,h_l18,h_c18⟩:=fn_of (show fnV K (ad K).f_Reader_take_setting = fnT "take_setting" "Reader.take_setting" s_Reader_take_setting from c.fn 17) (c.at 2 6)
 have h_k18:=of_decide_eq_true (c.at 2 7)
 have h_a19:=of_decide_eq_true (c.at 2 8)
 have h_i19:=of_decide_eq_true (c.at 2 9)
 obtain ⟨_,_,_,_,_,_,_,_,_,h_l19,h_c19⟩:=fn_of (show fnV K (ad K).f_Reader_take = fnT "take" "Reader.take" s_Reader_take from c.fn 18) (c.at 2 10)
 have h_k19:=of_decide_eq_true (c.at 2 11)
 have h_a20:=of_decide_eq_true (c.at 2 12)
 obtain ⟨_,_,_,_,_,_,_,_,_,h_l20,h_c20⟩:=fn_of (show fnV K (ad K).f_parts_of = fnT "parts_of" "parts_of" s_parts_of from c.fn 19) (c.at 2 13)
 have h_k20:=of_decide_eq_true (c.at 2 14)
 have h_a21:=of_decide_eq_true (c.at 2 15)
 have h_i21:=of_decide_eq_true (c.at 2 16)
 obtain ⟨_,_,_,_,_,_,_,_,_,h_l21,h_c21⟩:=fn_of (show fnV K (ad K).f_SettingsFile_init = fnT "__init__" "SettingsFile.__init__" s_SettingsFile_init from c.fn 20) (c.at 2 17)
 have h_k21:=of_decide_eq_true (c.at 2 18)
 have h_a22:=of_decide_eq_true (c.at 2 19)
 have h_i22:=of_decide_eq_true (c.at 2 20)
 obtain ⟨_,_,_,_,_,_,_,_,_,h_l22,h_c22⟩:=fn_of (show fnV K (ad K).f_SettingsFile_places = fnT "places" "SettingsFile.places" s_SettingsFile_places from c.fn 21) (c.at 2 21)
 have h_k22:=of_decide_eq_true (c.at 2 22)
 have h_a23:=of_decide_eq_true (c.at 2 23)
 have h_i23:=of_decide_eq_true (c.at 2 24)
 obtain ⟨_,_,_,_,_,_,_,_,_,h_l23,h_c23⟩:=fn_of (show fnV K (ad K).f_SettingsFile_sections = fnT "sections" "SettingsFile.sections" s_SettingsFile_sections from c.fn 22) (c.at 3 0)
 have h_k23:=of_decide_eq_true (c.at 3 1)
 have h_a24:=of_decide_eq_true (c.at 3 2)
 have h_i24:=of_decide_eq_true (c.at 3 3)
 obtain ⟨_,_,_,_,_,_,_,_,_,h_l24,h_c24⟩:=fn_of (show fnV K (ad K).f_SettingsFile_block = fnT "block" "SettingsFile.block" s_SettingsFile_block from c.fn 23) (c.at 3 4)
 have h_k24:=of_decide_eq_true (c.at 3 5)
 have h_a25:=of_decide_eq_true (c.at 3 6)
 have h_i25:=of_decide_eq_true (c.at 3 7)
 obtain ⟨_,_,_,_,_,_,_,_,_,h_l25,h_c25⟩:=fn_of (show fnV K (ad K).f_SettingsFile_value = fnT "value" "SettingsFile.value" s_SettingsFile_value from c.fn 24) (c.at 3 8)
 have h_k25:=of_decide_eq_true (c.at 3 9)
 have h_a26:=of_decide_eq_true (c.at 3 10)
 have h_i26:=of_decide_eq_true (c.at 3 11)
 obtain ⟨_,_,_,_,_,_,_,_,_,h_l26,h_c26⟩:=fn_of (show fnV K (ad K).f_SettingsFile_tail = fnT "tail" "SettingsFile.tail" s_SettingsFile_tail from c.fn 25) (c.at 3 12)
 have h_k26:=of_decide_eq_true (c.at 3 13)
 have h_a27:=of_decide_eq_true (c.at 3 14)
 obtain ⟨_,_,_,_,_,_,_,_,_,h_l27,h_c27⟩:=fn_of (show fnV K (ad K).f_L_law_together = fnT "_law_together" "_law_together" s_L_law_together from c.fn 26) (c.at 3 15)
 have h_k27:=of_decide_eq_true (c.at 3 16)
 have h_a28:=of_decide_eq_true (c.at 3 17)
 have h_i28:=of_decide_eq_true (c.at 3 18)
 obtain ⟨_,_,_,_,_,_,_,_,_,h_l28,h_c28⟩:=fn_of (show fnV K (ad K).f_SettingsFile_kept = fnT "kept" "SettingsFile.kept" s_SettingsFile_kept from c.fn 27) (c.at 3 19)
 have h_k28:=of_decide_eq_true (c.at 3 20)
 have h_a29:=of_decide_eq_true (c.at 3 21)
 obtain ⟨_,_,_,_,_,_,_,_,_,h_l29,h_c29⟩:=fn_of (show fnV K (ad K).f_L_law_kept = fnT "_law_kept" "_law_kept" s_L_law_kept from c.fn 28) (c.at 3 22)
 have h_k29:=of_decide_eq_true (c.at 3 23)
 have h_a30:=of_decide_eq_true (c.at 3 24)
 have h_i30:=of_decide_eq_true (c.at 4 0)
 obtain ⟨_,_,_,_,_,_,_,_,_,h_l30,h_c30⟩:=fn_of (show fnV K (ad K).f_SettingsFile_pairs = fnT "pairs" "SettingsFile.pairs" s_SettingsFile_pairs from c.fn 29) (c.at 4 1)
 have h_k30:=of_decide_eq_true (c.at 4 2)
 have h_aP_31:=of_decide_eq_true (c.at 4 3)
 obtain ⟨_,h_aQ_31⟩:=prop_ok (c.at 4 4)
 have h_aR_31:=of_decide_eq_true (c.at 4 5)
 have h_aS_31:=of_decide_eq_true (c.at 4 6)
 obtain ⟨_,_,_,_,_,_,_,_,_,h_l31,h_c31⟩:=fn_of (show fnV K (ad K).f_SettingsFile_lines = fnT "lines" "SettingsFile.lines" s_SettingsFile_lines from c.fn 30) (c.at 4 7)
 have h_k31:=of_decide_eq_true (c.at 4 8)
 have h_a32:=of_decide_eq_true (c.at 4 9)
 obtain ⟨_,_,_,_,_,_,_,_,_,h_l32,h_c32⟩:=fn_of (show fnV K (ad K).f_law = fnT "law" "law" s_law from c.fn 31) (c.at 4 10)
 have h_k32:=of_decide_eq_true (c.at 4 11)
 have h_z_abs:=of_decide_eq_true (c.at 4 12)
 have h_z_all:=of_decide_eq_true (c.at 4 13)
 have h_z_dict:=of_decide_eq_true (c.at 4 14)
 have h_z_enumerate:=of_decide_eq_true (c.at 4 15)
 have h_z_int:=of_decide_eq_true (c.at 4 16)
 have h_z_isinstance:=of_decide_eq_true (c.at 4 17)
 have h_z_len:=of_decide_eq_true (c.at 4 18)
 have h_z_list:=of_decide_eq_true (c.at 4 19)
 have h_z_max:=of_decide_eq_true (c.at 4 20)
 have h_z_min:=of_decide_eq_true (c.at 4 21)
 have h_z_range:=of_decide_eq_true (c.at 4 22)
 have h_z_sorted:=of_decide_eq_true (c.at 4 23)
 have h_z_str:=of_decide_eq_true (c.at 4 24)
 obtain ⟨_,h_g_DIGITS⟩:=str_ok (c.at 5 0)
 obtain ⟨_,h_g_KEPT⟩:=str_ok (c.at 5 1)
 obtain ⟨_,h_g_LETTERS⟩:=str_ok (c.at 5 2)
 obtain ⟨_,h_g_MOST_LETTERS⟩:=int_ok (c.at 5 3)
 obtain ⟨_,h_g_MOST_SIGNS⟩:=int_ok (c.at 5 4)
 obtain ⟨_,h_g_PLACE⟩:=str_ok (c.at 5 5)
 obtain ⟨_,h_g_REMARK⟩:=str_ok (c.at 5 6)
 obtain ⟨_,h_g_SECTION⟩:=str_ok (c.at 5 7)
 have h_aC_Reader:=of_decide_eq_true (c.at 5 8)
 have h_pg_Reader:=of_decide_eq_true (c.at 5 9)
 have h_hd_Reader:=of_decide_eq_true (c.at 5 10)
 have h_po_Reader:=of_decide_eq_true (c.at 5 11)
 have h_sa_Reader:=of_decide_eq_true (c.at 5 12)
 have h_aC_SettingsFile:=of_decide_eq_true (c.at 5 13)
 have h_pg_SettingsFile:=of_decide_eq_true (c.at 5 14)
 have h_hd_SettingsFile:=of_decide_eq_true (c.at 5 15)
 have h_po_SettingsFile:=of_decide_eq_true (c.at 5 16)
 have h_sa_SettingsFile:=of_decide_eq_true (c.at 5 17)
 have h_mk_Reader:=of_decide_eq_true (c.at 5 18)
 have h_kc_Reader:=of_decide_eq_true (c.at 5 19)
 have h_mk_SettingsFile:=of_decide_eq_true (c.at 5 20)
 have h_kc_SettingsFile:=of_decide_eq_true (c.at 5 21)
 have h_nf_all_parts_SettingsFile:=of_decide_eq_true (c.at 5 22)
 have h_nf_met_Reader:=of_decide_eq_true (c.at 5 23)
 have h_nf_parts_Reader:=of_decide_eq_true (c.at 5 24)
 have h_nf_parts_SettingsFile:=of_decide_eq_true (c.at 6 0)
 have h_nf_section_Reader:=of_decide_eq_true (c.at 6 1)
 have h_nf_settings_read_SettingsFile:=of_decide_eq_true (c.at 6 2)
 have h_nf_whole_SettingsFile:=of_decide_eq_true (c.at 6 3)
 exact all_mk X G hfa h_a1 h_l1 h_c1 h_k1 h_a2 h_l2 h_c2 h_k2 h_a3 h_l3 h_c3 h_k3 h_a4 h_l4 h_c4 h_k4 h_a5 h_l5 h_c5 h_k5 h_a6 h_i6 h_l6 h_c6 h_k6 h_a7 h_l7 h_c7 h_k7 h_a8 h_l8 h_c8 h_k8 h_a9 h_l9 h_c9 h_k9 h_a10 h_l10 h_c10 h_k10 h_a11 h_l11 h_c11 h_k11 h_a12 h_l12 h_c12 h_k12 h_a13 h_l13 h_c13 h_k13 h_a14 h_i14 h_l14 h_c14 h_k14 h_a15 h_i15 h_l15 h_c15 h_k15 h_a16 h_l16 h_c16 h_k16 h_a17 h_l17 h_c17 h_k17 h_a18 h_i18 h_l18 h_c18 h_k18 h_a19 h_i19 h_l19 h_c19 h_k19 h_a20 h_l20 h_c20 h_k20 h_a21 h_i21 h_l21 h_c21 h_k21 h_a22 h_i22 h_l22 h_c22 h_k22 h_a23 h_i23 h_l23 h_c23 h_k23 h_a24 h_i24 h_l24 h_c24 h_k24 h_a25 h_i25 h_l25 h_c25 h_k25 h_a26 h_i26 h_l26 h_c26 h_k26 h_a27 h_l27 h_c27 h_k27 h_a28 h_i28 h_l28 h_c28 h_k28 h_a29 h_l29 h_c29 h_k29 h_a30 h_i30 h_l30 h_c30 h_k30 h_aP_31 h_aQ_31 h_aR_31 h_aS_31 h_l31 h_c31 h_k31 h_a32 h_l32 h_c32 h_k32 h_z_abs h_z_all h_z_dict h_z_enumerate h_z_int h_z_isinstance h_z_len h_z_list h_z_max h_z_min h_z_range h_z_sorted h_z_str h_g_DIGITS h_g_KEPT h_g_LETTERS h_g_MOST_LETTERS h_g_MOST_SIGNS h_g_PLACE h_g_REMARK h_g_SECTION h_aC_Reader h_pg_Reader h_hd_Reader h_po_Reader h_sa_Reader h_aC_SettingsFile h_pg_SettingsFile h_hd_SettingsFile h_po_SettingsFile h_sa_SettingsFile h_mk_Reader h_kc_Reader h_mk_SettingsFile h_kc_SettingsFile h_nf_all_parts_SettingsFile h_nf_met_Reader h_nf_parts_Reader h_nf_parts_SettingsFile h_nf_section_Reader h_nf_settings_read_SettingsFile h_nf_whole_SettingsFile
end VL.K08
open PySem PySem.W PySem.Calls PyProof.Rows in
set_option maxRecDepth 100000 in
set_option maxHeartbeats 0 in
theorem PySem.Challenge.cw_settingsmerge_k08_whole_a_file_put_toget_holds : PySem.Challenge.rw_settingsmerge_k08_whole_a_file_put_toget.Holds := by
 w_on; o_law
 refine HandSHeadRun.head_any (r:=OpenLaw.row PySem.Challenge.rw_settingsmerge_k08_whole_a_file_put_toget) (q:=view (OpenLaw.row PySem.Challenge.rw_settingsmerge_k08_whole_a_file_put_toget).prog [32]) (H:=VL.K08.hk) (ob:=VL.K08.ob) (M:=30000) (loose:=VL.K08.hl) (d:=HandSHeadRun.topDef (OpenLaw.row PySem.Challenge.rw_settingsmerge_k08_whole_a_file_put_toget).prog 32) (kwd:=[]) VL.K08.ob_eq (by kernel_rfl) (fun s=>by kernel_rfl) VL.K08.run (by kernel_rfl) (by kernel_rfl) (by kernel_rfl) (by rfl) (by first | assumption | decide +kernel) (by decide +kernel) ⟨rfl,rfl,rfl,rfl,rfl,by decide +kernel⟩ ?hw ?hc
 case hw=>w_witness2
 case hc =>
  refine VL.walk_ofGE (l:=PySem.Challenge.rw_settingsmerge_k08_whole_a_file_put_toget) (n:=63) (k:=8) (x:="_law_script") rfl (by decide) (by kernel_rfl) ⟨⟨rfl,by decide,by decide⟩,rfl⟩ ?F
  intro w mg fa h Y G hmg0
  obtain ⟨K,KX,c⟩:=Y
  have hmg : mg ("law" : PySem.Str) = some (.ref fa):=by
   have e : (HandSHeadRun.topDef (OpenLaw.row PySem.Challenge.rw_settingsmerge_k08_whole_a_file_put_toget).prog 32).name = ("law" : PySem.Str):=by kernel_rfl
   rw [← e]
   exact hmg0
  obtain ⟨fd,hb,hF⟩:=VL.K08.all_hd (w:=w) (l:=PySem.Challenge.rw_settingsmerge_k08_whole_a_file_put_toget) KX G hmg c
  exact ⟨K,VL.K08.spAll K,fd,KX,fun H b ns hl hO hS a hK=>VL.law_sp (VL.K08.law_ok _ a hK ns hl) hO hS,hb,hF⟩
