import PyProof.Rows.All
import Wide.All
import OpenK.AllK
import Wide.FinOn
import HandS.ForMost
import HandS.Exc
import HandS.WordsExc
import HandS.IsInst
import HandS.Flow
import HandS.HeadHook1
import KE.KDictCopyH
import KE.KeyNested
import HandS.TupAny
import HandS.Deep
import HandS.Wide
import HandS.Star
import HandS.NoneIn
import HandS.Walk
import HandS.ExcOwn
import HandS.ExcCtx
import HandS.SuiteRaise
import HandS.RaiseFrom
import KE.KExcRaise
import HandS.CallSlots
import HandS.Defaults
import HandS.HeadEnd
import HandS.Dict
import HandS.More
import HandS.List
import HandS.Text
import HandS.Style
import HandS.RaiseMore
import PyProof.ReprRoads
import HandS.NamedTupSort
import HandS.OwnEq
import KE.KCallOwn
import KE.KFmtOwn
import PyProof.InstNe
import HandS.HeadHook2
import HandS.ClsMeth
import HandS.Strs
import KE.GoesMore
import PyProof.Draws
import PyProof.EnumMake
import KE.GoesZip
import HandS.ExcInit
import KE.KExcInit
import KE.KExcSuper
import KE.KExcIs
import HandS.ExcIs
import HandS.ExcField
import OpenK.KOps
import OpenK.KMeth
import HandS.Head0
import HandS.Head1
import HandS.Head2
import Lean
import KE.KStateDown
import HandS.DictComp
import HandS.SortInts
import Wide.Txt2
import HandS.Property
import KE.KEqDict
import PyProof.Rows.TupDisplay
import HandS.SetBool
import PyProof.Rows.SortShellAny
import HandS.FStr
import KE.KxField
import PyProof.FString2
import PyProof.FString3
import HandS.Conv
import HandS.Iter
import HandS.Zip
import HandS.ReplaceLit
import HandS.Comp
import HandS.ListItems
import KE.KDictZip
import KE.DataCmp
import KE.SortData
import KE.KDictSum
import HandS.ExcValue
import HandS.SetFor
import PyProof.DictUpdate
import PyProof.Rows.CountFlat
import PySem.Challenge.RW_wordingkept_k21_stories_known
set_option Elab.async false
set_option linter.all false
set_option maxRecDepth 100000
set_option maxHeartbeats 4000000
namespace Bv
open PySem PySem.Spec L2
open PyProof.Rows hiding St
class HasW where
  w:World
variable [HasW]
inductive D where
  | non | bl (b:Bool) | int (i:Int) | str (x:Str)
  | tup (ds:List D) | lst (ds:List D) | dic (kvs:List (D × D))
  | obj (C:Str) (fs:List (Str × D)) | gl (x:Str) | scr (ns:List Int)
inductive X where
  | d (v:D) | r (n:Nat)
inductive O where
  | lst (xs:List X) | dic (kvs:List (D × X)) | ins (C:Str) (fs:List (Str × X))
  | fdc (kvs:List (D × X)) | tdc (kvs:List (D × X))
  | tfc (kvs:List (D × X))
  | ndc (kvs:List (D × X))
  | ldc (kvs:List (D × X))
abbrev Sto:=List O
abbrev Ev:=List (Option X)
inductive R (α:Type) where
  | ok (a:α) (S:Sto) | err (C:Str) (fs:List (Str × D)) (S:Sto) | bad
def D.key?:D→Option Key
  | .int i=>some (.inl i)
  | .str x=>some (.inr x)
  | _=>none
def D.leaf?:D→Option Leaf
  | .non=>some .none
  | .bl b=>some (.num (if b=true then 1 else 0))
  | .int i=>some (.num i)
  | .str x=>some (.text x)
  | _=>none
def leafs?:List D→Option (List Leaf)
  | []=>some []
  | d :: r=>match d.leaf?,leafs? r with
    | some k,some l=>some (k :: l)
    | _,_=>none
def D.tkey?:D→Option (List Leaf)
  | .tup ds=>leafs? ds
  | _=>none
def X82 (ks:List Leaf):Int:=reduceHash (Builtin.Tuple.tupleHashOf (ks.map fun k=>k.key.hash HasW.w))
def TDx (a:Addr) (xs:List (List Leaf × Addr × V)) (h:Heap):Prop:=(a == sysModules)=false∧∃ ys:List (List Leaf × Addr × Value),Paired (fun p q=>p.1=q.1∧p.2.1=q.2.1∧RelV p.2.2 q.2.2) xs ys ∧
  ∃ o es ep,h.get? a=some o∧o.ExactDict∧o.data = .dict es ep∧es.toList=ys.map (fun x=>(⟨X82 x.1, .ref x.2.1,x.2.2⟩:DictEntry))∧(ys.map (·.1)).Nodup
abbrev TDo (a:Addr) (xs:List (List Leaf × Addr × V)):HO := .ext (TDx a xs)
def W24 (f:D→Option NestedKey):List D→Option (List NestedKey)
  | []=>some []
  | d :: r=>match f d,W24 f r with
    | some k,some l=>some (k :: l)
    | _,_=>none
def W25:Nat→D→Option NestedKey
  | _, .non=>some .none
  | _, .bl b=>some (.num (if b=true then 1 else 0))
  | _, .int i=>some (.num i)
  | _, .str x=>some (.text x)
  | n + 1, .tup ds=>(W24 (W25 n) ds).map .tup
  | _,_=>none
def D.nkey?:D→Option NestedKey
  | .tup ds=>(W25 8 (.tup ds)).bind fun k=>if decide (k.depth ≤ 8) then some k else none
  | _=>none
def NDx (a:Addr) (xs:List (NestedKey × Addr × V)) (h:Heap):Prop:=(a == sysModules)=false∧∃ ys:List (NestedKey × Addr × Value),Paired (fun p q=>p.1=q.1∧p.2.1=q.2.1∧RelV p.2.2 q.2.2) xs ys ∧
  ∃ o es ep,h.get? a=some o∧o.ExactDict∧o.data = .dict es ep∧es.toList=ys.map (fun x=>(⟨x.1.hash HasW.w, .ref x.2.1,x.2.2⟩:DictEntry))∧(ys.map (·.1)).Nodup
abbrev NDo (a:Addr) (xs:List (NestedKey × Addr × V)):HO := .ext (NDx a xs)
def LDx (a:Addr) (xs:List (Leaf × V)) (h:Heap):Prop:=(a == sysModules)=false∧∃ ys:List (Leaf × Value),Paired (fun p q=>p.1=q.1∧RelV p.2 q.2) xs ys∧∀ P:Program,h.DictOf (leafKind P HasW.w) a ys
abbrev LDo (a:Addr) (xs:List (Leaf × V)):HO := .ext (LDx a xs)
abbrev Wd:=Addr→Prop
def Wn (Z:Wd) (ρ:List Addr):Wd:=fun a=>Z a ∨ a ∈ ρ
def W6m (K:PySem.W.Frag) (a:Addr) (xs:List V):Prop:=∃ (o:Obj) (its:Array Value) (n:Nat),K.lookup a=some o∧o.cls = .type "tuple" ∧ o.data = .seq its n∧its.size ≤ sizeLine∧Vals xs its.toList
def Tp (K:PySem.W.Frag) (W:Wd) (H:Hp) (a:Addr) (xs:List V):Prop:=(¬ W a∧H a=some (.tup xs)) ∨ W6m K a xs
theorem Tp.sq {K:PySem.W.Frag} {W:Wd} {H:Hp} {a:Addr} {xs:List V} (h:Tp K W H a xs):SqT K H a xs:=by
  rcases h with ⟨_,h⟩ | h
  · exact .inl (.inl h)
  · exact .inr h
def W7o (K:PySem.W.Frag) (a:Addr) (xs:List V):Prop:=∃ (o:Obj) (its:Array Value) (n:Nat),K.lookup a=some o∧o.cls = .type "list" ∧ o.dict=none∧o.data = .seq its n∧its.size ≤ sizeLine∧Vals xs its.toList
def Lp (K:PySem.W.Frag) (W:Wd) (H:Hp) (a:Addr) (xs:List V):Prop:=(¬ W a∧Rd H a (.lst xs)) ∨ W7o K a xs
theorem Lp.sl {K:PySem.W.Frag} {W:Wd} {H:Hp} {a:Addr} {xs:List V} (h:Lp K W H a xs):SqL K H a xs:=by
  rcases h with ⟨_,h⟩ | h
  · exact .inl h
  · exact .inr h
mutual
inductive AV (K:PySem.W.Frag) (W:Wd) (H:Hp):D→V→Prop
  | non:AV K W H .non .non
  | bl (b:Bool):AV K W H (.bl b) (.bl b)
  | int (i:Int):AV K W H (.int i) (.int i)
  | str {x:Str}:PyData.strOk x=true→AV K W H (.str x) (.str x)
  | gl (x:Str):AV K W H (.gl x) (.ref (He.ga K x))
  | scr {a:Addr} {ns:List Int}:Lp K W H a (ns.map V.int)→AV K W H (.scr ns) (.ref a)
  | tup {a:Addr} {xs:List V} {ds:List D}:Tp K W H a xs→AVs K W H ds xs→AV K W H (.tup ds) (.ref a)
  | lst {a:Addr} {xs:List V} {ds:List D}:¬ W a→H a=some (.lst xs)→AVs K W H ds xs→AV K W H (.lst ds) (.ref a)
  | dic {a:Addr} {o:Obj} {ks:List (Key × V)} {kvs:List (D × D)}:¬ W a→H a=some (.frz o (.dK ks))→AVk K W H kvs ks→AV K W H (.dic kvs) (.ref a)
  | obj {C:Str} {a dx:Addr} {vs:List (Str × V)} {fs:List (Str × D)}:¬ W a→H a=some (.ins (He.ga K C) dx vs)→AVf K W H fs vs→AV K W H (.obj C fs) (.ref a)
inductive AVs (K:PySem.W.Frag) (W:Wd) (H:Hp):List D→List V→Prop
  | nil:AVs K W H [] []
  | cons {d:D} {v:V} {ds:List D} {vs:List V}:AV K W H d v→AVs K W H ds vs→AVs K W H (d :: ds) (v :: vs)
inductive AVk (K:PySem.W.Frag) (W:Wd) (H:Hp):List (D × D)→List (Key × V)→Prop
  | nil:AVk K W H [] []
  | cons {k d:D} {q:Key} {v:V} {ds:List (D × D)} {vs:List (Key × V)}:k.key?=some q→AV K W H d v→AVk K W H ds vs→AVk K W H ((k,d) :: ds) ((q,v) :: vs)
inductive AVf (K:PySem.W.Frag) (W:Wd) (H:Hp):List (Str × D)→List (Str × V)→Prop
  | nil:AVf K W H [] []
  | cons {f:Str} {d:D} {v:V} {ds:List (Str × D)} {vs:List (Str × V)}:AV K W H d v→AVf K W H ds vs→AVf K W H ((f,d) :: ds) ((f,v) :: vs)
end
def Mv (W:Wd) (H:Hp) (W':Wd) (H':Hp):Prop:=∀ a o,¬ W a→H a=some o→¬ W' a∧H' a=some o
theorem Mv.rd {W W':Wd} {H H':Hp} {a:Addr} {u:HO} (m:Mv W H W' H') (h:¬ W a) (r:Rd H a u):¬ W' a∧Rd H' a u:=by
  rcases r with r | ⟨o,r⟩
  · obtain ⟨h1,h2⟩:=m a _ h r
    exact ⟨h1, .inl h2⟩
  · obtain ⟨h1,h2⟩:=m a _ h r
    exact ⟨h1, .inr ⟨o,h2⟩⟩
theorem Mv.lp {K:PySem.W.Frag} {W W':Wd} {H H':Hp} {a:Addr} {xs:List V} (m:Mv W H W' H') (h:Lp K W H a xs):Lp K W' H' a xs:=by
  rcases h with ⟨h1,h2⟩ | h
  · exact .inl (m.rd h1 h2)
  · exact .inr h
theorem Mv.tp {K:PySem.W.Frag} {W W':Wd} {H H':Hp} {a:Addr} {xs:List V} (m:Mv W H W' H') (h:Tp K W H a xs):Tp K W' H' a xs:=by
  rcases h with ⟨h1,h2⟩ | h
  · exact .inl (m _ _ h1 h2)
  · exact .inr h
section
variable {K:PySem.W.Frag} {W W':Wd} {H H':Hp}
mutual
theorem AV.mv (m:Mv W H W' H'):∀ {d:D} {v:V},AV K W H d v→AV K W' H' d v
  | _,_, .non => .non
  | _,_, .bl b => .bl b
  | _,_, .int i => .int i
  | _,_, .str x => .str x
  | _,_, .scr h => .scr (m.lp h)
  | _,_, .gl x => .gl x
  | _,_, .tup h hs => .tup (m.tp h) (AVs.mv m hs)
  | _,_, .lst w h hs => .lst (m _ _ w h).1 (m _ _ w h).2 (AVs.mv m hs)
  | _,_, .dic w h hs => .dic (m _ _ w h).1 (m _ _ w h).2 (AVk.mv m hs)
  | _,_, .obj w h hs => .obj (m _ _ w h).1 (m _ _ w h).2 (AVf.mv m hs)
theorem AVs.mv (m:Mv W H W' H'):∀ {ds:List D} {vs:List V},AVs K W H ds vs→AVs K W' H' ds vs
  | _,_, .nil => .nil
  | _,_, .cons h hs => .cons (AV.mv m h) (AVs.mv m hs)
theorem AVk.mv (m:Mv W H W' H'):∀ {ds:List (D × D)} {vs:List (Key × V)},AVk K W H ds vs→AVk K W' H' ds vs
  | _,_, .nil => .nil
  | _,_, .cons k h hs => .cons k (AV.mv m h) (AVk.mv m hs)
theorem AVf.mv (m:Mv W H W' H'):∀ {ds:List (Str × D)} {vs:List (Str × V)},AVf K W H ds vs→AVf K W' H' ds vs
  | _,_, .nil => .nil
  | _,_, .cons h hs => .cons (AV.mv m h) (AVf.mv m hs)
end
end
inductive AX (K:PySem.W.Frag) (W:Wd) (ρ:List Addr) (H:Hp):X→V→Prop
  | d {v:D} {u:V}:AV K W H v u→AX K W ρ H (.d v) u
  | r {n:Nat} {a:Addr}:ρ[n]?=some a→AX K W ρ H (.r n) (.ref a)
abbrev AXs (K:PySem.W.Frag) (W:Wd) (ρ:List Addr) (H:Hp):List X→List V→Prop:=Paired (AX K W ρ H)
theorem AX.mv {K:PySem.W.Frag} {W W':Wd} {ρ ρ':List Addr} {H H':Hp} (m:Mv W H W' H') (p:ρ <+: ρ') {x:X} {v:V} (h:AX K W ρ H x v):AX K W' ρ' H' x v:=by
  cases h with
  | d h=>exact .d (h.mv m)
  | r h =>
    refine .r ?_
    obtain ⟨t,rfl⟩:=p
    rw [List.getElem?_append_left (List.getElem?_eq_some_iff.mp h).1]
    exact h
theorem AXs.mv {K:PySem.W.Frag} {W W':Wd} {ρ ρ':List Addr} {H H':Hp} (m:Mv W H W' H') (p:ρ <+: ρ') {xs:List X} {vs:List V} (h:AXs K W ρ H xs vs):AXs K W' ρ' H' xs vs:=Paired.mapP h fun _ _ q=>q.mv m p
def AO (K:PySem.W.Frag) (W:Wd) (ρ:List Addr) (H:Hp) (o:O) (a:Addr):Prop :=
  match o with
  | .lst xs=>∃ vs,H a=some (.lst vs)∧AXs K W ρ H xs vs
  | .dic kvs=>∃ ks:List (Key × V),H a=some (.dK ks)∧Paired (fun (p:D × X) (q:Key × V)=>p.1.key?=some q.1∧AX K W ρ H p.2 q.2) kvs ks
  | .fdc kvs=>∃ (ob:Obj) (ks:List (Key × V)),H a=some (.frz ob (.dK ks))∧Paired (fun (p:D × X) (q:Key × V)=>p.1.key?=some q.1∧AX K W ρ H p.2 q.2) kvs ks
  | .tdc kvs=>∃ xs:List (List Leaf × Addr × V),H a=some (TDo a xs)∧Paired (fun (p:D × X) (q:List Leaf × Addr × V)=>p.1.tkey?=some q.1∧AV K W H p.1 (.ref q.2.1)∧AX K W ρ H p.2 q.2.2) kvs xs
  | .tfc kvs=>∃ (ob:Obj) (xs:List (List Leaf × Addr × V)),H a=some (.frz ob (TDo a xs))∧Paired (fun (p:D × X) (q:List Leaf × Addr × V)=>p.1.tkey?=some q.1∧AV K W H p.1 (.ref q.2.1)∧AX K W ρ H p.2 q.2.2) kvs xs
  | .ndc kvs=>∃ xs:List (NestedKey × Addr × V),H a=some (NDo a xs)∧Paired (fun (p:D × X) (q:NestedKey × Addr × V)=>p.1.nkey?=some q.1∧AV K W H p.1 (.ref q.2.1)∧AX K W ρ H p.2 q.2.2) kvs xs
  | .ldc kvs=>∃ xs:List (Leaf × V),H a=some (LDo a xs)∧Paired (fun (p:D × X) (q:Leaf × V)=>p.1.leaf?=some q.1∧AX K W ρ H p.2 q.2) kvs xs
  | .ins C fs=>∃ (dx:Addr) (vs:List (Str × V)),H a=some (.ins (He.ga K C) dx vs)∧Paired (fun (p:Str × X) (q:Str × V)=>p.1=q.1∧AX K W ρ H p.2 q.2) fs vs
theorem AO.mv {K:PySem.W.Frag} {W W':Wd} {ρ ρ':List Addr} {H H':Hp} {o:O} {a:Addr} (m:Mv W H W' H') (p:ρ <+: ρ') (k:∀ u,H a=some u→H' a=some u) (x:AO K W ρ H o a):AO K W' ρ' H' o a:=by
  cases o with
  | lst xs=>obtain ⟨vs,e,q⟩:=x; exact ⟨vs,k _ e,AXs.mv m p q⟩
  | dic kvs=>obtain ⟨vs,e,q⟩:=x; exact ⟨vs,k _ e,Paired.mapP q fun _ _ z=>⟨z.1,z.2.mv m p⟩⟩
  | fdc kvs=>obtain ⟨ob,vs,e,q⟩:=x; exact ⟨ob,vs,k _ e,Paired.mapP q fun _ _ z=>⟨z.1,z.2.mv m p⟩⟩
  | tdc kvs=>obtain ⟨vs,e,q⟩:=x; exact ⟨vs,k _ e,Paired.mapP q fun _ _ z=>⟨z.1,z.2.1.mv m,z.2.2.mv m p⟩⟩
  | ndc kvs=>obtain ⟨vs,e,q⟩:=x; exact ⟨vs,k _ e,Paired.mapP q fun _ _ z=>⟨z.1,z.2.1.mv m,z.2.2.mv m p⟩⟩
  | ldc kvs=>obtain ⟨vs,e,q⟩:=x; exact ⟨vs,k _ e,Paired.mapP q fun _ _ z=>⟨z.1,z.2.mv m p⟩⟩
  | tfc kvs=>obtain ⟨ob,vs,e,q⟩:=x; exact ⟨ob,vs,k _ e,Paired.mapP q fun _ _ z=>⟨z.1,z.2.1.mv m,z.2.2.mv m p⟩⟩
  | ins C fs=>obtain ⟨dx,vs,e,q⟩:=x; exact ⟨dx,vs,k _ e,Paired.mapP q fun _ _ z=>⟨z.1,z.2.mv m p⟩⟩
theorem AO.there {K:PySem.W.Frag} {W:Wd} {ρ:List Addr} {H:Hp} {o:O} {a:Addr} (x:AO K W ρ H o a):∃ u,H a=some u:=by
  cases o with
  | lst xs=>obtain ⟨vs,e,_⟩:=x; exact ⟨_,e⟩
  | dic kvs=>obtain ⟨vs,e,_⟩:=x; exact ⟨_,e⟩
  | fdc kvs=>obtain ⟨ob,vs,e,_⟩:=x; exact ⟨_,e⟩
  | tdc kvs=>obtain ⟨vs,e,_⟩:=x; exact ⟨_,e⟩
  | ndc kvs=>obtain ⟨vs,e,_⟩:=x; exact ⟨_,e⟩
  | ldc kvs=>obtain ⟨vs,e,_⟩:=x; exact ⟨_,e⟩
  | tfc kvs=>obtain ⟨ob,vs,e,_⟩:=x; exact ⟨_,e⟩
  | ins C fs=>obtain ⟨dx,vs,e,_⟩:=x; exact ⟨_,e⟩
structure Sta (K:PySem.W.Frag) (Z:Wd) (ρ:List Addr) (S:Sto) (H:Hp):Prop where
  nd:ρ.Nodup
  z:∀ a,Z a→a ∉ ρ∧∃ o,H a=some o
  len:S.length=ρ.length
  ob:∀ (n:Nat) (o:O) (a:Addr),S[n]?=some o→ρ[n]?=some a→AO K (Wn Z ρ) ρ H o a
theorem Sta.mem {K:PySem.W.Frag} {Z:Wd} {ρ:List Addr} {S:Sto} {H:Hp} (s:Sta K Z ρ S H) {a:Addr} (h:a ∈ ρ):∃ (n:Nat) (o:O),S[n]?=some o∧ρ[n]?=some a:=by
  obtain ⟨n,hn,e⟩:=List.getElem_of_mem h
  have h2:n < S.length:=by rw [s.len]; exact hn
  exact ⟨n,S[n],List.getElem?_eq_getElem h2,by rw [List.getElem?_eq_getElem hn,e]⟩
structure Go (ρ:List Addr) (H:Hp) (ρ':List Addr) (H':Hp):Prop where
  pre:ρ <+: ρ'
  keep:∀ a o,a ∉ ρ→H a=some o→a ∉ ρ'∧H' a=some o
  fz:∀ a ob u,H a=some (.frz ob u)→H' a=some (.frz ob u)
theorem Go.refl (ρ:List Addr) (H:Hp):Go ρ H ρ H:=⟨List.prefix_refl _,fun _ _ h q=>⟨h,q⟩,fun _ _ _ q=>q⟩
theorem Go.trans {ρ ρ1 ρ2:List Addr} {H H1 H2:Hp} (a:Go ρ H ρ1 H1) (b:Go ρ1 H1 ρ2 H2):Go ρ H ρ2 H2 :=
  ⟨a.pre.trans b.pre,fun c o h q=>let ⟨h1,q1⟩:=a.keep c o h q; b.keep c o h1 q1,fun c ob u q=>b.fz c ob u (a.fz c ob u q)⟩
theorem Go.mv {K:PySem.W.Frag} {Z:Wd} {ρ ρ':List Addr} {S:Sto} {H H':Hp} (s:Sta K Z ρ S H) (g:Go ρ H ρ' H'):Mv (Wn Z ρ) H (Wn Z ρ') H':=fun a o h q=>by
  have h1:a ∉ ρ:=fun z=>h (.inr z)
  obtain ⟨h2,q2⟩:=g.keep a o h1 q
  exact ⟨fun z=>z.elim (fun z=>h (.inl z)) h2,q2⟩
structure EvOk (K:PySem.W.Frag) (W:Wd) (ρ:List Addr) (H:Hp) (e:Ev) (σ:St):Prop where
  len:e.length=σ.length
  at_:∀ (i:Nat) (x:X),e[i]?=some (some x)→∃ v,σ[i]?=some (some v)∧AX K W ρ H x v
theorem EvOk.mv {K:PySem.W.Frag} {W W':Wd} {ρ ρ':List Addr} {H H':Hp} (m:Mv W H W' H') (p:ρ <+: ρ') {e:Ev} {σ:St} (h:EvOk K W ρ H e σ):EvOk K W' ρ' H' e σ :=
  ⟨h.len,fun i x q=>let ⟨v,h1,h2⟩:=h.at_ i x q; ⟨v,h1,h2.mv m p⟩⟩
theorem EvOk.set {K:PySem.W.Frag} {W:Wd} {ρ:List Addr} {H:Hp} {e:Ev} {σ:St} {i:Nat} {x:X} {v:V} (h:EvOk K W ρ H e σ) (a:AX K W ρ H x v):EvOk K W ρ H (e.set i (some x)) (σ.set i (some v)):=by
  refine ⟨by rw [List.length_set,List.length_set]; exact h.len,fun j y q=>?_⟩
  by_cases hj:i=j
  · subst hj
    have hl:i < e.length:=by
      have:=(List.getElem?_eq_some_iff.mp q).1
      rwa [List.length_set] at this
    rw [List.getElem?_set_self hl] at q
    cases q
    exact ⟨v,by rw [List.getElem?_set_self (by rw [← h.len]; exact hl)],a⟩
  · rw [List.getElem?_set_ne hj] at q
    obtain ⟨u,h1,h2⟩:=h.at_ j y q
    exact ⟨u,by rw [List.getElem?_set_ne hj]; exact h1,h2⟩
def X7n (K:PySem.W.Frag) (Z:Wd) (ρ:List Addr) (H:Hp) (Wx:WX) (σ:St) (C:Str) (fs:List (Str × D)) (S':Sto):Prop :=
  ∀ (ρ':List Addr) (H':Hp) (d:Option Addr),Sta K Z ρ' S' H'→Go ρ H ρ' H' →
    ((d=none∧fs=[]) ∨ ∃ (dd:Addr) (vs:List (Str × V)),d=some dd∧H dd=none∧¬ Wn Z ρ' dd∧H' dd=some (.xd vs)∧AVf K (Wn Z ρ') H' fs vs)→Wx (.ref (He.ga K C)) d σ H'
def X6 {α β:Type} (rel:Wd→List Addr→Hp→α→β→Prop) (K:PySem.W.Frag) (Z:Wd) (ρ:List Addr) (H:Hp) (Wx:WX) (σ:St) (Q:β→Hp→Prop):R α→Prop
  | .ok x S'=>∀ (ρ':List Addr) (H':Hp) (v:β),Sta K Z ρ' S' H'→Go ρ H ρ' H'→rel (Wn Z ρ') ρ' H' x v→Q v H'
  | .err C fs S'=>X7n K Z ρ H Wx σ C fs S'
  | .bad=>False
abbrev MG (α:Type):=Ev→Sto→R α
def RG {α β:Type} (rel:Wd→List Addr→Hp→α→β→Prop) (K:PySem.W.Frag) (Wx:WX) (m:MG α):St→Hp→(β→Hp→Prop)→Prop:=fun σ H Q=>∃ (Z:Wd) (ρ:List Addr) (e:Ev) (S:Sto),Sta K Z ρ S H∧EvOk K (Wn Z ρ) ρ H e σ∧X6 rel K Z ρ H Wx σ Q (m e S)
abbrev M:=MG X
abbrev Z23 (K:PySem.W.Frag):=X6 (AX K) K
abbrev RE (K:PySem.W.Frag) (Wx:WX) (m:M):TE:=RG (AX K) K Wx m
abbrev ME (X:Cx) (Wx:WX) (e:Expr) (m:M):Prop:=PE X e (RE X.K Wx m)
abbrev RA (K:PySem.W.Frag) (Wx:WX) (m:MG (List X)):TA:=RG (AXs K) K Wx m
abbrev MA (X:Cx) (Wx:WX) (es:List Expr) (m:MG (List Bv.X)):Prop:=PA X es (RA X.K Wx m)
abbrev relB:Wd→List Addr→Hp→Bool→Bool→Prop:=fun _ _ _ b c=>b=c
abbrev RB (K:PySem.W.Frag) (Wx:WX) (m:MG Bool):L2.TT:=RG relB K Wx m
abbrev MT (X:Cx) (Wx:WX) (e:Expr) (m:MG Bool):Prop:=PT X e (RB X.K Wx m)
def R.bind {α β:Type} (r:R α) (k:α→Sto→R β):R β:=match r with
  | .ok a S=>k a S
  | .err C fs S => .err C fs S
  | .bad => .bad
theorem X7n.shift {K:PySem.W.Frag} {Z:Wd} {ρ ρ1:List Addr} {H H1:Hp} {Wx:WX} {σ:St} {C:Str} {fs:List (Str × D)} {S':Sto} (g:Go ρ H ρ1 H1) (s1:∀ a o,H a=some o→∃ u,H1 a=some u) (h:X7n K Z ρ H Wx σ C fs S'):X7n K Z ρ1 H1 Wx σ C fs S':=fun ρ' H' d st go q=>by
  refine h ρ' H' d st (g.trans go) ?_
  rcases q with q | ⟨dd,vs,h1,h2,h3⟩
  · exact .inl q
  · refine .inr ⟨dd,vs,h1,?_,h3⟩
    cases e:H dd with
    | none=>rfl
    | some o =>
      obtain ⟨u,z⟩:=s1 dd o e
      rw [h2] at z; cases z
theorem Y4o {K:PySem.W.Frag} {Z:Wd} {ρ ρ1:List Addr} {S1:Sto} {H H1:Hp} (g:Go ρ H ρ1 H1) (s1:Sta K Z ρ1 S1 H1):∀ a o,H a=some o→∃ u,H1 a=some u:=fun a o q=>by
  by_cases h:a ∈ ρ
  · have h1:a ∈ ρ1:=g.pre.subset h
    obtain ⟨n,o,e1,e2⟩:=s1.mem h1
    exact (s1.ob n o a e1 e2).there
  · exact ⟨o,(g.keep a o h q).2⟩
theorem X6.shift {α β:Type} {rel:Wd→List Addr→Hp→α→β→Prop} {K:PySem.W.Frag} {Z:Wd} {ρ ρ1:List Addr} {S1:Sto} {H H1:Hp} {Wx:WX} {σ:St} {Q:β→Hp→Prop} {r:R α} (g:Go ρ H ρ1 H1) (s1:Sta K Z ρ1 S1 H1) (h:X6 rel K Z ρ H Wx σ Q r):X6 rel K Z ρ1 H1 Wx σ Q r:=by
  cases r with
  | ok x S'=>exact fun ρ' H' v st go a=>h ρ' H' v st (g.trans go) a
  | err C fs S'=>exact X7n.shift g (Y4o g s1) h
  | bad=>exact h
theorem X5 {α β γ δ:Type} {rel:Wd→List Addr→Hp→α→β→Prop} {rel':Wd→List Addr→Hp→γ→δ→Prop} {K:PySem.W.Frag} {Wx:WX} {Z:Wd} {ρ:List Addr} {e:Ev} {S:Sto} {σ:St} {H:Hp} {Q:δ→Hp→Prop} {m:MG α} {k:α→Sto→R γ} {R':β→Hp→Prop} (st:Sta K Z ρ S H) (ev:EvOk K (Wn Z ρ) ρ H e σ) (h:X6 rel' K Z ρ H Wx σ Q ((m e S).bind k))
    (next:∀ ρ1 H1 v x S1,Sta K Z ρ1 S1 H1→Go ρ H ρ1 H1→EvOk K (Wn Z ρ1) ρ1 H1 e σ→rel (Wn Z ρ1) ρ1 H1 x v→X6 rel' K Z ρ1 H1 Wx σ Q (k x S1)→R' v H1):RG rel K Wx m σ H R':=by
  refine ⟨Z,ρ,e,S,st,ev,?_⟩
  cases q:m e S with
  | ok x S1 =>
    rw [q] at h
    exact fun ρ1 H1 v s1 g a=>next ρ1 H1 v x S1 s1 g (ev.mv (g.mv st) g.pre) a (X6.shift g s1 h)
  | err C fs S1=>rw [q] at h; exact h
  | bad=>rw [q] at h; exact h
theorem Sta.grow {K:PySem.W.Frag} {Z:Wd} {ρ:List Addr} {S:Sto} {H H':Hp} (s:Sta K Z ρ S H) (k:∀ a o,H a=some o→H' a=some o):Sta K Z ρ S H':=by
  have m:Mv (Wn Z ρ) H (Wn Z ρ) H':=fun a o h q=>⟨h,k a o q⟩
  refine ⟨s.nd,fun a h=>⟨(s.z a h).1,let ⟨o,q⟩:=(s.z a h).2; ⟨o,k a o q⟩⟩,s.len,fun n o a e1 e2=>?_⟩
  exact AO.mv m (List.prefix_refl _) (k a) (s.ob n o a e1 e2)
theorem Go.grow {ρ:List Addr} {H H':Hp} (k:∀ a o,H a=some o→H' a=some o):Go ρ H ρ H':=⟨List.prefix_refl _,fun a o h q=>⟨h,k a o q⟩,fun a _ _ q=>k a _ q⟩
theorem Sta.thereW {K:PySem.W.Frag} {Z:Wd} {ρ:List Addr} {S:Sto} {H:Hp} (s:Sta K Z ρ S H) {a:Addr} (h:Wn Z ρ a):∃ o,H a=some o:=by
  rcases h with h | h
  · exact (s.z a h).2
  · obtain ⟨n,o,e1,e2⟩:=s.mem h
    exact (s.ob n o a e1 e2).there
theorem Sta.put {K:PySem.W.Frag} {Z:Wd} {ρ:List Addr} {S:Sto} {H:Hp} {n:Nat} {a:Addr} {o':O} {u:HO} (s:Sta K Z ρ S H) (hn:ρ[n]?=some a) (nf:∀ ob u,H a ≠ some (.frz ob u)) (new:AO K (Wn Z ρ) ρ (upd H a u) o' a):Sta K Z ρ (S.set n o') (upd H a u)∧Go ρ H ρ (upd H a u):=by
  have ha:a ∈ ρ:=List.mem_of_getElem? hn
  have m:Mv (Wn Z ρ) H (Wn Z ρ) (upd H a u):=fun b o h q=>⟨h,by rw [upd_ne (fun z=>h (.inr (by rw [z]; exact ha)))]; exact q⟩
  refine ⟨⟨s.nd,fun b h=>⟨(s.z b h).1,?_⟩,by rw [List.length_set]; exact s.len,fun k o b e1 e2=>?_⟩,⟨List.prefix_refl _,fun b o h q=>⟨h,by rw [upd_ne (fun z=>h (by rw [z]; exact ha))]; exact q⟩,fun b ob w q=>by rw [upd_ne (fun z=>nf ob w (by rw [← z]; exact q))]; exact q⟩⟩
  · obtain ⟨o,q⟩:=(s.z b h).2
    exact ⟨o,by rw [upd_ne (fun z=>(s.z b h).1 (by rw [z]; exact ha))]; exact q⟩
  · by_cases hk:n=k
    · subst hk
      rw [hn] at e2; cases e2
      have hl:n < S.length:=by
        have:=(List.getElem?_eq_some_iff.mp e1).1
        rwa [List.length_set] at this
      rw [List.getElem?_set_self hl] at e1
      cases e1
      exact new
    · rw [List.getElem?_set_ne hk] at e1
      have hb:b ≠ a:=fun z=>by
        subst z
        obtain ⟨h1,q1⟩:=List.getElem?_eq_some_iff.mp hn
        obtain ⟨h2,q2⟩:=List.getElem?_eq_some_iff.mp e2
        exact hk ((List.getElem_inj s.nd).mp (q1.trans q2.symm))
      exact AO.mv m (List.prefix_refl _) (fun w q=>by rw [upd_ne hb]; exact q) (s.ob k o b e1 e2)
theorem Sta.push {K:PySem.W.Frag} {Z:Wd} {ρ:List Addr} {S:Sto} {H H':Hp} {a:Addr} {o':O} (s:Sta K Z ρ S H) (hn:H a=none) (k:∀ b o,H b=some o→H' b=some o) (new:AO K (Wn Z (ρ++[a])) (ρ++[a]) H' o' a):Sta K Z (ρ++[a]) (S++[o']) H'∧Go ρ H (ρ++[a]) H':=by
  have hne:∀ b o,H b=some o→b ≠ a:=fun b o q z=>by rw [z,hn] at q; cases q
  have g:Go ρ H (ρ++[a]) H':=⟨List.prefix_append _ _,fun b o h q=>⟨fun z=>by
    rcases List.mem_append.mp z with z | z
    · exact h z
    · exact hne b o q (by simpa using z),k b o q⟩,fun b _ _ q=>k b _ q⟩
  have hna:a ∉ ρ:=fun z=>by
    obtain ⟨n,o,e1,e2⟩:=s.mem z
    obtain ⟨w,q⟩:=(s.ob n o a e1 e2).there
    exact hne a w q rfl
  refine ⟨⟨?_,fun b h=>⟨fun z=>?_,?_⟩,by rw [List.length_append,List.length_append,s.len]; rfl,fun m o b e1 e2=>?_⟩,g⟩
  · rw [List.nodup_append]
    exact ⟨s.nd,by simp,fun x hx y hy z=>by
      have:y=a:=by simpa using hy
      subst this; subst z; exact hna hx⟩
  · obtain ⟨o,q⟩:=(s.z b h).2
    rcases List.mem_append.mp z with z | z
    · exact (s.z b h).1 z
    · exact hne b o q (by simpa using z)
  · obtain ⟨o,q⟩:=(s.z b h).2
    exact ⟨o,k b o q⟩
  · by_cases hm:m < ρ.length
    · rw [List.getElem?_append_left hm] at e2
      rw [List.getElem?_append_left (by rw [s.len]; exact hm)] at e1
      exact AO.mv (g.mv s) g.pre (k b) (s.ob m o b e1 e2)
    · rw [List.getElem?_append_right (by omega)] at e2
      rw [List.getElem?_append_right (by rw [s.len]; omega)] at e1
      have hz:m - ρ.length=0:=by
        have:=(List.getElem?_eq_some_iff.mp e2).1
        simp at this; omega
      rw [hz] at e2
      rw [s.len,hz] at e1
      cases e1; cases e2
      exact new
theorem Sta.fresh {K:PySem.W.Frag} {Z:Wd} {ρ:List Addr} {S:Sto} {H:Hp} (s:Sta K Z ρ S H) {a:Addr} (h:H a=none):¬ Wn Z ρ a:=fun z=>by
  obtain ⟨o,e⟩:=s.thereW z
  rw [h] at e; cases e
theorem V9 {H:Hp} {p:Addr} {o:HO} (h:H p=none):∀ a u,H a=some u→upd H p o a=some u:=fun a u q=>by
  rw [upd_ne (ne_of_none q h)]; exact q
theorem X6.ret {α β:Type} {rel:Wd→List Addr→Hp→α→β→Prop} {K:PySem.W.Frag} {Z:Wd} {ρ:List Addr} {S:Sto} {H H':Hp} {Wx:WX} {σ:St} {Q:β→Hp→Prop} {x:α} {v:β} (h:X6 rel K Z ρ H Wx σ Q (.ok x S)) (s:Sta K Z ρ S H) (k:∀ a o,H a=some o→H' a=some o) (a:rel (Wn Z ρ) ρ H' x v):Q v H' :=
  h ρ H' v (s.grow k) (Go.grow k) a
theorem X6.ret0 {α β:Type} {rel:Wd→List Addr→Hp→α→β→Prop} {K:PySem.W.Frag} {Z:Wd} {ρ:List Addr} {S:Sto} {H:Hp} {Wx:WX} {σ:St} {Q:β→Hp→Prop} {x:α} {v:β} (h:X6 rel K Z ρ H Wx σ Q (.ok x S)) (s:Sta K Z ρ S H) (a:rel (Wn Z ρ) ρ H x v):Q v H :=
  h ρ H v s (Go.refl _ _) a
end Bv
namespace Bv
open PySem PySem.Spec L2
open PyProof.Rows hiding St
variable [HasW]
inductive AW (K:PySem.W.Frag) (W:Wd) (H:Hp):D→V→Prop
  | av {d:D} {v:V}:AV K W H d v→AW K W H d v
  | lst {a:Addr} {xs:List V} {ds:List D}:H a=some (.lst xs)→AVs K W H ds xs→AW K W H (.lst ds) (.ref a)
  | fdc {a:Addr} {ob:Obj} {ks:List (Key × V)} {kvs:List (D × D)}:H a=some (.frz ob (.dK ks))→AVk K W H kvs ks→AW K W H (.dic kvs) (.ref a)
def X.d?:X→Option D
  | .d v=>some v
  | .r _=>none
def ds?:List X→Option (List D)
  | []=>some []
  | x :: r=>match x,ds? r with
    | .d v,some l=>some (v :: l)
    | _,_=>none
def ks?:List (D × X)→Option (List (D × D))
  | []=>some []
  | (k,x) :: r=>match x,ks? r with
    | .d v,some l=>some ((k,v) :: l)
    | _,_=>none
def X.get (S:Sto):X→Option D
  | .d v=>some v
  | .r n=>match S[n]? with
    | some (.lst xs)=>(ds? xs).map .lst
    | some (.fdc kvs)=>(ks? kvs).map .dic
    | _=>none
section
variable {K:PySem.W.Frag} {W:Wd} {ρ:List Addr} {H:Hp}
theorem AXs.ds:∀ {xs:List X} {vs:List V} {ds:List D},AXs K W ρ H xs vs→ds? xs=some ds→AVs K W H ds vs
  | _,_,_, .nil,e=>by cases e; exact .nil
  | x :: r,_,ds, .cons h hs,e=>by
    cases x with
    | r n=>simp [ds?] at e
    | d v =>
      unfold ds? at e
      cases q:ds? r with
      | none=>rw [q] at e; cases e
      | some l =>
        rw [q] at e
        cases e
        cases h with
        | d h=>exact .cons h (AXs.ds hs q)
theorem AXk.ks:∀ {xs:List (D × X)} {vs:List (Key × V)} {ds:List (D × D)},Paired (fun (p:D × X) (q:Key × V)=>p.1.key?=some q.1∧AX K W ρ H p.2 q.2) xs vs→ks? xs=some ds→AVk K W H ds vs
  | _,_,_, .nil,e=>by cases e; exact .nil
  | (k,x) :: r,_,ds, .cons h hs,e=>by
    cases x with
    | r n=>simp [ks?] at e
    | d v =>
      unfold ks? at e
      cases q:ks? r with
      | none=>rw [q] at e; cases e
      | some l =>
        rw [q] at e
        cases e
        obtain ⟨h1,h2⟩:=h
        cases h2 with
        | d h=>exact .cons h1 h (AXk.ks hs q)
theorem Sta.at_ {Z:Wd} {S:Sto} (s:Sta K Z ρ S H) {n:Nat} {o:O} (e:S[n]?=some o):∃ a,ρ[n]?=some a∧AO K (Wn Z ρ) ρ H o a:=by
  have h:n < ρ.length:=by rw [← s.len]; exact (List.getElem?_eq_some_iff.mp e).1
  exact ⟨ρ[n],List.getElem?_eq_getElem h,s.ob n o _ e (List.getElem?_eq_getElem h)⟩
theorem AX.get {Z:Wd} {S:Sto} (s:Sta K Z ρ S H) {x:X} {v:V} {d:D} (a:AX K (Wn Z ρ) ρ H x v) (e:x.get S=some d):AW K (Wn Z ρ) H d v:=by
  cases a with
  | d h=>cases e; exact .av h
  | r h =>
    rename_i n a
    have e1:(match S[n]? with
      | some (.lst xs)=>(ds? xs).map .lst
      | some (.fdc kvs)=>(ks? kvs).map .dic
      | _=>none)=some d:=e
    cases q:S[n]? with
    | none=>rw [q] at e1; cases e1
    | some o =>
      rw [q] at e1
      obtain ⟨b,hb,x⟩:=s.at_ q
      rw [h] at hb; cases hb
      cases o with
      | lst xs =>
        obtain ⟨l,h1,h2⟩:=Option.map_eq_some_iff.mp (show (ds? xs).map D.lst=some d from e1)
        subst h2
        obtain ⟨vs,h3,h4⟩:=x
        exact .lst h3 (AXs.ds h4 h1)
      | fdc kvs =>
        obtain ⟨l,h1,h2⟩:=Option.map_eq_some_iff.mp (show (ks? kvs).map D.dic=some d from e1)
        subst h2
        obtain ⟨ob,vs,h3,h4⟩:=x
        exact .fdc h3 (AXk.ks h4 h1)
      | _=>cases e1
theorem AW.sq {ds:List D} {v:V} (h:AW K W H (.lst ds) v):∃ a xs,v = .ref a∧H a=some (.lst xs)∧AVs K W H ds xs:=by
  cases h with
  | av h=>cases h with | lst w r hs=>exact ⟨_,_,rfl,r,hs⟩
  | lst h hs=>exact ⟨_,_,rfl,h,hs⟩
theorem AW.tq {ds:List D} {v:V} (h:AW K W H (.tup ds) v):∃ a xs,v = .ref a∧Tp K W H a xs∧AVs K W H ds xs:=by
  cases h with
  | av h=>cases h with | tup t hs=>exact ⟨_,_,rfl,t,hs⟩
theorem AVs.length:∀ {ds:List D} {vs:List V},AVs K W H ds vs→ds.length=vs.length
  | _,_, .nil=>rfl
  | _,_, .cons _ t=>by simp [AVs.length t]
theorem AVs.get:∀ {ds:List D} {vs:List V} {i:Nat} {d:D},AVs K W H ds vs→ds[i]?=some d→∃ v,vs[i]?=some v∧AV K W H d v
  | _,_,_,_, .nil,e=>by simp at e
  | _,_,0,_, .cons h _,e=>by simp at e; subst e; exact ⟨_,rfl,h⟩
  | _,_,i + 1,d, .cons _ t,e=>by
    obtain ⟨v,h1,h2⟩:=AVs.get (i:=i) (d:=d) t (by simpa using e)
    exact ⟨v,by simpa using h1,h2⟩
theorem AVs.append:∀ {ds es:List D} {vs us:List V},AVs K W H ds vs→AVs K W H es us→AVs K W H (ds++es) (vs++us)
  | _,_,_,_, .nil,s=>s
  | _,_,_,_, .cons r t,s => .cons r (AVs.append t s)
theorem AVs.take:∀ {ds:List D} {vs:List V} (n:Nat),AVs K W H ds vs→AVs K W H (ds.take n) (vs.take n)
  | _,_,0,_ => .nil
  | _,_,_ + 1, .nil => .nil
  | _,_,n + 1, .cons r t => .cons r (AVs.take n t)
theorem AVs.drop:∀ {ds:List D} {vs:List V} (n:Nat),AVs K W H ds vs→AVs K W H (ds.drop n) (vs.drop n)
  | _,_,0,r=>r
  | _,_,_ + 1, .nil => .nil
  | _,_,n + 1, .cons _ t=>AVs.drop n t
theorem AVf.look:∀ {fs:List (Str × D)} {vs:List (Str × V)} {f:Str} {d:D},AVf K W H fs vs→fs.lookup f=some d→∃ v,vs.lookup f=some v∧AV K W H d v
  | _,_,_,_, .nil,e=>by cases e
  | (g,x) :: r,_,f,d, .cons h hs,e=>by
    rw [List.lookup_cons] at e ⊢
    cases q:f == g with
    | true=>rw [q] at e; cases e; exact ⟨_,rfl,h⟩
    | false=>rw [q] at e; exact AVf.look hs e
theorem AVf.none_of:∀ {fs:List (Str × D)} {vs:List (Str × V)} {f:Str},AVf K W H fs vs→fs.lookup f=none→vs.lookup f=none
  | _,_,_, .nil,e=>rfl
  | (g,x) :: r,_,f, .cons h hs,e=>by
    rw [List.lookup_cons] at e ⊢
    cases q:f == g with
    | true=>rw [q] at e; cases e
    | false=>rw [q] at e; exact AVf.none_of hs e
end
def Z4 (i:Nat):M:=fun e S=>match e[i]? with
  | some (some x) => .ok x S
  | _ => .bad
def m_c (d:D):M:=fun _ S => .ok (.d d) S
section
variable {X:Cx} {Wx:WX} {pos:Pos}
theorem PE.of {X:Cx} {e:Expr} {t t':TE} (h:PE X e t) (w:∀ σ H Q,t' σ H Q→t σ H Q):PE X e t':=⟨fun pins s σ H Q I q=>h.run pins s σ H Q I (w σ H Q q)⟩
theorem Z0 (i:Nat) {x:Str} (hN:X.N[i]?=some x:=by rfl) (hv:Vis X.env.scope x:=by first | exact Or.inl rfl | exact Or.inr (Or.inl rfl) | exact Or.inr (Or.inr rfl)) (hd:(x == ("__debug__" : Str))=false:=by decide)
    (hcd:(x == ("__classdict__" : Str))=false:=by decide):ME X Wx (.Name x pos) (Z4 i):=PE.of (pe_var hN hv hd hcd) fun σ H Q ⟨Z,ρ,e,S,st,ev,p⟩=>by
  unfold Z4 at p
  cases q:e[i]? with
  | none=>rw [q] at p; exact p.elim
  | some o =>
    cases o with
    | none=>rw [q] at p; exact p.elim
    | some x =>
      rw [q] at p
      obtain ⟨v,h1,h2⟩:=ev.at_ i x q
      exact ⟨v,h1,p.ret0 st h2⟩
theorem X2x {e:Expr} {d:D} {v:V} (h:PE X e (tC v)) (a:∀ W H,AV X.K W H d v):ME X Wx e (m_c d):=PE.of h fun σ H Q ⟨Z,ρ,e,S,st,ev,p⟩=>X6.ret0 p st (.d (a _ _))
theorem Y8 {i:Int} {j}:ME X Wx (.Constant (.int i) j pos) (m_c (.int i)):=X2x pe_int fun _ _ => .int i
theorem Z44 {b:Bool} {j}:ME X Wx (.Constant (.bool b) j pos) (m_c (.bl b)):=X2x pe_bl fun _ _ => .bl b
theorem U5 {j}:ME X Wx (.Constant .none j pos) (m_c .non):=X2x pe_non fun _ _ => .non
theorem Y4 {x:Str} {j} (h:PyData.strOk x=true:=by decide +kernel):ME X Wx (.Constant (.str x) j pos) (m_c (.str x)):=X2x pe_str fun _ _ => .str h
theorem Y3t {x:Str} {d:D} {u:Value} (hg:Gl X x) (hm:X.mg x=some u) (h:∃ v,(∀ W H,AV X.K W H d v)∧RelV v u) (hd:(x == ("__debug__" : Str))=false:=by decide):ME X Wx (.Name x pos) (m_c d):=by
  obtain ⟨v,a,r⟩:=h
  exact X2x (pe_glob hg hm r hd) a
end
def Op2 (K:PySem.W.Frag) (r:R2) (f:D→D→Option D):Prop:=∀ (W:Wd) (H:Hp) (d1 d2:D) (v1 v2:V) (d:D) (Q:VK),(∀ a,W a→∃ o,H a=some o)→AW K W H d1 v1→AW K W H d2 v2→f d1 d2=some d →
  (∀ H' v,Same H H'→AV K W H' d v→Q v H')→r v1 v2 H Q
def op2 (f:D→D→Option D) (S:Sto) (x y:X):R X:=match x.get S,y.get S with
  | some a,some b=>(match f a b with
    | some d => .ok (.d d) S
    | none => .bad)
  | _,_ => .bad
def Y5 (f:D→D→Option D) (ma mb:M):M:=fun e S=>(ma e S).bind fun x S1=>(mb e S1).bind fun y S2=>op2 f S2 x y
section
variable {X:Cx} {Wx:WX} {pos:Pos} {a b c:Expr} {ma mb mc:M}
theorem Z26 {W:Wd} {H H':Hp} (k:Same H H'):Mv W H W H':=fun a o h q=>⟨h,k a o q⟩
theorem X3f {r:R2} {f:D→D→Option D} (hf:Op2 X.K r f) {Z:Wd} {ρ:List Addr} {S:Sto} {H:Hp} {σ:St} {Q:VK} {x y:Bv.X} {v1 v2:V} (st:Sta X.K Z ρ S H) (a1:AX X.K (Wn Z ρ) ρ H x v1) (a2:AX X.K (Wn Z ρ) ρ H y v2)
    (p:Z23 X.K Z ρ H Wx σ Q (op2 f S x y)):r v1 v2 H Q:=by
  unfold op2 at p
  cases e1:x.get S with
  | none=>rw [e1] at p; exact p.elim
  | some d1 =>
    cases e2:y.get S with
    | none=>rw [e1,e2] at p; exact p.elim
    | some d2 =>
      rw [e1,e2] at p
      have p:Z23 X.K Z ρ H Wx σ Q (match f d1 d2 with
        | some d => .ok (.d d) S
        | none => .bad):=p
      cases e3:f d1 d2 with
      | none=>rw [e3] at p; exact p.elim
      | some d =>
        rw [e3] at p
        exact hf (Wn Z ρ) H d1 d2 v1 v2 d Q (fun _ h=>st.thereW h) (a1.get st e1) (a2.get st e2) e3 fun H' v k h=>p.ret st k (.d h)
theorem Y8g {r:R2} {f:D→D→Option D} (hf:Op2 X.K r f) {σ:St} {H:Hp} {Q:VK} (h:RE X.K Wx (Y5 f ma mb) σ H Q):tOp r (RE X.K Wx ma) (RE X.K Wx mb) σ H Q:=by
  obtain ⟨Z,ρ,e,S,st,ev,p⟩:=h
  refine X5 st ev p fun ρ1 H1 v1 x S1 st1 g1 ev1 a1 p1=>?_
  refine X5 st1 ev1 p1 fun ρ2 H2 v2 y S2 st2 g2 ev2 a2 p2=>?_
  exact X3f hf st2 (a1.mv (g2.mv st1) g2.pre) a2 p2
theorem W43 {op:Operator} {r:R2} {f:D→D→Option D} (ho:OpR X (binaryOp op) r) (hf:Op2 X.K r f) (ha:ME X Wx a ma) (hb:ME X Wx b mb):ME X Wx (.BinOp a op b pos) (Y5 f ma mb) :=
  PE.of (pe_op ho ha hb) fun _ _ _ h=>Y8g hf h
theorem W2q {op:CmpOp} {r:R2} {f:D→D→Option D} (ho:OpR X (compareOp op) r) (hf:Op2 X.K r f) (ha:ME X Wx a ma) (hb:ME X Wx b mb) (hm:behindInMarks op b=false:=by first | exact nomark _ | (with_unfolding_all rfl)):ME X Wx (.Compare a [op] [b] pos) (Y5 f ma mb) :=
  PE.of (pe_cmpR ho ha hb hm) fun _ _ _ h=>Y8g hf h
def Z16 (f g:D→D→Option D) (ma mb mc:M):M:=fun e S=>(ma e S).bind fun x S1=>(mb e S1).bind fun y S2=>(op2 f S2 x y).bind fun z S3=>match z with
  | .d (.bl true)=>(mc e S3).bind fun w S4=>op2 g S4 y w
  | .d (.bl false) => .ok (.d (.bl false)) S3
  | _ => .bad
end
end Bv
namespace Bv
open PySem PySem.Spec L2
open PyProof.Rows hiding St
variable [HasW]
mutual
def D.py:D→Option PyData
  | .non=>some .none
  | .bl b=>some (.bool b)
  | .int i=>some (.int i)
  | .str x=>some (.str x)
  | .tup ds=>match pys ds with
    | some l=>some (.tuple l)
    | none=>none
  | .lst ds=>match pys ds with
    | some l=>some (.list l)
    | none=>none
  | .scr ns=>some (.list (ns.map .int))
  | .dic _=>none
  | .obj _ _=>none
  | .gl _=>none
def pys:List D→Option (List PyData)
  | []=>some []
  | d :: r=>match d.py,pys r with
    | some p,some l=>some (p :: l)
    | _,_=>none
end
section
variable {K:PySem.W.Frag} {W:Wd} {H:Hp}
theorem X1m:∀ ns:List Int,DpAll K H (ns.map V.int) (ns.map PyData.int)
  | [] => .nil
  | n :: r => .cons (.int n) (X1m r)
theorem Y9c:∀ ns:List Int,PyData.canLayAll0 (ns.map PyData.int)=true
  | []=>by simp [PyData.canLayAll0]
  | n :: r=>by simp [PyData.canLayAll0,PyData.canLay0,Y9c r]
mutual
theorem AV.dp:∀ {d:D} {v:V} {p:PyData},AV K W H d v→d.py=some p→Dp K H v p∧p.canLay0=true
  | _,_,_, .non,e=>by cases e; exact ⟨.non,by simp [PyData.canLay0]⟩
  | _,_,_, .bl b,e=>by cases e; exact ⟨.bl b,by simp [PyData.canLay0]⟩
  | _,_,_, .int i,e=>by cases e; exact ⟨.int i,by simp [PyData.canLay0]⟩
  | _,_,_, .str h,e=>by cases e; exact ⟨.str _,by simpa [PyData.canLay0] using h⟩
  | _,_,_, .gl x,e=>by cases e
  | _,_,_, .scr h,e=>by cases e; exact ⟨.lst h.sl (X1m _),by simpa [PyData.canLay0] using Y9c _⟩
  | .tup ds,_,p, .tup t hs,e=>by
    have e1:(match pys ds with
      | some l=>some (PyData.tuple l)
      | none=>none)=some p:=by simpa [D.py] using e
    cases q:pys ds with
    | none=>rw [q] at e1; cases e1
    | some l =>
      rw [q] at e1; cases e1
      obtain ⟨h1,h2⟩:=AVs.dp hs q
      exact ⟨.tup t.sq h1,by simpa [PyData.canLay0] using h2⟩
  | .lst ds,_,p, .lst w h hs,e=>by
    have e1:(match pys ds with
      | some l=>some (PyData.list l)
      | none=>none)=some p:=by simpa [D.py] using e
    cases q:pys ds with
    | none=>rw [q] at e1; cases e1
    | some l =>
      rw [q] at e1; cases e1
      obtain ⟨h1,h2⟩:=AVs.dp hs q
      exact ⟨.lst (.inl (.inl h)) h1,by simpa [PyData.canLay0] using h2⟩
  | _,_,_, .dic w h hs,e=>by simp [D.py] at e
  | _,_,_, .obj w h hs,e=>by simp [D.py] at e
theorem AVs.dp:∀ {ds:List D} {vs:List V} {ps:List PyData},AVs K W H ds vs→pys ds=some ps→DpAll K H vs ps∧PyData.canLayAll0 ps=true
  | _,_,_, .nil,e=>by simp [pys] at e; subst e; exact ⟨.nil,by simp [PyData.canLayAll0]⟩
  | d :: r,_,ps, .cons h hs,e=>by
    cases q1:d.py with
    | none=>simp [pys,q1] at e
    | some p =>
      cases q2:pys r with
      | none=>simp [pys,q1,q2] at e
      | some l =>
        simp [pys,q1,q2] at e
        subst e
        obtain ⟨h1,h2⟩:=AV.dp h q1
        obtain ⟨h3,h4⟩:=AVs.dp hs q2
        exact ⟨.cons h1 h3,by simp [PyData.canLayAll0,h2,h4]⟩
end
theorem AW.dp {d:D} {v:V} {p:PyData} (h:AW K W H d v) (e:d.py=some p):Dp K H v p∧p.canLay0=true:=by
  cases h with
  | av h=>exact h.dp e
  | lst h hs =>
    rename_i a xs ds
    have e1:(match pys ds with
      | some l=>some (PyData.list l)
      | none=>none)=some p:=by simpa [D.py] using e
    cases q:pys ds with
    | none=>rw [q] at e1; cases e1
    | some l =>
      rw [q] at e1; cases e1
      obtain ⟨h1,h2⟩:=AVs.dp hs q
      exact ⟨.lst (.inl (.inl h)) h1,by simpa [PyData.canLay0] using h2⟩
  | fdc h hs=>simp [D.py] at e
end
def dOk (p:PyData):Bool:=decide (p.depth ≤ 64)
theorem Z5f {p:PyData} (h:p.canLay0=true) (d:dOk p=true):SeqAt.shaped p=true:=by
  unfold SeqAt.shaped
  rw [h,Bool.true_and]
  exact d
def eqD (a b:D):Option D:=match a.py,b.py with
  | some p,some q=>if dOk p && dOk q then some (.bl (PyData.eqv p q)) else none
  | _,_=>none
def neD (a b:D):Option D:=match a.py,b.py with
  | some p,some q=>if dOk p && dOk q then some (.bl (!PyData.eqv p q)) else none
  | _,_=>none
section
variable {K:PySem.W.Frag}
theorem X7m {a b d:D} {f:PyData→PyData→D} (e:(match a.py,b.py with
  | some p,some q=>if dOk p && dOk q then some (f p q) else none
  | _,_=>none)=some d):∃ p q,a.py=some p∧b.py=some q∧dOk p=true∧dOk q=true∧d=f p q:=by
  cases q1:a.py with
  | none=>rw [q1] at e; cases e
  | some p =>
    cases q2:b.py with
    | none=>rw [q1,q2] at e; cases e
    | some q =>
      rw [q1,q2] at e
      have e:(if dOk p && dOk q then some (f p q) else none)=some d:=e
      cases q3:dOk p && dOk q with
      | false=>rw [q3] at e; cases e
      | true =>
        rw [q3] at e
        cases e
        obtain ⟨h1,h2⟩:=Bool.and_eq_true_iff.mp q3
        exact ⟨p,q,rfl,rfl,h1,h2,rfl⟩
theorem W7t:Op2 K (rEqD K) eqD:=fun W H d1 d2 v1 v2 d Q hw a1 a2 e k=>by
  obtain ⟨p,q,e1,e2,h1,h2,rfl⟩:=X7m (f:=fun p q => .bl (PyData.eqv p q)) e
  obtain ⟨x1,y1⟩:=a1.dp e1
  obtain ⟨x2,y2⟩:=a2.dp e2
  exact ⟨p,q,x1,x2,Z5f y1 h1,Z5f y2 h2,k H _ (Same.refl H) (.bl _)⟩
theorem W7w:Op2 K (rNeD K) neD:=fun W H d1 d2 v1 v2 d Q hw a1 a2 e k=>by
  obtain ⟨p,q,e1,e2,h1,h2,rfl⟩:=X7m (f:=fun p q => .bl (!PyData.eqv p q)) e
  obtain ⟨x1,y1⟩:=a1.dp e1
  obtain ⟨x2,y2⟩:=a2.dp e2
  exact ⟨p,q,x1,x2,Z5f y1 h1,Z5f y2 h2,k H _ (Same.refl H) (.bl _)⟩
end
def inB (a b:D):Option Bool:=match a.py,b.py with
  | some p,some (.list l)=>if dOk p && dOk (.list l) then some (l.any fun z=>PyData.eqv z p) else none
  | some p,some (.tuple l)=>if dOk p && dOk (.tuple l) then some (l.any fun z=>PyData.eqv z p) else none
  | some (.str x),some (.str y)=>if x.cps.size=1 then some (y.cps.toList.contains (x.cps.getD 0 0)) else none
  | _,_=>none
def inD (a b:D):Option D:=(inB a b).map .bl
def W4c (a b:D):Option D:=(inB a b).map fun c => .bl (!c)
def W1g (neg:Bool) (K:PySem.W.Frag):R2:=fun x y H Q=>(∃ d ds,Dp K H x d∧(Dp K H y (.list ds) ∨ Dp K H y (.tuple ds))∧SeqAt.shaped d=true∧SeqAt.shaped (.list ds)=true∧Q (.bl (if neg then !ds.any fun z=>PyData.eqv z d else ds.any fun z=>PyData.eqv z d)) H) ∨
  ∃ (c:Nat) (z:Str),x = .str ⟨#[c]⟩∧y = .str z∧Q (.bl (if neg then !decide (c ∈ z.cps.toList) else decide (c ∈ z.cps.toList))) H
theorem W3b {X:Cx} (hu:X.A.units + 65 < cLine):OpR X (compareOp .In) (W1g false X.K):=by
  intro pins s σ H x y v u Q I rx ry h
  rcases h with ⟨d,ds,hd,he,sd,se,q⟩ | ⟨c,z,rfl,rfl,q⟩
  · obtain ⟨as,r1⟩:=Dp.reads I d x v hd rx
    rcases he with he | he
    · obtain ⟨bs,r2⟩:=Dp.reads I (.list ds) y u he ry
      exact SeqAt.in_list_reads r2 r1 (SeqAt.canLay_of_shaped se) (SeqAt.canLay_of_shaped sd) (room_in_shaped sd hu) ⟨.bl _,H,I,rfl,q⟩
    · obtain ⟨bs,r2⟩:=Dp.reads I (.tuple ds) y u he ry
      exact SeqAt.in_tuple_reads r2 r1 (SeqAt.canLay_of_shaped se) (SeqAt.canLay_of_shaped sd) (room_in_shaped sd hu) ⟨.bl _,H,I,rfl,q⟩
  · exact op_in_sign pins s σ H _ _ v u Q I rx ry ⟨c,z,rfl,rfl,q⟩
theorem X91 {X:Cx} (hu:X.A.units + 65 < cLine):OpR X (compareOp .NotIn) (W1g true X.K):=by
  intro pins s σ H x y v u Q I rx ry h
  rcases h with ⟨d,ds,hd,he,sd,se,q⟩ | ⟨c,z,rfl,rfl,q⟩
  · obtain ⟨as,r1⟩:=Dp.reads I d x v hd rx
    rcases he with he | he
    · obtain ⟨bs,r2⟩:=Dp.reads I (.list ds) y u he ry
      exact SeqAt.notIn_list_reads r2 r1 (SeqAt.canLay_of_shaped se) (SeqAt.canLay_of_shaped sd) (room_in_shaped sd hu) ⟨.bl _,H,I,rfl,q⟩
    · obtain ⟨bs,r2⟩:=Dp.reads I (.tuple ds) y u he ry
      exact SeqAt.notIn_tuple_reads r2 r1 (SeqAt.canLay_of_shaped se) (SeqAt.canLay_of_shaped sd) (room_in_shaped sd hu) ⟨.bl _,H,I,rfl,q⟩
  · exact op_notIn_sign pins s σ H _ _ v u Q I rx ry ⟨c,z,rfl,rfl,q⟩
theorem X5q {x:Str} (h:x.cps.size=1):x=⟨#[x.cps.getD 0 0]⟩:=by
  obtain ⟨a⟩:=x
  obtain ⟨l⟩:=a
  cases l with
  | nil=>cases h
  | cons c r =>
    cases r with
    | nil=>rfl
    | cons c' r=>simp at h
theorem X6u {K:PySem.W.Frag} {W:Wd} {H:Hp} {a b:D} {v1 v2:V} {c:Bool} (neg:Bool) {Q:VK} (a1:AW K W H a v1) (a2:AW K W H b v2) (e:inB a b=some c) (q:Q (.bl (if neg then !c else c)) H):W1g neg K v1 v2 H Q:=by
  unfold inB at e
  cases e1:a.py with
  | none=>rw [e1] at e; cases e
  | some p =>
    cases e2:b.py with
    | none=>rw [e1,e2] at e; cases p <;> cases e
    | some t =>
      rw [e1,e2] at e
      obtain ⟨x1,y1⟩:=a1.dp e1
      obtain ⟨x2,y2⟩:=a2.dp e2
      have seq:∀ {l:List PyData},(Dp K H v2 (.list l) ∨ Dp K H v2 (.tuple l))→PyData.canLayAll0 l=true→dOk (.list l)=true→dOk p=true→c=(l.any fun z=>PyData.eqv z p)→W1g neg K v1 v2 H Q:=fun {l} h hl hd hp hc=>by
        subst hc
        exact .inl ⟨p,l,x1,h,Z5f y1 hp,Z5f (by simpa [PyData.canLay0] using hl) hd,q⟩
      cases t with
      | list l =>
        have e:(if dOk p && dOk (.list l) then some (l.any fun z=>PyData.eqv z p) else none)=some c:=by cases p <;> exact e
        cases h:dOk p && dOk (.list l) with
        | false=>rw [h] at e; cases e
        | true =>
          rw [h] at e
          cases e
          obtain ⟨h1,h2⟩:=Bool.and_eq_true_iff.mp h
          exact seq (.inl x2) (by simpa [PyData.canLay0] using y2) h2 h1 rfl
      | tuple l =>
        have e:(if dOk p && dOk (.tuple l) then some (l.any fun z=>PyData.eqv z p) else none)=some c:=by cases p <;> exact e
        cases h:dOk p && dOk (.tuple l) with
        | false=>rw [h] at e; cases e
        | true =>
          rw [h] at e
          cases e
          obtain ⟨h1,h2⟩:=Bool.and_eq_true_iff.mp h
          exact seq (.inr x2) (by simpa [PyData.canLay0] using y2) (by simpa [dOk,PyData.depth] using h2) h1 rfl
      | str y =>
        cases p with
        | str x =>
          have e:(if x.cps.size=1 then some (y.cps.toList.contains (x.cps.getD 0 0)) else none)=some c:=e
          by_cases h:x.cps.size=1
          · rw [if_pos h] at e
            cases e
            cases x1
            cases x2
            refine .inr ⟨x.cps.getD 0 0,y,by rw [← X5q h],rfl,?_⟩
            rw [List.contains_eq_mem] at q
            exact q
          · rw [if_neg h] at e; cases e
        | _=>cases e
      | none=>cases p <;> cases e
      | bool _=>cases p <;> cases e
      | int _=>cases p <;> cases e
      | dict _=>cases p <;> cases e
section
variable {K:PySem.W.Frag}
theorem W7u:Op2 K (W1g false K) inD:=fun W H d1 d2 v1 v2 d Q hw a1 a2 e k=>by
  obtain ⟨c,h1,h2⟩:=Option.map_eq_some_iff.mp (show (inB d1 d2).map D.bl=some d from e)
  subst h2
  exact X6u false a1 a2 h1 (k H _ (Same.refl H) (.bl _))
theorem W5o:Op2 K (W1g true K) W4c:=fun W H d1 d2 v1 v2 d Q hw a1 a2 e k=>by
  obtain ⟨c,h1,h2⟩:=Option.map_eq_some_iff.mp (show (inB d1 d2).map (fun c=>D.bl (!c))=some d from e)
  subst h2
  exact X6u true a1 a2 h1 (k H _ (Same.refl H) (.bl _))
end
section
variable {K:PySem.W.Frag}
def ii (f:Int→Int→Option D):D→D→Option D
  | .int i, .int j=>f i j
  | _,_=>none
theorem AW.int_inv {W:Wd} {H:Hp} {i:Int} {v:V} (h:AW K W H (.int i) v):v = .int i:=by
  cases h with | av h=>cases h; rfl
theorem AW.str_inv {W:Wd} {H:Hp} {x:Str} {v:V} (h:AW K W H (.str x) v):v = .str x∧PyData.strOk x=true:=by
  cases h with | av h=>cases h with | str h=>exact ⟨rfl,h⟩
theorem AW.bl_inv {W:Wd} {H:Hp} {b:Bool} {v:V} (h:AW K W H (.bl b) v):v = .bl b:=by
  cases h with | av h=>cases h; rfl
theorem AW.non_inv {W:Wd} {H:Hp} {v:V} (h:AW K W H .non v):v = .non:=by
  cases h with | av h=>cases h; rfl
theorem Y86 {f:Int→Int→Option D} {a b d:D} (e:ii f a b=some d):∃ i j,a = .int i∧b = .int j∧f i j=some d:=by
  cases a with
  | int i=>cases b with
    | int j=>exact ⟨i,j,rfl,rfl,e⟩
    | _=>cases e
  | _=>cases b <;> cases e
theorem W29 {g:Int→Int→Int}:Op2 K (rI0 fun i j => .int (g i j)) (ii fun i j=>some (.int (g i j))):=fun W H d1 d2 v1 v2 d Q hw a1 a2 e k=>by
  obtain ⟨i,j,rfl,rfl,e0⟩:=Y86 e
  clear e
  have e:=e0
  clear e0
  cases e
  cases a1.int_inv
  cases a2.int_inv
  exact ⟨i,j,rfl,rfl,k H _ (Same.refl H) (.int _)⟩
theorem Y9m {C:Int→Int→Prop} [∀ i j,Decidable (C i j)] {g:Int→Int→Int}:Op2 K (rI C fun i j => .int (g i j)) (ii fun i j=>if C i j then some (.int (g i j)) else none):=fun W H d1 d2 v1 v2 d Q hw a1 a2 e k=>by
  obtain ⟨i,j,rfl,rfl,e0⟩:=Y86 e
  clear e
  have e:=e0
  clear e0
  by_cases h:C i j
  · rw [if_pos h] at e
    cases e
    cases a1.int_inv
    cases a2.int_inv
    exact ⟨i,j,rfl,rfl,h,k H _ (Same.refl H) (.int _)⟩
  · rw [if_neg h] at e; cases e
theorem Y9l {g:Int→Int→Bool}:Op2 K (rI0 fun i j => .bl (g i j)) (ii fun i j=>some (.bl (g i j))):=fun W H d1 d2 v1 v2 d Q hw a1 a2 e k=>by
  obtain ⟨i,j,rfl,rfl,e0⟩:=Y86 e
  clear e
  have e:=e0
  clear e0
  cases e
  cases a1.int_inv
  cases a2.int_inv
  exact ⟨i,j,rfl,rfl,k H _ (Same.refl H) (.bl _)⟩
instance (i j:Int):Decidable (CMul i j):=by unfold CMul; infer_instance
instance (i j:Int):Decidable (CDiv i j):=by unfold CDiv; infer_instance
instance (i j:Int):Decidable (CPow i j):=by unfold CPow; infer_instance
def W1h:D→D→Option D:=ii fun i j=>some (.int (i - j))
def Y63:D→D→Option D:=ii fun i j=>if CMul i j then some (.int (i * j)) else none
def X1z:D→D→Option D:=ii fun i j=>if CDiv i j then some (.int (i / j)) else none
def X0h:D→D→Option D:=ii fun i j=>if 0 < j then some (.int (i % j)) else none
def W52:D→D→Option D:=ii fun i j=>if CPow i j then some (.int (i ^ j.toNat)) else none
def ltD:D→D→Option D:=ii fun i j=>some (.bl (decide (i < j)))
def leD:D→D→Option D:=ii fun i j=>some (.bl (decide (i ≤ j)))
def gtD:D→D→Option D:=ii fun i j=>some (.bl (decide (j < i)))
def geD:D→D→Option D:=ii fun i j=>some (.bl (decide (j ≤ i)))
end
section
variable {K:PySem.W.Frag} {W:Wd} {H:Hp}
theorem Z54 {p:Addr} {ds:List D} {xs:List V} (hw:∀ a,W a→∃ o,H a=some o) (hp:H p=none) (a:AVs K W H ds xs):AV K W (upd H p (.lst xs)) (.lst ds) (.ref p) :=
  .lst (fun z=>by obtain ⟨o,e⟩:=hw p z; rw [hp] at e; cases e) upd_same (a.mv (Z26 (V9 hp)))
theorem Z9b {p:Addr} {ds:List D} {xs:List V} (hw:∀ a,W a→∃ o,H a=some o) (hp:H p=none) (a:AVs K W H ds xs):AV K W (upd H p (.tup xs)) (.tup ds) (.ref p) :=
  .tup (.inl ⟨fun z=>(by obtain ⟨o,e⟩:=hw p z; rw [hp] at e; cases e),upd_same⟩) (a.mv (Z26 (V9 hp)))
theorem Z13 {x y:Str} (hx:PyData.strOk x=true) (hy:PyData.strOk y=true):PyData.strOk (x++y)=true:=by
  unfold PyData.strOk at *
  have e:(x++y).cps=x.cps++y.cps:=rfl
  rw [e,Array.all_append,hx,hy]; rfl
end
def Z8i (a b:D):Option D:=match a,b with
  | .int i, .int j=>some (.int (i + j))
  | .str x, .str y=>if x.length + y.length ≤ sizeLine then some (.str (x++y)) else none
  | .lst xs, .lst ys=>if xs.length + ys.length ≤ sizeLine then some (.lst (xs++ys)) else none
  | .tup xs, .tup ys=>if xs.length + ys.length ≤ sizeLine then some (.tup (xs++ys)) else none
  | _,_=>none
def W3g (K:PySem.W.Frag):R2:=fun x y H Q=>((rI0 fun i j => .int (i + j)) x y H Q) ∨ ((∃ i j,x = .str i∧y = .str j∧i.length + j.length ≤ sizeLine∧Q (.str (i++j)) H) ∨ (rCat x y H Q ∨ rCatA K x y H Q))
theorem X3g {X:Cx}:OpR X (binaryOp .Add) (W3g X.K):=OpR.or op_add (OpR.or op_add_str (OpR.or op_cat op_catA))
theorem W27 {K:PySem.W.Frag}:Op2 K (W3g K) Z8i:=fun W H d1 d2 v1 v2 d Q hw a1 a2 e k=>by
  cases d1 with
  | int i=>cases d2 with
    | int j =>
      cases e
      cases a1.int_inv
      cases a2.int_inv
      exact .inl ⟨i,j,rfl,rfl,k H _ (Same.refl H) (.int _)⟩
    | _=>cases e
  | str x=>cases d2 with
    | str y =>
      have e:(if x.length + y.length ≤ sizeLine then some (D.str (x++y)) else none)=some d:=e
      by_cases h:x.length + y.length ≤ sizeLine
      · rw [if_pos h] at e
        cases e
        obtain ⟨rfl,h1⟩:=a1.str_inv
        obtain ⟨rfl,h2⟩:=a2.str_inv
        exact .inr (.inl ⟨x,y,rfl,rfl,h,k H _ (Same.refl H) (.str (Z13 h1 h2))⟩)
      · rw [if_neg h] at e; cases e
    | _=>cases e
  | lst xs=>cases d2 with
    | lst ys =>
      have e:(if xs.length + ys.length ≤ sizeLine then some (D.lst (xs++ys)) else none)=some d:=e
      by_cases h:xs.length + ys.length ≤ sizeLine
      · rw [if_pos h] at e
        cases e
        obtain ⟨a,vs,rfl,h1,q1⟩:=a1.sq
        obtain ⟨b,us,rfl,h2,q2⟩:=a2.sq
        refine .inr (.inr (.inl ⟨a,b,vs,us,rfl,rfl,h1,h2,by rw [← q1.length,← q2.length]; exact h,fun p hp=>?_⟩))
        exact k _ _ (V9 hp) (Z54 hw hp (q1.append q2))
      · rw [if_neg h] at e; cases e
    | _=>cases e
  | tup xs=>cases d2 with
    | tup ys =>
      have e:(if xs.length + ys.length ≤ sizeLine then some (D.tup (xs++ys)) else none)=some d:=e
      by_cases h:xs.length + ys.length ≤ sizeLine
      · rw [if_pos h] at e
        cases e
        obtain ⟨a,vs,rfl,h1,q1⟩:=a1.tq
        obtain ⟨b,us,rfl,h2,q2⟩:=a2.tq
        refine .inr (.inr (.inr ⟨a,b,vs,us,rfl,rfl,h1.sq,h2.sq,by rw [← q1.length,← q2.length]; exact h,fun z=>?_,fun z1 z2=>?_,fun _ _ p hp=>?_⟩))
        · subst z
          cases q1
          exact k H _ (Same.refl H) (.tup h2 q2)
        · subst z2
          cases q2
          rw [List.append_nil] at k
          exact k H _ (Same.refl H) (.tup h1 q1)
        · exact k _ _ (V9 hp) (Z9b hw hp (q1.append q2))
      · rw [if_neg h] at e; cases e
    | _=>cases e
  | _=>cases e
def D.isNon:D→Bool
  | .non=>true
  | _=>false
def isD (a b:D):Option D:=match b with
  | .non=>some (.bl a.isNon)
  | _=>none
def X6w (a b:D):Option D:=match b with
  | .non=>some (.bl (!a.isNon))
  | _=>none
theorem AW.isN {K:PySem.W.Frag} {W:Wd} {H:Hp} {d:D} {v:V} (h:AW K W H d v):decide (v = .non)=d.isNon:=by
  cases h with
  | av h=>cases h <;> simp [D.isNon]
  | lst h hs=>simp [D.isNon]
  | fdc h hs=>simp [D.isNon]
theorem W7v {K:PySem.W.Frag}:Op2 K (fun x y H Q=>y = .non∧Q (.bl (decide (x = .non))) H) isD:=fun W H d1 d2 v1 v2 d Q hw a1 a2 e k=>by
  cases d2 with
  | non =>
    cases a2.non_inv
    refine ⟨rfl,?_⟩
    rw [a1.isN]
    cases e
    exact k H _ (Same.refl H) (.bl _)
  | _=>cases e
theorem W5n {K:PySem.W.Frag}:Op2 K (fun x y H Q=>y = .non∧Q (.bl (!decide (x = .non))) H) X6w:=fun W H d1 d2 v1 v2 d Q hw a1 a2 e k=>by
  cases d2 with
  | non =>
    cases a2.non_inv
    refine ⟨rfl,?_⟩
    rw [a1.isN]
    cases e
    exact k H _ (Same.refl H) (.bl _)
  | _=>cases e
end Bv
namespace Bv
open PySem PySem.Spec L2
open PyProof.Rows hiding St
variable [HasW]
def Z9y:D→Option Bool
  | .non=>some false
  | .bl b=>some b
  | .int i=>some (i != 0)
  | .str x=>if x.length ≤ sizeLine then some ((x.length:Int) != 0) else none
  | .lst ds=>some (!ds.isEmpty)
  | .tup ds=>some (!ds.isEmpty)
  | .dic _=>none
  | .scr ns=>some (!ns.isEmpty)
  | .obj _ _=>none
  | .gl _=>none
theorem AVs.isEmpty {K:PySem.W.Frag} {W:Wd} {H:Hp}:∀ {ds:List D} {vs:List V},AVs K W H ds vs→ds.isEmpty=vs.isEmpty
  | _,_, .nil=>rfl
  | _,_, .cons _ _=>rfl
theorem AW.tru {K:PySem.W.Frag} {W:Wd} {H:Hp} {d:D} {v:V} {b:Bool} (h:AW K W H d v) (e:Z9y d=some b):TruV K v H b:=by
  cases d with
  | non=>cases h.non_inv; cases e; rfl
  | bl c=>cases h.bl_inv; cases e; rfl
  | int i=>cases h.int_inv; cases e; rfl
  | str x =>
    obtain ⟨rfl,_⟩:=h.str_inv
    have e:(if x.length ≤ sizeLine then some ((x.length:Int) != 0) else none)=some b:=e
    by_cases hx:x.length ≤ sizeLine
    · rw [if_pos hx] at e
      cases e
      exact ⟨hx,rfl⟩
    · rw [if_neg hx] at e; cases e
  | lst ds =>
    obtain ⟨a,xs,rfl,h1,h2⟩:=h.sq
    cases e
    exact .inl ⟨xs, .inl (.inl h1),by rw [h2.isEmpty]⟩
  | tup ds =>
    obtain ⟨a,xs,rfl,h1,h2⟩:=h.tq
    cases e
    exact .inr (.inl ⟨xs,h1.sq,by rw [h2.isEmpty]⟩)
  | dic ds=>cases e
  | scr ns =>
    cases e
    cases h with
    | av h=>cases h with
      | scr r=>exact .inl ⟨_,r.sl,by simp⟩
  | obj _ _=>cases e
  | gl _=>cases e
def Z3m (S:Sto) (x:X):Option Bool:=(x.get S).bind Z9y
def W9 (m:M):MG Bool:=fun e S=>(m e S).bind fun x S1=>match Z3m S1 x with
  | some b => .ok b S1
  | none => .bad
def tb:X→Sto→R Bool:=fun x S=>match x with
  | .d (.bl b) => .ok b S
  | _ => .bad
def U4 (m:M):MG Bool:=fun e S=>(m e S).bind tb
def Q4 (m:MG Bool):MG Bool:=fun e S=>(m e S).bind fun b S1 => .ok (!b) S1
def Q8 (ma mb:MG Bool):MG Bool:=fun e S=>(ma e S).bind fun b S1=>if b then mb e S1 else .ok false S1
def Z2b (ma mb:MG Bool):MG Bool:=fun e S=>(ma e S).bind fun b S1=>if b then .ok true S1 else mb e S1
def X88 (m:MG Bool):M:=fun e S=>(m e S).bind fun b S1 => .ok (.d (.bl b)) S1
def X0f (m:M):M:=X88 (Q4 (W9 m))
def Z4g (ma mb:M):M:=fun e S=>(ma e S).bind fun x S1=>match Z3m S1 x with
  | some true=>mb e S1
  | some false => .ok x S1
  | none => .bad
def W1d (ma mb:M):M:=fun e S=>(ma e S).bind fun x S1=>match Z3m S1 x with
  | some true => .ok x S1
  | some false=>mb e S1
  | none => .bad
def Z6c (mt:MG Bool) (ma mb:M):M:=fun e S=>(mt e S).bind fun b S1=>if b then ma e S1 else mb e S1
section
variable {X:Cx} {Wx:WX} {pos:Pos} {a b c:Expr} {ma mb mc:M} {rest:List Expr} {mt mu:MG Bool}
theorem AX.tru {K:PySem.W.Frag} {Z:Wd} {ρ:List Addr} {S:Sto} {H:Hp} {x:Bv.X} {v:V} {k:Bool} (st:Sta K Z ρ S H) (h:AX K (Wn Z ρ) ρ H x v) (e:Z3m S x=some k):TruV K v H k:=by
  obtain ⟨d,h1,h2⟩:=Option.bind_eq_some_iff.mp e
  exact (h.get st h1).tru h2
theorem V6 (h:ME X Wx a ma) (he:∀ whole,isTrue a X.env whole=(do let v ← whole; standAt a.pos; holding [v] (truthy v)):=by intro _; rfl):MT X Wx a (W9 ma):=by
  refine ⟨fun pins s σ H Q I hq=>(pt_truth h he).run pins s σ H Q I ?_⟩
  obtain ⟨Z,ρ,e,S,st,ev,p⟩:=hq
  refine X5 st ev p fun ρ1 H1 v x S1 st1 g1 ev1 a1 p1=>?_
  cases q:Z3m S1 x with
  | none=>rw [q] at p1; exact p1.elim
  | some k =>
    rw [q] at p1
    exact ⟨k,a1.tru st1 q,p1.ret0 st1 rfl⟩
theorem W2y {op:CmpOp} {r:R2} {f:D→D→Option D} (ho:OpR X (compareOp op) r) (hf:Op2 X.K r f) (ha:ME X Wx a ma) (hb:ME X Wx b mb) (hm:behindInMarks op b=false:=by first | exact nomark _ | (with_unfolding_all rfl)):MT X Wx (.Compare a [op] [b] pos) (U4 (Y5 f ma mb)):=by
  refine ⟨fun pins s σ H Q I hq=>(pt_cmpR ho ha hb hm).run pins s σ H Q I ?_⟩
  obtain ⟨Z,ρ,e,S,st,ev,p⟩:=hq
  show tOp r (RE X.K Wx ma) (RE X.K Wx mb) σ H fun x H'=>∃ k,x = .bl k∧Q k H'
  refine Y8g (f:=f) hf ?_
  refine X5 st ev p fun ρ1 H1 v x S1 st1 g1 ev1 a1 p1=>?_
  cases x with
  | r n=>exact p1.elim
  | d d =>
    cases d with
    | bl k =>
      cases a1 with
      | d h =>
        cases h
        exact ⟨k,rfl,p1.ret0 st1 rfl⟩
    | _=>exact p1.elim
theorem Z01 (h:MT X Wx a mt):MT X Wx (.UnaryOp .Not a pos) (Q4 mt):=by
  refine ⟨fun pins s σ H Q I hq=>(pt_not h).run pins s σ H Q I ?_⟩
  obtain ⟨Z,ρ,e,S,st,ev,p⟩:=hq
  refine X5 st ev p fun ρ1 H1 v x S1 st1 g1 ev1 a1 p1=>?_
  cases (show x=v from a1)
  exact p1.ret0 st1 rfl
abbrev MW (X:Cx) (Wx:WX) (e:Expr) (m:MG Bool):Prop:=PW X e (RB X.K Wx m)
theorem Z1k (h:MT X Wx a mt):MW X Wx (.BoolOp .And [a] pos) mt:=pw_and1 h
theorem Z3v (h:MT X Wx a mt):MW X Wx (.BoolOp .Or [a] pos) mt:=pw_or1 h
theorem Z1p (h:MT X Wx a mt) (h2:MW X Wx (.BoolOp .And (b :: rest) pos) mu):MW X Wx (.BoolOp .And (a :: b :: rest) pos) (Q8 mt mu):=by
  refine ⟨fun wh pins s σ H Q I hq=>(pw_and h h2).run wh pins s σ H Q I ?_⟩
  obtain ⟨Z,ρ,e,S,st,ev,p⟩:=hq
  refine X5 st ev p fun ρ1 H1 v x S1 st1 g1 ev1 a1 p1=>?_
  cases (show x=v from a1)
  cases v with
  | true=>exact ⟨Z,ρ1,e,S1,st1,ev1,p1⟩
  | false=>exact p1.ret0 st1 rfl
theorem Z47 (h:MT X Wx a mt) (h2:MW X Wx (.BoolOp .Or (b :: rest) pos) mu):MW X Wx (.BoolOp .Or (a :: b :: rest) pos) (Z2b mt mu):=by
  refine ⟨fun wh pins s σ H Q I hq=>(pw_or h h2).run wh pins s σ H Q I ?_⟩
  obtain ⟨Z,ρ,e,S,st,ev,p⟩:=hq
  refine X5 st ev p fun ρ1 H1 v x S1 st1 g1 ev1 a1 p1=>?_
  cases (show x=v from a1)
  cases v with
  | true=>exact p1.ret0 st1 rfl
  | false=>exact ⟨Z,ρ1,e,S1,st1,ev1,p1⟩
theorem Z6a (h:MW X Wx a mt):MT X Wx a mt:=h.pt
theorem Z8e {op} (h:ME X Wx a ma):ME X Wx (.BoolOp op [a] pos) ma:=pe_one h
theorem Z7b (h:ME X Wx a ma) (h2:ME X Wx (.BoolOp .And (b :: rest) pos) mb):ME X Wx (.BoolOp .And (a :: b :: rest) pos) (Z4g ma mb):=PE.of (pe_andT h h2) fun σ H Q ⟨Z,ρ,e,S,st,ev,p⟩=>by
  refine X5 st ev p fun ρ1 H1 v x S1 st1 g1 ev1 a1 p1=>?_
  cases q:Z3m S1 x with
  | none=>rw [q] at p1; exact p1.elim
  | some k =>
    rw [q] at p1
    refine ⟨k,a1.tru st1 q,?_⟩
    cases k with
    | true=>rw [if_pos rfl]; exact ⟨Z,ρ1,e,S1,st1,ev1,p1⟩
    | false=>rw [if_neg Bool.false_ne_true]; exact X6.ret0 p1 st1 a1
theorem Z45 (hc:MT X Wx c mt) (h:ME X Wx a ma) (h2:ME X Wx b mb):ME X Wx (.IfExp c a b pos) (Z6c mt ma mb):=PE.of (pe_ifExp hc h h2) fun σ H Q ⟨Z,ρ,e,S,st,ev,p⟩=>by
  refine X5 st ev p fun ρ1 H1 v x S1 st1 g1 ev1 a1 p1=>?_
  cases (show x=v from a1)
  cases v with
  | true=>exact ⟨Z,ρ1,e,S1,st1,ev1,p1⟩
  | false=>exact ⟨Z,ρ1,e,S1,st1,ev1,p1⟩
theorem Y42 {r r':R2} {f g:D→D→Option D} (hf:Op2 X.K r f) (hg:Op2 X.K r' g) {σ:St} {H:Hp} {Q:VK} (h:RE X.K Wx (Z16 f g ma mb mc) σ H Q):tChain r r' (RE X.K Wx ma) (RE X.K Wx mb) (RE X.K Wx mc) σ H Q:=by
  obtain ⟨Z,ρ,e,S,st,ev,p⟩:=h
  refine X5 st ev p fun ρ1 H1 v x S1 st1 g1 ev1 a1 p1=>?_
  refine X5 st1 ev1 p1 fun ρ2 H2 u y S2 st2 g2 ev2 a2 p2=>?_
  have a1':=a1.mv (g2.mv st1) g2.pre
  have:=ev2
  have key:∀ d:D,op2 f S2 x y=R.ok (Bv.X.d d) S2→∃ d1 d2,x.get S2=some d1∧y.get S2=some d2∧f d1 d2=some d:=fun d q=>by
    unfold op2 at q
    cases e1:x.get S2 with
    | none=>rw [e1] at q; cases q
    | some d1 =>
      cases e2:y.get S2 with
      | none=>rw [e1,e2] at q; cases q
      | some d2 =>
        rw [e1,e2] at q
        have q:(match f d1 d2 with
          | some d=>R.ok (Bv.X.d d) S2
          | none => .bad) = .ok (Bv.X.d d) S2:=q
        cases e3:f d1 d2 with
        | none=>rw [e3] at q; cases q
        | some d3=>rw [e3] at q; cases q; exact ⟨d1,d2,rfl,rfl,e3⟩
  cases q:op2 f S2 x y with
  | bad=>rw [q] at p2; exact p2.elim
  | err C fs S3=>unfold op2 at q; split at q <;> (first | cases q | (split at q <;> cases q))
  | ok z S3 =>
    have hz:∃ d:D,z=Bv.X.d d∧S3=S2:=by
      unfold op2 at q
      split at q
      · split at q
        · cases q; exact ⟨_,rfl,rfl⟩
        · cases q
      · cases q
    obtain ⟨d,rfl,rfl⟩:=hz
    obtain ⟨d1,d2,e1,e2,e3⟩:=key d q
    rw [q] at p2
    refine hf (Wn Z ρ2) H2 d1 d2 v u d _ (fun _ h=>st2.thereW h) (a1'.get st2 e1) (a2.get st2 e2) e3 fun H3 w k a3=>?_
    cases d with
    | bl kk =>
      cases a3
      refine ⟨kk,rfl,?_⟩
      have st3:=st2.grow k
      have g3:Go ρ2 H2 ρ2 H3:=Go.grow k
      have ev3:=ev2.mv (g3.mv st2) g3.pre
      cases kk with
      | true =>
        rw [if_pos rfl]
        refine X5 st3 ev3 (X6.shift g3 st3 p2) fun ρ4 H4 w' y' S4 st4 g4 ev4 a4 p4=>?_
        exact X3f hg st4 (a2.mv ((g3.trans g4).mv st2) (g3.trans g4).pre) a4 p4
      | false =>
        rw [if_neg Bool.false_ne_true]
        exact X6.ret p2 st2 k (.d (.bl _))
    | _=>exact p2.elim
theorem X5b {op op':CmpOp} {r r':R2} {f g:D→D→Option D} (ho:OpR X (compareOp op) r) (ho':OpR X (compareOp op') r') (hf:Op2 X.K r f) (hg:Op2 X.K r' g) (ha:ME X Wx a ma) (hb:ME X Wx b mb) (hc:ME X Wx c mc)
    (hm:lastMarks [op,op'] [b,c]=false:=by with_unfolding_all rfl):ME X Wx (.Compare a [op,op'] [b,c] pos) (Z16 f g ma mb mc):=PE.of (pe_chain ho ho' ha hb hc hm) fun _ _ _ h=>Y42 hf hg h
theorem W33 {m:M} {σ:St} {H:Hp} {Q:Bool→Hp→Prop} (h:RB X.K Wx (U4 m) σ H Q):RE X.K Wx m σ H fun x H'=>∃ k,x = .bl k∧Q k H':=by
  obtain ⟨Z,ρ,e,S,st,ev,p⟩:=h
  refine X5 st ev p fun ρ1 H1 v x S1 st1 g1 ev1 a1 p1=>?_
  cases x with
  | r n=>exact p1.elim
  | d d =>
    cases d with
    | bl k =>
      cases a1 with
      | d h =>
        cases h
        exact ⟨k,rfl,p1.ret0 st1 rfl⟩
    | _=>exact p1.elim
theorem X5h {op op':CmpOp} {r r':R2} {f g:D→D→Option D} (ho:OpR X (compareOp op) r) (ho':OpR X (compareOp op') r') (hf:Op2 X.K r f) (hg:Op2 X.K r' g) (ha:ME X Wx a ma) (hb:ME X Wx b mb) (hc:ME X Wx c mc)
    (hm:lastMarks [op,op'] [b,c]=false:=by with_unfolding_all rfl):MT X Wx (.Compare a [op,op'] [b,c] pos) (U4 (Z16 f g ma mb mc)) :=
  ⟨fun pins s σ H Q I hq=>(pt_chain ho ho' ha hb hc hm).run pins s σ H Q I (Y42 hf hg (W33 hq))⟩
end
end Bv
namespace Bv
open PySem PySem.Spec L2
open PyProof.Rows hiding St
variable [HasW]
def Z4r {α:Type} (o:Option α) (S:Sto):R α:=match o with
  | some a => .ok a S
  | none => .bad
theorem X6.opt {α β:Type} {rel:Wd→List Addr→Hp→α→β→Prop} {K:PySem.W.Frag} {Z:Wd} {ρ:List Addr} {H:Hp} {Wx:WX} {σ:St} {Q:β→Hp→Prop} {o:Option α} {S:Sto} (p:X6 rel K Z ρ H Wx σ Q (Z4r o S)):∃ a,o=some a∧X6 rel K Z ρ H Wx σ Q (.ok a S):=by
  cases o with
  | none=>exact p.elim
  | some a=>exact ⟨a,rfl,p⟩
def Z7:MG (List X):=fun _ S => .ok [] S
def Z3 (m:M) (ms:MG (List X)):MG (List X):=fun e S=>(m e S).bind fun x S1=>(ms e S1).bind fun xs S2 => .ok (x :: xs) S2
def items (S:Sto):X→Option (List X)
  | .d (.lst ds)=>some (ds.map .d)
  | .d (.tup ds)=>some (ds.map .d)
  | .d _=>none
  | .r n=>match S[n]? with
    | some (.lst xs)=>some xs
    | _=>none
def Z33 (m:M) (ms:MG (List X)):MG (List X):=fun e S=>(m e S).bind fun x S1=>match items S1 x with
  | some ys=>(ms e S1).bind fun xs S2 => .ok (ys++xs) S2
  | none => .bad
section
variable {X:Cx} {Wx:WX} {pos p:Pos} {a b c:Expr} {es:List Expr} {ma mb mc m:M} {ms:MG (List Bv.X)}
theorem Paired.append {α β:Type} {F:α→β→Prop}:∀ {l1 l2:List α} {r1 r2:List β},Paired F l1 r1→Paired F l2 r2→Paired F (l1++l2) (r1++r2)
  | _,_,_,_, .nil,s=>s
  | _,_,_,_, .cons r t,s => .cons r (Paired.append t s)
theorem AVs.axs {K:PySem.W.Frag} {W:Wd} {ρ:List Addr} {H:Hp}:∀ {ds:List D} {vs:List V},AVs K W H ds vs→AXs K W ρ H (ds.map .d) vs
  | _,_, .nil => .nil
  | _,_, .cons h hs => .cons (.d h) (AVs.axs hs)
theorem AX.items {K:PySem.W.Frag} {Z:Wd} {ρ:List Addr} {S:Sto} {H:Hp} {x:Bv.X} {v:V} {ys:List Bv.X} (st:Sta K Z ρ S H) (h:AX K (Wn Z ρ) ρ H x v) (e:items S x=some ys) :
    ∃ q xs,v = .ref q∧(SqT K H q xs ∨ SqL K H q xs)∧AXs K (Wn Z ρ) ρ H ys xs:=by
  cases h with
  | d h =>
    cases h with
    | lst w r hs=>cases e; exact ⟨_,_,rfl, .inr (.inl (.inl r)),hs.axs⟩
    | tup t hs=>cases e; exact ⟨_,_,rfl, .inl t.sq,hs.axs⟩
    | _=>cases e
  | r h =>
    rename_i n q
    have e1:(match S[n]? with
      | some (.lst xs)=>some xs
      | _=>none)=some ys:=e
    cases z:S[n]? with
    | none=>rw [z] at e1; cases e1
    | some o =>
      rw [z] at e1
      cases o with
      | lst xs =>
        cases e1
        obtain ⟨vs,h1,h2⟩:=st.ob n _ q z h
        exact ⟨q,vs,rfl, .inr (.inl (.inl h1)),h2⟩
      | _=>cases e1
theorem Z5:MA X Wx [] Z7:=⟨fun pos pins s σ H Q I h=>pa_nil.run pos pins s σ H Q I (by
  obtain ⟨Z,ρ,e,S,st,ev,p⟩:=h
  exact X6.ret0 p st .nil)⟩
theorem PA.of {X:Cx} {es:List Expr} {t t':TA} (h:PA X es t) (w:∀ σ H Q,t' σ H Q→t σ H Q):PA X es t':=⟨fun pos pins s σ H Q I q=>h.run pos pins s σ H Q I (w σ H Q q)⟩
theorem Z1 (h:ME X Wx a ma) (h2:MA X Wx es ms) (hs:starEach (a :: es) X.env=(false,eval a X.env) :: starEach es X.env:=by rfl):MA X Wx (a :: es) (Z3 ma ms):=PA.of (pa_cons h h2 hs) fun σ H Q ⟨Z,ρ,e,S,st,ev,p⟩=>by
  refine X5 st ev p fun ρ1 H1 v x S1 st1 g1 ev1 a1 p1=>?_
  refine X5 st1 ev1 p1 fun ρ2 H2 vs xs S2 st2 g2 ev2 a2 p2=>?_
  exact X6.ret0 p2 st2 (.cons (a1.mv (g2.mv st1) g2.pre) a2)
theorem Z87 (h:ME X Wx a ma) (h2:MA X Wx es ms) (hs:starEach (.Starred a p :: es) X.env=(true,eval a X.env) :: starEach es X.env:=by rfl):MA X Wx (.Starred a p :: es) (Z33 ma ms):=PA.of (StX.pa_star h h2 hs) fun σ H Q ⟨Z,ρ,e,S,st,ev,p⟩=>by
  refine X5 st ev p fun ρ1 H1 v x S1 st1 g1 ev1 a1 p1=>?_
  cases q:items S1 x with
  | none=>rw [q] at p1; exact p1.elim
  | some ys =>
    rw [q] at p1
    obtain ⟨b,us,rfl,hq,ha⟩:=a1.items st1 q
    refine ⟨b,us,rfl,hq,?_⟩
    refine X5 st1 ev1 p1 fun ρ2 H2 vs xs S2 st2 g2 ev2 a2 p2=>?_
    exact X6.ret0 p2 st2 (Paired.append (ha.mv (g2.mv st1) g2.pre) a2)
def Y1u (xs:List Bv.X) (S:Sto):R Bv.X:=match ds? xs with
  | some ds=>if ds.length ≤ sizeLine then .ok (.d (.tup ds)) S else .bad
  | none => .bad
def Y02 (xs:List Bv.X) (S:Sto):R Bv.X:=match ds? xs with
  | some ds=>if ds.length ≤ sizeLine then .ok (.d (.lst ds)) S else .bad
  | none => .bad
def Y1t (xs:List Bv.X) (S:Sto):R Bv.X:=if xs.length ≤ sizeLine then .ok (.r S.length) (S++[.lst xs]) else .bad
def V3 (ms:MG (List Bv.X)):M:=fun e S=>(ms e S).bind Y1u
def Z2h (ms:MG (List Bv.X)):M:=fun e S=>(ms e S).bind Y02
def Z2a (ms:MG (List Bv.X)):M:=fun e S=>(ms e S).bind Y1t
theorem Paired.length {α β:Type} {F:α→β→Prop}:∀ {l:List α} {r:List β},Paired F l r→l.length=r.length
  | _,_, .nil=>rfl
  | _,_, .cons _ t=>by simp [Paired.length t]
theorem W4 {x1} (h:MA X Wx es ms):ME X Wx (.Tuple es x1 pos) (V3 ms):=PE.of (pe_tup h) fun σ H Q ⟨Z,ρ,e,S,st,ev,p⟩=>by
  refine X5 st ev p fun ρ1 H1 vs xs S1 st1 g1 ev1 a1 p1=>?_
  unfold Y1u at p1
  cases q:ds? xs with
  | none=>rw [q] at p1; exact p1.elim
  | some ds =>
    rw [q] at p1
    have p1:Z23 X.K Z ρ1 H1 Wx σ Q (if ds.length ≤ sizeLine then .ok (.d (.tup ds)) S1 else .bad):=p1
    by_cases hl:ds.length ≤ sizeLine
    · rw [if_pos hl] at p1
      have av:=AXs.ds a1 q
      exact ⟨by rw [← av.length]; exact hl,fun p hp=>X6.ret p1 st1 (V9 hp) (.d (Z9b (fun _ h=>st1.thereW h) hp av))⟩
    · rw [if_neg hl] at p1; exact p1.elim
theorem Z3k (h:MA X Wx es ms):ME X Wx (.List es pos) (Z2h ms):=PE.of (pe_lst h) fun σ H Q ⟨Z,ρ,e,S,st,ev,p⟩=>by
  refine X5 st ev p fun ρ1 H1 vs xs S1 st1 g1 ev1 a1 p1=>?_
  unfold Y02 at p1
  cases q:ds? xs with
  | none=>rw [q] at p1; exact p1.elim
  | some ds =>
    rw [q] at p1
    have p1:Z23 X.K Z ρ1 H1 Wx σ Q (if ds.length ≤ sizeLine then .ok (.d (.lst ds)) S1 else .bad):=p1
    by_cases hl:ds.length ≤ sizeLine
    · rw [if_pos hl] at p1
      have av:=AXs.ds a1 q
      exact ⟨by rw [← av.length]; exact hl,fun p hp=>X6.ret p1 st1 (V9 hp) (.d (Z54 (fun _ h=>st1.thereW h) hp av))⟩
    · rw [if_neg hl] at p1; exact p1.elim
theorem Sta.pushL {K:PySem.W.Frag} {Z:Wd} {ρ:List Addr} {S:Sto} {H:Hp} {q:Addr} {xs:List Bv.X} {vs:List V} (s:Sta K Z ρ S H) (hq:H q=none) (a:AXs K (Wn Z ρ) ρ H xs vs) :
    Sta K Z (ρ++[q]) (S++[.lst xs]) (upd H q (.lst vs))∧Go ρ H (ρ++[q]) (upd H q (.lst vs)):=by
  have g:Go ρ H (ρ++[q]) (upd H q (.lst vs)):=⟨List.prefix_append _ _,fun b o h e=>⟨fun z=>(by
    rcases List.mem_append.mp z with z | z
    · exact h z
    · have:b=q:=by simpa using z
      rw [this,hq] at e; cases e),V9 hq b o e⟩,fun b _ _ e=>V9 hq b _ e⟩
  exact s.push hq (V9 hq) ⟨vs,upd_same,a.mv (g.mv s) g.pre⟩
theorem Z32 (h:MA X Wx es ms):ME X Wx (.List es pos) (Z2a ms):=PE.of (pe_lst h) fun σ H Q ⟨Z,ρ,e,S,st,ev,p⟩=>by
  refine X5 st ev p fun ρ1 H1 vs xs S1 st1 g1 ev1 a1 p1=>?_
  unfold Y1t at p1
  by_cases hl:xs.length ≤ sizeLine
  · rw [if_pos hl] at p1
    refine ⟨by rw [← Paired.length a1]; exact hl,fun q hq=>?_⟩
    obtain ⟨h1,h2⟩:=st1.pushL hq a1
    exact p1 _ _ _ h1 h2 (.r (by rw [st1.len]; simp))
  · rw [if_neg hl] at p1; exact p1.elim
def Z5r (Cs:List Str) (f:Str) (S:Sto):Bv.X→Option Bv.X
  | .d (.obj C fs)=>if Cs.contains C then (fs.lookup f).map .d else none
  | .d _=>none
  | .r n=>match S[n]? with
    | some (.ins C fs)=>if Cs.contains C then fs.lookup f else none
    | _=>none
def Y9 (Cs:List Str) (f:Str) (m:M):M:=fun e S=>(m e S).bind fun x S1=>Z4r (Z5r Cs f S1 x) S1
def Z1m (K:PySem.W.Frag) (Cs:List Str) (f:Str):Prop:=∀ C ∈ Cs,Cls K (He.ga K C)∧NoAttr K (He.ga K C) f
theorem Y2x {K:PySem.W.Frag} {W:Wd} {ρ:List Addr} {H:Hp}:∀ {fs:List (Str × Bv.X)} {vs:List (Str × V)} {f:Str} {x:Bv.X},Paired (fun (p:Str × Bv.X) (q:Str × V)=>p.1=q.1∧AX K W ρ H p.2 q.2) fs vs→fs.lookup f=some x→∃ v,vs.lookup f=some v∧AX K W ρ H x v
  | _,_,_,_, .nil,e=>by cases e
  | (g,y) :: r,(g',v) :: r',f,x, .cons ⟨h1,h2⟩ hs,e=>by
    cases (show g=g' from h1)
    rw [List.lookup_cons] at e ⊢
    cases q:f == g with
    | true=>rw [q] at e; cases e; exact ⟨_,rfl,h2⟩
    | false=>rw [q] at e; exact Y2x hs e
theorem Y2y {K:PySem.W.Frag} {W:Wd} {ρ:List Addr} {H:Hp}:∀ {fs:List (Str × Bv.X)} {vs:List (Str × V)} {f:Str},Paired (fun (p:Str × Bv.X) (q:Str × V)=>p.1=q.1∧AX K W ρ H p.2 q.2) fs vs→fs.lookup f=none→vs.lookup f=none
  | _,_,_, .nil,e=>rfl
  | (g,y) :: r,(g',v) :: r',f, .cons ⟨h1,h2⟩ hs,e=>by
    cases (show g=g' from h1)
    rw [List.lookup_cons] at e ⊢
    cases q:f == g with
    | true=>rw [q] at e; cases e
    | false=>rw [q] at e; exact Y2y hs e
theorem Z37 {α:Type} {c:Bool} {o:Option α} {a:α} (h:(if c then o else none)=some a):c=true∧o=some a:=by
  cases c with
  | true=>exact ⟨rfl,h⟩
  | false=>cases h
theorem Y6 {f:Str} (Cs:List Str) (T:Z1m X.K Cs f) (h:ME X Wx a ma) (hb:attributeBase a f X.env (eval a X.env)=eval a X.env:=by rfl):ME X Wx (.Attribute a f pos) (Y9 Cs f ma):=PE.of (pe_fld h hb) fun σ H Q ⟨Z,ρ,e,S,st,ev,p⟩=>by
  refine X5 st ev p fun ρ1 H1 v x S1 st1 g1 ev1 a1 p1=>?_
  obtain ⟨y,hy,p2⟩:=p1.opt
  clear p1
  cases a1 with
  | d h1 =>
    cases h1 with
    | obj w r hs =>
      rename_i C q dx vs fs
      obtain ⟨hc,hl⟩:=Z37 (show (if Cs.contains C then (fs.lookup f).map Bv.X.d else none)=some y from hy)
      obtain ⟨d,z,rfl⟩:=Option.map_eq_some_iff.mp hl
      obtain ⟨v,h2,h3⟩:=hs.look z
      obtain ⟨t1,t2⟩:=T C (by simpa using hc)
      exact ⟨_,_,_,_,v,rfl,r,t1,t2,h2,X6.ret0 p2 st1 (.d h3)⟩
    | _=>cases hy
  | r h1 =>
    rename_i n q
    cases z:S1[n]? with
    | none=>simp [Z5r,z] at hy
    | some o =>
      cases o with
      | ins C fs =>
        obtain ⟨hc,hl⟩:=Z37 (show (if Cs.contains C then fs.lookup f else none)=some y by simpa [Z5r,z] using hy)
        obtain ⟨dx,vs,h2,h3⟩:=st1.ob n _ q z h1
        obtain ⟨v,h4,h5⟩:=Y2x h3 hl
        obtain ⟨t1,t2⟩:=T C (by simpa using hc)
        exact ⟨_,_,_,_,v,rfl,h2,t1,t2,h4,X6.ret0 p2 st1 h5⟩
      | _=>simp [Z5r,z] at hy
def ixD:Bv.X→Int→Option Bv.X
  | .d (.str z),i=>if decide (z.length ≤ sizeLine) then (atI z.cps.toList i).map fun c => .d (.str ⟨#[c]⟩) else none
  | .d (.scr ns),i=>(atI ns i).map fun z => .d (.int z)
  | _,_=>none
def ixO (S:Sto) (x:Bv.X) (i:Int):Option Bv.X:=match items S x with
  | some xs=>atI xs i
  | none=>ixD x i
def Y5g:Bv.X→Option Int
  | .d (.int i)=>some i
  | _=>none
def Z03 (ma mb:M):M:=fun e S=>(ma e S).bind fun x S1=>(mb e S1).bind fun y S2=>Z4r ((Y5g y).bind (ixO S2 x)) S2
theorem AX.int {K:PySem.W.Frag} {W:Wd} {ρ:List Addr} {H:Hp} {x:Bv.X} {v:V} {i:Int} (a:AX K W ρ H x v) (h:Y5g x=some i):v = .int i:=by
  cases a with
  | r _=>cases h
  | d h1 =>
    cases h1 with
    | int j=>cases h; rfl
    | _=>cases h
theorem X4u {α β:Type} {F:α→β→Prop} {l:List α} {r:List β} (p:Paired F l r) {i:Int} {a:α} (e:atI l i=some a):∃ b,atI r i=some b∧F a b:=by
  unfold atI at *
  rw [Paired.length p] at e
  cases q:ixN r.length i with
  | none=>rw [q] at e; cases e
  | some j =>
    rw [q] at e
    have e:l[j]?=some a:=e
    have go:∀ {l:List α} {r:List β} {j:Nat},Paired F l r→l[j]?=some a→∃ b,r[j]?=some b∧F a b:=fun {l r j} p=>by
      induction p generalizing j with
      | nil=>intro z; simp at z
      | cons x _ ih =>
        intro z
        cases j with
        | zero=>simp at z; subst z; exact ⟨_,rfl,x⟩
        | succ n=>simp at z; obtain ⟨b,h1,h2⟩:=ih z; exact ⟨b,by simpa using h1,h2⟩
    obtain ⟨b,h1,h2⟩:=go p e
    exact ⟨b,h1,h2⟩
theorem Y1p {z:Str} {c:Nat} (h:PyData.strOk z=true) (m:c ∈ z.cps.toList):c < 0x110000:=by
  have h2:=Array.all_eq_true_iff_forall_mem.mp (show z.cps.all (· < 0x110000)=true from h) c (by simpa using m)
  simpa using h2
theorem Z99 {z:Str} (h:∀ c ∈ z.cps.toList,c < 0x110000):PyData.strOk z=true:=by
  show z.cps.all (· < 0x110000)=true
  exact Array.all_eq_true_iff_forall_mem.mpr fun c m=>by simpa using h c (by simpa using m)
theorem X7v {α:Type} {l:List α} {i:Int} {a:α} (e:atI l i=some a):a ∈ l:=by
  unfold atI at e
  cases q:ixN l.length i with
  | none=>rw [q] at e; cases e
  | some j=>rw [q] at e; exact List.mem_of_getElem? e
theorem Z0g (ha:ME X Wx a ma) (hb:ME X Wx b mb) (hs:PlainIx b:=by exact fun _ _=>rfl):ME X Wx (.Subscript a b pos) (Z03 ma mb):=PE.of (pe_ix ix_seq ha hb hs) fun σ H Q ⟨Z,ρ,e,S,st,ev,p⟩=>by
  refine X5 st ev p fun ρ1 H1 v x S1 st1 g1 ev1 a1 p1=>?_
  refine X5 st1 ev1 p1 fun ρ2 H2 u y S2 st2 g2 ev2 a2 p2=>?_
  have a1':=a1.mv (g2.mv st1) g2.pre
  clear a1
  obtain ⟨w,hw0,p2'⟩:=p2.opt
  clear p2 p1 p
  obtain ⟨i,hi,hw⟩:=Option.bind_eq_some_iff.mp hw0
  clear hw0
  have eu:=a2.int hi
  subst eu
  cases q:items S2 x with
  | some xs =>
    have q2:atI xs i=some w:=by simpa [ixO,q] using hw
    obtain ⟨b,us,rfl,hq,ha⟩:=a1'.items st2 q
    obtain ⟨w',h1,h2⟩:=X4u ha q2
    rcases hq with hq | hq
    · exact .inr (.inl ⟨_,us,i,w',rfl,rfl,hq,h1,X6.ret0 p2' st2 h2⟩)
    · exact .inl ⟨_,us,i,w',rfl,rfl,hq,h1,X6.ret0 p2' st2 h2⟩
  | none =>
    have hw2:ixD x i=some w:=by simpa [ixO,q] using hw
    clear hw
    cases a1' with
    | r h=>cases hw2
    | d h =>
      cases h with
      | str hz =>
        rename_i z
        obtain ⟨hl,hc⟩:=Z37 hw2
        obtain ⟨c,q2,rfl⟩:=Option.map_eq_some_iff.mp hc
        refine .inr (.inr ⟨z,i,c,rfl,rfl,of_decide_eq_true hl,q2,X6.ret0 p2' st2 (.d (.str ?_))⟩)
        have hc:=Y1p hz (X7v q2)
        exact Z99 fun c' m=>by
          have:c'=c:=by simpa using m
          rw [this]; exact hc
      | scr r =>
        rename_i q' ns
        obtain ⟨z,q2,rfl⟩:=Option.map_eq_some_iff.mp hw2
        refine .inl ⟨_,ns.map V.int,i, .int z,rfl,rfl,r.sl,?_,X6.ret0 p2' st2 (.d (.int z))⟩
        unfold atI at *
        rw [List.length_map]
        cases q3:ixN ns.length i with
        | none=>rw [q3] at q2; cases q2
        | some j =>
          rw [q3] at q2
          have q2:ns[j]?=some z:=q2
          show (ns.map V.int)[j]?=some (.int z)
          rw [List.getElem?_map,q2]; rfl
      | _=>cases hw2
end
end Bv
namespace Bv
open PySem PySem.Spec L2
open PyProof.Rows hiding St
variable [HasW]
inductive Out where
  | nx (e:Ev) | rt (x:X) | bk (e:Ev) | ct (e:Ev) | rp (d:D) | rq (xs:List X)
inductive RO where
  | go (o:Out) (S:Sto) | err (C:Str) (fs:List (Str × D)) (e:Ev) (S:Sto) | bad
abbrev MS:=Ev→Sto→RO
def W1j (K:PySem.W.Frag) (W:Wd) (H H':Hp) (fs:List (Str × D)) (d:Option Addr):Prop :=
  (d=none∧fs=[]) ∨ ∃ (dd:Addr) (vs:List (Str × V)),d=some dd∧H dd=none∧¬ W dd∧H' dd=some (.xd vs)∧AVf K W H' fs vs
def Z1n (K:PySem.W.Frag) (Z:Wd) (ρ:List Addr) (H:Hp) (Wx:WX) (D:Ends):RO→Prop
  | .go (.nx e) S'=>∀ (ρ':List Addr) (H':Hp) (σ':St),Sta K Z ρ' S' H'→Go ρ H ρ' H'→EvOk K (Wn Z ρ') ρ' H' e σ'→D.nx σ' H'
  | .go (.bk e) S'=>∀ (ρ':List Addr) (H':Hp) (σ':St),Sta K Z ρ' S' H'→Go ρ H ρ' H'→EvOk K (Wn Z ρ') ρ' H' e σ'→D.bk σ' H'
  | .go (.ct e) S'=>∀ (ρ':List Addr) (H':Hp) (σ':St),Sta K Z ρ' S' H'→Go ρ H ρ' H'→EvOk K (Wn Z ρ') ρ' H' e σ'→D.ct σ' H'
  | .go (.rt x) S'=>∀ (ρ':List Addr) (H':Hp) (v:V),Sta K Z ρ' S' H'→Go ρ H ρ' H'→AX K (Wn Z ρ') ρ' H' x v→D.rt v H'
  | .go (.rp d) _=>∀ (H':Hp) (v:V),(∀ a o,a ∉ ρ→H a=some o→H' a=some o)→AV K Z H' d v→D.rt v H'
  | .go (.rq xs) S'=>∀ (ρ':List Addr) (H':Hp) (vs:List V) (t:Addr),Sta K Z ρ' S' H'→Go ρ H ρ' H'→AXs K (Wn Z ρ') ρ' H' xs vs→H' t=none→D.rt (.ref t) (upd H' t (.tup vs))
  | .err C fs e S'=>∀ (ρ':List Addr) (H':Hp) (σ':St) (d:Option Addr),Sta K Z ρ' S' H'→Go ρ H ρ' H'→EvOk K (Wn Z ρ') ρ' H' e σ'→W1j K (Wn Z ρ') H H' fs d→Wx (.ref (He.ga K C)) d σ' H'
  | .bad=>False
def RS (K:PySem.W.Frag) (Wx:WX) (m:MS):TS:=fun D σ H=>∃ (Z:Wd) (ρ:List Addr) (e:Ev) (S:Sto),Sta K Z ρ S H∧EvOk K (Wn Z ρ) ρ H e σ∧Z1n K Z ρ H Wx D (m e S)
abbrev MP (X:Cx) (Wx:WX) (st:Stmt) (m:MS):Prop:=PS X st (RS X.K Wx m)
abbrev MPs (X:Cx) (Wx:WX) (sts:List Stmt) (m:MS):Prop:=PSs X sts (RS X.K Wx m)
def R.so {α:Type} (r:R α) (e:Ev) (k:α→Sto→RO):RO:=match r with
  | .ok a S=>k a S
  | .err C fs S => .err C fs e S
  | .bad => .bad
section
variable {K:PySem.W.Frag} {Z:Wd} {ρ ρ1:List Addr} {S S1:Sto} {H H1:Hp} {Wx:WX} {σ:St} {D:Ends}
theorem W1j.back {W:Wd} {H':Hp} {fs:List (Str × Bv.D)} {d:Option Addr} (s1:∀ a o,H a=some o→∃ u,H1 a=some u) (h:W1j K W H1 H' fs d):W1j K W H H' fs d:=by
  rcases h with q | ⟨dd,vs,h1,h2,h3⟩
  · exact .inl q
  · refine .inr ⟨dd,vs,h1,?_,h3⟩
    cases e:H dd with
    | none=>rfl
    | some o =>
      obtain ⟨u,z⟩:=s1 dd o e
      rw [h2] at z; cases z
theorem Z1n.shift {r:RO} (g:Go ρ H ρ1 H1) (s1:Sta K Z ρ1 S1 H1) (h:Z1n K Z ρ H Wx D r):Z1n K Z ρ1 H1 Wx D r:=by
  cases r with
  | go o S' =>
    cases o with
    | nx e=>exact fun ρ' H' σ' st go ev=>h ρ' H' σ' st (g.trans go) ev
    | bk e=>exact fun ρ' H' σ' st go ev=>h ρ' H' σ' st (g.trans go) ev
    | ct e=>exact fun ρ' H' σ' st go ev=>h ρ' H' σ' st (g.trans go) ev
    | rt x=>exact fun ρ' H' v st go a=>h ρ' H' v st (g.trans go) a
    | rp d=>exact fun H' v k a=>h H' v (fun b o hb q=>let ⟨h1,q1⟩:=g.keep b o hb q; k b o h1 q1) a
    | rq xs=>exact fun ρ' H' vs t st go a ht=>h ρ' H' vs t st (g.trans go) a ht
  | err C fs e S'=>exact fun ρ' H' σ' d st go ev q=>h ρ' H' σ' d st (g.trans go) ev (q.back (Y4o g s1))
  | bad=>exact h
theorem Z0h {α β:Type} {rel:Wd→List Addr→Hp→α→β→Prop} {e:Ev} {m:MG α} {k:α→Sto→RO} {R':β→Hp→Prop} (st:Sta K Z ρ S H) (ev:EvOk K (Wn Z ρ) ρ H e σ) (h:Z1n K Z ρ H Wx D ((m e S).so e k))
    (next:∀ ρ1 H1 v x S1,Sta K Z ρ1 S1 H1→Go ρ H ρ1 H1→EvOk K (Wn Z ρ1) ρ1 H1 e σ→rel (Wn Z ρ1) ρ1 H1 x v→Z1n K Z ρ1 H1 Wx D (k x S1)→R' v H1):RG rel K Wx m σ H R':=by
  refine ⟨Z,ρ,e,S,st,ev,?_⟩
  cases q:m e S with
  | ok x S1 =>
    rw [q] at h
    exact fun ρ1 H1 v s1 g a=>next ρ1 H1 v x S1 s1 g (ev.mv (g.mv st) g.pre) a (Z1n.shift g s1 h)
  | err C fs S1 =>
    rw [q] at h
    exact fun ρ' H' d s1 g z=>h ρ' H' σ d s1 g (ev.mv (g.mv st) g.pre) z
  | bad=>rw [q] at h; exact h
theorem Z1n.next {e:Ev} (h:Z1n K Z ρ H Wx D (.go (.nx e) S)) (st:Sta K Z ρ S H) (ev:EvOk K (Wn Z ρ) ρ H e σ):D.nx σ H:=h ρ H σ st (Go.refl _ _) ev
end
def V4:MS:=fun e S => .go (.nx e) S
def RO.then (r:RO) (m:MS):RO:=match r with
  | .go (.nx e) S=>m e S
  | r=>r
def Z9 (m1 m2:MS):MS:=fun e S=>(m1 e S).then m2
def U6 (m:M):MS:=fun e S=>(m e S).so e fun _ S1 => .go (.nx e) S1
def W3 (i:Nat) (m:M):MS:=fun e S=>(m e S).so e fun x S1 => .go (.nx (e.set i (some x))) S1
def Z6e (m:M):MS:=fun e S=>(m e S).so e fun x S1 => .go (.rt x) S1
def V1 (m:M):MS:=fun e S=>(m e S).so e fun x S1=>match x.get S1 with
  | some d => .go (.rp d) S1
  | none => .bad
def Z9x:MS:=fun _ S => .go (.rt (.d .non)) S
def Z9e:MS:=fun _ S => .go (.rp .non) S
def Z8l (S:Sto):List X→Option (List D)
  | []=>some []
  | x :: r=>match x.get S,Z8l S r with
    | some d,some l=>some (d :: l)
    | _,_=>none
def Z3h (ms:MG (List X)):MS:=fun e S=>(ms e S).so e fun xs S1=>match Z8l S1 xs with
  | some ds=>if ds.length ≤ sizeLine then .go (.rp (.tup ds)) S1 else .bad
  | none => .bad
def Z0r (mt:MG Bool) (m1 m2:MS):MS:=fun e S=>(mt e S).so e fun b S1=>if b then m1 e S1 else m2 e S1
section
variable {X:Cx} {Wx:WX} {pos p:Pos} {a b c:Expr} {st:Stmt} {es:List Expr} {rest sts sts2:List Stmt} {ma mb mc m:M} {ms:MG (List Bv.X)} {mt:MG Bool} {m1 m2:MS}
theorem PS.of {X:Cx} {st:Stmt} {t t':TS} (h:PS X st t) (w:∀ D σ H,t' D σ H→t D σ H):PS X st t':=⟨fun pins s σ H D I q=>h.run pins s σ H D I (w D σ H q)⟩
theorem PSs.of {X:Cx} {sts:List Stmt} {t t':TS} (h:PSs X sts t) (w:∀ D σ H,t' D σ H→t D σ H):PSs X sts t':=⟨fun pins s σ H D I q=>h.run pins s σ H D I (w D σ H q)⟩
theorem X8:MPs X Wx [] V4:=PSs.of pss_nil fun D σ H ⟨Z,ρ,e,S,st,ev,p⟩=>p.next st ev
theorem Z6 (h1:MP X Wx st m1) (h2:MPs X Wx rest m2):MPs X Wx (st :: rest) (Z9 m1 m2):=PSs.of (pss_cons h1 h2) fun D σ H ⟨Z,ρ,e,S,st,ev,p⟩=>by
  refine ⟨Z,ρ,e,S,st,ev,?_⟩
  have p:Z1n X.K Z ρ H Wx D ((m1 e S).then m2):=p
  cases q:m1 e S with
  | go o S1 =>
    rw [q] at p
    cases o with
    | nx e1=>exact fun ρ' H' σ' st' go ev'=>⟨Z,ρ',e1,S1,st',ev',Z1n.shift go st' p⟩
    | _=>exact p
  | err C fs e1 S1=>rw [q] at p; exact p
  | bad=>rw [q] at p; exact p
theorem Y2 (h1:MP X Wx st m1):MPs X Wx [st] m1:=pss_one h1
theorem Q0 (h:ME X Wx a ma) (hs:swapsWith a none pos.line X.env=pure false:=by rfl):MP X Wx (.Expr a pos) (U6 ma):=PS.of (ps_expr h hs) fun D σ H ⟨Z,ρ,e,S,st,ev,p⟩ =>
  Z0h st ev p fun ρ1 H1 v x S1 st1 g1 ev1 a1 p1=>p1.next st1 ev1
theorem V7 {i:Nat} {x:Str} {pos':Pos} (hN:X.N.Nodup) (hi:X.N[i]?=some x) (hx:Loc X.env.scope x) (he:ME X Wx a ma) (hs:swapsWith a (some (.Name x pos')) pos.line X.env=pure false:=by rfl) (hf:X.fn x=true ∨ X.env.scope.names.lookup x=some .local:=by first | exact .inl rfl | exact .inr rfl | assumption) :
    MP X Wx (.Assign [.Name x pos'] a pos) (W3 i ma):=PS.of (ps_set hN hi hx he hs hf) fun D σ H ⟨Z,ρ,e,S,st,ev,p⟩ =>
  Z0h st ev p fun ρ1 H1 v x S1 st1 g1 ev1 a1 p1=>p1.next st1 (ev1.set a1)
theorem Z6p (h:ME X Wx a ma):MP X Wx (.Return (some a) pos) (Z6e ma):=PS.of (ps_ret h) fun D σ H ⟨Z,ρ,e,S,st,ev,p⟩ =>
  Z0h st ev p fun ρ1 H1 v x S1 st1 g1 ev1 a1 p1=>p1 ρ1 H1 v st1 (Go.refl _ _) a1
theorem AW.leave {K:PySem.W.Frag} {Z:Wd} {ρ:List Addr} {S:Sto} {H:Hp} {d:Bv.D} {v:V} (st:Sta K Z ρ S H) (h:AW K (Wn Z ρ) H d v) (hz:∀ q,v = .ref q→¬ Z q):AV K Z H d v:=by
  have m:Mv (Wn Z ρ) H Z H:=fun a o h q=>⟨fun z=>h (.inl z),q⟩
  cases h with
  | av h=>exact h.mv m
  | lst h hs=>exact .lst (hz _ rfl) h (hs.mv m)
  | fdc h hs=>exact .dic (hz _ rfl) h (hs.mv m)
theorem AX.leave {K:PySem.W.Frag} {Z:Wd} {ρ:List Addr} {S:Sto} {H:Hp} {x:Bv.X} {d:Bv.D} {v:V} (st:Sta K Z ρ S H) (h:AX K (Wn Z ρ) ρ H x v) (e:x.get S=some d):AV K Z H d v:=by
  cases h with
  | d h =>
    cases e
    exact h.mv fun a o h q=>⟨fun z=>h (.inl z),q⟩
  | r h =>
    refine AW.leave st ((AX.r h).get st e) fun q hq=>?_
    cases hq
    exact fun z=>(st.z _ z).1 (List.mem_of_getElem? h)
theorem U0 (h:ME X Wx a ma):MP X Wx (.Return (some a) pos) (V1 ma):=PS.of (ps_ret h) fun D σ H ⟨Z,ρ,e,S,st,ev,p⟩ =>
  Z0h st ev p fun ρ1 H1 v x S1 st1 g1 ev1 a1 p1=>by
    cases q:x.get S1 with
    | none=>rw [q] at p1; exact p1.elim
    | some d =>
      rw [q] at p1
      exact p1 H1 v (fun _ _ _ z=>z) (a1.leave st1 q)
theorem X9g:MP X Wx (.Return none pos) Z9x:=PS.of ps_retN fun D σ H ⟨Z,ρ,e,S,st,ev,p⟩=>p ρ H .non st (Go.refl _ _) (.d .non)
theorem Y2q {K:PySem.W.Frag} {Z:Wd} {ρ:List Addr} {S:Sto} {H:Hp} (st:Sta K Z ρ S H):∀ {xs:List Bv.X} {vs:List V} {ds:List Bv.D},AXs K (Wn Z ρ) ρ H xs vs→Z8l S xs=some ds→AVs K Z H ds vs
  | _,_,_, .nil,e=>by cases e; exact .nil
  | x :: r,_,ds, .cons h hs,e=>by
    unfold Z8l at e
    cases q:x.get S with
    | none=>rw [q] at e; cases e
    | some d =>
      cases q2:Z8l S r with
      | none=>rw [q,q2] at e; cases e
      | some l =>
        rw [q,q2] at e
        cases e
        exact .cons (h.leave st q) (Y2q st hs q2)
theorem Z7v {x1} {p2:Pos} (h:MA X Wx es ms):MP X Wx (.Return (some (.Tuple es x1 p2)) pos) (Z3h ms):=PS.of (ps_ret (pe_tup h)) fun D σ H ⟨Z,ρ,e,S,st,ev,p⟩ =>
  Z0h (rel:=AXs X.K) st ev p fun ρ1 H1 vs xs S1 st1 g1 ev1 a1 p1=>by
    cases q:Z8l S1 xs with
    | none=>rw [q] at p1; exact p1.elim
    | some ds =>
      rw [q] at p1
      have p1:Z1n X.K Z ρ1 H1 Wx D (if ds.length ≤ sizeLine then .go (.rp (.tup ds)) S1 else .bad):=p1
      by_cases hl:ds.length ≤ sizeLine
      · rw [if_pos hl] at p1
        have av:=Y2q st1 a1 q
        refine ⟨by rw [← av.length]; exact hl,fun r hr=>p1 _ _ (fun b o _ z=>V9 hr b o z) (Z9b (fun z hz=>(st1.z z hz).2) hr av)⟩
      · rw [if_neg hl] at p1; exact p1.elim
theorem Q9 (hc:MT X Wx c mt) (h1:MPs X Wx sts m1) (h2:MPs X Wx sts2 m2):MP X Wx (.If c sts sts2 pos) (Z0r mt m1 m2):=PS.of (ps_if hc h1 h2) fun D σ H ⟨Z,ρ,e,S,st,ev,p⟩ =>
  Z0h (rel:=relB) st ev p fun ρ1 H1 v x S1 st1 g1 ev1 a1 p1=>by
    cases (show x=v from a1)
    cases v with
    | true=>exact ⟨Z,ρ1,e,S1,st1,ev1,p1⟩
    | false=>exact ⟨Z,ρ1,e,S1,st1,ev1,p1⟩
def W3n:MS:=fun _ _ => .bad
theorem W2w:MP X Wx st W3n:=PS.of ps_never fun D σ H ⟨Z,ρ,e,S,st,ev,p⟩=>p
inductive Tg where
  | nm (i:Nat) | tp (ts:List Tg)
mutual
def Tg.asg (S:Sto):Tg→Bv.X→Ev→Option Ev
  | .nm i,x,e=>some (e.set i (some x))
  | .tp ts, .d (.tup ds),e=>Tg.asgs S ts (ds.map .d) e
  | .tp ts, .d (.lst ds),e=>Tg.asgs S ts (ds.map .d) e
  | .tp _,_,_=>none
def Tg.asgs (S:Sto):List Tg→List Bv.X→Ev→Option Ev
  | [],[],e=>some e
  | t :: ts,x :: xs,e=>match t.asg S x e with
    | some e1=>Tg.asgs S ts xs e1
    | none=>none
  | [],_ :: _,_=>none
  | _ :: _,[],_=>none
end
mutual
def Tg.slots:Tg→List Nat
  | .nm i=>[i]
  | .tp ts=>Tg.slotss ts
def Tg.slotss:List Tg→List Nat
  | []=>[]
  | t :: ts=>t.slots++Tg.slotss ts
end
def TGt (K:PySem.W.Frag) (t:Tg):TG:=fun v σ H Q=>∃ (Z:Wd) (ρ:List Addr) (e:Ev) (S:Sto) (x:Bv.X) (e':Ev),Sta K Z ρ S H∧EvOk K (Wn Z ρ) ρ H e σ∧AX K (Wn Z ρ) ρ H x v∧t.asg S x e=some e'∧∀ σ',EvOk K (Wn Z ρ) ρ H e' σ'→(∀ vs:List Nat,(∀ i ∈ t.slots,i ∈ vs)→wipe σ' vs=wipe σ vs)→Q σ' H
def W1q (K:PySem.W.Frag) (ts:List Tg):TGs:=fun vs σ H Q=>∃ (Z:Wd) (ρ:List Addr) (e:Ev) (S:Sto) (xs:List Bv.X) (e':Ev),Sta K Z ρ S H∧EvOk K (Wn Z ρ) ρ H e σ∧AXs K (Wn Z ρ) ρ H xs vs∧Tg.asgs S ts xs e=some e'∧∀ σ',EvOk K (Wn Z ρ) ρ H e' σ'→(∀ vs:List Nat,(∀ i ∈ Tg.slotss ts,i ∈ vs)→wipe σ' vs=wipe σ vs)→Q σ' H
theorem Y91 {σ:St} {i:Nat} {o:Option V}:∀ {vs:List Nat},i ∈ vs→wipe (σ.set i o) vs=wipe σ vs
  | [],h=>by cases h
  | j :: vs,h=>by
    unfold wipe
    by_cases hi:i ∈ vs
    · rw [Y91 hi]
    · have e:i=j:=by
        rcases List.mem_cons.mp h with h | h
        · exact h
        · exact absurd h hi
      subst e
      have go:∀ {vs:List Nat},i ∉ vs→wipe (σ.set i o) vs=(wipe σ vs).set i o:=fun {vs}=>by
        induction vs with
        | nil=>intro _; rfl
        | cons k ks ih =>
          intro hk
          rw [List.mem_cons,not_or] at hk
          unfold wipe
          rw [ih hk.2,List.set_comm _ _ hk.1]
      rw [go hi,List.set_set]
theorem PG.of {X:Cx} {e:Expr} {t t':TG} (h:PG X e t) (w:∀ v σ H Q,t' v σ H Q→t v σ H Q):PG X e t':=⟨fun pins s σ H v u Q I r q=>h.run pins s σ H v u Q I r (w v σ H Q q)⟩
theorem PGs.of {X:Cx} {e:List Expr} {t t':TGs} (h:PGs X e t) (w:∀ v σ H Q,t' v σ H Q→t v σ H Q):PGs X e t':=⟨fun pins s σ H v u Q I r q=>h.run pins s σ H v u Q I r (w v σ H Q q)⟩
theorem PG.or {X:Cx} {e:Expr} {t1 t2:TG} (h1:PG X e t1) (h2:PG X e t2):PG X e (fun v σ H Q=>t1 v σ H Q ∨ t2 v σ H Q):=⟨fun pins s σ H v u Q I r q=>q.elim (fun q=>h1.run pins s σ H v u Q I r q) fun q=>h2.run pins s σ H v u Q I r q⟩
theorem Y7 {i:Nat} {x:Str} (hN:X.N.Nodup) (hi:X.N[i]?=some x) (hx:Loc X.env.scope x) (hf:X.fn x=true ∨ X.env.scope.names.lookup x=some .local:=by first | exact .inl rfl | exact .inr rfl | assumption):PG X (.Name x pos) (TGt X.K (.nm i)) :=
  PG.of (pg_name hN hi hx hf) fun v σ H Q ⟨Z,ρ,e,S,x,e',st,ev,a,h,k⟩=>by
    have h:some (e.set i (some x))=some e':=by simpa [Tg.asg] using h
    cases h
    exact k _ (ev.set a) fun vs hv=>Y91 (hv i (by simp [Tg.slots]))
theorem Z0m:PGs X [] (W1q X.K []):=PGs.of pgs_nil fun v σ H Q ⟨Z,ρ,e,S,xs,e',st,ev,a,h,k⟩=>by
  cases a with
  | nil =>
    have h:some e=some e':=by simpa [Tg.asgs] using h
    cases h
    exact ⟨rfl,k σ ev fun _ _=>rfl⟩
  | cons _ _=>simp [Tg.asgs] at h
theorem X4 {t:Tg} {ts:List Tg} (h1:PG X a (TGt X.K t)) (h2:PGs X es (W1q X.K ts)) (hs:(assignEach (a :: es) X.env).map (·.2)=assign a X.env :: (assignEach es X.env).map (·.2):=by rfl):PGs X (a :: es) (W1q X.K (t :: ts)) :=
  PGs.of (pgs_cons h1 h2 hs) fun v σ H Q ⟨Z,ρ,e,S,xs,e',st,ev,a,h,k⟩=>by
    cases a with
    | nil=>simp [Tg.asgs] at h
    | @cons x v0 xr vr ha hr =>
      cases q:t.asg S x e with
      | none=>simp [Tg.asgs,q] at h
      | some e1 =>
        have h:Tg.asgs S ts xr e1=some e':=by simpa [Tg.asgs,q] using h
        exact ⟨v0,vr,rfl,Z,ρ,e,S,x,e1,st,ev,ha,q,fun σ1 ev1 w1=>⟨Z,ρ,e1,S,xr,e',st,ev1,hr,h,fun σ2 ev2 w2=>k σ2 ev2 fun vs hv=>(w2 vs fun i hi=>hv i (by simp [Tg.slotss,hi])).trans (w1 vs fun i hi=>hv i (by simp [Tg.slotss,hi]))⟩⟩
theorem Z92 {S:Sto}:∀ {ts:List Tg} {xs:List Bv.X} {e e':Ev},Tg.asgs S ts xs e=some e'→xs.length=ts.length
  | [],[],_,_,_=>rfl
  | t :: ts,x :: xs,e,e',h=>by
    cases q:t.asg S x e with
    | none=>simp [Tg.asgs,q] at h
    | some e1 =>
      have h:Tg.asgs S ts xs e1=some e':=by simpa [Tg.asgs,q] using h
      simp [Z92 h]
  | [],_ :: _,_,_,h=>by simp [Tg.asgs] at h
  | _ :: _,[],_,_,h=>by simp [Tg.asgs] at h
theorem Z1t {k:Nat} {ts:List Tg} (hc:X.calm=true) (h:PGs X es (W1q X.K ts)) (hn:(assignEach es X.env).length=ts.length:=by rfl) (hst:(assignEach es X.env).findIdx? (·.1)=none:=by rfl):PG X (.Tuple es k pos) (TGt X.K (.tp ts)) :=
  PG.of (PG.or (pg_tup hc h hn hst) (pg_unl hc h hn hst)) fun v σ H Q ⟨Z,ρ,e,S,x,e',st,ev,a,h,kk⟩=>by
    cases a with
    | r _=>simp [Tg.asg] at h
    | d h1 =>
      cases h1 with
      | @tup q xs ds t hs =>
        have h:Tg.asgs S ts (ds.map .d) e=some e':=by simpa [Tg.asg] using h
        have hl:=Z92 h
        rw [List.length_map] at hl
        exact .inl ⟨_,xs,rfl,t.sq,by rw [← hs.length]; exact hl,Z,ρ,e,S,_,e',st,ev,hs.axs,h,fun σ2 ev2 w2=>kk σ2 ev2 fun vs hv=>w2 vs fun i hi=>hv i (by simpa [Tg.slots] using hi)⟩
      | @lst q us ds w r hs =>
        have h:Tg.asgs S ts (ds.map .d) e=some e':=by simpa [Tg.asg] using h
        have hl:=Z92 h
        rw [List.length_map] at hl
        exact .inr ⟨_,us,rfl, .inl (.inl r),by rw [← hs.length]; exact hl,Z,ρ,e,S,_,e',st,ev,hs.axs,h,fun σ2 ev2 w2=>kk σ2 ev2 fun vs hv=>w2 vs fun i hi=>hv i (by simpa [Tg.slots] using hi)⟩
      | _=>simp [Tg.asg] at h
def Z55 (t:Tg) (m:M):MS:=fun e S=>(m e S).so e fun x S1=>match t.asg S1 x e with
  | some e1 => .go (.nx e1) S1
  | none => .bad
theorem Z9v {tg:Expr} {t:Tg} (he:ME X Wx a ma) (hg:PG X tg (TGt X.K t)) (hs:swapsWithSole [tg] a pos.line X.env=pure false:=by rfl) (hw:swappedStores [tg] a X.env=pure none:=by rfl)
    (h1:(assignEach [tg] X.env).map (·.2)=[assign tg X.env]:=by rfl):MP X Wx (.Assign [tg] a pos) (Z55 t ma):=PS.of (ps_asg he hg hs hw h1) fun D σ H ⟨Z,ρ,e,S,st,ev,p⟩ =>
  Z0h st ev p fun ρ1 H1 v x S1 st1 g1 ev1 a1 p1=>by
    cases q:t.asg S1 x e with
    | none=>rw [q] at p1; exact p1.elim
    | some e1 =>
      rw [q] at p1
      exact ⟨Z,ρ1,e,S1,x,e1,st1,ev1,a1,q,fun σ' ev' _=>p1.next st1 ev'⟩
def X0q (f:Str) (x:Bv.X):List (Str × Bv.X)→List (Str × Bv.X)
  | []=>[(f,x)]
  | (g,y) :: r=>if g=f then (g,x) :: r else (g,y) :: X0q f x r
theorem Y9o {K:PySem.W.Frag} {W:Wd} {ρ:List Addr} {H:Hp} {f:Str} {x:Bv.X} {v:V} (a:AX K W ρ H x v):∀ {fs:List (Str × Bv.X)} {vs:List (Str × V)},Paired (fun (p:Str × Bv.X) (q:Str × V)=>p.1=q.1∧AX K W ρ H p.2 q.2) fs vs →
    Paired (fun (p:Str × Bv.X) (q:Str × V)=>p.1=q.1∧AX K W ρ H p.2 q.2) (X0q f x fs) (putF f v vs)
  | _,_, .nil => .cons ⟨rfl,a⟩ .nil
  | (g,y) :: r,(g',u) :: r', .cons ⟨h1,h2⟩ hs=>by
    cases (show g=g' from h1)
    unfold X0q putF
    by_cases h:g=f
    · rw [if_pos h,if_pos h]; exact .cons ⟨rfl,a⟩ hs
    · rw [if_neg h,if_neg h]; exact .cons ⟨rfl,h2⟩ (Y9o a hs)
def Y7a (Cs:List Str) (f:Str) (S:Sto) (o y:Bv.X):Option Sto:=match o with
  | .r n=>(match S[n]? with
    | some (.ins C fs)=>if Cs.contains C && decide (fs.length < 1000) then some (S.set n (.ins C (X0q f y fs))) else none
    | _=>none)
  | .d _=>none
def Z2d (Cs:List Str) (f:Str) (mo m:M):MS:=fun e S=>(m e S).so e fun y S1=>(mo e S1).so e fun o S2=>match Y7a Cs f S2 o y with
  | some S3 => .go (.nx e) S3
  | none => .bad
theorem Z2c {o:Expr} {mo:M} {f:Str} {pos':Pos} (Cs:List Str) (T:Z1m X.K Cs f) (ho:ME X Wx o mo) (ha:ME X Wx a ma) (hs:swapsWith a (some (.Attribute o f pos')) pos.line X.env=pure false:=by rfl):MP X Wx (.Assign [.Attribute o f pos'] a pos) (Z2d Cs f mo ma) :=
  PS.of (ps_fld ho ha hs) fun D σ H ⟨Z,ρ,e,S,st,ev,p⟩ =>
  Z0h st ev p fun ρ1 H1 v y S1 st1 g1 ev1 a1 p1=>Z0h st1 ev1 p1 fun ρ2 H2 u o S2 st2 g2 ev2 a2 p2=>by
    have a1:=a1.mv (g2.mv st1) g2.pre
    cases q:Y7a Cs f S2 o y with
    | none=>rw [q] at p2; exact p2.elim
    | some S3 =>
      rw [q] at p2
      cases a2 with
      | d h=>cases q
      | r h =>
        rename_i n q0
        cases z:S2[n]? with
        | none=>simp [Y7a,z] at q
        | some oo =>
          cases oo with
          | ins C fs =>
            have q1:(if (Cs.contains C && decide (fs.length < 1000))=true then some (S2.set n (.ins C (X0q f y fs))) else none)=some S3:=by simpa [Y7a,z] using q
            by_cases hc:(Cs.contains C && decide (fs.length < 1000))=true
            · rw [if_pos hc] at q1
              cases q1
              obtain ⟨hc1,hc2⟩:=Bool.and_eq_true_iff.mp hc
              obtain ⟨dx,vs,h2,h3⟩:=st2.ob n _ q0 z h
              obtain ⟨t1,t2⟩:=T C (by simpa using hc1)
              have hl:vs.length < 1000:=by rw [← Paired.length h3]; exact of_decide_eq_true hc2
              have hin:q0 ∈ ρ2:=List.mem_of_getElem? h
              have m:Mv (Wn Z ρ2) H2 (Wn Z ρ2) (upd H2 q0 (.ins (He.ga X.K C) dx (putF f v vs))):=fun b o hb hq=>⟨hb,by rw [upd_ne (fun z=>hb (.inr (by rw [z]; exact hin)))]; exact hq⟩
              obtain ⟨st3,g3⟩:=st2.put (o' := .ins C (X0q f y fs)) (u := .ins (He.ga X.K C) dx (putF f v vs)) h (fun _ _ q=>by rw [h2] at q; cases q) ⟨dx,_,upd_same,Paired.mapP (Y9o a1 h3) fun _ _ w=>⟨w.1,w.2.mv m (List.prefix_refl _)⟩⟩
              exact ⟨_,_,_,vs,rfl,h2,t1,t2,hl,p2 _ _ σ st3 g3 (ev2.mv m (List.prefix_refl _))⟩
            · rw [if_neg hc] at q1; cases q1
          | _=>simp [Y7a,z] at q
end
end Bv
namespace Bv
open PySem PySem.Spec L2
open PyProof.Rows hiding St
variable [HasW]
mutual
def D.beq:D→D→Bool
  | .non, .non=>true
  | .bl a, .bl b=>a == b
  | .int a, .int b=>decide (a=b)
  | .str a, .str b=>decide (a=b)
  | .gl a, .gl b=>decide (a=b)
  | .scr a, .scr b=>decide (a=b)
  | .tup a, .tup b=>D.beqs a b
  | .lst a, .lst b=>D.beqs a b
  | .dic a, .dic b=>D.beqk a b
  | .obj c a, .obj d b=>decide (c=d) && D.beqf a b
  | _,_=>false
def D.beqs:List D→List D→Bool
  | [],[]=>true
  | a :: r,b :: s=>D.beq a b && D.beqs r s
  | _,_=>false
def D.beqk:List (D × D)→List (D × D)→Bool
  | [],[]=>true
  | (k,a) :: r,(l,b) :: s=>(D.beq k l && D.beq a b) && D.beqk r s
  | _,_=>false
def D.beqf:List (Str × D)→List (Str × D)→Bool
  | [],[]=>true
  | (k,a) :: r,(l,b) :: s=>(decide (k=l) && D.beq a b) && D.beqf r s
  | _,_=>false
end
mutual
theorem D.eq_of_beq:∀ (a b:D),D.beq a b=true→a=b
  | .non,b,h=>by cases b <;> first | rfl | simp [D.beq] at h
  | .bl x,b,h=>by cases b <;> first | (simp [D.beq] at h; rw [h]) | simp [D.beq] at h
  | .int x,b,h=>by cases b <;> first | (simp [D.beq] at h; rw [h]) | simp [D.beq] at h
  | .str x,b,h=>by cases b <;> first | (simp [D.beq] at h; rw [h]) | simp [D.beq] at h
  | .gl x,b,h=>by cases b <;> first | (simp [D.beq] at h; rw [h]) | simp [D.beq] at h
  | .scr x,b,h=>by cases b <;> first | (simp [D.beq] at h; rw [h]) | simp [D.beq] at h
  | .tup x,b,h=>by
    cases b with
    | tup y=>simp only [D.beq] at h; rw [D.eqs_of_beqs x y h]
    | _=>simp [D.beq] at h
  | .lst x,b,h=>by
    cases b with
    | lst y=>simp only [D.beq] at h; rw [D.eqs_of_beqs x y h]
    | _=>simp [D.beq] at h
  | .dic x,b,h=>by
    cases b with
    | dic y=>simp only [D.beq] at h; rw [D.eqk_of_beqk x y h]
    | _=>simp [D.beq] at h
  | .obj c x,b,h=>by
    cases b with
    | obj d y=>simp only [D.beq,Bool.and_eq_true,decide_eq_true_eq] at h; rw [h.1,D.eqf_of_beqf x y h.2]
    | _=>simp [D.beq] at h
theorem D.eqs_of_beqs:∀ (a b:List D),D.beqs a b=true→a=b
  | [],b,h=>by cases b <;> first | rfl | simp [D.beqs] at h
  | x :: r,b,h=>by
    cases b with
    | nil=>simp [D.beqs] at h
    | cons y s =>
      simp only [D.beqs,Bool.and_eq_true] at h
      rw [D.eq_of_beq x y h.1,D.eqs_of_beqs r s h.2]
theorem D.eqk_of_beqk:∀ (a b:List (D × D)),D.beqk a b=true→a=b
  | [],b,h=>by cases b <;> first | rfl | simp [D.beqk] at h
  | (k,u) :: r,b,h=>by
    cases b with
    | nil=>simp [D.beqk] at h
    | cons y s =>
      obtain ⟨l,v⟩:=y
      simp only [D.beqk,Bool.and_eq_true] at h
      rw [D.eq_of_beq k l h.1.1,D.eq_of_beq u v h.1.2,D.eqk_of_beqk r s h.2]
theorem D.eqf_of_beqf:∀ (a b:List (Str × D)),D.beqf a b=true→a=b
  | [],b,h=>by cases b <;> first | rfl | simp [D.beqf] at h
  | (k,u) :: r,b,h=>by
    cases b with
    | nil=>simp [D.beqf] at h
    | cons y s =>
      obtain ⟨l,v⟩:=y
      simp only [D.beqf,Bool.and_eq_true,decide_eq_true_eq] at h
      rw [h.1.1,D.eq_of_beq u v h.1.2,D.eqf_of_beqf r s h.2]
end
mutual
theorem D.beq_self:∀ a:D,D.beq a a=true
  | .non=>by simp [D.beq]
  | .bl _=>by simp [D.beq]
  | .int _=>by simp [D.beq]
  | .str _=>by simp [D.beq]
  | .gl _=>by simp [D.beq]
  | .scr _=>by simp [D.beq]
  | .tup a=>by simp [D.beq,D.beqs_self a]
  | .lst a=>by simp [D.beq,D.beqs_self a]
  | .dic a=>by simp [D.beq,D.beqk_self a]
  | .obj c a=>by simp [D.beq,D.beqf_self a]
theorem D.beqs_self:∀ a:List D,D.beqs a a=true
  | []=>by simp [D.beqs]
  | a :: r=>by simp [D.beqs,D.beq_self a,D.beqs_self r]
theorem D.beqk_self:∀ a:List (D × D),D.beqk a a=true
  | []=>by simp [D.beqk]
  | (k,a) :: r=>by simp [D.beqk,D.beq_self k,D.beq_self a,D.beqk_self r]
theorem D.beqf_self:∀ a:List (Str × D),D.beqf a a=true
  | []=>by simp [D.beqf]
  | (k,a) :: r=>by simp [D.beqf,D.beq_self a,D.beqf_self r]
end
instance:DecidableEq D:=fun a b=>if h:D.beq a b=true then .isTrue (D.eq_of_beq a b h) else .isFalse fun e=>h (e ▸ D.beq_self a)
instance:DecidableEq X
  | .d a, .d b=>if h:a=b then .isTrue (h ▸ rfl) else .isFalse fun e=>h (by cases e; rfl)
  | .r a, .r b=>if h:a=b then .isTrue (h ▸ rfl) else .isFalse fun e=>h (by cases e; rfl)
  | .d _, .r _ => .isFalse fun e=>by cases e
  | .r _, .d _ => .isFalse fun e=>by cases e
inductive Lk where
  | free | lst (n:Nat) (xs:List X)
def Lk.ok:Lk→Sto→Bool
  | .free,_=>true
  | .lst n xs,S=>match S[n]? with
    | some (.lst zs)=>decide (zs=xs)
    | _=>false
def Srv (K:PySem.W.Frag) (W:Wd) (ρ:List Addr) (H:Hp) (p:List X × Lk) (J:It):Prop:=∃ (G:Hp→Prop) (Y:Nat→Hp→V→Hp→Prop),Walk J p.1.length G Y ∧
  ∀ (Z2:Wd) (ρ2:List Addr) (S2:Sto) (H2:Hp),Sta K Z2 ρ2 S2 H2→Mv W H (Wn Z2 ρ2) H2→ρ <+: ρ2→(∀ a ob u,H a=some (.frz ob u)→H2 a=some (.frz ob u))→p.2.ok S2=true→G H2 ∧
    ∀ i x H3,Y i H2 x H3→Same H2 H3∧∃ y,p.1[i]?=some y∧AX K (Wn Z2 ρ2) ρ2 H3 y x
abbrev MIt:=MG (List X × Lk)
abbrev MI (X:Cx) (Wx:WX) (tg iter:Expr) (m:MIt):Prop:=PI X tg iter (RG (Srv X.K) X.K Wx m)
theorem PI.of {X:Cx} {tg e:Expr} {t t':TI} (h:PI X tg e t) (w:∀ σ H R,t' σ H R→t σ H R):PI X tg e t':=⟨fun pins s σ H R I q=>h.run pins s σ H R I (w σ H R q)⟩
def RO.ext (r:RO) (e:Ev):RO:=r
def Z36 (t:Tg) (l:Lk) (body:MS):List X→Ev→Sto→RO
  | [],e,S=>if l.ok S then .go (.nx e) S else .bad
  | x :: xs,e,S=>if l.ok S then (match t.asg S x e with
    | some e1=>(match body e1 S with
      | .go (.nx e2) S2=>Z36 t l body xs e2 S2
      | .go (.ct e2) S2=>Z36 t l body xs e2 S2
      | .go (.bk e2) S2 => .go (.nx e2) S2
      | r=>r)
    | none => .bad) else .bad
def Z2y (t:Tg) (mi:MIt) (body:MS):MS:=fun e S=>(mi e S).so e fun p S1=>Z36 t p.2 body p.1 e S1
section
variable {X:Cx} {Wx:WX} {pos:Pos} {tg iter:Expr} {body:List Stmt} {mi:MIt} {mb:MS} {t:Tg}
theorem Z5u {α:Type} {l:List α} {i:Nat} {a:α} (h:l[i]?=some a):l.drop i=a :: l.drop (i + 1):=by
  obtain ⟨h1,h2⟩:=List.getElem?_eq_some_iff.mp h
  rw [← h2]
  exact List.drop_eq_getElem_cons h1
theorem Z5b (hp:PassesOwn (model X.prog X.w) X.A X.env X.xe) (hc:X.calm=true) (hi:MI X Wx tg iter mi) (hg:PG X tg (TGt X.K t)) (hb:MPs X Wx body mb)
    (hs:∀ x,foldedSetIterable iter X.env x=pure x:=by intro _; rfl):MP X Wx (.For tg iter body [] pos) (Z2y t mi mb):=PS.of (ps_for hp hc hi hg hb hs) fun D σ H ⟨Z,ρ,e,S,st,ev,p⟩ =>
  Z0h (rel:=Srv X.K) st ev p fun ρ1 H1 J p0 S1 st1 g1 ev1 srv p1=>by
    obtain ⟨ys,l⟩:=p0
    obtain ⟨G,Y,w,sv⟩:=srv
    have p1:Z1n X.K Z ρ1 H1 Wx D (Z36 t l mb ys e S1):=p1
    have sv:∀ (Z2:Wd) (ρ2:List Addr) (S2:Sto) (H2:Hp),Sta X.K Z2 ρ2 S2 H2→Mv (Wn Z ρ1) H1 (Wn Z2 ρ2) H2→ρ1 <+: ρ2→(∀ a ob u,H1 a=some (.frz ob u)→H2 a=some (.frz ob u))→l.ok S2=true→G H2 ∧
      ∀ i x H3,Y i H2 x H3→Same H2 H3∧∃ y,ys[i]?=some y∧AX X.K (Wn Z2 ρ2) ρ2 H3 y x:=sv
    have w:Walk J ys.length G Y:=w
    let Pv:Nat→L2.St→Hp→Prop:=fun i σ H=>∃ (ρ:List Addr) (e:Ev) (S:Sto),Sta X.K Z ρ S H∧Go ρ1 H1 ρ H∧EvOk X.K (Wn Z ρ) ρ H e σ∧Z1n X.K Z ρ H Wx D (Z36 t l mb (ys.drop i) e S)
    have okOf:∀ {xs:List Bv.X} {e:Ev} {S:Sto} {ρ:List Addr} {H:Hp},Z1n X.K Z ρ H Wx D (Z36 t l mb xs e S)→l.ok S=true:=fun {xs e S ρ H} q=>by
      cases z:l.ok S with
      | true=>rfl
      | false=>cases xs <;> (simp only [Z36,z] at q; exact q.elim)
    refine for_it w Pv ⟨ρ1,e,S1,st1,Go.refl _ _,ev1,by rw [List.drop_zero]; exact p1⟩ ?_ ?_ ?_
    · rintro i σ2 H2 _ ⟨ρ2,e2,S2,st2,g2,ev2,q2⟩
      exact (sv Z ρ2 S2 H2 st2 (g2.mv st1) g2.pre g2.fz (okOf q2)).1
    · rintro i x σ2 H2 H3 hi ⟨ρ2,e2,S2,st2,g2,ev2,q2⟩ hy
      have hk:=okOf q2
      obtain ⟨k,y,e3,a⟩:=(sv Z ρ2 S2 H2 st2 (g2.mv st1) g2.pre g2.fz hk).2 i x H3 hy
      have st3:=st2.grow k
      have g3:Go ρ2 H2 ρ2 H3:=Go.grow k
      have ev3:=ev2.mv (g3.mv st2) g3.pre
      have q3:=Z1n.shift g3 st3 q2
      rw [Z5u e3] at q3
      simp only [Z36,hk,if_true] at q3
      cases q4:t.asg S2 y e2 with
      | none=>rw [q4] at q3; exact q3.elim
      | some e4 =>
        rw [q4] at q3
        refine ⟨Z,ρ2,e2,S2,y,e4,st3,ev3,a,q4,fun σ5 ev5 _=>⟨Z,ρ2,e4,S2,st3,ev5,?_⟩⟩
        have q3:Z1n X.K Z ρ2 H3 Wx D (match mb e4 S2 with
          | .go (.nx e2) S2=>Z36 t l mb (ys.drop (i + 1)) e2 S2
          | .go (.ct e2) S2=>Z36 t l mb (ys.drop (i + 1)) e2 S2
          | .go (.bk e2) S2 => .go (.nx e2) S2
          | r=>r):=q3
        cases q5:mb e4 S2 with
        | bad=>rw [q5] at q3; exact q3
        | err C fs e6 S6=>rw [q5] at q3; exact q3
        | go o S6 =>
          rw [q5] at q3
          cases o with
          | nx e6=>exact fun ρ7 H7 σ7 st7 g7 ev7=>⟨ρ7,e6,S6,st7,g2.trans (g3.trans g7),ev7,Z1n.shift g7 st7 q3⟩
          | ct e6=>exact fun ρ7 H7 σ7 st7 g7 ev7=>⟨ρ7,e6,S6,st7,g2.trans (g3.trans g7),ev7,Z1n.shift g7 st7 q3⟩
          | bk e6=>exact q3
          | rt x6=>exact q3
          | rp d6=>exact q3
          | rq d6=>exact q3
    · rintro σ2 H2 ⟨ρ2,e2,S2,st2,g2,ev2,q2⟩
      have hk:=okOf q2
      rw [List.drop_length] at q2
      simp only [Z36,hk,if_true] at q2
      exact q2.next st2 ev2
def Y1s (mt:MG Bool) (body:MS):Nat→Ev→Sto→RO
  | 0,_,_ => .bad
  | n + 1,e,S=>(mt e S).so e fun b S1=>if b then (match body e S1 with
    | .go (.nx e2) S2=>Y1s mt body n e2 S2
    | .go (.ct e2) S2=>Y1s mt body n e2 S2
    | .go (.bk e2) S2 => .go (.nx e2) S2
    | r=>r) else .go (.nx e) S1
def many:Nat:=1000000
def X3r (mt:MG Bool) (body:MS):MS:=Y1s mt body many
theorem X5f {c:Expr} {mt:MG Bool} (hp:PassesOwn (model X.prog X.w) X.A X.env X.xe) (hc:MT X Wx c mt) (hb:MPs X Wx body mb):MP X Wx (.While c body [] pos) (X3r mt mb):=PS.of (ps_while hp hc hb) fun D σ H ⟨Z,ρ,e,S,st,ev,p⟩=>by
  refine ⟨fun m σ H=>∃ (ρ:List Addr) (e:Ev) (S:Sto),Sta X.K Z ρ S H∧EvOk X.K (Wn Z ρ) ρ H e σ∧Z1n X.K Z ρ H Wx D (Y1s mt mb m e S),⟨many,ρ,e,S,st,ev,p⟩,?_⟩
  rintro m σ H ⟨ρ,e,S,st,ev,p⟩
  cases m with
  | zero=>exact p.elim
  | succ n =>
    refine Z0h (rel:=relB) st ev p fun ρ1 H1 v x S1 st1 g1 ev1 a1 p1=>?_
    cases (show x=v from a1)
    cases v with
    | false=>exact p1.next st1 ev1
    | true =>
      refine ⟨fun σ H=>∃ (ρ:List Addr) (e:Ev) (S:Sto),Sta X.K Z ρ S H∧EvOk X.K (Wn Z ρ) ρ H e σ∧Z1n X.K Z ρ H Wx D (Y1s mt mb n e S),fun σ' H' q=>⟨n,Nat.lt_succ_self n,q⟩,⟨Z,ρ1,e,S1,st1,ev1,?_⟩⟩
      have p1:Z1n X.K Z ρ1 H1 Wx D (match mb e S1 with
        | .go (.nx e2) S2=>Y1s mt mb n e2 S2
        | .go (.ct e2) S2=>Y1s mt mb n e2 S2
        | .go (.bk e2) S2 => .go (.nx e2) S2
        | r=>r):=p1
      cases q5:mb e S1 with
      | bad=>rw [q5] at p1; exact p1
      | err C fs e6 S6=>rw [q5] at p1; exact p1
      | go o S6 =>
        rw [q5] at p1
        cases o with
        | nx e6=>exact fun ρ7 H7 σ7 st7 g7 ev7=>⟨ρ7,e6,S6,st7,ev7,Z1n.shift g7 st7 p1⟩
        | ct e6=>exact fun ρ7 H7 σ7 st7 g7 ev7=>⟨ρ7,e6,S6,st7,ev7,Z1n.shift g7 st7 p1⟩
        | bk e6=>exact p1
        | rt x6=>exact p1
        | rp d6=>exact p1
        | rq d6=>exact p1
def R.ne {α:Type}:R α→R α
  | .ok a S => .ok a S
  | _ => .bad
def W6 (e:Ev):List Nat→Ev
  | []=>e
  | v :: vs=>(W6 e vs).set v none
theorem Z9z (e:Ev):∀ vs:List Nat,(W6 e vs).length=e.length
  | []=>rfl
  | v :: vs=>by unfold W6; rw [List.length_set,Z9z e vs]
theorem Y28 {e:Ev} {i:Nat} {x:Bv.X}:∀ {vs:List Nat},(W6 e vs)[i]?=some (some x)→e[i]?=some (some x)∧i ∉ vs
  | [],h=>⟨h,by simp⟩
  | v :: vs,h=>by
    unfold W6 at h
    by_cases hi:v=i
    · subst hi
      by_cases hv:v < (W6 e vs).length
      · rw [List.getElem?_set_self hv] at h; cases h
      · rw [List.getElem?_eq_none (by simpa using hv)] at h; cases h
    · rw [List.getElem?_set_ne hi] at h
      obtain ⟨h1,h2⟩:=Y28 h
      exact ⟨h1,by simp only [List.mem_cons,not_or]; exact ⟨fun e=>hi e.symm,h2⟩⟩
theorem Y6z {σ:L2.St} {i:Nat} {x:Option V}:∀ {vs:List Nat},i ∉ vs→σ[i]?=some x→(wipe σ vs)[i]?=some x
  | [],_,h=>h
  | v :: vs,hn,h=>by
    rw [List.mem_cons,not_or] at hn
    unfold wipe
    rw [List.getElem?_set_ne (fun z=>hn.1 z.symm)]
    exact Y6z hn.2 h
theorem EvOk.wipe {K:PySem.W.Frag} {W:Wd} {ρ:List Addr} {H:Hp} {e:Ev} {σ:L2.St} (h:EvOk K W ρ H e σ) (vs:List Nat):EvOk K W ρ H (W6 e vs) (wipe σ vs) :=
  ⟨by rw [Z9z,wipe_length]; exact h.len,fun i x q=>by
    obtain ⟨h1,h2⟩:=Y28 q
    obtain ⟨v,h3,h4⟩:=h.at_ i x h1
    exact ⟨v,Y6z h2 h3,h4⟩⟩
def lcL (t:Tg) (l:Lk) (mt:MG Bool) (me:M) (e:Ev):List Bv.X→Sto→R (List D)
  | [],S=>if l.ok S then .ok [] S else .bad
  | x :: xs,S=>if l.ok S then (match t.asg S x e with
    | some e1=>(mt e1 S).ne.bind fun b S1=>if b then (me e1 S1).ne.bind fun y S2=>(match y with
        | .d d=>(lcL t l mt me e xs S2).bind fun ds S3 => .ok (d :: ds) S3
        | .r _ => .bad) else lcL t l mt me e xs S1
    | none => .bad) else .bad
def Z5v (ds:List D) (S:Sto):R Bv.X:=if ds.length ≤ sizeLine then .ok (.d (.lst ds)) S else .bad
def Z3r (t:Tg) (mi:MIt) (mt:MG Bool) (me:M) (vs:List Nat):M:=fun e S=>(mi e S).bind fun p S1=>(lcL t p.2 mt me (W6 e vs) p.1 S1).bind Z5v
def W0:MG Bool:=fun _ S => .ok true S
abbrev WX0:WX:=fun _ _ _ _=>False
theorem R.bind_assoc {α β γ:Type} (r:R α) (f:α→Sto→R β) (g:β→Sto→R γ):(r.bind f).bind g=r.bind fun a S=>(f a S).bind g:=by cases r <;> rfl
theorem Z83 {t:Tg} {l:Lk} {mt:MG Bool} {me:M} {e:Ev}:∀ {xs:List Bv.X} {S:Sto} {C fs S'},lcL t l mt me e xs S ≠ .err C fs S'
  | [],S,C,fs,S',h=>by
    simp only [lcL] at h
    split at h <;> cases h
  | x :: xs,S,C,fs,S',h=>by
    simp only [lcL] at h
    split at h
    · split at h
      · rename_i e1 _
        cases q:(mt e1 S).ne with
        | err _ _ _=>cases q2:mt e1 S <;> rw [q2] at q <;> cases q
        | bad=>rw [q] at h; cases h
        | ok b S1 =>
          rw [q] at h
          have h:(if b then (me e1 S1).ne.bind fun y S2=>(match y with
            | .d d=>(lcL t l mt me e xs S2).bind fun ds S3 => .ok (d :: ds) S3
            | .r _ => .bad) else lcL t l mt me e xs S1) = .err C fs S':=h
          cases b with
          | false=>exact Z83 h
          | true =>
            cases q3:(me e1 S1).ne with
            | err _ _ _=>cases q2:me e1 S1 <;> rw [q2] at q3 <;> cases q3
            | bad=>rw [q3] at h; cases h
            | ok y S2 =>
              rw [q3] at h
              cases y with
              | r _=>cases h
              | d d =>
                have h:((lcL t l mt me e xs S2).bind fun ds S3=>R.ok (d :: ds) S3) = .err C fs S':=h
                cases q4:lcL t l mt me e xs S2 with
                | ok _ _=>rw [q4] at h; cases h
                | bad=>rw [q4] at h; cases h
                | err C' fs' S''=>exact Z83 q4
      · cases h
    · cases h
theorem Z4l {α β:Type} {rel:Wd→List Addr→Hp→α→β→Prop} {K:PySem.W.Frag} {Z:Wd} {ρ:List Addr} {S:Sto} {e:Ev} {H:Hp} {σ:L2.St} {m:MG α} {R':β→Hp→Prop} (st:Sta K Z ρ S H) (ev:EvOk K (Wn Z ρ) ρ H e σ) {a:α} {S1:Sto} (h:(m e S).ne = .ok a S1)
    (next:∀ ρ1 H1 v,Sta K Z ρ1 S1 H1→Go ρ H ρ1 H1→EvOk K (Wn Z ρ1) ρ1 H1 e σ→rel (Wn Z ρ1) ρ1 H1 a v→R' v H1):RG rel K WX0 m σ H R':=by
  refine ⟨Z,ρ,e,S,st,ev,?_⟩
  cases q:m e S with
  | ok b S2 =>
    rw [q] at h
    cases h
    exact fun ρ1 H1 v s1 g r=>next ρ1 H1 v s1 g (ev.mv (g.mv st) g.pre) r
  | err _ _ _=>rw [q] at h; cases h
  | bad=>rw [q] at h; cases h
end
end Bv
namespace Bv
open PySem PySem.Spec L2
open PyProof.Rows hiding St
variable [HasW]
theorem Y60 {σ:L2.St} {v:Nat}:∀ {vs:List Nat},v ∈ vs→(wipe σ vs).set v none=wipe σ vs
  | w :: ws,h=>by
    unfold wipe
    by_cases e:v=w
    · rw [e,List.set_set]
    · have h2:v ∈ ws:=(List.mem_cons.mp h).resolve_left e
      rw [List.set_comm _ _ (fun z=>e z.symm),Y60 h2]
theorem Y92 {σ:L2.St} {us:List Nat}:∀ {vs:List Nat},(∀ i ∈ vs,i ∈ us)→wipe (wipe σ us) vs=wipe σ us
  | [],_=>rfl
  | v :: vs,h=>by
    show (wipe (wipe σ us) vs).set v none=wipe σ us
    rw [Y92 fun i hi=>h i (List.mem_cons_of_mem _ hi)]
    exact Y60 (h v List.mem_cons_self)
theorem Z5i {σ:L2.St} (vs:List Nat):wipe (wipe σ vs) vs=wipe σ vs:=Y92 fun _ h=>h
abbrev MTs (X:Cx) (Wx:WX) (ifs:List Expr) (m:MG Bool):Prop:=PTs X ifs (RB X.K Wx m)
section
variable {X:Cx} {Wx:WX} {pos:Pos} {tg iter elt c:Expr} {ifs:List Expr} {mi:MIt} {mt:MG Bool} {me:M} {t:Tg} {vs:List Nat}
theorem Z0a:MTs X Wx [] W0:=⟨fun pins s σ H Q I h=>pts_nil.run pins s σ H Q I (by
  obtain ⟨Z,ρ,e,S,st,ev,p⟩:=h
  exact X6.ret0 p st rfl)⟩
theorem Z46 (h:MT X Wx c mt):MTs X Wx [c] mt:=pts_one h
theorem X2k (hs:∀ i ∈ t.slots,i ∈ vs) {σ:L2.St} {H:Hp} {Q:VK} (h:RE X.K Wx (Z3r t mi mt me vs) σ H Q):tLc (RG (Srv X.K) X.K Wx mi) (TGt X.K t) (RB X.K WX0 mt) (RE X.K WX0 me) vs σ H Q:=by
  obtain ⟨Z,ρ,e,S,st,ev,p⟩:=h
  refine X5 (rel:=Srv X.K) st ev p fun ρ1 H1 J p0 S1 st1 g1 ev1 srv p1=>?_
  obtain ⟨ys,l⟩:=p0
  obtain ⟨G,Y,w,sv⟩:=srv
  intro D0 hD
  have p1:Z23 X.K Z ρ1 H1 Wx σ Q ((lcL t l mt me (W6 e vs) ys S1).bind Z5v):=p1
  have sv:∀ (Z2:Wd) (ρ2:List Addr) (S2:Sto) (H2:Hp),Sta X.K Z2 ρ2 S2 H2→Mv (Wn Z ρ1) H1 (Wn Z2 ρ2) H2→ρ1 <+: ρ2→(∀ a ob u,H1 a=some (.frz ob u)→H2 a=some (.frz ob u))→l.ok S2=true→G H2 ∧
    ∀ i x H3,Y i H2 x H3→Same H2 H3∧∃ y,ys[i]?=some y∧AX X.K (Wn Z2 ρ2) ρ2 H3 y x:=sv
  have w:Walk J ys.length G Y:=w
  have evw:=ev1.wipe vs
  let Z':Wd:=fun a=>Z a ∨ a=D0
  let Pv:Nat→Hp→Prop:=fun i H=>∃ (ρ:List Addr) (S:Sto) (acc:List D) (xs:List V),Sta X.K Z' ρ S H∧ρ1 <+: ρ∧(∀ a o,a ∉ ρ1→H1 a=some o→a ∉ ρ∧H a=some o)∧(∀ a ob u,H1 a=some (.frz ob u)→H a=some (.frz ob u))∧H D0=some (.lst xs)∧AVs X.K (Wn Z' ρ) H acc xs ∧
    EvOk X.K (Wn Z' ρ) ρ H (W6 e vs) (wipe σ vs)∧Z23 X.K Z ρ1 H1 Wx σ Q ((lcL t l mt me (W6 e vs) (ys.drop i) S).bind fun ds S'=>Z5v (acc++ds) S')
  have mvOf:∀ {ρ:List Addr} {S:Sto} {H:Hp},Sta X.K Z' ρ S H→(∀ a o,a ∉ ρ1→H1 a=some o→a ∉ ρ∧H a=some o)→Mv (Wn Z ρ1) H1 (Wn Z' ρ) H:=fun {ρ S H} s k a o hn hq=>by
    have h1:a ∉ ρ1:=fun z=>hn (.inr z)
    obtain ⟨h2,h3⟩:=k a o h1 hq
    refine ⟨fun z=>?_,h3⟩
    rcases z with (z | z) | z
    · exact hn (.inl z)
    · rw [z,hD] at hq; cases hq
    · exact h2 z
  have okOf:∀ {xs:List Bv.X} {S:Sto} {acc:List D},Z23 X.K Z ρ1 H1 Wx σ Q ((lcL t l mt me (W6 e vs) xs S).bind fun ds S'=>Z5v (acc++ds) S')→l.ok S=true:=fun {xs S acc} q=>by
    cases z:l.ok S with
    | true=>rfl
    | false=>cases xs <;> (simp only [lcL,z] at q; exact q.elim)
  refine lc_it w Pv ?_ ?_ ?_ ?_
  ·
    have k:=V9 (o := .lst []) hD
    have s0:=st1.grow k
    have hnw:¬ Wn Z ρ1 D0:=st1.fresh hD
    have m0:Mv (Wn Z ρ1) H1 (Wn Z' ρ1) (upd H1 D0 (.lst [])):=fun a o hn hq=>⟨fun z=>by
      rcases z with (z | z) | z
      · exact hn (.inl z)
      · rw [z,hD] at hq; cases hq
      · exact hn (.inr z),k a o hq⟩
    refine ⟨ρ1,S1,[],[],⟨st1.nd,fun a z=>?_,st1.len,fun n o a e1 e2=>AO.mv m0 (List.prefix_refl _) (fun u q=>k _ _ q) (st1.ob n o a e1 e2)⟩,List.prefix_refl _,fun a o hn hq=>⟨hn,k a o hq⟩,fun a _ _ q=>k a _ q,upd_same, .nil,evw.mv m0 (List.prefix_refl _),?_⟩
    · rcases z with z | z
      · exact ⟨(st1.z a z).1,let ⟨o,q⟩:=(st1.z a z).2; ⟨o,k a o q⟩⟩
      · exact ⟨fun z2=>hnw (.inr (by rw [← z]; exact z2)),⟨_,by rw [z]; exact upd_same⟩⟩
    · rw [List.drop_zero]
      exact p1
  · rintro i H2 _ ⟨ρ2,S2,acc,xs,st2,pr2,k2,f2,d2,a2,ev2,q2⟩
    exact (sv Z' ρ2 S2 H2 st2 (mvOf st2 k2) pr2 f2 (okOf q2)).1
  · rintro i x H2 H3 hi ⟨ρ2,S2,acc,xs,st2,pr2,k2,f2,d2,a2,ev2,q2⟩ hy
    have hk:=okOf q2
    obtain ⟨k,y,e3,a⟩:=(sv Z' ρ2 S2 H2 st2 (mvOf st2 k2) pr2 f2 hk).2 i x H3 hy
    have st3:=st2.grow k
    have m23:Mv (Wn Z' ρ2) H2 (Wn Z' ρ2) H3:=Z26 k
    have ev3:=ev2.mv m23 (List.prefix_refl _)
    rw [Z5u e3] at q2
    simp only [lcL,hk,if_true] at q2
    cases q4:t.asg S2 y (W6 e vs) with
    | none=>rw [q4] at q2; exact q2.elim
    | some e4 =>
      rw [q4] at q2
      refine ⟨Z',ρ2,W6 e vs,S2,y,e4,st3,ev3,a,q4,fun σ5 ev5 w5=>⟨?_,?_⟩⟩
      · rw [w5 vs hs,Z5i]
      have q2:Z23 X.K Z ρ1 H1 Wx σ Q (((mt e4 S2).ne.bind fun b S1=>if b then (me e4 S1).ne.bind fun y S2=>(match y with
          | .d d=>(lcL t l mt me (W6 e vs) (ys.drop (i + 1)) S2).bind fun ds S3 => .ok (d :: ds) S3
          | .r _ => .bad) else lcL t l mt me (W6 e vs) (ys.drop (i + 1)) S1).bind fun ds S'=>Z5v (acc++ds) S'):=q2
      cases q5:(mt e4 S2).ne with
      | err _ _ _=>cases q6:mt e4 S2 <;> rw [q6] at q5 <;> cases q5
      | bad=>rw [q5] at q2; exact q2.elim
      | ok b S6 =>
        rw [q5] at q2
        refine Z4l (rel:=relB) st3 ev5 q5 fun ρ6 H6 v st6 g6 ev6 r6=>?_
        cases (show b=v from r6)
        have pr6:ρ1 <+: ρ6:=pr2.trans g6.pre
        have nD:D0 ∉ ρ2:=(st2.z D0 (.inr rfl)).1
        obtain ⟨nD6,d6⟩:=g6.keep D0 _ nD (k _ _ d2)
        have k6:∀ a o,a ∉ ρ1→H1 a=some o→a ∉ ρ6∧H6 a=some o:=fun a o h1 h2=>by
          obtain ⟨h3,h4⟩:=k2 a o h1 h2
          exact g6.keep a o h3 (k _ _ h4)
        have m36:=g6.mv st3
        have ev6':EvOk X.K (Wn Z' ρ6) ρ6 H6 (W6 e vs) (wipe σ vs):=ev3.mv m36 g6.pre
        have a6:=(a2.mv m23).mv m36
        cases b with
        | false =>
          rw [if_neg Bool.false_ne_true]
          exact ⟨ρ6,S6,acc,xs,st6,pr6,k6,fun a ob u q=>g6.fz a ob u (k _ _ (f2 a ob u q)),d6,a6,ev6',q2⟩
        | true =>
          rw [if_pos rfl]
          have q2:Z23 X.K Z ρ1 H1 Wx σ Q (((me e4 S6).ne.bind fun y S2=>(match y with
            | .d d=>(lcL t l mt me (W6 e vs) (ys.drop (i + 1)) S2).bind fun ds S3 => .ok (d :: ds) S3
            | .r _ => .bad)).bind fun ds S'=>Z5v (acc++ds) S'):=q2
          cases q7:(me e4 S6).ne with
          | err _ _ _=>cases q6:me e4 S6 <;> rw [q6] at q7 <;> cases q7
          | bad=>rw [q7] at q2; exact q2.elim
          | ok z S7 =>
            rw [q7] at q2
            refine Z4l (rel:=AX X.K) st6 ev6 q7 fun ρ7 H7 v st7 g7 ev7 r7=>?_
            cases z with
            | r _=>exact q2.elim
            | d d =>
              have q2:Z23 X.K Z ρ1 H1 Wx σ Q (((lcL t l mt me (W6 e vs) (ys.drop (i + 1)) S7).bind fun ds S3 => .ok (d :: ds) S3).bind fun ds S'=>Z5v (acc++ds) S'):=q2
              rw [R.bind_assoc] at q2
              have nD6':D0 ∉ ρ6:=nD6
              obtain ⟨nD7,d7⟩:=g7.keep D0 _ nD6' d6
              have m67:=g7.mv st6
              have a7:=a6.mv m67
              have k7:∀ a o,a ∉ ρ1→H1 a=some o→a ∉ ρ7∧H7 a=some o:=fun a o h1 h2=>by
                obtain ⟨h3,h4⟩:=k6 a o h1 h2
                exact g7.keep a o h3 h4
              cases r7 with
              | d r7 =>
                have hlen:acc.length < sizeLine:=by
                  cases q8:lcL t l mt me (W6 e vs) (ys.drop (i + 1)) S7 with
                  | bad=>rw [q8] at q2; exact q2.elim
                  | err C fs S8=>exact absurd q8 Z83
                  | ok ds S8 =>
                    rw [q8] at q2
                    have q2:Z23 X.K Z ρ1 H1 Wx σ Q (if (acc++d :: ds).length ≤ sizeLine then .ok (.d (.lst (acc++d :: ds))) S8 else .bad):=q2
                    by_cases hl:(acc++d :: ds).length ≤ sizeLine
                    · rw [List.length_append,List.length_cons] at hl; omega
                    · rw [if_neg hl] at q2; exact q2.elim
                have wD:Wn Z' ρ7 D0 := .inl (.inr rfl)
                have m8:Mv (Wn Z' ρ7) H7 (Wn Z' ρ7) (upd H7 D0 (.lst (xs++[v]))):=fun a o hn hq=>⟨hn,by rw [upd_ne (fun z=>hn (by rw [z]; exact wD))]; exact hq⟩
                have neD:∀ b,b ∈ ρ7→b ≠ D0:=fun b hb z=>nD7 (by rw [← z]; exact hb)
                refine ⟨xs,d7,by rw [← a7.length]; exact hlen,ρ7,S7,acc++[d],xs++[v],⟨st7.nd,fun a z=>⟨(st7.z a z).1,?_⟩,st7.len,fun n o a e1 e2=>AO.mv m8 (List.prefix_refl _) (fun u q=>by rw [upd_ne (neD a (List.mem_of_getElem? e2))]; exact q) (st7.ob n o a e1 e2)⟩,pr6.trans g7.pre,fun a o h1 h2=>?_,fun a ob u q=>by rw [upd_ne (fun z=>by rw [z,hD] at q; cases q)]; exact g7.fz a ob u (g6.fz a ob u (k _ _ (f2 a ob u q))),upd_same,(a7.append (.cons r7 .nil)).mv m8,(ev6'.mv m67 g7.pre).mv m8 (List.prefix_refl _),?_⟩
                · by_cases hz:a=D0
                  · exact ⟨_,by rw [hz]; exact upd_same⟩
                  · obtain ⟨o,q⟩:=(st7.z a z).2
                    exact ⟨o,by rw [upd_ne hz]; exact q⟩
                · obtain ⟨h3,h4⟩:=k7 a o h1 h2
                  exact ⟨h3,by rw [upd_ne (fun z=>by rw [z,hD] at h2; cases h2)]; exact h4⟩
                · have e9:(fun (ds:List D) (S':Sto)=>Z5v (acc++[d]++ds) S')=fun ds S'=>Z5v (acc++(d :: ds)) S':=by
                    funext ds S'
                    rw [List.append_assoc]; rfl
                  show Z23 X.K Z ρ1 H1 Wx σ Q ((lcL t l mt me (W6 e vs) (ys.drop (i + 1)) S7).bind fun ds S'=>Z5v (acc++[d]++ds) S')
                  rw [e9]
                  exact q2
  · rintro H2 ⟨ρ2,S2,acc,xs,st2,pr2,k2,f2,d2,a2,ev2,q2⟩
    have hk:=okOf q2
    rw [List.drop_length] at q2
    simp only [lcL,hk,if_true] at q2
    have q2:Z23 X.K Z ρ1 H1 Wx σ Q (Z5v (acc++[]) S2):=q2
    rw [List.append_nil] at q2
    have q2:Z23 X.K Z ρ1 H1 Wx σ Q (if acc.length ≤ sizeLine then .ok (.d (.lst acc)) S2 else .bad):=q2
    by_cases hl:acc.length ≤ sizeLine
    · rw [if_pos hl] at q2
      have m:Mv (Wn Z' ρ2) H2 (Wn Z ρ2) H2:=fun a o hn hq=>⟨fun z=>hn (z.elim (fun z => .inl (.inl z)) .inr),hq⟩
      refine q2 ρ2 H2 (.ref D0) ⟨st2.nd,fun a z=>st2.z a (.inl z),st2.len,fun n o a e1 e2=>AO.mv m (List.prefix_refl _) (fun u q=>q) (st2.ob n o a e1 e2)⟩ ⟨pr2,k2,f2⟩ (.d (.lst (fun z=>?_) d2 (a2.mv m)))
      rcases z with z | z
      · exact st1.fresh hD (.inl z)
      · exact (st2.z D0 (.inr rfl)).1 z
    · rw [if_neg hl] at q2; exact q2.elim
theorem Z4h {scope:Scope} {own:List (Str × Nat)} (hc:X.calm=true) (hN:X.N.Nodup) (hi:MI X Wx tg iter mi) (ok:BlkOk X.N X.env.scope scope own) (hsl:∀ i ∈ t.slots,i ∈ own.map (·.2))
    (hg:∀ (s:Shared) (H:Hp) (C:Addr) (cl:List (Str × Addr)) (fp:List Addr),PG (X.blk s H scope (compEnvC scope cl C X.env) fp) tg (TGt X.K t)) (ht:∀ (s:Shared) (H:Hp) (C:Addr) (cl:List (Str × Addr)) (fp:List Addr),MTs (X.blk s H scope (compEnvC scope cl C X.env) fp) WX0 ifs mt)
    (he:∀ (s:Shared) (H:Hp) (C:Addr) (cl:List (Str × Addr)) (fp:List Addr),ME (X.blk s H scope (compEnvC scope cl C X.env) fp) WX0 elt me) (hs:∀ x,foldedSetIterable iter X.env x=pure x:=by intro _; rfl) :
    ME X Wx (.ListComp elt [⟨tg,iter,ifs,0⟩] scope pos) (Z3r t mi mt me (own.map (·.2))):=PE.of (pe_lc hc hN hi ok hg ht he hs) fun _ _ _ h=>X2k hsl h
theorem Z52 {i:Nat} {y:Str} {py spos:Pos} {scope:Scope} {own:List (Str × Nat)} (hc:X.calm=true) (hN:X.N.Nodup) (hy:X.N[i]?=some y) (hyl:X.env.scope.names.lookup y=some .local)
    (hsw:swapsWith (.ListComp elt [⟨tg,iter,ifs,0⟩] scope pos) (some (.Name y py)) spos.line X.env=pure true) (hi:MI X Wx tg iter mi) (ok:BlkOk X.N X.env.scope scope own) (hsl:∀ i ∈ t.slots,i ∈ own.map (·.2))
    (hg:∀ (s:Shared) (H:Hp) (C:Addr) (cl:List (Str × Addr)) (fp:List Addr),PG (X.blk s H scope (compEnvC scope cl C X.env) fp) tg (TGt X.K t)) (ht:∀ (s:Shared) (H:Hp) (C:Addr) (cl:List (Str × Addr)) (fp:List Addr),MTs (X.blk s H scope (compEnvC scope cl C X.env) fp) WX0 ifs mt)
    (he:∀ (s:Shared) (H:Hp) (C:Addr) (cl:List (Str × Addr)) (fp:List Addr),ME (X.blk s H scope (compEnvC scope cl C X.env) fp) WX0 elt me) (hs:∀ x,foldedSetIterable iter X.env x=pure x:=by intro _; rfl) :
    MP X Wx (.Assign [.Name y py] (.ListComp elt [⟨tg,iter,ifs,0⟩] scope pos) spos) (W3 i (Z3r t mi mt me (own.map (·.2)))):=PS.of (ps_setLc hc hN hy hyl hsw hi ok hg ht he hs) fun D σ H ⟨Z,ρ,e,S,st,ev,p⟩=>by
  refine X2k (mt:=mt) (me:=me) (t:=t) hsl ?_
  exact Z0h (rel:=AX X.K) st ev p fun ρ1 H1 v x S1 st1 g1 ev1 a1 p1=>p1.next st1 (ev1.set a1)
end
end Bv
namespace Bv
open PySem PySem.Spec L2
open PyProof.Rows hiding St
variable [HasW]
def W7q (K:PySem.W.Frag) (t:TE):TI:=fun σ H R=>t σ H fun x H1 =>
  (∃ a,x = .ref a∧(((∃ xs,SqL K H1 a xs)∧R (Itl K a) H1) ∨ ((∃ xs,SqT K H1 a xs)∧R (Itt K a) H1))) ∨ ∃ z,x = .str z∧R (Its z) H1
theorem W3d {X:Cx} {tg e:Expr} {t:TE} (he:PE X e t):PI X tg e (W7q X.K t):=⟨fun pins s σ H R I h=>thn (he.run pins s σ H _ I h) fun v s1 ⟨x,H1,I1,r1,q1⟩=>by
  rcases q1 with ⟨a,rfl,⟨⟨xs,hq⟩,q⟩ | ⟨⟨xs,hq⟩,q⟩⟩ | ⟨z,rfl,q⟩
  · cases r1
    obtain ⟨its,_,p,_⟩:=I1.list hq
    exact wpAny_pyIter_list p.isList (pi_one (tk:=s1.toks) I1 _ (turn_list a _) ⟨_,Heap.get?_push_size _ rfl,rfl,rfl⟩ q)
  · cases r1
    obtain ⟨its,_,p,_⟩:=I1.tuple hq
    exact wpAny_pyIter_tuple (show s1.heap.IsTuple a its.toArray from p) (pi_one (tk:=s1.toks) I1 _ (turn_tuple a _) ⟨_,Heap.get?_push_size _ rfl,rfl,rfl⟩ q)
  · obtain ⟨t,rfl⟩:=r1
    cases hz:z.cps.all (· < 128) with
    | false=>exact wpAny_pyIter_wide hz (pi_one (tk:=s1.toks) I1 _ (turn_str _ z t "str_iterator" (.inr rfl)) ⟨_,Heap.get?_push_size _ rfl,rfl,rfl⟩ q)
    | true=>exact wpAny_pyIter_ascii hz (pi_one (tk:=s1.toks) I1 _ (turn_str _ z t "str_ascii_iterator" (.inl rfl)) ⟨_,Heap.get?_push_size _ rfl,rfl,rfl⟩ q)⟩
def Z9j (S:Sto):X→Option (List X × Lk)
  | .d (.lst ds)=>some (ds.map .d, .free)
  | .d (.tup ds)=>some (ds.map .d, .free)
  | .d (.scr ns)=>some (ns.map fun i => .d (.int i), .free)
  | .d (.str z)=>some (z.cps.toList.map fun c => .d (.str ⟨#[c]⟩), .free)
  | .d _=>none
  | .r n=>match S[n]? with
    | some (.lst xs)=>some (xs, .lst n xs)
    | _=>none
def Z0c (m:M):MIt:=fun e S=>(m e S).bind fun x S1=>Z4r (Z9j S1 x) S1
theorem X08 {K:PySem.W.Frag} {a:Addr} (n:Nat):Walk (Itl K a) n (fun H=>∃ xs,xs.length=n∧SqL K H a xs) (fun i H x H'=>H'=H∧∀ xs,SqL K H a xs→xs[i]?=some x) :=
  ⟨fun i _ hi ⟨xs,e,q⟩=>⟨xs,xs[i]'(by omega),q,by simp [show i < xs.length by omega]⟩,fun _ ⟨xs,e,q⟩=>⟨xs,q,by omega⟩,fun _ _ _ _ _ _ y=>y⟩
theorem Same.rfl' {H:Hp}:Same H H:=fun _ _ q=>q
theorem Y4a {α β:Type} {F:α→β→Prop}:∀ {l:List α} {r:List β} {j:Nat} {b:β},Paired F l r→r[j]?=some b→∃ a,l[j]?=some a∧F a b
  | _,_,_,_, .nil,z=>by simp at z
  | _,_,0,_, .cons h _,z=>by simp at z; subst z; exact ⟨_,rfl,h⟩
  | _,_,j + 1,_, .cons _ t,z=>by
    obtain ⟨a,h1,h2⟩:=Y4a (j:=j) t (by simpa using z)
    exact ⟨a,by simpa using h1,h2⟩
theorem AVs.at_ {K:PySem.W.Frag} {W:Wd} {H:Hp} {ds:List D} {vs:List V} {i:Nat} {v:V} (h:AVs K W H ds vs) (e:vs[i]?=some v):∃ d,ds[i]?=some d∧AV K W H d v:=by
  have hl:=h.length
  obtain ⟨h1,h2⟩:=List.getElem?_eq_some_iff.mp e
  have hd:ds[i]?=some (ds[i]'(by omega)):=List.getElem?_eq_getElem _
  obtain ⟨u,h3,h4⟩:=h.get hd
  rw [e] at h3
  cases h3
  exact ⟨_,hd,h4⟩
theorem Y3b {K:PySem.W.Frag} {W:Wd} {H:Hp}:∀ ns:List Int,AVs K W H (ns.map D.int) (ns.map V.int)
  | [] => .nil
  | i :: r => .cons (.int i) (Y3b r)
section
variable {X:Cx} {Wx:WX} {pos p:Pos} {tg e a b:Expr} {es:List Expr} {m:M} {ms:MG (List Bv.X)}
theorem Y9x {K:PySem.W.Frag} {W:Wd} {ρ:List Addr} {H:Hp} {a:Addr} {xs:List V} {ds:List D} (r:Lp K W H a xs) (hs:AVs K W H ds xs):Srv K W ρ H (ds.map .d, .free) (Itl K a) :=
  ⟨fun H=>SqL K H a xs,YAt xs,by rw [show (ds.map Bv.X.d,Lk.free).1.length=xs.length by simpa using hs.length]; exact walk_list,fun Z2 ρ2 S2 H2 st m p fz k=>⟨(m.lp r).sl,fun i x H3 y=>by
    obtain ⟨rfl,y⟩:=y
    obtain ⟨d,h1,h2⟩:=(hs.mv m).at_ y
    exact ⟨Same.rfl', .d d,by simp [h1], .d h2⟩⟩⟩
theorem Z0i (h:ME X Wx e m):MI X Wx tg e (Z0c m):=PI.of (W3d h) fun σ H R ⟨Z,ρ,e,S,st,ev,p⟩=>X5 st ev p fun ρ1 H1 v x S1 st1 g1 ev1 a1 p1=>by
  obtain ⟨w,hw,p2⟩:=p1.opt
  have fin:∀ J,Srv X.K (Wn Z ρ1) ρ1 H1 w J→R J H1:=fun J h=>X6.ret0 p2 st1 h
  cases a1 with
  | d a =>
    cases a with
    | lst w r hs=>cases hw; exact .inl ⟨_,rfl, .inl ⟨⟨_, .inl (.inl r)⟩,fin _ (Y9x (.inl ⟨w, .inl r⟩) hs)⟩⟩
    | scr r =>
      rename_i q ns
      cases hw
      refine .inl ⟨_,rfl, .inl ⟨⟨_,r.sl⟩,fin _ ?_⟩⟩
      have hs:AVs X.K (Wn Z ρ1) H1 (ns.map D.int) (ns.map V.int):=Y3b ns
      have e1:(ns.map D.int).map Bv.X.d=ns.map fun i=>Bv.X.d (.int i):=by simp
      rw [← e1]
      exact Y9x r hs
    | tup t hs =>
      rename_i q us ds
      cases hw
      refine .inl ⟨_,rfl, .inr ⟨⟨_,t.sq⟩,fin _ ⟨_,_,by rw [show (ds.map Bv.X.d,Lk.free).1.length=us.length by simpa using hs.length]; exact walk_tup,fun Z2 ρ2 S2 H2 st m p fz k=>⟨(m.tp t).sq,fun i x H3 y=>?_⟩⟩⟩⟩
      obtain ⟨rfl,y⟩:=y
      obtain ⟨d,h1,h2⟩:=(hs.mv m).at_ y
      exact ⟨Same.rfl', .d d,by simp [h1], .d h2⟩
    | str hz =>
      rename_i z
      cases hw
      refine .inr ⟨_,rfl,fin _ ⟨_,_,by rw [show (z.cps.toList.map fun c=>Bv.X.d (.str ⟨#[c]⟩),Lk.free).1.length=z.cps.size by simp]; exact walk_str,fun Z2 ρ2 S2 H2 st m p fz k=>⟨trivial,fun i x H3 y=>?_⟩⟩⟩
      obtain ⟨rfl,c,hc,rfl⟩:=y
      have hm:c ∈ z.cps.toList:=by
        have:=Array.mem_of_getElem? hc
        simpa using this
      have hc':=Y1p hz hm
      refine ⟨Same.rfl', .d (.str ⟨#[c]⟩),by simp [hc], .d (.str (Z99 fun c' m=>?_))⟩
      have:c'=c:=by simpa using m
      rw [this]; exact hc'
    | _=>cases hw
  | r h =>
    rename_i n a
    have hw:(match S1[n]? with
      | some (.lst xs)=>some (xs,Lk.lst n xs)
      | _=>none)=some w:=hw
    cases q:S1[n]? with
    | none=>rw [q] at hw; cases hw
    | some o =>
      rw [q] at hw
      cases o with
      | lst xs =>
        cases hw
        obtain ⟨vs,h1,h2⟩:=st1.ob n _ _ q h
        refine .inl ⟨_,rfl, .inl ⟨⟨_, .inl (.inl h1)⟩,fin _ ⟨_,_,X08 xs.length,fun Z2 ρ2 S2 H2 st m p fz k=>?_⟩⟩⟩
        have k:(match S2[n]? with
          | some (.lst zs)=>decide (zs=xs)
          | _=>false)=true:=k
        cases q2:S2[n]? with
        | none=>rw [q2] at k; cases k
        | some o2 =>
          rw [q2] at k
          cases o2 with
          | lst zs =>
            have k:zs=xs:=of_decide_eq_true k
            subst k
            have h':ρ2[n]?=some a:=by
              obtain ⟨t,rfl⟩:=p
              rw [List.getElem?_append_left (List.getElem?_eq_some_iff.mp h).1]; exact h
            obtain ⟨us,h3,h4⟩:=st.ob n _ _ q2 h'
            refine ⟨⟨us,(Paired.length h4).symm, .inl (.inl h3)⟩,fun i x H3 y=>?_⟩
            obtain ⟨rfl,y⟩:=y
            obtain ⟨b,h5,h6⟩:=Y4a h4 (y us (.inl (.inl h3)))
            exact ⟨Same.rfl',b,h5,h6⟩
          | _=>cases k
      | _=>cases hw
def Y23 (j:Int):Bool:=decide (-(2 ^ 62) ≤ j∧j < 2 ^ 62)
def upTo (lo:Int) (n:Nat):List Bv.X:=(List.range n).map fun (i:Nat)=>Bv.X.d (.int (lo + i))
def ints?:List Bv.X→Option (List Int)
  | []=>some []
  | x :: r=>match Y5g x,ints? r with
    | some i,some l=>some (i :: l)
    | _,_=>none
theorem Z94 {K:PySem.W.Frag} {W:Wd} {ρ:List Addr} {H:Hp}:∀ {xs:List Bv.X} {vs:List V} {l:List Int},AXs K W ρ H xs vs→ints? xs=some l→vs=l.map V.int
  | _,_,_, .nil,e=>by cases e; rfl
  | x :: r,_,l, .cons h t,e=>by
    unfold ints? at e
    cases q:Y5g x with
    | none=>rw [q] at e; cases e
    | some i =>
      cases q2:ints? r with
      | none=>rw [q,q2] at e; cases e
      | some l2 =>
        rw [q,q2] at e
        cases e
        rw [h.int q,Z94 t q2]; rfl
def X51 (xs:List Bv.X):Option (List Bv.X × Lk):=match ints? xs with
  | some [j]=>if Y23 j then some (upTo 0 j.toNat, .free) else none
  | _=>none
def Y2s (ms:MG (List Bv.X)):MIt:=fun e S=>(ms e S).bind fun xs S1=>Z4r (X51 xs) S1
theorem W0r {K:PySem.W.Frag} {W:Wd} {ρ:List Addr} {H:Hp} {lo:Int} {n:Nat}:Srv K W ρ H (upTo lo n, .free) (Itr lo n) :=
  ⟨fun H=>True,fun i H x H'=>i < n∧H'=H∧x = .int (lo + i),by rw [show (upTo lo n,Lk.free).1.length=n by simp [upTo]]; exact ⟨fun _ _ hi _=>hi,fun _ _=>Nat.le_refl _,fun i _ _ _ hi _ y=>⟨hi,y.1,y.2⟩⟩,fun Z2 ρ2 S2 H2 st m p fz k=>⟨trivial,fun i x H3 y=>by
    obtain ⟨hi,rfl,rfl⟩:=y
    exact ⟨Same.rfl', .d (.int (lo + i)),by simp [upTo,hi], .d (.int _)⟩⟩⟩
theorem Y24 {j:Int} (h:Y23 j=true):-(2 ^ 62) ≤ j∧j < 2 ^ 62:=of_decide_eq_true h
theorem X9e (hg:Gl X "range") (hm:X.mg "range" = none) (ha:MA X Wx [a] ms) (hs:starEach [a] X.env=[(false,eval a X.env)]:=by rfl):MI X Wx tg (.Call (.Name "range" p) [a] [] pos) (Y2s ms):=PI.of (pi_range1 hg hm ha hs) fun σ H R ⟨Z,ρ,e,S,st,ev,p⟩=>X5 st ev p fun ρ1 H1 v xs S1 st1 g1 ev1 a1 p1=>by
  obtain ⟨w,hw,p2⟩:=p1.opt
  unfold X51 at hw
  cases q:ints? xs with
  | none=>rw [q] at hw; cases hw
  | some l =>
    rw [q] at hw
    have e1:=Z94 a1 q
    match l,hw,e1 with
    | [j],hw,e1 =>
      obtain ⟨h1,h2⟩:=Z37 hw
      cases h2
      exact ⟨j,e1,(Y24 h1).1,(Y24 h1).2,X6.ret0 p2 st1 W0r⟩
    | [],hw,_=>cases hw
    | _ :: _ :: _,hw,_=>cases hw
end
end Bv
namespace Xq
open PySem PySem.Spec PyProof.Rows L2
inductive Ch (B:Heap) (H:Hp):Value→Prop
  | nil:Ch B H .none
  | cons {b:Addr} {ob:Obj} {ws:Array Value} {v:Value} (at_:B.get? b=some ob) (da:ob.data = .fields ws) (fr:H b=none) (nx:ws[2]?=some v) (rest:Ch B H v):Ch B H (.ref b)
def Ctx (B:Heap) (H:Hp) (o:Obj):Prop:=∀ ws:Array Value,o.data = .fields ws→∃ v,ws[2]?=some v∧Ch B H v
abbrev Zq (B:Heap) (H:Hp) (cls:Value) (d:Option Addr) (o:Obj):Prop:=Zc cls d o∧Ctx B H o
theorem ctx_steady {B:Heap} {H:Hp}:PXN.Steady1 (Ctx B H):=fun o v h=>by
  obtain ⟨c,d,dt,sl⟩:=o
  cases dt with
  | fields u0 =>
    intro ws e
    cases e
    obtain ⟨v2,e2,q⟩:=h u0 rfl
    exact ⟨v2,HotX.set_other (by decide) e2,q⟩
  | _=>intro ws e; cases e
theorem zq_steady {B:Heap} {H:Hp} {cls:Value} {d:Option Addr}:PXN.Steady1 (Zq B H cls d):=PXN.steady_and (PXN.steady_and PXN.steady_cls PXN.steady_dict) ctx_steady
structure Up (X:Cx) (W:WX) (u:Value) (s':Shared) (a:Addr) (B:Heap) (sI:Shared) (pins:List (Addr × Obj)) (σ:L2.St) (H:Hp) (cls:Value) (d:Option Addr):Prop where
  isA:u = .ref a
  inv:Inv X pins σ H sI
  gr:∀ b o,sI.heap.get? b=some o→b ∉ frs X.stack→B.get? b=some o
  up:sI.heap.UpToSlots s'.heap
  sky:Sky B X.stack a (Zq B H cls d) X.env.locals s'.heap
  na:H a=none
  os:s'.os=sI.os
  ag:AllBare s'.gens
  wish:W cls d σ H
def QX (X:Cx) (W:WX) (u:Value) (s':Shared):Prop:=∃ a B sI pins σ H cls d,Up X W u s' a B sI pins σ H cls d
def Tk (X:Cx) (W:WX):Prop:=∀ u s',QX X W u s'→X.xe u s'
structure Out (P:Program) (w:World) (outer:List Env) (H:Hp) (s:Shared) (E:XK) (u:Value) (s':Shared) (a:Addr) (B:Heap) (H':Hp) (cls:Value) (d:Option Addr):Prop where
  isA:u = .ref a
  fl:HandSPX.FlyingZ B outer a (Zq B H' cls d) s'.heap
  hok:HOk P w H' B
  ub:UB (frs outer) H H' s.heap B s'.heap
  na:H' a=none
  os:s'.os=s.os
  ag:AllBare s'.gens
  wish:E cls d H'
def CQ (P:Program) (w:World):CXT:=fun outer H s E u s'=>∃ a B H' cls d,Out P w outer H s E u s' a B H' cls d
section
variable {X:Cx} {pins:List (Addr × Obj)} {σ:L2.St} {H:Hp} {sI s s':Shared} {B:Heap} {W:WX} {E:XK}
theorem of_call (I:Inv X pins σ H s) (hW:∀ cls d H',E cls d H'→W cls d σ H') {u:Value} (c:CQ X.prog X.w X.stack H s E u s'):QX X W u s':=by
  obtain ⟨a,B,H',cls,d,x⟩:=c
  let keep:Addr→Bool:=fun b=>(B.get? b).isSome || decide (b ∈ frs X.stack)
  obtain ⟨G,inG,outG⟩:=restrict s'.heap keep
  have toG:∀ b o,B.get? b=some o→G.get? b=some o:=fun b o e=>(inG b (by show ((B.get? b).isSome || _)=true; rw [e]; rfl)).trans (x.fl.1 b o e)
  have frG:∀ b,b ∈ frs X.stack→G.get? b=s'.heap.get? b:=fun b hb=>inG b (by show (_ || decide _)=true; rw [decide_eq_true hb,Bool.or_true])
  have un:Un (frs X.stack) [] H H' s.heap G:=by
    refine ⟨fun b o e n hb _=>toG b o (x.ub.keep b o e n hb),fun b o e n hb _=>?_,fun b o e n _=>x.ub.free b o e n,fun b o e _=>?_,x.ub.tups,x.ub.frzs,x.ub.tbls⟩
    · rw [frG b hb]; exact x.ub.slot b o e hb
    · by_cases hb:b ∈ frs X.stack
      · rw [frG b hb]; obtain ⟨sl,q⟩:=x.ub.slot b o e hb; exact ⟨_,q⟩
      · obtain ⟨o',q⟩:=x.ub.there b o e hb; exact ⟨o',toG b o' q⟩
  have fromG:∀ b o,G.get? b=some o→s'.heap.get? b=some o∧keep b=true:=fun b o e=>by
    cases q:keep b with
    | true=>exact ⟨(inG b q).symm.trans e,rfl⟩
    | false=>rw [outG b q] at e; cases e
  refine ⟨a,B,{ s with heap:=G,gens:=s'.gens,drawn:=s'.drawn,toks:=s'.toks },pins,σ,H',cls,d,x.isA,I.call (ch:=[]) un (x.hok.kept toG) x.ag (fun _ z=>nomatch z),fun b o e hb=>?_,Heap.UpToSlots.of_keeps fun b o e=>(fromG b o e).1, .inr (.inl x.fl),x.na,x.os,x.ag,hW _ _ _ x.wish⟩
  obtain ⟨e1,k1⟩:=fromG b o e
  rcases Bool.or_eq_true_iff.mp k1 with k2 | k2
  · obtain ⟨o2,q⟩:=Option.isSome_iff_exists.mp k2
    have z:=x.fl.1 b o2 q
    rw [e1] at z; cases z; exact q
  · exact absurd (of_decide_eq_true k2) hb
theorem born {a:Addr} {oe:Obj} {vs:Array Value} {cls:Value} {d:Option Addr} (I:Inv X pins σ H sI) (k:∀ b o,sI.heap.get? b=some o→s'.heap.get? b=some o) (hne:sI.heap.get? a=none) (he:s'.heap.get? a=some oe)
    (hz:Zc cls d oe) (hx:Ctx (PySem.W.hideAll sI.heap (frs X.stack)) H oe) (hd:oe.data = .fields vs) (h1:vs[1]?=some .none) (na:H a=none) (os:s'.os=sI.os) (ag:AllBare s'.gens) (w:W cls d σ H):QX X W (.ref a) s':=by
  have none_:(PySem.W.hideAll sI.heap (frs X.stack)).get? a=none:=by
    rcases q:(PySem.W.hideAll sI.heap (frs X.stack)).get? a with _ | o
    · rfl
    · have z:=PySem.W.of_hideAll _ q
      rw [hne] at z; cases z
  have ff:s'.heap.FunFrames (PySem.W.hideAll sI.heap (frs X.stack)) X.stack:=Heap.FunFrames.of_keeps (fun b o e _=>⟨o,k b o e,rfl⟩) (funFrames_none I.stack fun b hb=>PySem.W.hideAll_none _ hb)
  exact ⟨a,_,sI,pins,σ,H,cls,d,rfl,I,fun b o e hb=>PySem.W.hideAll_get _ e hb,Heap.UpToSlots.of_keeps k, .inl ⟨fun b o e=>k b o (PySem.W.of_hideAll _ e),none_,ff,oe,vs,he,⟨hz,hx⟩,hd,h1⟩,na,os,ag,w⟩
theorem ctx_none {cls:Value} {d:Option Addr} {oe:Obj} (hz:L2N.Zn cls d oe):Ctx B H oe:=fun ws e=>⟨.none,hz.2.2 ws e, .nil⟩
theorem QX.leave (hs:X.stack=X.env :: X.outer) (hf:X.env.frame=some X.env.locals) (hex:X.ex=[]) {E₁:Value→Shared→Prop} (hW:∀ cls d σ H,W cls d σ H→E cls d H) {u:Value} (x:QX X W u s') :
    wpAny (model X.prog X.w) X.A (leaving X.env u) (fun _ s''=>CQ X.prog X.w X.outer X.H_0 X.s_0 E u s'') E₁ s':=by
  obtain ⟨a,B,sI,pins,σ,H,cls,d,rfl,I,gr,up,sky,na,os,ag,w⟩:=x
  have frames:X.A.frames=some (X.env :: X.outer):=I.ok.frames.trans (congrArg some hs)
  have hex':∀ b,b ∉ X.ex:=fun b hb=>by rw [hex] at hb; cases hb
  have away:∀ b o,X.s_0.heap.get? b=some o→b ∉ X.fs→b ∉ frs X.stack:=fun b o e hb hm=>by
    cases List.mem_cons.mp (I.stkSub b hm) with
    | inl z =>
      have l1:=Heap.lt_size e
      have l2:=I.ok.above
      rw [z] at l1
      exact Nat.lt_irrefl _ (Nat.lt_of_lt_of_le l1 l2)
    | inr z=>exact hb z
  have ends:∀ h',HandSPX.FlyingZ B X.outer a (Zq B H cls d) h'→s'.heap.UpToSlots h'→CQ X.prog X.w X.outer X.H_0 X.s_0 E (.ref a) { s' with heap:=h' }:=fun h' fl up'=>by
    have ub:UB (frs X.outer) X.H_0 H X.s_0.heap B h':=by
      refine ⟨fun b o e n hb=>gr b o (I.base.keep b o e n hb (hex' b)) (away b o e hb),fun b o e hb=>?_,fun b o e n=>I.base.free b o e n (hex' b),fun b o e hb=>?_,I.base.tups,I.base.frzs,I.base.tbls⟩
      · obtain ⟨_,o0,e0,notF⟩:=I.ok.funs.mem hb
        obtain rfl:o0=o:=by rw [e] at e0; cases e0; rfl
        obtain ⟨l1,q1⟩:=I.base.slot b o0 e (I.ok.frf b hb) hb (hex' b)
        obtain ⟨l2,q2⟩:=up b _ q1 notF
        exact up' b _ q2 notF |>.elim fun l3 q3=>⟨l3,q3⟩
      · obtain ⟨o',q1⟩:=I.base.there b o e (hex' b)
        exact ⟨o',gr b o' q1 (away b o e hb)⟩
    exact ⟨a,B,H,cls,d,rfl,fl,I.inGround gr,ub,na,os.trans I.os,ag,hW _ _ _ _ w⟩
  rw [hs] at sky
  rcases sky with ⟨b1,b2,b3,oe,vs,b4,b5,b6,b7⟩ | fl | hd
  · exact PXN.leaving_firstZ zq_steady frames b3 hf b4 b1 b2 b6 b7 b5 ends
  · exact PXN.leaves_onZ zq_steady frames hf fl ends
  · exact HandSPX.leaves_heldZ hf hd ends
theorem tk_of (hs:X.stack=X.env :: X.outer) (hf:X.env.frame=some X.env.locals) (hex:X.ex=[]) {E₁:Value→Shared→Prop}
    (hx:X.xe=fun e s'=>wpAny (model X.prog X.w) X.A (leaving X.env e) (fun _ s''=>CQ X.prog X.w X.outer X.H_0 X.s_0 E e s'') E₁ s'):Tk X (fun cls d _ H=>E cls d H):=fun u s' x=>by
  rw [hx]
  exact QX.leave (W:=fun cls d _ H=>E cls d H) hs hf hex (fun _ _ _ _ h=>h) x
theorem passAt (tk:Tk X W) (σ:L2.St):PassesAt (CQ X.prog X.w) X σ (WE W σ):=fun _ _ _ e s' I c=>tk e s' (of_call I (fun _ _ _ h=>h) c)
theorem tk0 {X:Cx}:Tk X (fun _ _ _ _=>False):=fun _ _ ⟨_,_,_,_,_,_,_,_,x⟩=>x.wish.elim
theorem ps_raiseQ {e:Expr} {t:L2.St→Hp→XK→Prop} {pos:Pos} (hc:X.calm=true) (tk:Tk X W) (he:L2N.PMk X e t):PS X (.Raise (some e) none pos) (fun _ σ H=>t σ H fun cls d H'=>W cls d σ H'):=by
  refine ⟨fun pins s σ H D I h=>?_⟩
  show wpAny _ _ (do standAt pos; raiseStmt X.env (some (do let v ← eval e X.env; standAt pos; pure v)) none) _ _ _
  refine wpAny_bind (wpAny_standAt (raise_made (I.ok.hd hc) (wpAny_bind (thn (he pins s σ H _ I h) fun u s1 hu=>wpAny_bind (wpAny_standAt (wpAny_pure ?_))))))
  obtain ⟨a,oe,vs,s2,H',cls,d,rfl,J,k,hne,ha,hz,hd,h1,na,os,ag,r,q⟩:=hu
  have L:=r (model X.prog X.w) s1.heap (J.kIn.keeps k)
  exact ⟨a,oe,vs,cls,rfl,ha,hz.1,hd,h1,L.1,L.2,tk _ _ (born J k hne ha hz.zc (ctx_none hz) hd h1 na os ag q)⟩
end
end Xq
namespace Xq
open PySem PySem.Spec PyProof.Rows L2
inductive Hc (h:Heap) (a:Addr):Value→Prop
  | nil:Hc h a .none
  | cons {b:Addr} {ob:Obj} {ws:Array Value} {v:Value} (ne:b ≠ a) (at_:h.get? b=some ob) (da:ob.data = .fields ws) (nx:ws[2]?=some v) (rest:Hc h a v):Hc h a (.ref b)
inductive Pth (h:Heap):Nat→Addr→Addr→Prop
  | here (b:Addr):Pth h 0 b b
  | step {c b c2:Addr} {oc:Obj} {ws:Array Value} {m:Nat}:h.get? c=some oc→oc.data = .fields ws→ws[2]?=some (.ref c2)→Pth h m c2 b→Pth h (m + 1) c b
theorem Pth.on {h:Heap} {m:Nat} {c b b2:Addr} {ob:Obj} {ws:Array Value} (p:Pth h m c b) (e:h.get? b=some ob) (d:ob.data = .fields ws) (n:ws[2]?=some (.ref b2)):Pth h (m + 1) c b2:=by
  induction p with
  | here b=>exact .step e d n (.here _)
  | step e1 d1 n1 _ ih=>exact .step e1 d1 n1 (ih e)
section
variable {prog:Program} {w:World} {A:Around} {E:Value→Shared→Prop} {s:Shared}
theorem unchain_code {R:Result→Shared→Prop} {a:Addr} {v:Value} (hc:Hc s.heap a v) :
    ∀ (A:Around) (b c:Addr) (t:Bool) (m:Nat),v = .ref b→Pth s.heap m c b→(t=true→1 ≤ m)→R (.ok (.ret .none)) s→codeAny (model prog w) A (.builtin "proto.unchain" ⟨[.ref a, .ref b, .ref c, .bool t],[]⟩) R s:=by
  induction hc with
  | nil=>intro A b c t m e; cases e
  | @cons b0 ob ws v2 ne0 e1 d1 n1 r1 ih =>
    intro A b c t m e p ht hR
    obtain rfl:b=b0:=by cases e; rfl
    refine codeAny_builtin HotX.entry_unchain ?_
    show wpAny _ _ (field (.ref b) 2 >>= _) _ _ s
    refine wpAny_bind (wpAny_field e1 d1 n1 ?_)
    cases r1 with
    | nil=>exact wpAny_pure hR
    | @cons b2 ob2 ws2 v3 ne e2 d2 n2 r2 =>
      have z1:¬ ((Value.ref b2 == Value.none)=true):=by simp
      have z2:¬ ((Value.ref b2 == Value.ref a)=true):=by simpa using ne
      show wpAny _ _ (if (Value.ref b2 == Value.none)=true then _ else _) _ _ s
      rw [if_neg z1]
      show wpAny _ _ (if (Value.ref b2 == Value.ref a)=true then _ else _) _ _ s
      rw [if_neg z2]
      show wpAny _ _ (if (Value.ref b2 == Value.ref c)=true then _ else _) _ _ s
      by_cases hs:(Value.ref b2 == Value.ref c)=true
      · rw [if_pos hs]
        exact wpAny_bind (wpAny_rule (wpAny_pure hR))
      · rw [if_neg hs]
        have p2:Pth s.heap (m + 1) c b2:=p.on e1 d1 n1
        cases t with
        | false =>
          refine wpAny_bind (wpAny_pure ?_)
          exact wpAny_pure ⟨Code.quiet_builtin _ (by decide +kernel),ih A b2 c true (m + 1) rfl p2 (fun _=>Nat.le_add_left _ _) hR⟩
        | true =>
          cases p with
          | here _=>exact absurd (ht rfl) (by decide)
          | @step _ _ c2 oc wc m2 f1 f2 f3 f4 =>
            refine wpAny_bind (wpAny_field f1 f2 f3 ?_)
            exact wpAny_pure ⟨Code.quiet_builtin _ (by decide +kernel),ih A b2 c2 false _ rfl (f4.on e1 d1 n1) (fun z=>by cases z) hR⟩
theorem raiseNew_chain {α:Type} {a x1:Addr} {oe:Obj} {ws:Array Value} {Q:α→Shared→Prop} (hh:A.handled=some (.ref x1)) (hc:Hc s.heap a (.ref x1)) (ha:s.heap.get? a=some oe) (da:oe.data = .fields ws) (hi:2 < ws.size)
    (hE:E (.ref a) { s with heap:=s.heap.update a (Obj.mapFields (·.setIfInBounds 2 (.ref x1))) }):wpAny (model prog w) A (raiseNew (.ref a):Sem α) Q E s:=by
  have hb:(Value.ref x1 != Value.ref a)=true:=by
    cases hc with
    | cons ne _ _ _ _=>exact HotX.ref_bne ne
  have un:∀ {Q':Value→Shared→Prop},Q' .none s→wpAny (model prog w) A (holding [Value.ref a] (runValue (.builtin "proto.unchain" ⟨[.ref a, .ref x1, .ref x1, .bool false],[]⟩))) Q' E s:=fun q =>
    wpAny_holding (wpAny_runValue (unchain_code hc _ x1 x1 false 0 rfl (.here _) (fun z=>by cases z) q))
  unfold raiseNew
  refine wpAny_bind (wpAny_handled ?_)
  rw [hh]
  first
  | (show wpAny _ _ (if (Value.ref x1 != Value.ref a)=true then _ else _) _ _ _
     rw [if_pos hb]
     exact wpAny_bind (un (wpAny_bind (HotX.chained ha da hi (wpAny_throw hE)))))
  | (show wpAny _ _ (if (Value.ref x1 != Value.ref a)=true then _ else _) _ _ _
     rw [if_pos hb]
     exact wpAny_bind (wpAny_bind (un (HotX.chained ha da hi (wpAny_throw hE)))))
  | (refine wpAny_bind ?_
     show wpAny _ _ (if (Value.ref x1 != Value.ref a)=true then _ else _) _ _ _
     rw [if_pos hb]
     exact wpAny_bind (un (HotX.chained ha da hi (wpAny_throw hE))))
end
inductive Cp (pn:List (Addr × Obj)):Value→Prop
  | nil:Cp pn .none
  | cons {b:Addr} {ob:Obj} {ws:Array Value} {v:Value} (mem:(b,ob) ∈ pn) (da:ob.data = .fields ws) (nx:ws[2]?=some v) (rest:Cp pn v):Cp pn (.ref b)
theorem Cp.mono {pn pn':List (Addr × Obj)} {v:Value} (c:Cp pn v) (k:∀ p ∈ pn,p ∈ pn'):Cp pn' v:=by
  induction c with
  | nil=>exact .nil
  | cons mem da nx _ ih=>exact .cons (k _ mem) da nx ih
section
variable {X:Cx} {pins:List (Addr × Obj)} {σ:L2.St} {H:Hp} {s:Shared}
theorem Cp.heap {h':Heap} {a:Addr} {v:Value} (c:Cp X.pn v) (I:Inv X pins σ H s) (ha:s.heap.get? a=none) (k:∀ b o,b ≠ a→s.heap.get? b=some o→h'.get? b=some o):Hc h' a v:=by
  induction c with
  | nil=>exact .nil
  | @cons b ob ws v mem da nx _ ih =>
    have e:=(I.pin (b,ob) (List.mem_append_left _ mem)).1
    have ne:b ≠ a:=fun z=>by
      have e':s.heap.get? b=some ob:=e
      rw [z,ha] at e'; cases e'
    exact .cons ne (k _ _ ne e) da nx ih
theorem Cp.ground {v:Value} (c:Cp X.pn v) (I:Inv X pins σ H s):Ch (PySem.W.hideAll s.heap (frs X.stack)) H v:=by
  induction c with
  | nil=>exact .nil
  | @cons b ob ws v mem da nx _ ih =>
    obtain ⟨e,fr,nl,nf,_⟩:=I.pin (b,ob) (List.mem_append_left _ mem)
    exact .cons (PySem.W.hideAll_get _ e fun z=>(List.mem_cons.mp (I.stkSub b z)).elim nl nf) da fr nx ih
end
end Xq
namespace Xq
open PySem PySem.Spec PyProof.Rows L2
structure Hot (X:Cx) (a:Addr) (cls:Value):Prop where
  hd:X.A.handled=some (.ref a)
  ch:Cp X.pn (.ref a)
  base:X.base.get? a=none
  obj:∃ (oe:Obj) (vs:Array Value),(a,oe) ∈ X.pn∧oe.cls=cls∧oe.data = .fields vs
abbrev suiteQ (X:Cx) (a:Addr) (pn:List (Addr × Obj)) (xe:Value→Shared→Prop):Cx:={ X with A:=X.A.mark (some (.ref a)),calm:=false,pn:=pn,xe:=xe }
theorem pa_suiteQ {X:Cx} {a:Addr} {pn:List (Addr × Obj)} {xe:Value→Shared→Prop} {e:List Expr} {t:TA} (h:PA (X.suite a pn) e t):PA (suiteQ X a pn xe) e t:=⟨fun pos pins s σ H Q I q=>by
  refine wpAny_mono (h.run pos pins s σ H Q (I.wish fun _ _=>False) q) (fun u s' z=>?_) fun _ _ z=>z.elim
  obtain ⟨v,H',J,r,k⟩:=z
  exact ⟨v,H',Inv.unwish (X:=suiteQ X a pn xe) (E:=fun _ _=>False) J,r,k⟩⟩
section
variable {X:Cx} {W:WX} {a:Addr} {cls0:Value}
theorem ps_raiseQF {e:Expr} {t:L2.St→Hp→XK→Prop} {i:Nat} {n:Str} {np pos:Pos} (ht:Hot X a cls0) (rz:Raises X cls0) (tk:Tk X W) (he:L2H.PMk5 X e t) (hN:X.N[i]?=some n) (hl:X.env.kindOf n=some .local) (hdb:(n == ("__debug__" : Str))=false) :
    PS X (.Raise (some e) (some (.Name n np)) pos) (fun _ σ H=>σ[i]?=some (some (.ref a))∧t σ H fun cls d H'=>W cls d σ H'):=by
  refine ⟨fun pins s σ H D I ⟨hi,h⟩=>?_⟩
  refine wpAny_Raise_from (thn (he pins s σ H _ I h) fun u s1 hu=>?_)
  obtain ⟨⟨b,oe,vs,sI,H',cls,d,rfl,J,k,hne,hb,hz,hd,h1,nb,os,ag,r,q⟩,h5⟩:=hu
  have J1:Inv X pins σ H' s1:=J.call' os (Un.kept k) (J.hok.kept k) ag (ch:=[]) (fun _ z=>nomatch z)
  have size:4 < vs.size:=h5 b oe vs rfl hb hd
  obtain ⟨m,hn,lk⟩:=J1.loc
  obtain ⟨u,ru,l⟩:=lk i n (.ref a) hN hi (.inl hl)
  obtain rfl:u=Value.ref a:=ru
  have hm:m n=some (.ref a):=by
    rcases l with ⟨_,z⟩ | ⟨z | z,_⟩
    · exact z
    · rw [hl] at z; cases z
    · rw [hl] at z; cases z
  refine wpAny_Name (wpAny_loadName_local J1.ok.kind hl hn hm ?_) hdb
  obtain ⟨oa,va,ma,ca,da⟩:=ht.obj
  have ga:=(J.pin (a,oa) (List.mem_append_left _ ma)).1
  have nab:a ≠ b:=fun z=>by
    have ga':sI.heap.get? a=some oa:=ga
    rw [z,hne] at ga'; cases ga'
  obtain ⟨r1,r2⟩:=r (model X.prog X.w) sI.heap J.kIn
  have R:RaiseAt (model X.prog X.w) sI.heap s1.heap b oe vs cls:=⟨hb,hz.1,hd,k,hne,r1,r2⟩
  obtain ⟨c1,c2⟩:=rz (model X.prog X.w) X.base I.ok.mod.kin
  have Rc:RaiseAt (model X.prog X.w) X.base s1.heap a oa va cls0:=⟨k _ _ ga,ca,da,J1.bk,ht.base,c1,c2⟩
  refine raise_from_tree R size (.inr ⟨a,oa,va,cls0,rfl,X.base,Rc⟩) ?_
  let h2:Heap:=(s1.heap.update b (Obj.mapFields (·.setIfInBounds 3 (.ref a)))).update b (Obj.mapFields (·.setIfInBounds 4 (.bool true)))
  have d3:=Obj.data_mapFields hd (·.setIfInBounds 3 (.ref a))
  have g3:=Heap.get?_update_self (Obj.mapFields (·.setIfInBounds 3 (.ref a))) hb (Obj.isFreed_of_fields d3)
  have d4:=Obj.data_mapFields d3 (·.setIfInBounds 4 (.bool true))
  have g4:h2.get? b=_:=Heap.get?_update_self (Obj.mapFields (·.setIfInBounds 4 (.bool true))) g3 (Obj.isFreed_of_fields d4)
  have old:∀ x o,x ≠ b→s1.heap.get? x=some o→h2.get? x=some o:=fun x o hx e=>by
    show ((s1.heap.update b _).update b _).get? x=_
    rw [Heap.get?_update_other _ _ (Ne.symm hx),Heap.get?_update_other _ _ (Ne.symm hx)]
    exact e
  have f1:((vs.setIfInBounds 3 (Value.ref a)).setIfInBounds 4 (Value.bool true))[1]?=some Value.none:=HotX.set_other (by decide) (HotX.set_other (by decide) h1)
  refine setFlight_fresh (s:={ s1 with heap:=h2 }) g4 d4 f1 ?_
  have big:2 < ((vs.setIfInBounds 3 (Value.ref a)).setIfInBounds 4 (Value.bool true)).size:=by rw [HotX.set_size,HotX.set_size]; omega
  refine raiseNew_chain (s:={ s1 with heap:=h2 }) ht.hd (ht.ch.heap J hne fun x o hx e=>old x o hx (k x o e)) g4 d4 big (tk _ _ ?_)
  have d5:=Obj.data_mapFields d4 (·.setIfInBounds 2 (.ref a))
  refine born J (fun x o e=>?_) hne (Heap.get?_update_self _ g4 (Obj.isFreed_of_fields d5)) ⟨?_,?_⟩ (fun ws e=>?_) d5 (HotX.set_other (by decide) f1) nb os ag q
  · have hx:x ≠ b:=fun z=>by rw [z,hne] at e; cases e
    show (h2.update b _).get? x=some o
    rw [Heap.get?_update_other _ _ (Ne.symm hx)]
    exact old x o hx (k x o e)
  · rw [Obj.cls_mapFields,Obj.cls_mapFields,Obj.cls_mapFields]; exact hz.1
  · rw [HandSPX.dict_mapFields,HandSPX.dict_mapFields,HandSPX.dict_mapFields]; exact hz.2.1
  · rw [d5] at e
    cases e
    refine ⟨.ref a,?_,ht.ch.ground J⟩
    first
      | exact Array.getElem?_setIfInBounds_self_of_lt big
      | simp [Array.getElem?_setIfInBounds,big]
end
end Xq
namespace Xq
open PySem PySem.Spec PyProof.Rows L2
theorem funFrames_to {h h' B:Heap} (k:∀ b o,h.get? b=some o→(∀ vs,o.data ≠ .fields vs)→∃ o',h'.get? b=some o'∧∀ vs,o'.data ≠ .fields vs):∀ {l:List Env},h.FunFrames B l→h'.FunFrames B l
  | [],_=>trivial
  | _ :: _,⟨x1,⟨L,o,x2,x3,x4,x5⟩,x6⟩=>by
    obtain ⟨o',y1,y2⟩:=k L o x4 x5
    exact ⟨x1,⟨L,o',x2,x3,y1,y2⟩,funFrames_to k x6⟩
section
variable {X:Cx} {pins:List (Addr × Obj)} {σ:L2.St} {H:Hp} {sI s:Shared} {B:Heap} {a:Addr} {Z:Obj→Prop} {i:Nat} {n:Str} {pos:Pos}
def Gone (X:Cx) (pins:List (Addr × Obj)) (σ:L2.St) (H:Hp) (B:Heap) (a:Addr) (Z:Obj→Prop) (s':Shared):Prop :=
  ∃ sI',Inv X pins σ H sI'∧(∀ b o,sI'.heap.get? b=some o→b ∉ frs X.stack→B.get? b=some o)∧sI'.heap.UpToSlots s'.heap∧HandSPX.HeldZ B X.stack a Z X.env.locals s'.heap∧s'.os=sI'.os∧AllBare s'.gens
theorem gone_held {M:Model} {A:Around} {E:Value→Shared→Prop} {Q:Unit→Shared→Prop} (hs:X.stack=X.env :: X.outer) (hf:X.env.frame=some X.env.locals) (hN:X.N.Nodup) (hi:X.N[i]?=some n) (hl:X.env.kindOf n=some .local)
    (I:Inv X pins σ H sI) (gr:∀ b o,sI.heap.get? b=some o→b ∉ frs X.stack→B.get? b=some o) (up:sI.heap.UpToSlots s.heap) (hd:HandSPX.HeldZ B X.stack a Z X.env.locals s.heap) (os:s.os=sI.os) (ag:AllBare s.gens)
    (h:∀ s',Gone X pins (σ.set i none) H B a Z s'→Q () s'):wpAny M A (do bindName X.env n .none; unbindBehindTheSuite X.env n pos) Q E s:=by
  have J:Inv X pins σ H s:=I.landed gr hd.1 up os ag
  obtain ⟨m,hn,lk⟩:=id J.loc
  have cls:(X.env.scope.kind == .class || (X.env.scope.kind == .module && X.env.locals != X.env.globals))=false:=by rw [I.ok.kind]; rfl
  refine wpAny_nameGoes_keeps hl hn cls fun h' v hn' same=>h _ ?_
  have inL:X.env.locals ∈ frs X.stack:=by rw [hs]; exact List.mem_filterMap.mpr ⟨X.env,List.mem_cons_self,hf⟩
  obtain ⟨b1,b2,b3,b4⟩:=hd
  have sb:∀ b,b ≠ X.env.locals→h'.get? b=s.heap.get? b:=same.2
  obtain ⟨G,inG,outG⟩:=restrict h' fun b=>(sI.heap.get? b).isSome
  have atG:∀ b o,sI.heap.get? b=some o→G.get? b=h'.get? b:=fun b o e=>inG b (by rw [e]; rfl)
  have fromG:∀ b o,G.get? b=some o→h'.get? b=some o∧∃ o2,sI.heap.get? b=some o2:=fun b o e=>by
    cases q:sI.heap.get? b with
    | none=>rw [outG b (by rw [q]; rfl)] at e; cases e
    | some o2=>exact ⟨(atG b o2 q).symm.trans e,o2,rfl⟩
  have firm:∀ b o,sI.heap.get? b=some o→b ∉ frs X.stack→G.get? b=some o:=fun b o e hb=>by
    rw [atG b o e,sb b fun z=>hb (z ▸ inL)]
    exact b1 b o (gr b o e hb)
  have loose:∀ b o,sI.heap.get? b=some o→(∀ vs,o.data ≠ .fields vs)→b ≠ X.env.locals→∃ sl,G.get? b=some { o with slots:=sl }:=fun b o e nf hb=>by
    rw [atG b o e,sb b hb]
    exact up b o e nf
  have frNF:∀ b ∈ frs X.stack,∀ o,sI.heap.get? b=some o→∀ vs,o.data ≠ .fields vs:=fun b hb o e=>by
    obtain ⟨_,o2,e2,q⟩:=I.stack.mem hb
    rw [e] at e2; cases e2; exact q
  have there:∀ b o,sI.heap.get? b=some o→b ≠ X.env.locals→∃ o',G.get? b=some o':=fun b o e hb=>by
    by_cases hm:b ∈ frs X.stack
    · obtain ⟨sl,q⟩:=loose b o e (frNF b hm o e) hb; exact ⟨_,q⟩
    · exact ⟨o,firm b o e hm⟩
  have below:∀ b o,X.s_0.heap.get? b=some o→b ≠ X.env.locals:=fun b o e=>Nat.ne_of_lt (Nat.lt_of_lt_of_le (Heap.lt_size e) I.ok.above)
  have out:∀ b,b ≠ X.env.locals→b ∉ X.fs→b ∉ frs X.stack:=fun b x y z=>(List.mem_cons.mp (I.stkSub b z)).elim x y
  have gL:G.get? X.env.locals=h'.get? X.env.locals:=by
    obtain ⟨_,⟨oL,_,_,eL,_⟩,_⟩:=id I.loc
    exact atG _ oL eL
  have cellG:∀ y c u,X.env.cells.lookup y=some c→s.heap.IsCell c u→G.IsCell c u:=fun y c u e z=>by
    obtain ⟨_,oc,ec,_⟩:=I.cell y c e
    obtain ⟨o2,e2,d2⟩:=z.sameBut same (I.cne y c e)
    exact ⟨o2,(atG c oc ec).trans e2,d2⟩
  have J':Inv X pins (σ.set i none) H { sI with heap:=G }:=by
    refine ⟨I.ok,I.os,I.bare,⟨fun b o e n hb hx=>firm b o (I.base.keep b o e n hb hx) (out b (below b o e) hb),fun b o e n hb hx=>?_,I.base.free,fun b o e hx=>?_,I.base.tups,I.base.frzs,I.base.tbls⟩,⟨_,hn'.at fun o e=>gL.trans e,fun j y u e1 e2 e3=>?_⟩,fun y c e=>?_,I.free,I.freeC,fun p hp=>?_,fun b ob e=>?_,by rw [List.length_set]; exact I.len⟩
    · obtain ⟨_,o2,e2,nf⟩:=I.ok.funs.mem hb
      rw [e] at e2; cases e2
      obtain ⟨l1,q1⟩:=I.base.slot b o e n hb hx
      obtain ⟨l2,q2⟩:=loose b _ q1 nf (below b o e)
      exact ⟨l2,q2⟩
    · obtain ⟨o2,q⟩:=I.base.there b o e hx
      exact there b o2 q (below b o e)
    · by_cases hj:j=i
      · rw [hj] at e2
        by_cases hlt:i < σ.length
        · rw [List.getElem?_set_self hlt] at e2; cases e2
        · rw [List.getElem?_eq_none (by rw [List.length_set]; omega)] at e2; cases e2
      · rw [List.getElem?_set_ne (Ne.symm hj)] at e2
        obtain ⟨u',r,q⟩:=lk j y u e1 e2 e3
        have yn:y ≠ n:=fun w=>hj (nodup_ix hN e1 (w ▸ hi))
        refine ⟨u',r,q.imp (fun z=>⟨z.1,(if_neg yn).trans z.2⟩) fun z=>⟨z.1,?_⟩⟩
        obtain ⟨c,ec,hcell⟩:=z.2
        exact ⟨c,ec,cellG y c _ ec hcell⟩
    · obtain ⟨u,z⟩:=J.cell y c e
      exact ⟨u,cellG y c u e z⟩
    · obtain ⟨x1,x2,x3,x4,x5⟩:=I.pin p hp
      exact ⟨firm _ _ x1 (out _ x3 x4),x2,x3,x4,x5⟩
    · refine (I.hok b ob e).stay (fun c u hc r=>firm c u r fun hm=>?_) (fun _ q=>q) fun _ _ q=>q
      have z:=I.stkFree c hm
      rcases hc with hc | hc
      · rw [hc,e] at z; cases z
      · rw [hc] at z; cases z
  refine ⟨{ sI with heap:=G },J',fun b o e hb=>?_,Heap.UpToSlots.of_keeps fun b o e=>(fromG b o e).1,⟨fun b o e=>?_,b2,funFrames_to (fun b o e nf=>?_) b3,?_⟩,os,ag⟩
  · obtain ⟨e1,o2,e2⟩:=fromG b o e
    have q:=gr b o2 e2 hb
    rw [sb b fun z=>hb (z ▸ inL),b1 b o2 q] at e1
    cases e1; exact q
  · have ne:b ≠ X.env.locals:=fun z=>by
      obtain ⟨q,_⟩:=b3.mem inL
      rw [← z,e] at q; cases q
    exact (sb b ne).trans (b1 b o e)
  · by_cases hb:b=X.env.locals
    · obtain ⟨o2,es,ep,e2,d2,_⟩:=hn'
      rw [hb]
      exact ⟨o2,e2,fun vs z=>by rw [d2] at z; cases z⟩
    · exact ⟨o,(sb b hb).trans e,nf⟩
  · obtain ⟨oe,vs,T,oT,ts,x1,x2,x3,x4,x5,x6,x7,x8,x9⟩:=b4
    obtain ⟨oL,es,ep,eL,dL,_⟩:=hn
    have notL:∀ {x o ws},s.heap.get? x=some o→o.data = .fields ws→x ≠ X.env.locals:=fun {x o ws} e d z=>by
      rw [z,eL] at e; cases e; rw [dL] at d; cases d
    exact ⟨oe,vs,T,oT,ts,(sb a (notL x1 x3)).trans x1,x2,x3,x4,x5,x6,(sb T (notL x7 x8)).trans x7,x8,x9⟩
end
end Xq
namespace Xq
open PySem PySem.Spec PyProof.Rows L2
theorem Ch.pins {B h:Heap} {H:Hp} {v:Value} (st:B.StaysIn h) (c:Ch B H v):∃ l:List (Addr × Obj),Cp l v∧∀ p ∈ l,h.get? p.1=some p.2∧H p.1=none∧(∃ o,B.get? p.1=some o)∧∀ u,p.2.data ≠ .cell u:=by
  induction c with
  | nil=>exact ⟨[], .nil,fun p hp=>by cases hp⟩
  | @cons b ob ws v at_ da fr nx _ ih =>
    obtain ⟨l,h1,h2⟩:=ih
    refine ⟨(b,ob) :: l, .cons List.mem_cons_self da nx (h1.mono fun p hp=>List.mem_cons_of_mem _ hp),fun p hp=>?_⟩
    rcases List.mem_cons.mp hp with e | hp
    · subst e
      exact ⟨st b ob at_,fr,⟨ob,at_⟩,fun u z=>by have z':ob.data = .cell u:=z; rw [da] at z'; cases z'⟩
    · exact h2 p hp
section
variable {X:Cx} {x n:Str} {c:Value} {i:Nat} {body suite:List Stmt} {b₀:Stmt} {np pos pos':Pos} {tb:WX→TS} {ts:Addr→Value→Option Addr→TS} {Wout:WX}
theorem noted {M:Model} {A:Around} {E₁:Value→Shared→Prop} {s:Shared} {B:Heap} {env:Env} {outer:List Env} {L a:Addr} {Z:Obj→Prop} {Q:Unit→Shared→Prop} (hZ:PXN.Steady1 Z) (hfr:A.frames=some (env :: outer)) (hf:env.frame=some L)
    (k:Sky B (env :: outer) a Z L s.heap) (hQ:∀ h',HandSPX.HeldZ B (env :: outer) a Z L h'→s.heap.UpToSlots h'→Q () { s with heap:=h' }):wpAny M A (noteFrame (.ref a) env) Q E₁ s:=by
  rcases k with ⟨y1,y2,y3,oe,vs,y4,y5,y6,y7⟩ | fl | hh
  · exact PXN.look_newZ hZ hfr y3 hf y4 y1 y2 y6 y7 y5 hQ
  · exact PXN.looks_onZ hZ hfr hf fl hQ
  · exact HandSPX.againZ hf hh.2.2.2 (hQ s.heap hh (Heap.UpToSlots.refl _))
theorem on_from {M:Model} {A:Around} {s:Shared} {B:Heap} {env:Env} {l:List Env} {L a:Addr} {Z:Obj→Prop} {fl:Value} {what:String} {Q:Flow→Shared→Prop} {E:Value→Shared→Prop} (hf:env.frame=some L)
    (b1:B.StaysIn s.heap) (b2:B.get? a=none) (b3:s.heap.FunFrames B l) (b4:HandSPX.TracedZ s.heap B a Z fl) (hE:∀ h',HandSPX.HeldZ B l a Z L h'→s.heap.UpToSlots h'→E (.ref a) { s with heap:=h' }):wpAny M A (passOn what (.ref a) env:Sem Flow) Q E s:=by
  obtain ⟨oe,vs,T,oT,ws,he,hz,hd,h1,hr⟩:=id b4
  unfold PySem.passOn
  refine wpAny_bind (wpAny_field he hd h1 ?_)
  rw [if_neg (show ¬ ((Value.ref T == Value.none)=true) from by simp)]
  have fin:wpAny M A (setFlight (.ref a) env.frame) (fun _ s4=>wpAny M A (throw (.ref a):Sem Flow) Q E s4) E s:=by
    rw [hf]
    exact HandSPX.setFlight_anyZ b1 b3 b4 fun h' k1 k2 k3 k4=>wpAny_throw (hE h' ⟨k1,b2,k2,k3⟩ k4)
  first
    | exact wpAny_bind (wpAny_pure (wpAny_bind fin))
    | exact wpAny_bind fin
theorem ps_try_asQ (hs:X.stack=X.env :: X.outer) (hf:X.env.frame=some X.env.locals) (hN:X.N.Nodup) (hi:X.N[i]?=some n) (hln:X.env.kindOf n=some .local) (hc:Names X x c)
    (hpa:∀ hd:Option Value,PassesOwnAt (model X.prog X.w) (X.A.mark hd) X.A X.env X.xe) (tk:Tk X Wout)
    (hb:∀ (W:WX) (pn:List (Addr × Obj)) (xe:Value→Shared→Prop),Tk (X.tr pn xe) W→PassesOwn (model X.prog X.w) X.A X.env xe→PSs (X.tr pn xe) body (tb W))
    (hsu:∀ (a:Addr) (oe:Obj) (cls:Value) (d:Option Addr) (pn:List (Addr × Obj)) (xe:Value→Shared→Prop),Zc cls d oe→(∃ vs,oe.data = .fields vs)→Hot (suiteQ X a ((a,oe) :: pn) xe) a cls →
      Tk (suiteQ X a ((a,oe) :: pn) xe) (fun cls d σ H=>Wout cls d (σ.set i none) H)→PSs (suiteQ X a ((a,oe) :: pn) xe) (b₀ :: suite) (ts a cls d)) :
    PS X (.Try body [.ExceptHandler (some (.Name x np)) (some n) (b₀ :: suite) pos'] [] [] pos) (fun D σ H=>tb (wAs X.K c i ts Wout D) D σ H):=by
  refine ⟨fun pins s σ H D I h=>?_⟩
  have ok:=I.ok
  have frames:X.A.frames=some (X.env :: X.outer):=ok.frames.trans (congrArg some hs)
  have loc:Loc X.env.scope n := .inl hln
  refine wpAny_Try_except ?_
  let xeB:Value→Shared→Prop:=fun e s₁=>wpAny (model X.prog X.w) X.A (noteFrame e X.env) (fun _ s₂=>wpAny (model X.prog X.w) X.A (setFlight e none) (fun _ s₃ =>
    wpAny (model X.prog X.w) X.A (handleBy e X.env [.ExceptHandler (some (.Name x np)) (some n) (b₀ :: suite) pos']) (SP X pins D) X.xe s₃) X.xe s₂) X.xe s₁
  refine wpAny_mono ((hb (wAs X.K c i ts Wout D) (X.pn++pins) xeB (fun u s' up0=>?_) PassesOwn.looking).run [] s σ H D (I.toTry _) h) (fun f s1 hsp=>?_) (fun e s1 he=>he)
  · obtain ⟨a,B,sI,pins',σ1,H1,cls,d,rfl,J0,gr,up,sky0,na,os,ag,b,hb1,hyes,hno⟩:=up0
    have J:Inv X pins σ1 H1 sI:=J0.ofTry ok
    have sky:Sky B (X.env :: X.outer) a (Zq B H1 cls d) X.env.locals s'.heap:=by rw [← hs]; exact sky0
    show wpAny (model X.prog X.w) X.A (noteFrame (.ref a) X.env) _ _ _
    refine L2N.Sky.land zq_steady frames hf sky fun h3 fl3 up3=>?_
    have X41:∀ h4,HandSPX.FlyingZ B (X.env :: X.outer) a (Zq B H1 cls d) h4→s'.heap.UpToSlots h4→∀ (xe:Value→Shared→Prop),∃ oe pn,(∀ p ∈ X.pn++pins,p ∈ pn)∧Zq B H1 cls d oe∧(∃ vs,oe.data = .fields vs)∧h4.get? a=some oe∧Inv (suiteQ X a ((a,oe) :: pn) xe) [] σ1 H1 { s' with heap:=h4 }∧Hot (suiteQ X a ((a,oe) :: pn) xe) a cls:=by
      intro h4 fl4 up4 xe
      have J4:Inv X pins σ1 H1 { s' with heap:=h4 }:=J.landed gr fl4.1 (up.trans up4) os ag
      obtain ⟨oe,vs,he,hz,hd⟩:=fl4.there
      obtain ⟨v,hv,cv⟩:=hz.2 vs hd
      obtain ⟨l,cl,hl⟩:=cv.pins fl4.1
      have notFr:∀ b,b ∈ frs (X.env :: X.outer)→B.get? b=none:=fun b hb=>(fl4.2.2.1.mem hb).1
      have aFr:a ∉ frs (X.env :: X.outer):=fun hm=>by
        obtain ⟨_,o2,e2,q⟩:=fl4.2.2.1.mem hm
        rw [he] at e2; cases e2
        exact q _ hd
      have isL:X.env.locals ∈ frs (X.env :: X.outer):=List.mem_filterMap.mpr ⟨X.env,List.mem_cons_self,hf⟩
      have inF:∀ b,b ∈ X.fs→b ∈ frs (X.env :: X.outer):=fun b hb=>by
        obtain ⟨e,m,q⟩:=List.mem_filterMap.mp hb
        exact List.mem_filterMap.mpr ⟨e,List.mem_cons_of_mem _ m,q⟩
      refine ⟨oe,l++(X.pn++pins),fun p hp=>List.mem_append_right _ hp,hz,⟨vs,hd⟩,he,⟨⟨J4.ok.mod,J4.ok.kind,J4.ok.glob,J4.ok.blt,J4.ok.above,J4.ok.inj,J4.ok.has,J4.ok.cab,(fun z=>absurd (show false=true from z) Bool.false_ne_true),J4.ok.frames,J4.ok.stk,J4.ok.exf,J4.ok.bs,J4.ok.bsz,J4.ok.noex,J4.ok.exfs,J4.ok.funs,J4.ok.frf⟩,J4.os,J4.bare,J4.base,J4.loc,J4.cell,J4.free,J4.freeC,fun p hp=>?_,J4.hok,J4.len⟩,⟨rfl,?_,?_,oe,vs,List.mem_cons_self,hz.1.1,hd⟩⟩
      · have hp':p ∈ (a,oe) :: (l++(X.pn++pins)):=by rw [List.append_nil] at hp; exact hp
        rcases List.mem_cons.mp hp' with e | hp'
        · subst e
          exact ⟨he,na,fun z=>aFr (by rw [show a=X.env.locals from z]; exact isL),fun z=>aFr (inF _ z),fun u z=>by have z':oe.data = .cell u:=z; rw [hd] at z'; cases z'⟩
        · rcases List.mem_append.mp hp' with hp' | hp'
          · obtain ⟨y1,y2,⟨o,y3⟩,y4⟩:=hl p hp'
            refine ⟨y1,y2,(?_:p.1 ≠ X.env.locals),(?_:p.1 ∉ X.fs),y4⟩
            · intro z
              rw [z,notFr _ isL] at y3
              cases y3
            · intro z
              rw [notFr _ (inF _ z)] at y3
              cases y3
          · exact J4.pin p hp'
      · exact .cons List.mem_cons_self hd hv (cl.mono fun p hp=>List.mem_cons_of_mem _ (List.mem_append_left _ hp))
      · rcases q:X.base.get? a with _ | o
        · rfl
        · have q1:=J.bk a o q
          have q2:a ∉ frs X.stack:=by rw [hs]; exact aFr
          have q3:=gr a o q1 q2
          rw [fl4.2.1] at q3; cases q3
    obtain ⟨oe3,pn3,_,hz3,_,he3,S3,_⟩:=X41 h3 fl3 up3 fun _ _=>False
    refine wpAny_handleBy_cons (codeAny_handlers_test ?_) (by intro q; cases q)
    have LT:PySem.W.Looks (model X.prog X.w) h3 (typeOf (.ref a)) cls:=fun A Q E s k q=>wpAny_typeOf_ref (k _ _ he3) (by rw [hz3.1.1]; exact q)
    have LM:=PySem.W.exm_one (M:=model X.prog X.w) S3.kIn LT hb1
    have test:∀ {Q E:Value→Shared→Prop},Q c { s' with heap:=h3 }→wpAny (model X.prog X.w) (X.A.mark (some (.ref a))) (eval (.Name x np) X.env) Q E { s' with heap:=h3 }:=fun {Q E} q=>by
      obtain ⟨g1,g2,g3 | ⟨g3,g4,g5⟩⟩:=hc
      · exact ld_glob (X:=suiteQ X a ((a,oe3) :: pn3) fun _ _=>False) S3 g1 g3 q g2
      · exact ld_blt (X:=suiteQ X a ((a,oe3) :: pn3) fun _ _=>False) S3 g1 g3 g4 q g5 g2
    refine test (LM.here ?_)
    cases b with
    | false =>
      show wpAny _ X.A (handleBy (.ref a) X.env []) _ _ _
      refine wpAny_handleBy_nil ?_
      obtain ⟨k1,k2,k3,k4⟩:=id fl3
      exact on_from (s:={ s' with heap:=h3 }) hf k1 k2 k3 k4 fun h4 hh4 up4=>tk _ _ ⟨a,B,sI,pins,σ1,H1,cls,d,rfl,J,gr,(up.trans up3).trans up4, .inr (.inr (by rw [hs]; exact hh4)),na,os,ag,hno rfl⟩
    | true =>
      refine codeAny_handlers_suite_as ?_
      refine HandSPX.lands_againZ fl3 fun h4 fl4 up4=>?_
      obtain ⟨oe,pn,sub,hz,hd,he,S4,hot⟩:=X41 h4 fl4 (up3.trans up4) (AsSuiteRaised (model X.prog X.w) (X.A.mark (some (.ref a))) X.env n pos' (notedBy (model X.prog X.w) (X.A.mark (some (.ref a))) X.env (cameBackBy (model X.prog X.w) X.A X.env X.xe)))
      have back:∀ {xe σ2 H2 s2 pin2},Inv (suiteQ X a ((a,oe) :: pn) xe) pin2 σ2 H2 s2→Inv X pins σ2 H2 s2:=fun {xe σ2 H2 s2 pin2} K =>
        ⟨ok,K.os,K.bare,K.base,K.loc,K.cell,K.free,K.freeC,fun p hp=>K.pin p (List.mem_append_left _ (List.mem_cons_of_mem _ (sub p hp))),K.hok,K.len⟩
      refine store_ok (X:=suiteQ X a ((a,oe) :: pn) _) (v := .ref a) S4 hN hi loc rfl (fun s5 S5=>?_) (.inr hln)
      have tkS:Tk (suiteQ X a ((a,oe) :: pn) (AsSuiteRaised (model X.prog X.w) (X.A.mark (some (.ref a))) X.env n pos' (notedBy (model X.prog X.w) (X.A.mark (some (.ref a))) X.env (cameBackBy (model X.prog X.w) X.A X.env X.xe)))) (fun cls d σ H=>Wout cls d (σ.set i none) H):=fun u2 s2 x2=>by
        obtain ⟨a2,B2,sI2,pn2,σ2,H2,cls2,d2,rfl,I2,gr2,up2,sky2,na2,os2,ag2,w2⟩:=x2
        have I2':=back I2
        have sky3:Sky B2 (X.env :: X.outer) a2 (Zq B2 H2 cls2 d2) X.env.locals s2.heap:=by rw [← hs]; exact sky2
        show wpAny _ _ (noteFrame (.ref a2) X.env) _ _ _
        refine noted zq_steady frames hf sky3 fun h5 hh5 up5=>?_
        refine gone_held (s:={ s2 with heap:=h5 }) (a:=a2) (Z:=Zq B2 H2 cls2 d2) hs hf hN hi hln I2' gr2 (up2.trans up5) (by rw [hs]; exact hh5) os2 ag2 fun s6 g6=>?_
        obtain ⟨sI6,I6,gr6,up6,⟨k1,k2,k3,k4⟩,os6,ag6⟩:=g6
        exact on_from hf k1 k2 k3 k4 fun h7 hh7 up7=>hpa _ _ _ (tk _ _ ⟨a2,B2,sI6,pins,_,H2,cls2,d2,rfl,I6,gr6,up6.trans up7, .inr (.inr hh7),na2,os6,ag6,w2⟩)
      have end_:∀ {σ6:L2.St} {H6:Hp} {s6:Shared} {Q:Shared→Prop},Inv (suiteQ X a ((a,oe) :: pn) (AsSuiteRaised (model X.prog X.w) (X.A.mark (some (.ref a))) X.env n pos' (notedBy (model X.prog X.w) (X.A.mark (some (.ref a))) X.env (cameBackBy (model X.prog X.w) X.A X.env X.xe)))) [] σ6 H6 s6→(∀ s7,Inv X pins (σ6.set i none) H6 s7→Q s7) →
          wpAny (model X.prog X.w) X.A (do bindName X.env n .none; unbindBehindTheSuite X.env n pos') (fun _ s7=>Q s7) X.xe s6:=fun {σ6 H6 s6 Q} S6 hq=>gone_ok (back S6) hN hi hln hq
      refine wpAny_mono ((hsu a oe cls d pn _ hz.1 hd hot tkS).run [] s5 _ H1 _ S5 (hyes rfl a na)) (fun f s6 hsp=>?_) (fun _ _ z=>z)
      cases f with
      | ret u =>
        obtain ⟨v6,σ6,H6,S6,r6,q6⟩:=hsp
        exact end_ S6 fun s7 J7=>⟨_,_,_,J7,r6,q6⟩
      | next=>obtain ⟨σ6,H6,S6,q6⟩:=hsp; exact end_ S6 fun s7 J7=>⟨_,_,J7,q6⟩
      | brk=>obtain ⟨σ6,H6,S6,q6⟩:=hsp; exact end_ S6 fun s7 J7=>⟨_,_,J7,q6⟩
      | cont=>obtain ⟨σ6,H6,S6,q6⟩:=hsp; exact end_ S6 fun s7 J7=>⟨_,_,J7,q6⟩
  · cases f with
    | ret u=>obtain ⟨v,σ2,H2,K,r,q⟩:=hsp; exact ⟨v,σ2,H2,K.ofTry ok,r,q⟩
    | next=>obtain ⟨σ2,H2,K,q⟩:=hsp; exact wpAny_execs_nil ⟨σ2,H2,K.ofTry ok,q⟩
    | brk=>obtain ⟨σ2,H2,K,q⟩:=hsp; exact ⟨σ2,H2,K.ofTry ok,q⟩
    | cont=>obtain ⟨σ2,H2,K,q⟩:=hsp; exact ⟨σ2,H2,K.ofTry ok,q⟩
end
end Xq
namespace Bv
open PySem PySem.Spec L2
open PyProof.Rows hiding St
variable [HasW]
structure FnG (P:Program) (w:World) (K:PySem.W.Frag) (mg:Str→Option Value) (base:Heap) (k:Nat) (f:Addr) (fd:FuncData) (ps:List Str) (sp:Sp):Prop where
  len:∀ vs H Q E,sp vs H Q E→vs.length=ps.length
  run:∀ (A:Around) (outer:List Env) (s:Shared) (H:Hp) (as:Args) (us:List Value) (vs:List V) (Q:VK) (E:XK),A.guards=some []→Room k A→Env0 P w K mg base A outer s H→BindsTo s fd as (ps.zip us)→Vals vs us→sp vs H Q E →
    codeAny (model P w) A (.call (.ref f) as) (CR (Xq.CQ P w) outer P w H s Q E) s
theorem X8b {A:Around} {C:Addr} {us:List Value} {kw:List (Str × Value)} (h:A.guards=some []):(A.under (.builtin "type.__call__" ⟨.ref C :: us,kw⟩)).guards=some []:=by
  have e:(Code.builtin "type.__call__" ⟨.ref C :: us,kw⟩).guards=[]:=by first | rfl | simp [Code.guards,Code.isGuard,guardIds]
  show pushGuards (Code.builtin "type.__call__" ⟨.ref C :: us,kw⟩).guards A.guards=some []
  rw [e]
  exact h
section
variable {P:Program} {w:World} {K:PySem.W.Frag} {mg:Str→Option Value} {base:Heap} {x qual:Str} {pa:Arguments} {bd:List Stmt} {sc:Scope} {dl:List V} {kw:List (Str × V)} {f:Addr} {fd:FuncData} {N ps:List Str} {k:Nat} {sp:Sp}
abbrev cxB (P:Program) (w:World) (K:PySem.W.Frag) (mg:Str→Option Value) (base:Heap) (N:List Str) (qual:Str) (sc:Scope) (f:Addr) (cdv:Value) (A:Around) (outer:List Env) (s:Shared) (H:Hp) (E:XK):Cx :=
  cxOf (Xq.CQ P w) P w K mg base N qual sc f cdv A outer s H E
theorem FnG.of (F:FunD K x qual pa bd sc dl kw f fd) (S:FnScope N ps sc) (len:∀ vs H Q E,sp vs H Q E→vs.length=ps.length)
    (body:∀ (cdv:Value) (A:Around) (outer:List Env) (s:Shared) (H:Hp) (vs:List V) (Q:VK) (E:XK),A.guards=some []→Room k (A.deeper (envOfC qual sc s.heap.objs.size f cdv))→sp vs H Q E →
      ∃ t,PSs (cxB P w K mg base N qual sc f cdv A outer s H E) bd t∧t { nx:=fun _ H'=>Q .non H',rt:=Q } (L2.start N vs) H):FnG P w K mg base (k + 1) f fd ps sp:=by
  obtain ⟨oc,od,dV,kV,doc,pm,an,cdv,ct,osl,rfl,look,code,_,_⟩:=F.ex
  refine ⟨len,fun A outer s H as us vs Q E gu room e0 binds rel hsp=>?_⟩
  have inK:K.In s.heap:=e0.mod.kin.keeps fun b o q=>(e0.bs b o q).1
  have nolim:s.heap.NoLimit:=e0.mod.nolimit.keeps fun b o q=>(e0.bs b o q).1
  refine codeAny_call_function room.depth (inK _ _ look) rfl S.co S.gen rfl (PySem.W.codeRec_of inK code) (binds _ _ _ _ ?_)
  refine wpAny_newFunctionEnv_cells S.kind (fun ⟨n,v⟩ m=>?_) fun env ee s1 z=>?_
  · rcases S.par n (List.of_mem_zip m).1 with q | q
    · exact .inl q
    · exact .inr ⟨q,PySem.W.cellsFrom_some _ _ _ (.inl q)⟩
  · subst ee
    refine ⟨nolim.keeps z.toInCall.keep,codeAny_func ?_⟩
    obtain ⟨t,run,q⟩:=body cdv A outer s H vs Q E gu (room.deeper _) hsp
    have I:Inv (cxB P w K mg base N qual sc f cdv A outer s H E) [] (L2.start N vs) H s1:=inv_start S room.hd e0 (len _ _ _ _ hsp) rel z
    refine wpAny_mono (run.run [] s1 (L2.start N vs) H _ I q) (fun fl s' y=>?_) fun _ _ y=>y
    cases fl with
    | ret u=>obtain ⟨v,σ',H',J,rv,q⟩:=y; exact ⟨v,H',J.os,J.bare,J.base,J.hok,rv,q⟩
    | next=>obtain ⟨σ',H',J,q⟩:=y; exact ⟨.non,H',J.os,J.bare,J.base,J.hok,rfl,q⟩
    | brk=>obtain ⟨_,_,_,q⟩:=y; exact (show False from q).elim
    | cont=>obtain ⟨_,_,_,q⟩:=y; exact (show False from q).elim
end
theorem Y8r {X:Cx} {k:Nat} {f:Addr} {fd:FuncData} {ps:List Str} {sp:Sp} {dvs:List V} {ds:List Value} {E:St→XK} {pins:List (Addr × Obj)} {σ:St} {H:Hp} {s:Shared} {Q:VK} {us:List Value} {vs:List V} (F:FnG X.prog X.w X.K X.mg X.base k f fd ps sp) (gu:X.A.guards=some []) (room:Room k X.A) (hb:Binds X.K fd ps ds) (hd:Vals dvs ds) (hx:PassesAt (Xq.CQ X.prog X.w) X σ (E σ))
    (I:Inv X pins σ H s) (r:Vals vs us) (h:sp (vs++dvs) H Q (E σ)):codeAny (model X.prog X.w) X.A (.call (.ref f) ⟨us,[]⟩) (wants (EP X pins σ Q) X.xe) s:=by
  have rel:=r.append hd
  have many:(us++ds).length=ps.length:=rel.length.symm.trans (F.len _ _ _ _ h)
  refine codeAny_mono (F.run X.A X.stack s H ⟨us,[]⟩ (us++ds) (vs++dvs) Q (E σ) gu room I.env0 (hb s us I.kIn many) rel h) fun y s' z=>?_
  cases y with
  | error e=>exact hx pins H s e s' I z
  | ok fl =>
    cases fl with
    | ret u=>exact I.after z
    | next=>exact z.elim
    | brk=>exact z.elim
    | cont=>exact z.elim
omit [HasW] in
theorem X2h {P:Program} {w:World} {K:PySem.W.Frag} {mg mb:Str→Option Value} {k:Nat} {fa a:Addr} {fd:FuncData} {x:Str} {sp:Sp} {s1:Shared} {vs:List Value} {ns:List Int} (KX:K.In s1.heap) (hm:s1.heap.Ns mainGlobals mg) (hb:s1.heap.Ns builtinsNs mb) (hbb:∀ x:Str,x ≠ "__name__" → mb x=bootBuiltins x)
    (lim:s1.heap.NoLimit) (hg:s1.gens=#[]) (ha:s1.heap.get? a=some { cls := .type "list",data := .seq vs.toArray }) (hi:IntsAre vs ns) (hl:ns.length ≤ sizeLine) (room:Room k callerA) (F:∀ base:Heap,K.In base→base.Ns mainGlobals mg→FnG P w K mg base k fa fd [x] sp)
    (bind:∀ (s:Shared) (u:Value),BindsTo s fd ⟨[u],[]⟩ [(x,u)]) (hsp:∀ H:Hp,Only H→SqL K H a (ns.map V.int)→sp [.ref a] H (fun v _=>v = .bl true) fun _ _ _=>False) :
    codeAny (model P w) callerA (.call (.ref fa) ⟨[.ref a],[]⟩) (fun r s'=>r = .ok (.ret (.bool true))∧OldK s1.heap s'.heap∧s'.os=s1.os∧AllBare s'.gens) s1:=by
  have main:∀ H:Hp,Only H→SqL K H a (ns.map V.int)→HOk P w H s1.heap→(∀ b,H b ≠ none→b=a)→(H a ≠ none→K.lookup a=none) →
      codeAny (model P w) callerA (.call (.ref fa) ⟨[.ref a],[]⟩) (fun r s'=>r = .ok (.ret (.bool true))∧OldK s1.heap s'.heap∧s'.os=s1.os∧AllBare s'.gens) s1:=fun H only seq hok own out=>by
    have isA:∀ {b:Addr},H b=none ∨ b=a:=fun {b}=>Classical.byCases .inl fun z => .inr (own b z)
    have keepN:∀ {b:Addr} {o:Obj},s1.heap.get? b=some o→H b=none→(hidT s1.heap H).get? b=some o:=fun q n=>hidT_get q n
    have dictN:∀ {b:Addr} {o:Obj} {es:Array DictEntry} {ep:Nat},s1.heap.get? b=some o→o.data = .dict es ep→H b=none:=fun {b o es ep} q d=>isA.resolve_right fun z=>by
      rw [z,ha] at q
      cases q
      exact nomatch (show Data.seq vs.toArray _=Data.dict es ep from d)
    have nsN:∀ {b:Addr} {m:Str→Option Value},s1.heap.Ns b m→(hidT s1.heap H).Ns b m:=fun {b m} ⟨o,es,ep,q,d,r⟩=>⟨o,es,ep,keepN q (dictN q d),d,r⟩
    have inB:K.In (hidT s1.heap H):=fun b o q=>keepN (KX b o q) (Classical.byContradiction fun z=>by
      rw [own b z,out (by rw [← own b z]; exact z)] at q
      cases q)
    have modB:Mod K mg (hidT s1.heap H):=⟨inB,nsN hm,⟨mb,nsN hb,hbb⟩,let ⟨mc,h1,h2⟩:=lim; ⟨mc,nsN h1,h2⟩⟩
    have e0:Env0 P w K mg (hidT s1.heap H) callerA [] s1 H:=⟨rfl,modB,fun b o q=>of_hidT q,Nat.le_of_eq (hidT_size _ _),trivial,fun b z=>absurd (show b ∈ ([]:List Addr) from z) (by simp),hok, .of_eq hg⟩
    refine codeAny_mono ((F _ inB (nsN hm)).run callerA [] s1 H ⟨[.ref a],[]⟩ [.ref a] [.ref a] _ _ rfl room e0 (bind s1 (.ref a)) (.cons rfl .nil) (hsp H only seq)) fun y s' z=>?_
    cases y with
    | error e =>
      obtain ⟨_,_,_,_,_,no⟩:=z
      exact no.wish.elim
    | ok fl =>
      cases fl with
      | next=>exact z.elim
      | brk=>exact z.elim
      | cont=>exact z.elim
      | ret u =>
        obtain ⟨v,H',os,bare,un,hok',rv,q⟩:=z
        cases (show v = .bl true from q)
        cases (show u=Value.bool true from rv)
        refine ⟨rfl,OldK.of_keep fun b o e=>?_,os,bare⟩
        rcases only b with n | ⟨ob,xs,n⟩
        · exact un.keep b o e n (fun z=>absurd (show b ∈ ([]:List Addr) from z) (by simp)) (by simp)
        · obtain ⟨e1,_⟩:=hok b _ n
          obtain ⟨e2,_⟩:=hok' b _ (un.frzs b ob _ n)
          rw [e] at e1
          cases e1
          exact e2
  have rv:=vals_ints hi
  cases own:K.lookup a with
  | some o =>
    have e:=KX a o own
    rw [ha] at e
    cases e
    exact main (fun _=>none) (fun _ => .inl rfl) (.inr ⟨_,vs.toArray,_,own,rfl,rfl,rfl,by rw [List.size_toArray,hi.length]; exact hl,by simpa using rv⟩) (fun b u z=>nomatch (show (none:Option HO)=some u from z)) (fun b z=>absurd rfl z) fun z=>absurd rfl z
  | none =>
    let H0:Hp:=fun b=>if b=a then some (.frz { cls := .type "list",data := .seq vs.toArray } (.lst (ns.map V.int))) else none
    have at0:H0 a=some (.frz { cls := .type "list",data := .seq vs.toArray } (.lst (ns.map V.int))):=if_pos rfl
    have off:∀ b,b ≠ a→H0 b=none:=fun b z=>if_neg z
    refine main H0 (fun b=>?_) (.inl (.inr ⟨_,at0⟩)) (fun b u z=>?_) (fun b z=>Classical.byContradiction fun y=>z (off b y)) fun _=>own
    · by_cases y:b=a
      · exact .inr ⟨_,_,by rw [y]; exact at0⟩
      · exact .inl (off b y)
    · by_cases y:b=a
      · rw [y,at0] at z
        cases z
        rw [y]
        exact ⟨ha,by rw [List.length_map]; exact hl,vs,_,rv,ha⟩
      · rw [off b y] at z; cases z
omit [HasW] in
theorem walk_ofG {l:PySem.W.OpenLaw} {n k:Nat} {q:Program} {loose:List Str} {XP:(Str→Option Value)→Heap→Prop} {YP:World→Heap→Prop} {d:DefRec} {x:Str} (hn:l.most=some n) (hn2:n ≤ sizeLine) (hdf:d.params.defaults=[]) (room:Room k callerA)
    (F:∀ (w:World) (mg:Str→Option Value) (fa:Addr) (h:Heap),YP w h→h.Ns mainGlobals mg→mg d.name=some (.ref fa) →
      ∃ (K:PySem.W.Frag) (fd:FuncData) (sp:Sp),K.In h∧(∀ (s:Shared) (u:Value),BindsTo s fd ⟨[u],[]⟩ [(x,u)])∧(∀ (H:Hp) (a:Addr) (ns:List Int),ns.length ≤ n→Only H→SqL K H a (ns.map V.int)→sp [.ref a] H (fun v _=>v = .bl true) fun _ _ _=>False) ∧
        ∀ base:Heap,K.In base→base.Ns mainGlobals mg→FnG l.prog w K mg base k fa fd [x] sp):PySem.W.WalkO q loose XP YP l.row.toRowW d [] (fun f vs=>PySem.call f vs):=by
  refine Att.attach_call hn hdf fun w s0 s1 mg mb fa o pm cd doc a vs ns G Y _ _ _ hmg hobj hints hlen hg=>?_
  obtain ⟨K,fd,sp,KX,bind,hsp,run⟩:=F w mg fa _ Y G.T.g hmg
  exact X2h KX G.T.g G.T.b G.T.builtins G.T.nolimit hg hobj hints (Nat.le_trans hlen hn2) room run bind fun H only seq=>hsp H a ns hlen only seq
end Bv
namespace Bv
open PySem PySem.Spec L2
open PyProof.Rows hiding St
variable [HasW]
def okX (k:Nat):X→Bool
  | .d _=>true
  | .r n=>decide (n < k)
def okO (k:Nat):O→Bool
  | .lst xs=>xs.all (okX k)
  | .dic kvs=>kvs.all fun p=>okX k p.2
  | .fdc kvs=>kvs.all fun p=>okX k p.2
  | .tdc kvs=>kvs.all fun p=>okX k p.2
  | .ndc kvs=>kvs.all fun p=>okX k p.2
  | .ldc kvs=>kvs.all fun p=>okX k p.2
  | .tfc kvs=>kvs.all fun p=>okX k p.2
  | .ins _ fs=>fs.all fun p=>okX k p.2
def cut (k:Nat) (S:Sto):Option Sto:=if (S.take k).all (okO k) then some (S.take k) else none
def Y1a (k:Nat) (S:Sto):X→Option X
  | .d v=>some (.d v)
  | .r n=>if decide (n < k) then some (.r n) else ((X.r n).get S).map .d
def trunc (k:Nat):R X→R X
  | .ok x S=>match Y1a k S x,cut k S with
    | some y,some T => .ok y T
    | _,_ => .ok x S
  | .err C fs S=>match cut k S with
    | some T => .err C fs T
    | none => .err C fs S
  | .bad => .bad
section
variable {K:PySem.W.Frag} {Z:Wd} {ρ ρ1:List Addr} {S S1 T:Sto} {H H1:Hp}
theorem Z7c {W W':Wd} {x:X} {v:V} (p:ρ <+: ρ1) (m:Mv W H W' H) (h:okX ρ.length x=true) (a:AX K W ρ1 H x v):AX K W' ρ H x v:=by
  cases a with
  | d a=>exact .d (a.mv m)
  | r e =>
    rename_i n a
    have h:n < ρ.length:=of_decide_eq_true h
    obtain ⟨t,rfl⟩:=p
    rw [List.getElem?_append_left h] at e
    exact .r e
theorem Z3g {α β:Type} {F G:α→β→Prop} {f:α→Bool} (hf:∀ a b,f a=true→F a b→G a b):∀ {l:List α} {r:List β},l.all f=true→Paired F l r→Paired G l r
  | _,_,_, .nil => .nil
  | a :: l,_,h, .cons x t=>by
    rw [List.all_cons,Bool.and_eq_true] at h
    exact .cons (hf _ _ h.1 x) (Z3g hf h.2 t)
theorem Y66 (s:Sta K Z ρ S H) (s1:Sta K Z ρ1 S1 H1) (g:Go ρ H ρ1 H1) (h:cut ρ.length S1=some T):Sta K Z ρ T H1∧Go ρ H ρ H1∧Mv (Wn Z ρ1) H1 (Wn Z ρ) H1:=by
  obtain ⟨h1,h2⟩:(S1.take ρ.length).all (okO ρ.length)=true∧T=S1.take ρ.length:=by
    unfold cut at h
    split at h
    · rename_i q; cases h; exact ⟨q,rfl⟩
    · cases h
  subst h2
  have m:Mv (Wn Z ρ1) H1 (Wn Z ρ) H1:=fun a o z q=>⟨fun w=>z (w.elim .inl fun w => .inr (g.pre.subset w)),q⟩
  have hl:ρ.length ≤ S1.length:=by rw [s1.len]; exact g.pre.length_le
  refine ⟨⟨s.nd,fun a z=>⟨(s.z a z).1,(s1.z a z).2⟩,by simp; omega,fun n o a e1 e2=>?_⟩,⟨List.prefix_refl _,fun a o z q=>⟨z,(g.keep a o z q).2⟩,g.fz⟩,m⟩
  have hn:n < ρ.length:=(List.getElem?_eq_some_iff.mp e2).1
  have e3:S1[n]?=some o:=by rw [List.getElem?_take_of_lt hn] at e1; exact e1
  have e4:ρ1[n]?=some a:=by
    obtain ⟨t,rfl⟩:=g.pre
    rw [List.getElem?_append_left hn]; exact e2
  have x:=s1.ob n o a e3 e4
  have ho:okO ρ.length o=true:=(List.all_eq_true.mp h1) o (List.mem_of_getElem? e1)
  cases o with
  | lst xs=>obtain ⟨vs,e,q⟩:=x; exact ⟨vs,e,Z3g (fun _ _=>Z7c g.pre m) ho q⟩
  | dic kvs=>obtain ⟨vs,e,q⟩:=x; exact ⟨vs,e,Z3g (f:=fun p=>okX ρ.length p.2) (fun _ _ h z=>⟨z.1,Z7c g.pre m h z.2⟩) (show (kvs.all fun p=>okX ρ.length p.2)=true from ho) q⟩
  | fdc kvs=>obtain ⟨ob,vs,e,q⟩:=x; exact ⟨ob,vs,e,Z3g (f:=fun p=>okX ρ.length p.2) (fun _ _ h z=>⟨z.1,Z7c g.pre m h z.2⟩) (show (kvs.all fun p=>okX ρ.length p.2)=true from ho) q⟩
  | tdc kvs=>obtain ⟨vs,e,q⟩:=x; exact ⟨vs,e,Z3g (f:=fun p=>okX ρ.length p.2) (fun _ _ h z=>⟨z.1,z.2.1.mv m,Z7c g.pre m h z.2.2⟩) (show (kvs.all fun p=>okX ρ.length p.2)=true from ho) q⟩
  | ndc kvs=>obtain ⟨vs,e,q⟩:=x; exact ⟨vs,e,Z3g (f:=fun p=>okX ρ.length p.2) (fun _ _ h z=>⟨z.1,z.2.1.mv m,Z7c g.pre m h z.2.2⟩) (show (kvs.all fun p=>okX ρ.length p.2)=true from ho) q⟩
  | ldc kvs=>obtain ⟨vs,e,q⟩:=x; exact ⟨vs,e,Z3g (f:=fun p=>okX ρ.length p.2) (fun _ _ h z=>⟨z.1,Z7c g.pre m h z.2⟩) (show (kvs.all fun p=>okX ρ.length p.2)=true from ho) q⟩
  | tfc kvs=>obtain ⟨ob,vs,e,q⟩:=x; exact ⟨ob,vs,e,Z3g (f:=fun p=>okX ρ.length p.2) (fun _ _ h z=>⟨z.1,z.2.1.mv m,Z7c g.pre m h z.2.2⟩) (show (kvs.all fun p=>okX ρ.length p.2)=true from ho) q⟩
  | ins C fs=>obtain ⟨dx,vs,e,q⟩:=x; exact ⟨dx,vs,e,Z3g (f:=fun p=>okX ρ.length p.2) (fun _ _ h z=>⟨z.1,Z7c g.pre m h z.2⟩) (show (fs.all fun p=>okX ρ.length p.2)=true from ho) q⟩
theorem X8z {x y:X} {v:V} (s:Sta K Z ρ S H) (s1:Sta K Z ρ1 S1 H1) (g:Go ρ H ρ1 H1) (m:Mv (Wn Z ρ1) H1 (Wn Z ρ) H1) (h:Y1a ρ.length S1 x=some y) (a:AX K (Wn Z ρ1) ρ1 H1 x v):AX K (Wn Z ρ) ρ H1 y v:=by
  cases x with
  | d d=>cases h; exact Z7c g.pre m rfl a
  | r n =>
    have h:(if decide (n < ρ.length) then some (X.r n) else ((X.r n).get S1).map .d)=some y:=h
    by_cases hn:n < ρ.length
    · rw [if_pos (decide_eq_true hn)] at h
      cases h
      exact Z7c g.pre m (decide_eq_true hn) a
    · rw [if_neg (by simpa using hn)] at h
      obtain ⟨d,h1,h2⟩:=Option.map_eq_some_iff.mp h
      subst h2
      have w:=a.get s1 h1
      cases a with
      | r e =>
        rename_i b
        have hb:¬ Wn Z ρ b:=fun z=>by
          rcases z with z | z
          · exact (s1.z b z).1 (List.mem_of_getElem? e)
          · obtain ⟨j,hj,e5⟩:=List.getElem_of_mem z
            obtain ⟨t,rfl⟩:=g.pre
            have e6:(ρ++t)[j]?=some b:=by rw [List.getElem?_append_left hj,List.getElem?_eq_getElem hj,e5]
            have hn2:n < (ρ++t).length:=(List.getElem?_eq_some_iff.mp e).1
            have hj2:j < (ρ++t).length:=(List.getElem?_eq_some_iff.mp e6).1
            have:(ρ++t)[n]=(ρ++t)[j]:=by
              rw [List.getElem?_eq_getElem hn2] at e
              rw [List.getElem?_eq_getElem hj2] at e6
              exact Option.some.inj (e.trans e6.symm)
            have:=(List.getElem_inj s1.nd).mp this
            omega
        cases w with
        | av w=>exact .d (w.mv m)
        | lst h hs=>exact .d (.lst hb h (hs.mv m))
        | fdc h hs=>exact .d (.dic hb h (hs.mv m))
theorem Y21 {Wx:WX} {σ:St} {Q:VK} {r:R X} (s:Sta K Z ρ S H) (h:X6 (AX K) K Z ρ H Wx σ Q (trunc S.length r)):X6 (AX K) K Z ρ H Wx σ Q r:=by
  rw [s.len] at h
  cases r with
  | bad=>exact h
  | ok x T =>
    intro ρ1 H1 v s1 g a
    have h:X6 (AX K) K Z ρ H Wx σ Q (match Y1a ρ.length T x,cut ρ.length T with
      | some y,some T => .ok y T
      | _,_ => .ok x T):=h
    cases q1:Y1a ρ.length T x with
    | none=>rw [q1] at h; exact h ρ1 H1 v s1 g a
    | some y =>
      cases q2:cut ρ.length T with
      | none=>rw [q1,q2] at h; exact h ρ1 H1 v s1 g a
      | some T' =>
        rw [q1,q2] at h
        obtain ⟨s2,g2,m⟩:=Y66 s s1 g q2
        exact h ρ H1 v s2 g2 (X8z s s1 g m q1 a)
  | err C fs T =>
    have h:X6 (AX K) K Z ρ H Wx σ Q (match cut ρ.length T with
      | some T => .err C fs T
      | none => .err C fs T):=h
    cases q2:cut ρ.length T with
    | none=>rw [q2] at h; exact h
    | some T' =>
      rw [q2] at h
      intro ρ1 H1 d s1 g z
      obtain ⟨s2,g2,m⟩:=Y66 s s1 g q2
      refine h ρ H1 d s2 g2 ?_
      rcases z with z | ⟨dd,vs,z1,z2,z3,z4,z5⟩
      · exact .inl z
      · exact .inr ⟨dd,vs,z1,z2,fun w=>z3 (w.elim .inl fun w => .inr (g.pre.subset w)),z4,z5.mv m⟩
end
abbrev wxE (E:XK):WX:=fun c d _ H=>E c d H
def spE (K:PySem.W.Frag) (n:Nat) (g:List X→Sto→R X):Sp:=fun vs H Q E=>vs.length=n∧∃ (Z:Wd) (ρ:List Addr) (xs:List X) (S:Sto),Sta K Z ρ S H∧AXs K (Wn Z ρ) ρ H xs vs∧X6 (AX K) K Z ρ H (wxE E) [] Q (g xs S)
inductive PR where
  | ok (d:D) | err (C:Str) (fs:List (Str × D)) | bad
def W1o (K:PySem.W.Frag) (W:Wd) (H:Hp) (Q:VK) (E:XK):PR→Prop
  | .ok d=>∀ H' v,Same H H'→AV K W H' d v→Q v H'
  | .err C fs=>∀ H' d,Same H H'→W1j K W H H' fs d→E (.ref (He.ga K C)) d H'
  | .bad=>False
def spP (K:PySem.W.Frag) (n:Nat) (g:List D→PR):Sp:=fun vs H Q E=>vs.length=n∧∃ (W:Wd) (ds:List D),(∀ a,W a→∃ o,H a=some o)∧AVs K W H ds vs∧W1o K W H Q E (g ds)
def ev0 (N:Nat) (xs:List X):Ev:=xs.map some++List.replicate (N - xs.length) none
def X4g:RO→R X
  | .go (.nx _) S => .ok (.d .non) S
  | .go (.rt x) S => .ok x S
  | .err C fs _ S => .err C fs S
  | _ => .bad
def Y1k (N:Nat) (mb:MS) (xs:List X) (S:Sto):R X:=trunc S.length (X4g (mb (ev0 N xs) S))
def W3m (N:Nat) (mb:MS) (xs:List X) (S:Sto):R X:=X4g (mb (ev0 N xs) S)
def Y61:RO→PR
  | .go (.nx _) _ => .ok .non
  | .go (.rp d) _ => .ok d
  | .err C fs _ _ => .err C fs
  | _ => .bad
def Z6v (N:Nat) (mb:MS) (ds:List D):PR:=Y61 (mb (ev0 N (ds.map .d)) [])
theorem X1r {K:PySem.W.Frag} {W:Wd} {ρ:List Addr} {H:Hp} {N:List Str} {xs:List X} {vs:List V} (a:AXs K W ρ H xs vs):EvOk K W ρ H (ev0 N.length xs) (L2.start N vs):=by
  have hl:xs.length=vs.length:=Paired.length a
  refine ⟨by simp [ev0,L2.start,hl],fun i x q=>?_⟩
  unfold ev0 at q
  by_cases hi:i < xs.length
  · rw [List.getElem?_append_left (by simpa using hi),List.getElem?_map] at q
    obtain ⟨y,h1,h2⟩:=Option.map_eq_some_iff.mp q
    cases h2
    have go:∀ {l:List X} {r:List V} {j:Nat},AXs K W ρ H l r→l[j]?=some x→∃ b,r[j]?=some b∧AX K W ρ H x b:=fun {l r j} p=>by
      induction p generalizing j with
      | nil=>intro z; simp at z
      | cons x _ ih =>
        intro z
        cases j with
        | zero=>simp at z; subst z; exact ⟨_,rfl,x⟩
        | succ n=>simp at z; obtain ⟨b,h1,h2⟩:=ih z; exact ⟨b,by simpa using h1,h2⟩
    obtain ⟨v,h3,h4⟩:=go a h1
    refine ⟨v,?_,h4⟩
    unfold L2.start
    rw [List.getElem?_append_left (by rw [List.length_map,← hl]; exact hi),List.getElem?_map,h3]; rfl
  · rw [List.getElem?_append_right (by simpa using hi)] at q
    rw [List.getElem?_replicate] at q
    split at q <;> cases q
section
variable {P:Program} {w:World} {K:PySem.W.Frag} {mg:Str→Option Value} {base:Heap} {x qual:Str} {pa:Arguments} {bd:List Stmt} {sc:Scope} {dl:List V} {kw:List (Str × V)} {f:Addr} {fd:FuncData} {N ps:List Str} {k:Nat} {mb:MS}
theorem fnE (F:FunD K x qual pa bd sc dl kw f fd) (S:FnScope N ps sc)
    (h:∀ (cdv:Value) (A:Around) (outer:List Env) (s:Shared) (H:Hp) (E:XK),A.guards=some []→Room k (A.deeper (envOfC qual sc s.heap.objs.size f cdv))→MPs (cxB P w K mg base N qual sc f cdv A outer s H E) (wxE E) bd mb) :
    FnG P w K mg base (k + 1) f fd ps (spE K ps.length (Y1k N.length mb)):=FnG.of F S (fun _ _ _ _ z=>z.1) fun cdv A outer s H vs Q E gu hr ⟨hl,Z,ρ,xs,T,st,a,p⟩=>by
  refine ⟨_,h cdv A outer s H E gu hr,Z,ρ,ev0 N.length xs,T,st,X1r a,?_⟩
  have p:=Y21 st (show X6 (AX K) K Z ρ H (wxE E) [] Q (trunc T.length (X4g (mb (ev0 N.length xs) T))) from p)
  cases q:mb (ev0 N.length xs) T with
  | bad=>rw [q] at p; exact p
  | err C fs e S'=>rw [q] at p; exact fun ρ' H' σ' d s1 g ev z=>p ρ' H' d s1 g z
  | go o S' =>
    rw [q] at p
    cases o with
    | nx e=>exact fun ρ' H' σ' s1 g ev=>p ρ' H' .non s1 g (.d .non)
    | rt x=>exact p
    | bk e=>exact p.elim
    | ct e=>exact p.elim
    | rp d=>exact p.elim
    | rq d=>exact p.elim
theorem fnR (F:FunD K x qual pa bd sc dl kw f fd) (S:FnScope N ps sc)
    (h:∀ (cdv:Value) (A:Around) (outer:List Env) (s:Shared) (H:Hp) (E:XK),A.guards=some []→Room k (A.deeper (envOfC qual sc s.heap.objs.size f cdv))→MPs (cxB P w K mg base N qual sc f cdv A outer s H E) (wxE E) bd mb) :
    FnG P w K mg base (k + 1) f fd ps (spE K ps.length (W3m N.length mb)):=FnG.of F S (fun _ _ _ _ z=>z.1) fun cdv A outer s H vs Q E gu hr ⟨hl,Z,ρ,xs,T,st,a,p⟩=>by
  refine ⟨_,h cdv A outer s H E gu hr,Z,ρ,ev0 N.length xs,T,st,X1r a,?_⟩
  have p:X6 (AX K) K Z ρ H (wxE E) [] Q (X4g (mb (ev0 N.length xs) T)):=p
  cases q:mb (ev0 N.length xs) T with
  | bad=>rw [q] at p; exact p
  | err C fs e S'=>rw [q] at p; exact fun ρ' H' σ' d s1 g ev z=>p ρ' H' d s1 g z
  | go o S' =>
    rw [q] at p
    cases o with
    | nx e=>exact fun ρ' H' σ' s1 g ev=>p ρ' H' .non s1 g (.d .non)
    | rt x=>exact p
    | bk e=>exact p.elim
    | ct e=>exact p.elim
    | rp d=>exact p.elim
    | rq d=>exact p.elim
theorem fnP (F:FunD K x qual pa bd sc dl kw f fd) (S:FnScope N ps sc)
    (h:∀ (cdv:Value) (A:Around) (outer:List Env) (s:Shared) (H:Hp) (E:XK),A.guards=some []→Room k (A.deeper (envOfC qual sc s.heap.objs.size f cdv))→MPs (cxB P w K mg base N qual sc f cdv A outer s H E) (wxE E) bd mb) :
    FnG P w K mg base (k + 1) f fd ps (spP K ps.length (Z6v N.length mb)):=FnG.of F S (fun _ _ _ _ z=>z.1) fun cdv A outer s H vs Q E gu hr ⟨hl,W,ds,hw,a,p⟩=>by
  have m0:∀ H,Mv W H (Wn W []) H:=fun H a o z q=>⟨fun y=>y.elim z (by simp),q⟩
  have m1:∀ ρ H,Mv (Wn W ρ) H W H:=fun ρ H a o z q=>⟨fun y=>z (.inl y),q⟩
  have st:Sta K W [] [] H:=⟨List.nodup_nil,fun a z=>⟨by simp,hw a z⟩,rfl,fun n o a e1 _=>by simp at e1⟩
  refine ⟨_,h cdv A outer s H E gu hr,W,[],ev0 N.length (ds.map .d),[],st,X1r (a.mv (m0 H)).axs,?_⟩
  have p:W1o K W H Q E (Y61 (mb (ev0 N.length (ds.map .d)) [])):=p
  cases q:mb (ev0 N.length (ds.map .d)) [] with
  | bad=>rw [q] at p; exact p
  | err C fs e S' =>
    rw [q] at p
    refine fun ρ' H' σ' d s1 g ev z=>p H' d (fun a o q=>(g.keep a o (by simp) q).2) ?_
    rcases z with z | ⟨dd,vs,z1,z2,z3,z4,z5⟩
    · exact .inl z
    · exact .inr ⟨dd,vs,z1,z2,fun w=>z3 (.inl w),z4,z5.mv (m1 _ _)⟩
  | go o S' =>
    rw [q] at p
    cases o with
    | nx e=>exact fun ρ' H' σ' s1 g ev=>p H' .non (fun a o q=>(g.keep a o (by simp) q).2) .non
    | rp d=>exact fun H' v k a=>p H' v (fun b o q=>k b o (by simp) q) a
    | bk e=>exact p.elim
    | ct e=>exact p.elim
    | rt d=>exact p.elim
    | rq d=>exact p.elim
end
end Bv
namespace Bv
open PySem PySem.Spec L2
open PyProof.Rows hiding St
variable [HasW]
mutual
def D.noL:D→Bool
  | .lst _=>false
  | .dic _=>false
  | .scr _=>false
  | .tup ds=>D.noLs ds
  | .obj _ fs=>D.noLf fs
  | _=>true
def D.noLs:List D→Bool
  | []=>true
  | d :: r=>d.noL && D.noLs r
def D.noLf:List (Str × D)→Bool
  | []=>true
  | (_,d) :: r=>d.noL && D.noLf r
end
def X4n (W W':Wd) (H:Hp):Prop:=∀ a,W a→¬ W' a→(∃ xs,H a=some (.lst xs)) ∨ ∃ ob ks,H a=some (.frz ob (.dK ks))
theorem X9w {ds:List D} (h:(D.tup ds).noL=true):D.noLs ds=true:=by simpa [D.noL] using h
theorem X9u {C:Str} {fs:List (Str × D)} (h:(D.obj C fs).noL=true):D.noLf fs=true:=by simpa [D.noL] using h
theorem Y5q {d:D} {r:List D} (h:D.noLs (d :: r)=true):d.noL=true∧D.noLs r=true:=by simpa [D.noLs] using h
theorem Y5p {f:Str} {d:D} {r:List (Str × D)} (h:D.noLf ((f,d) :: r)=true):d.noL=true∧D.noLf r=true:=by simpa [D.noLf] using h
theorem X9t {ds:List D}:¬ (D.lst ds).noL=true:=by simp [D.noL]
theorem X9s {ds:List (D × D)}:¬ (D.dic ds).noL=true:=by simp [D.noL]
theorem X9v {ds:List Int}:¬ (D.scr ds).noL=true:=by simp [D.noL]
section
variable {K:PySem.W.Frag} {W W':Wd} {H:Hp}
mutual
theorem AV.noL (hw:X4n W W' H):∀ {d:D} {v:V},d.noL=true→AV K W' H d v→AV K W H d v
  | _,_,_, .non => .non
  | _,_,_, .bl b => .bl b
  | _,_,_, .int i => .int i
  | _,_,_, .str x => .str x
  | _,_,_, .gl x => .gl x
  | _,_,n, .tup h hs => .tup (by
      rcases h with ⟨h1,h2⟩ | h
      · refine .inl ⟨fun z=>?_,h2⟩
        rcases hw _ z h1 with ⟨xs,q⟩ | ⟨_,ks,q⟩ <;> (rw [h2] at q; cases q)
      · exact .inr h) (AVs.noL hw (X9w n) hs)
  | _,_,n, .obj h1 h2 hs => .obj (fun z=>by
      rcases hw _ z h1 with ⟨xs,q⟩ | ⟨_,ks,q⟩ <;> (rw [h2] at q; cases q)) h2 (AVf.noL hw (X9u n) hs)
  | _,_,n, .lst _ _ _=>(X9t n).elim
  | _,_,n, .dic _ _ _=>(X9s n).elim
  | _,_,n, .scr _=>(X9v n).elim
theorem AVs.noL (hw:X4n W W' H):∀ {ds:List D} {vs:List V},D.noLs ds=true→AVs K W' H ds vs→AVs K W H ds vs
  | _,_,_, .nil => .nil
  | _,_,n, .cons h hs => .cons (AV.noL hw (Y5q n).1 h) (AVs.noL hw (Y5q n).2 hs)
theorem AVf.noL (hw:X4n W W' H):∀ {ds:List (Str × D)} {vs:List (Str × V)},D.noLf ds=true→AVf K W' H ds vs→AVf K W H ds vs
  | _,_,_, .nil => .nil
  | _,_,n, .cons h hs => .cons (AV.noL hw (Y5p n).1 h) (AVf.noL hw (Y5p n).2 hs)
end
end
def X.isD:X→Bool
  | .d _=>true
  | .r _=>false
def callP (g:List D→PR) (xs:List X) (S:Sto):R X:=match Z8l S xs with
  | some ds=>(match g ds with
    | .ok d=>if xs.all X.isD || d.noL then .ok (.d d) S else .bad
    | .err C fs=>if xs.all X.isD || D.noLf fs then .err C fs S else .bad
    | .bad => .bad)
  | none => .bad
section
variable {K:PySem.W.Frag} {Z:Wd} {ρ:List Addr} {S:Sto} {H:Hp}
def W1m (ρ:List Addr) (xs:List X):Wd:=fun a=>∃ n,X.r n ∈ xs∧ρ[n]?=some a
theorem lend (st:Sta K Z ρ S H) (W':Wd) (hs:∀ a,W' a→Wn Z ρ a):∀ {xs:List X} {vs:List V} {ds:List D},(∀ a,W1m ρ xs a→¬ W' a)→AXs K (Wn Z ρ) ρ H xs vs→Z8l S xs=some ds→AVs K W' H ds vs
  | _,_,_,_, .nil,e=>by cases e; exact .nil
  | x :: r,_,ds,hb, .cons h t,e=>by
    unfold Z8l at e
    cases q:x.get S with
    | none=>rw [q] at e; cases e
    | some d =>
      cases q2:Z8l S r with
      | none=>rw [q,q2] at e; cases e
      | some l =>
        rw [q,q2] at e
        cases e
        have m:Mv (Wn Z ρ) H W' H:=fun a o z y=>⟨fun w=>z (hs a w),y⟩
        refine .cons ?_ (lend st W' hs (fun a ⟨n,h1,h2⟩=>hb a ⟨n,List.mem_cons_of_mem _ h1,h2⟩) t q2)
        have w:=h.get st q
        cases h with
        | d h=>cases q; exact h.mv m
        | r h =>
          have nb:=hb _ ⟨_,List.mem_cons_self,h⟩
          cases w with
          | av w=>exact w.mv m
          | lst h hs=>exact .lst nb h (hs.mv m)
          | fdc h hs=>exact .dic nb h (hs.mv m)
theorem X6y (st:Sta K Z ρ S H):∀ {xs:List X} {ds:List D} {a:Addr},Z8l S xs=some ds→W1m ρ xs a→(∃ vs,H a=some (.lst vs)) ∨ ∃ ob ks,H a=some (.frz ob (.dK ks))
  | [],_,_,_,⟨n,h,_⟩=>by simp at h
  | x :: r,ds,a,e,⟨n,h,h2⟩=>by
    unfold Z8l at e
    cases q:x.get S with
    | none=>rw [q] at e; cases e
    | some d =>
      cases q2:Z8l S r with
      | none=>rw [q,q2] at e; cases e
      | some l =>
        rcases List.mem_cons.mp h with z | z
        · subst z
          have w:=(AX.r (K:=K) (W:=Wn Z ρ) (H:=H) h2).get st q
          have q':(match S[n]? with
            | some (.lst xs)=>(ds? xs).map .lst
            | some (.fdc kvs)=>(ks? kvs).map .dic
            | _=>none)=some d:=q
          cases y:S[n]? with
          | none=>rw [y] at q'; cases q'
          | some o =>
            rw [y] at q'
            have ob:=st.ob n o a y h2
            cases o with
            | lst xs=>obtain ⟨vs,h3,_⟩:=ob; exact .inl ⟨vs,h3⟩
            | fdc xs=>obtain ⟨o,vs,h3,_⟩:=ob; exact .inr ⟨o,vs,h3⟩
            | _=>cases q'
        · exact X6y st q2 ⟨n,z,h2⟩
theorem X42 {xs:List X} (h:xs.all X.isD=true) (a:Addr):¬ W1m ρ xs a:=fun ⟨n,h1,_⟩=>by
  have:=List.all_eq_true.mp h _ h1
  cases this
end
end Bv
namespace Bv
open PySem PySem.Spec L2
open PyProof.Rows hiding St
variable [HasW]
section
variable {K:PySem.W.Frag} {Z:Wd} {ρ:List Addr} {S:Sto} {H:Hp}
theorem W3x {g:List D→PR} {Wx:WX} {σ:St} {Q:VK} {xs:List X} {vs:List V} {n:Nat} (st:Sta K Z ρ S H) (a:AXs K (Wn Z ρ) ρ H xs vs) (hn:vs.length=n) (p:X6 (AX K) K Z ρ H Wx σ Q (callP g xs S)):spP K n g vs H Q (WE Wx σ):=by
  unfold callP at p
  cases q:Z8l S xs with
  | none=>rw [q] at p; exact p.elim
  | some ds =>
    rw [q] at p
    have p:X6 (AX K) K Z ρ H Wx σ Q (match g ds with
      | .ok d=>if xs.all X.isD || d.noL then .ok (.d d) S else .bad
      | .err C fs=>if xs.all X.isD || D.noLf fs then .err C fs S else .bad
      | .bad => .bad):=p
    let W':Wd:=fun a=>Wn Z ρ a∧¬ W1m ρ xs a
    have only:∀ {H':Hp},Same H H'→X4n (Wn Z ρ) W' H':=fun k a h1 h2=>by
      have:W1m ρ xs a:=Classical.byContradiction fun z=>h2 ⟨h1,z⟩
      rcases X6y st q this with ⟨vs,h⟩ | ⟨o,vs,h⟩
      · exact .inl ⟨vs,k _ _ h⟩
      · exact .inr ⟨o,vs,k _ _ h⟩
    have none':xs.all X.isD=true→∀ {H':Hp},Mv W' H' (Wn Z ρ) H':=fun hd H' a o z y=>⟨fun w=>z ⟨w,X42 hd a⟩,y⟩
    refine ⟨hn,W',ds,fun a h=>st.thereW h.1,lend st W' (fun a h=>h.1) (fun a h z=>z.2 h) a q,?_⟩
    cases q2:g ds with
    | bad=>rw [q2] at p; exact p.elim
    | ok d =>
      rw [q2] at p
      have p:X6 (AX K) K Z ρ H Wx σ Q (if xs.all X.isD || d.noL then .ok (.d d) S else .bad):=p
      split at p
      · rename_i hc
        refine fun H' v k a=>p ρ H' v (st.grow k) (Go.grow k) (.d ?_)
        rcases Bool.or_eq_true_iff.mp hc with hc | hc
        · exact a.mv (none' hc)
        · exact a.noL (only k) hc
      · exact p.elim
    | err C fs =>
      rw [q2] at p
      have p:X6 (AX K) K Z ρ H Wx σ Q (if xs.all X.isD || D.noLf fs then .err C fs S else .bad):=p
      split at p
      · rename_i hc
        refine fun H' d k z=>p ρ H' d (st.grow k) (Go.grow k) ?_
        rcases z with z | ⟨dd,vs,z1,z2,z3,z4,z5⟩
        · exact .inl z
        · refine .inr ⟨dd,vs,z1,z2,fun w=>?_,z4,?_⟩
          · obtain ⟨o,e⟩:=st.thereW w
            rw [z2] at e; cases e
          · rcases Bool.or_eq_true_iff.mp hc with hc | hc
            · exact z5.mv (none' hc)
            · exact z5.noL (only k) hc
      · exact p.elim
theorem X7i {g:List X→Sto→R X} {Wx:WX} {σ:St} {Q:VK} {xs:List X} {vs:List V} {n:Nat} (st:Sta K Z ρ S H) (a:AXs K (Wn Z ρ) ρ H xs vs) (hn:vs.length=n) (p:X6 (AX K) K Z ρ H Wx σ Q (g xs S)):spE K n g vs H Q (WE Wx σ):=by
  refine ⟨hn,Z,ρ,xs,S,st,a,?_⟩
  cases q:g xs S with
  | bad=>rw [q] at p; exact p
  | ok x T=>rw [q] at p; exact p
  | err C fs T=>rw [q] at p; exact p
end
end Bv
namespace Bv
open PySem PySem.Spec L2
open PyProof.Rows hiding St
variable [HasW]
def Y8h (X:Cx) (Wx:WX) (fv:Value) (n:Nat) (g:List Bv.X→Sto→R Bv.X):Prop:=∀ (pins:List (Addr × Obj)) (s:Shared) (σ:St) (H:Hp) (Q:VK) (us:List Value) (vs:List V) (Z:Wd) (ρ:List Addr) (xs:List Bv.X) (S:Sto),
  Inv X pins σ H s→Vals vs us→Sta X.K Z ρ S H→AXs X.K (Wn Z ρ) ρ H xs vs→vs.length=n→X6 (AX X.K) X.K Z ρ H Wx σ Q (g xs S)→codeAny (model X.prog X.w) X.A (.call fv ⟨us,[]⟩) (wants (EP X pins σ Q) X.xe) s
structure Dft (K:PySem.W.Frag) (dxs:List D) (dvs:List V) (ds:List Value):Prop where
  av:∀ W H,AVs K W H dxs dvs
  va:Vals dvs ds
theorem Y67 {K:PySem.W.Frag}:Dft K [] [] []:=⟨fun _ _ => .nil, .nil⟩
def W1 (dxs:List D) (g:List Bv.X→Sto→R Bv.X):List Bv.X→Sto→R Bv.X:=fun xs S=>g (xs++dxs.map .d) S
section
variable {X:Cx} {Wx:WX} {k n:Nat} {f:Addr} {fd:FuncData} {ps:List Str} {dxs:List D} {dvs:List V} {ds:List Value}
theorem W10 {g:List Bv.X→Sto→R Bv.X} (tk:Xq.Tk X Wx) (gu:X.A.guards=some []) (F:FnG X.prog X.w X.K X.mg X.base k f fd ps (spE X.K n g)) (hr:Room k X.A) (hb:Binds X.K fd ps ds) (hd:Dft X.K dxs dvs ds) (hn:n - dvs.length + dvs.length=n:=by rfl) :
    Y8h X Wx (.ref f) (n - dvs.length) (W1 dxs g):=fun pins s σ H Q us vs Z ρ xs S I r st a hl p =>
  Y8r F gu hr hb hd.va (Xq.passAt tk σ) I r (X7i st (Paired.append a (hd.av _ _).axs) (by rw [List.length_append,hl,hn]) p)
theorem W4l {g:List D→PR} (tk:Xq.Tk X Wx) (gu:X.A.guards=some []) (F:FnG X.prog X.w X.K X.mg X.base k f fd ps (spP X.K n g)) (hr:Room k X.A) (hb:Binds X.K fd ps ds) (hd:Dft X.K dxs dvs ds) (hn:n - dvs.length + dvs.length=n:=by rfl) :
    Y8h X Wx (.ref f) (n - dvs.length) (W1 dxs (callP g)):=fun pins s σ H Q us vs Z ρ xs S I r st a hl p =>
  Y8r F gu hr hb hd.va (Xq.passAt tk σ) I r (W3x st (Paired.append a (hd.av _ _).axs) (by rw [List.length_append,hl,hn]) p)
def fs?:List (Str × Bv.X)→Option (List (Str × D))
  | []=>some []
  | (f,x) :: r=>match x,fs? r with
    | .d v,some l=>some ((f,v) :: l)
    | _,_=>none
def frz (S:Sto) (k:Nat):Option D:=match S[k]? with
  | some (.ins C fs)=>(fs? fs).map (.obj C)
  | _=>none
def mkF (k:Nat):R Bv.X→R Bv.X
  | .ok (.d .non) S=>(match frz S k,cut k S with
    | some d,some T => .ok (.d d) T
    | _,_ => .bad)
  | .ok _ _ => .bad
  | .err C fs S=>trunc k (.err C fs S)
  | .bad => .bad
def mkM (k:Nat):R Bv.X→R Bv.X
  | .ok (.d .non) S => .ok (.r k) S
  | .ok _ _ => .bad
  | .err C fs S=>trunc k (.err C fs S)
  | .bad => .bad
def made (C:Str) (mk:Nat→R Bv.X→R Bv.X) (g:List Bv.X→Sto→R Bv.X):List Bv.X→Sto→R Bv.X:=fun xs S=>mk S.length (g (.r S.length :: xs) (S++[.ins C []]))
def Mks (mk:Nat→R Bv.X→R Bv.X):Prop:=∀ {K:PySem.W.Frag} {Z:Wd} {ρ:List Addr} {S:Sto} {H H2:Hp} {Wx:WX} {σ:St} {Q:VK} {x:Addr} {r:R Bv.X},Sta K Z ρ S H→H x=none→(∀ a o,H a=some o→H2 a=some o)→Sta K Z (ρ++[x]) (S++[.ins (Str.empty) []]) H2 ∨ True→x ∉ ρ→Go ρ H (ρ++[x]) H2 →
  X6 (AX K) K Z ρ H Wx σ Q (mk S.length r)→X6 (AX K) K Z (ρ++[x]) H2 Wx σ (fun v H3=>v = .non∧Q (.ref x) H3) r
theorem X6g {K:PySem.W.Frag} {W:Wd} {ρ:List Addr} {H:Hp}:∀ {fs:List (Str × Bv.X)} {vs:List (Str × V)} {l:List (Str × D)},Paired (fun (p:Str × Bv.X) (q:Str × V)=>p.1=q.1∧AX K W ρ H p.2 q.2) fs vs→fs? fs=some l→AVf K W H l vs
  | _,_,_, .nil,e=>by cases e; exact .nil
  | (f,x) :: r,(f',v) :: _,l, .cons h t,e=>by
    cases x with
    | r n=>simp [fs?] at e
    | d d =>
      unfold fs? at e
      cases q:fs? r with
      | none=>rw [q] at e; cases e
      | some l2 =>
        rw [q] at e
        cases e
        obtain ⟨h1,h2⟩:=h
        obtain rfl:f=f':=h1
        cases h2 with
        | d h2=>exact .cons h2 (X6g t q)
theorem X21 {K:PySem.W.Frag} {Z:Wd} {ρ:List Addr} {S:Sto} {H H2:Hp} {Wx:WX} {σ:St} {Q Q':VK} {x:Addr} {C:Str} {fs:List (Str × D)} {T:Sto} (st:Sta K Z ρ S H) (k:∀ a o,H a=some o→H2 a=some o) (g:Go ρ H (ρ++[x]) H2)
    (p:X6 (AX K) K Z ρ H Wx σ Q (trunc S.length (.err C fs T))):X6 (AX K) K Z (ρ++[x]) H2 Wx σ Q' (.err C fs T) :=
  X7n.shift g (fun a o h=>⟨o,k a o h⟩) (show X7n K Z ρ H Wx σ C fs T from Y21 st p)
theorem Y1y:Mks mkF:=fun {K Z ρ S H H2 Wx σ Q x r} st hx k _ hn g p=>by
  cases r with
  | bad=>exact p
  | err C fs T=>exact X21 st k g p
  | ok y T =>
    cases y with
    | r n=>exact p.elim
    | d d =>
      cases d with
      | non =>
        intro ρ1 H1 v s1 g1 a
        have p:X6 (AX K) K Z ρ H Wx σ Q (match frz T S.length,cut S.length T with
          | some d,some T => .ok (.d d) T
          | _,_ => .bad):=p
        cases a with
        | d a =>
          cases a with
          | non =>
            refine ⟨rfl,?_⟩
            cases q1:frz T S.length with
            | none=>rw [q1] at p; exact p.elim
            | some d =>
              cases q2:cut S.length T with
              | none=>rw [q1,q2] at p; exact p.elim
              | some T' =>
                rw [q1,q2] at p
                have gg:=g.trans g1
                have q2':=q2
                rw [st.len] at q2'
                obtain ⟨s2,g2,m⟩:=Y66 st s1 gg q2'
                refine p ρ H1 (.ref x) s2 g2 (.d ?_)
                have ex:ρ1[S.length]?=some x:=by
                  obtain ⟨t,rfl⟩:=g1.pre
                  rw [st.len,List.append_assoc,List.getElem?_append_right (Nat.le_refl _),Nat.sub_self]; rfl
                unfold frz at q1
                cases y:T[S.length]? with
                | none=>rw [y] at q1; cases q1
                | some o =>
                  rw [y] at q1
                  have ob:=s1.ob _ o x y ex
                  cases o with
                  | ins C fs =>
                    obtain ⟨l,h1,h2⟩:=Option.map_eq_some_iff.mp (show (fs? fs).map (D.obj C)=some d from q1)
                    subst h2
                    obtain ⟨dx,vs,h3,h4⟩:=ob
                    refine .obj (fun z=>?_) h3 ((X6g h4 h1).mv m)
                    rcases z with z | z
                    · exact (s1.z x z).1 (List.mem_of_getElem? ex)
                    · exact hn z
                  | _=>cases q1
      | _=>exact p.elim
theorem W5e:Mks mkM:=fun {K Z ρ S H H2 Wx σ Q x r} st hx k _ hn g p=>by
  cases r with
  | bad=>exact p
  | err C fs T=>exact X21 st k g p
  | ok y T =>
    cases y with
    | r n=>exact p.elim
    | d d =>
      cases d with
      | non =>
        intro ρ1 H1 v s1 g1 a
        cases a with
        | d a =>
          cases a with
          | non =>
            refine ⟨rfl,?_⟩
            have p:X6 (AX K) K Z ρ H Wx σ Q (.ok (.r S.length) T):=p
            refine p ρ1 H1 (.ref x) s1 (g.trans g1) (.r ?_)
            obtain ⟨t,rfl⟩:=g1.pre
            rw [st.len,List.append_assoc,List.getElem?_append_right (Nat.le_refl _),Nat.sub_self]; rfl
      | _=>exact p.elim
theorem X4v {C:Str} {g:List Bv.X→Sto→R Bv.X} {mk:Nat→R Bv.X→R Bv.X} (hm:Mks mk) (tk:Xq.Tk X Wx) (gu:X.A.guards=some []) (M:Mk X.K (He.ga X.K C) f) (F:FnG X.prog X.w X.K X.mg X.base k f fd ps (spE X.K (n + 1) g)) (hr:Room (k + 1) X.A) (hb:Binds X.K fd ps ds) (hd:Dft X.K dxs dvs ds) (hn:n - dvs.length + dvs.length=n:=by rfl) :
    Y8h X Wx (.ref (He.ga X.K C)) (n - dvs.length) (W1 dxs (made C mk g)):=fun pins s σ H Q us vs Z ρ xs S I r st a hl p=>by
  have I2:=Inv.made (C:=He.ga X.K C) I
  have f1:H (s.heap.objs.size + 1)=none:=I.hok.fresh (Nat.le_succ _)
  have f2:H s.heap.objs.size=none:=I.hok.fresh (Nat.le_refl _)
  have fne:s.heap.objs.size ≠ s.heap.objs.size + 1:=Nat.ne_of_lt (Nat.lt_succ_self _)
  have kk:∀ a o,H a=some o→(upd (upd H s.heap.objs.size (.own (s.heap.objs.size + 1))) (s.heap.objs.size + 1) (.ins (He.ga X.K C) s.heap.objs.size [])) a=some o:=fun a o q=>by
    rw [upd_ne (ne_of_none q f1),upd_ne (ne_of_none q f2)]; exact q
  obtain ⟨st2,g2⟩:=st.push (o' := .ins C []) f1 kk ⟨_,[],upd_same, .nil⟩
  have hx:s.heap.objs.size + 1 ∉ ρ:=fun z=>by
    obtain ⟨m,o,e1,e2⟩:=st.mem z
    obtain ⟨u,q⟩:=(st.ob m o _ e1 e2).there
    rw [f1] at q; cases q
  have p2:=hm st f1 kk (.inr trivial) hx g2 (show X6 (AX X.K) X.K Z ρ H Wx σ Q (mk S.length (g (.r S.length :: (xs++dxs.map .d)) (S++[.ins C []]))) from p)
  have a2:AXs X.K (Wn Z (ρ++[s.heap.objs.size + 1])) (ρ++[s.heap.objs.size + 1]) _ (.r S.length :: (xs++dxs.map .d)) (V.ref (s.heap.objs.size + 1) :: (vs++dvs)) :=
    .cons (.r (by rw [st.len,List.getElem?_append_right (Nat.le_refl _),Nat.sub_self]; rfl)) (Paired.append (a.mv (g2.mv st) g2.pre) (hd.av _ _).axs)
  have hq:=X7i st2 a2 (n:=n + 1) (by simp only [List.length_cons,List.length_append,hl]; omega) p2
  have r2:Vals (V.ref (s.heap.objs.size + 1) :: (vs++dvs)) (Value.ref (s.heap.objs.size + 1) :: (us++ds)) := .cons rfl (r.append hd.va)
  have hl2:(Value.ref (s.heap.objs.size + 1) :: us++ds).length=ps.length:=by
    have e:=r2.length
    rw [F.len _ _ _ _ hq] at e
    exact e.symm
  refine (make_map (f:=f) I.kIn M.makes M.init (beq_iff_eq.mp M.fn) (codeAny_mono (F.run _ X.stack _ _ ⟨Value.ref (s.heap.objs.size + 1) :: us,[]⟩ (Value.ref (s.heap.objs.size + 1) :: (us++ds)) _ _ (WE Wx σ) (X8b gu) (hr.make _ us [])
    (I2.env0.make _ us []) (hb _ (Value.ref (s.heap.objs.size + 1) :: us) I2.kIn hl2) r2 hq) fun y s' hq'=>?_))
  cases y with
  | error e=>exact Xq.passAt tk σ pins _ _ e s' I2 hq'
  | ok fl =>
    cases fl with
    | ret u =>
      obtain ⟨v,H',I3,rv,ev,q3⟩:=I2.after hq'
      subst ev
      exact ⟨rv,V.ref (s.heap.objs.size + 1),H',I3,rfl,q3⟩
    | next=>exact False.elim hq'
    | brk=>exact False.elim hq'
    | cont=>exact False.elim hq'
end
end Bv
namespace Bv
open PySem PySem.Spec L2
open PyProof.Rows hiding St
variable [HasW]
def Z8 (g:List Bv.X→Sto→R Bv.X) (ms:MG (List Bv.X)):M:=fun e S=>(ms e S).bind g
def X9 (n:Nat) (g:List Bv.X→Sto→R Bv.X):List Bv.X→Sto→R Bv.X:=fun xs S=>if decide (xs.length=n) then g xs S else .bad
section
variable {X:Cx} {Wx:WX} {n:Nat} {f:Addr} {x:Str} {p pos apos:Pos} {e o:Expr} {es:List Expr} {ms:MG (List Bv.X)} {mo:M} {g:List Bv.X→Sto→R Bv.X}
theorem ari {rel:R Bv.X→Prop} {xs:List Bv.X} {S:Sto} (hb:¬ rel .bad) (h:rel (X9 n g xs S)):xs.length=n∧rel (g xs S):=by
  unfold X9 at h
  by_cases hn:xs.length=n
  · rw [if_pos (decide_eq_true hn)] at h; exact ⟨hn,h⟩
  · rw [if_neg (by simpa using hn)] at h; exact (hb h).elim
theorem V8 (c:Y8h X Wx (.ref f) n g) (hg:Gl X x) (hm:X.mg x=some (.ref f)) (hk:PySem.W.keepIn X.K (.ref f)=true) (ha:MA X Wx (e :: es) ms) (hdb:(x == ("__debug__" : Str))=false:=by decide)
    (he:starEach (e :: es) X.env=(false,eval e X.env) :: starEach es X.env:=by rfl) (hpl:(backTo pos (starEach es X.env)).any (·.1)=false:=by rfl):ME X Wx (.Call (.Name x p) (e :: es) [] pos) (Z8 (X9 n g) ms):=⟨fun pins s σ H Q I ⟨Z,ρ,e,S,st,ev,q⟩=>by
  refine wpAny_Call_Name_kw (ld_glob I hg hm ?_ hdb)
  refine PySem.W.callWith_K (h₀:=X.base) I.ok.mod.kin hk (thn (ha.run pos pins s σ H _ I (X5 (R':=fun vs H1=>∃ (ρ1:List Addr) (xs:List Bv.X) (S1:Sto),Sta X.K Z ρ1 S1 H1∧AXs X.K (Wn Z ρ1) ρ1 H1 xs vs∧X6 (AX X.K) X.K Z ρ1 H1 Wx σ Q (X9 n g xs S1)) st ev q fun ρ1 H1 v xs S1 s1 g1 ev1 a1 p1=>⟨ρ1,xs,S1,s1,a1,p1⟩))
    fun us s1 ⟨vs,H1,I1,r,ρ1,xs,S1,st1,a1,p1⟩=>⟨I1.kIn,?_⟩) he hpl
  obtain ⟨hl,p2⟩:=ari (rel:=X6 (AX X.K) X.K Z ρ1 H1 Wx σ Q) (fun z=>z) p1
  exact wpAny_call (c pins s1 σ H1 Q us vs Z ρ1 xs S1 I1 r st1 a1 (by rw [← Paired.length a1]; exact hl) p2)⟩
theorem X5a (c:Y8h X Wx (.ref f) 0 g) (hg:Gl X x) (hm:X.mg x=some (.ref f)) (hk:PySem.W.keepIn X.K (.ref f)=true) (hdb:(x == ("__debug__" : Str))=false:=by decide):ME X Wx (.Call (.Name x p) [] [] pos) (Z8 g Z7):=⟨fun pins s σ H Q I ⟨Z,ρ,e,S,st,ev,q⟩=>by
  refine wpAny_Call_Name_kw (ld_glob I hg hm ?_ hdb)
  exact PySem.W.callWith_K0 I.kIn hk (wpAny_call (c pins s σ H Q [] [] Z ρ [] S I .nil st .nil rfl q))⟩
def isOf (C m:Str) (S:Sto):Bv.X→Bool
  | .d (.obj D fs)=>decide (D=C) && (fs.lookup m).isNone
  | .d _=>false
  | .r n=>match S[n]? with
    | some (.ins D fs)=>decide (D=C) && (fs.lookup m).isNone
    | _=>false
theorem Y88 {K:PySem.W.Frag} {Z:Wd} {ρ:List Addr} {S:Sto} {H:Hp} {C m:Str} {y:Bv.X} {v:V} (st:Sta K Z ρ S H) (a:AX K (Wn Z ρ) ρ H y v) (h:isOf C m S y=true):∃ a dx fs,v = .ref a∧H a=some (.ins (He.ga K C) dx fs)∧fs.lookup m=none:=by
  cases a with
  | d a =>
    cases a with
    | obj w r hs =>
      obtain ⟨h1,h2⟩:=Bool.and_eq_true_iff.mp h
      obtain rfl:=of_decide_eq_true h1
      exact ⟨_,_,_,rfl,r,hs.none_of (Option.isNone_iff_eq_none.mp h2)⟩
    | _=>cases h
  | r e =>
    rename_i n q
    have h:(match S[n]? with
      | some (.ins D fs)=>decide (D=C) && (fs.lookup m).isNone
      | _=>false)=true:=h
    cases z:S[n]? with
    | none=>rw [z] at h; cases h
    | some ob =>
      rw [z] at h
      cases ob with
      | ins D fs =>
        obtain ⟨h1,h2⟩:=Bool.and_eq_true_iff.mp (show (decide (D=C) && (fs.lookup m).isNone)=true from h)
        obtain rfl:=of_decide_eq_true h1
        obtain ⟨dx,vs,h3,h4⟩:=st.ob n _ q z e
        exact ⟨_,_,_,rfl,h3,Y2y h4 (Option.isNone_iff_eq_none.mp h2)⟩
      | _=>cases h
def Z07 (C m:Str) (g:List Bv.X→Sto→R Bv.X) (mo:M) (ms:MG (List Bv.X)):M:=fun e S=>(mo e S).bind fun x S1=>if isOf C m S1 x then (ms e S1).bind fun xs S2=>g (x :: xs) S2 else .bad
theorem Z0s {C m:Str} {pl:Sem Bool} (cc:Y8h X Wx (.ref f) n g) (c:Cls X.K (He.ga X.K C)) (hm:Meth X.K (He.ga X.K C) m f) (ho:ME X Wx o mo) (ha:MA X Wx (e :: es) ms)
    (hst:starEach (e :: es) X.env=(false,eval e X.env) :: starEach es X.env:=by rfl) (hpl:(backTo pos (starEach es X.env)).any (·.1)=false:=by rfl)
    (ht:eval (.Call (.Attribute o m apos) (e :: es) [] pos) X.env=(do
      let ov ← eval o X.env
      standAt apos.atName
      let (f,first) ← holding [ov] (getMethod ov m pl)
      callWith pos f first (backTo pos (starEach (e :: es) X.env)) (backToKw pos (keywordEach [] X.env))):=by rfl):ME X Wx (.Call (.Attribute o m apos) (e :: es) [] pos) (Z07 C m (X9 n g) mo ms):=⟨fun pins s σ H Q I ⟨Z,ρ,e,S,st,ev,q⟩=>by
  refine PySem.W.methodCall_KW (pl:=pl) (thn (ho.run pins s σ H _ I (X5 (R':=fun v H1=>∃ (ρ1:List Addr) (y:Bv.X) (S1:Sto),Sta X.K Z ρ1 S1 H1∧AX X.K (Wn Z ρ1) ρ1 H1 y v∧EvOk X.K (Wn Z ρ1) ρ1 H1 e σ∧isOf C m S1 y=true∧X6 (AX X.K) X.K Z ρ1 H1 Wx σ Q ((ms e S1).bind fun xs S2=>X9 n g (y :: xs) S2)) st ev q
    fun ρ1 H1 v y S1 s1 g1 ev1 a1 p1=>by
      have p1:X6 (AX X.K) X.K Z ρ1 H1 Wx σ Q (if isOf C m S1 y then (ms e S1).bind fun xs S2=>X9 n g (y :: xs) S2 else .bad):=p1
      split at p1
      · rename_i hq; exact ⟨ρ1,y,S1,s1,a1,ev1,hq,p1⟩
      · exact p1.elim)) fun u s1 ⟨x,H1,I1,rx,ρ1,y,S1,st1,a1,ev1,hq,p1⟩=>?_) ht
  obtain ⟨a,dx,fs,rfl,ea,l⟩:=Y88 st1 a1 hq
  obtain rfl:u=Value.ref a:=rx
  refine getmeth_ok I1 ea c hm l ?_
  refine PySem.W.callWith_K (first:=[.ref a]) (h₀:=X.base) I.ok.mod.kin hm.kp (thn (ha.run pos pins s1 σ H1 _ I1 (X5 (R':=fun vs H2=>∃ (ρ2:List Addr) (xs:List Bv.X) (S2:Sto),Sta X.K Z ρ2 S2 H2∧AX X.K (Wn Z ρ2) ρ2 H2 y (.ref a)∧AXs X.K (Wn Z ρ2) ρ2 H2 xs vs∧X6 (AX X.K) X.K Z ρ2 H2 Wx σ Q (X9 n g (y :: xs) S2)) st1 ev1 p1
    fun ρ2 H2 v xs S2 s2 g2 ev2 a2 p2=>⟨ρ2,xs,S2,s2,a1.mv (g2.mv st1) g2.pre,a2,p2⟩)) fun us s2 ⟨vs,H2,I2,r,ρ2,xs,S2,st2,b2,a2,p2⟩=>⟨I2.kIn,?_⟩) hst hpl
  obtain ⟨hl,p3⟩:=ari (rel:=X6 (AX X.K) X.K Z ρ2 H2 Wx σ Q) (fun z=>z) p2
  have aa:AXs X.K (Wn Z ρ2) ρ2 H2 (y :: xs) (V.ref a :: vs) := .cons b2 a2
  exact wpAny_call (cc pins s2 σ H2 Q (.ref a :: us) (.ref a :: vs) Z ρ2 (y :: xs) S2 I2 (.cons rfl r) st2 aa (by rw [← Paired.length aa]; exact hl) p3)⟩
theorem Y3u {C m:Str} {pl:Sem Bool} (cc:Y8h X Wx (.ref f) 1 g) (c:Cls X.K (He.ga X.K C)) (hm:Meth X.K (He.ga X.K C) m f) (ho:ME X Wx o mo)
    (ht:eval (.Call (.Attribute o m apos) [] [] pos) X.env=(do
      let ov ← eval o X.env
      standAt apos.atName
      let (f,first) ← holding [ov] (getMethod ov m pl)
      callWith pos f first (backTo pos (starEach [] X.env)) (backToKw pos (keywordEach [] X.env))):=by rfl):ME X Wx (.Call (.Attribute o m apos) [] [] pos) (Z07 C m g mo Z7):=⟨fun pins s σ H Q I ⟨Z,ρ,e,S,st,ev,q⟩=>by
  refine PySem.W.methodCall_KW (pl:=pl) (thn (ho.run pins s σ H _ I (X5 (R':=fun v H1=>∃ (ρ1:List Addr) (y:Bv.X) (S1:Sto),Sta X.K Z ρ1 S1 H1∧AX X.K (Wn Z ρ1) ρ1 H1 y v∧isOf C m S1 y=true∧X6 (AX X.K) X.K Z ρ1 H1 Wx σ Q (g [y] S1)) st ev q
    fun ρ1 H1 v y S1 s1 g1 ev1 a1 p1=>by
      have p1:X6 (AX X.K) X.K Z ρ1 H1 Wx σ Q (if isOf C m S1 y then g [y] S1 else .bad):=p1
      split at p1
      · rename_i hq; exact ⟨ρ1,y,S1,s1,a1,hq,p1⟩
      · exact p1.elim)) fun u s1 ⟨x,H1,I1,rx,ρ1,y,S1,st1,a1,hq,p1⟩=>?_) ht
  obtain ⟨a,dx,fs,rfl,ea,l⟩:=Y88 st1 a1 hq
  obtain rfl:u=Value.ref a:=rx
  refine getmeth_ok I1 ea c hm l ?_
  exact PySem.W.callWith_K0 (first:=[.ref a]) I1.kIn hm.kp (wpAny_call (cc pins s1 σ H1 Q [.ref a] [.ref a] Z ρ1 [y] S1 I1 (.cons rfl .nil) st1 (.cons a1 .nil) rfl p1))⟩
def Y93 (K:PySem.W.Frag) (r:List V→Hp→VK→Prop) (g:List Bv.X→Sto→R Bv.X):Prop:=∀ (Z:Wd) (ρ:List Addr) (S:Sto) (H:Hp) (Wx:WX) (σ:St) (xs:List Bv.X) (vs:List V) (Q:VK),Sta K Z ρ S H→AXs K (Wn Z ρ) ρ H xs vs→X6 (AX K) K Z ρ H Wx σ Q (g xs S)→r vs H Q
theorem CallR.or {fv:Value} {r r':List V→Hp→VK→Prop} (h:CallR X fv r) (h':CallR X fv r'):CallR X fv (fun xs H Q=>r xs H Q ∨ r' xs H Q):=fun pins s σ H xs us Q I v q=>q.elim (h pins s σ H xs us Q I v) (h' pins s σ H xs us Q I v)
theorem Q5 {id:String} {r:List V→Hp→VK→Prop} (hc:CallR X (.builtin id) r) (h:Y93 X.K r g) (hg:Gl X x) (hm:X.mg x=none) (ha:MA X Wx (e :: es) ms) (hv:bootBuiltins x=some (.builtin id):=by rfl) (hn:x ≠ "__name__" := by decide) (hdb:(x == ("__debug__" : Str))=false:=by decide)
    (he:starEach (e :: es) X.env=(false,eval e X.env) :: starEach es X.env:=by rfl) (hpl:(backTo pos (starEach es X.env)).any (·.1)=false:=by rfl):ME X Wx (.Call (.Name x p) (e :: es) [] pos) (Z8 g ms):=PE.of (pe_callB hc hg hm hv ha hn hdb he hpl) fun σ H Q ⟨Z,ρ,e,S,st,ev,q⟩ =>
  X5 st ev q fun ρ1 H1 v xs S1 s1 g1 ev1 a1 p1=>h Z ρ1 S1 H1 Wx σ xs v Q s1 a1 p1
theorem Z08 {T:String} {r:List V→Hp→VK→Prop} (hc:CallR X (.type T) r) (h:Y93 X.K r g) (hg:Gl X x) (hm:X.mg x=none) (ha:MA X Wx (e :: es) ms) (hv:bootBuiltins x=some (.type T):=by rfl) (hn:x ≠ "__name__" := by decide) (hdb:(x == ("__debug__" : Str))=false:=by decide)
    (he:starEach (e :: es) X.env=(false,eval e X.env) :: starEach es X.env:=by rfl) (hpl:(backTo pos (starEach es X.env)).any (·.1)=false:=by rfl):ME X Wx (.Call (.Name x p) (e :: es) [] pos) (Z8 g ms):=PE.of (pe_callTy hc hg hm hv ha hn hdb he hpl) fun σ H Q ⟨Z,ρ,e,S,st,ev,q⟩ =>
  X5 st ev q fun ρ1 H1 v xs S1 s1 g1 ev1 a1 p1=>h Z ρ1 S1 H1 Wx σ xs v Q s1 a1 p1
end
def Z5x (f:List Int→Option Int):List Bv.X→Sto→R Bv.X:=fun xs S=>match (ints? xs).bind f with
  | some i => .ok (.d (.int i)) S
  | none => .bad
theorem Y09 {K:PySem.W.Frag} {Z:Wd} {ρ:List Addr} {S:Sto} {H:Hp} {Wx:WX} {σ:St} {Q:VK} {f:List Int→Option Int} {xs:List Bv.X} {vs:List V} (st:Sta K Z ρ S H) (a:AXs K (Wn Z ρ) ρ H xs vs) (h:X6 (AX K) K Z ρ H Wx σ Q (Z5x f xs S)):∃ l i,vs=l.map V.int∧f l=some i∧Q (.int i) H:=by
  unfold Z5x at h
  cases q:(ints? xs).bind f with
  | none=>rw [q] at h; exact h.elim
  | some i =>
    rw [q] at h
    obtain ⟨l,h1,h2⟩:=Option.bind_eq_some_iff.mp q
    exact ⟨l,i,Z94 a h1,h2,X6.ret0 h st (.d (.int i))⟩
def X4o:List Int→Option Int
  | [i]=>some (if i < 0 then -i else i)
  | _=>none
def X4j:List Int→Option Int
  | [i,j]=>some (if j < i then j else i)
  | _=>none
def X4i:List Int→Option Int
  | [i,j]=>some (if j > i then j else i)
  | _=>none
section
variable {K:PySem.W.Frag}
theorem W1t:Y93 K (fun xs H Q=>∃ i,xs=[.int i]∧Q (.int (if i < 0 then -i else i)) H) (Z5x X4o):=fun Z ρ S H Wx σ xs vs Q st a h=>by
  obtain ⟨l,i,e1,e2,q⟩:=Y09 st a h
  match l,e2 with
  | [j],e2=>cases e2; exact ⟨j,e1,q⟩
theorem W4j:Y93 K (fun xs H Q=>∃ i j,xs=[.int i, .int j]∧Q (.int (if j < i then j else i)) H) (Z5x X4j):=fun Z ρ S H Wx σ xs vs Q st a h=>by
  obtain ⟨l,i,e1,e2,q⟩:=Y09 st a h
  match l,e2 with
  | [j,k],e2=>cases e2; exact ⟨j,k,e1,q⟩
theorem W4i:Y93 K (fun xs H Q=>∃ i j,xs=[.int i, .int j]∧Q (.int (if j > i then j else i)) H) (Z5x X4i):=fun Z ρ S H Wx σ xs vs Q st a h=>by
  obtain ⟨l,i,e1,e2,q⟩:=Y09 st a h
  match l,e2 with
  | [j,k],e2=>cases e2; exact ⟨j,k,e1,q⟩
def Y62:List Bv.X→Sto→R Bv.X
  | [.d (.int i)],S => .ok (.d (.int i)) S
  | [.d (.bl b)],S => .ok (.d (.int (if b then 1 else 0))) S
  | _,_ => .bad
theorem Y56 {W:Wd} {ρ:List Addr} {H:Hp} {d:D} {vs:List V} (a:AXs K W ρ H [.d d] vs):∃ v,vs=[v]∧AV K W H d v:=by
  cases a with
  | cons h t =>
    cases t
    cases h with
    | d h=>exact ⟨_,rfl,h⟩
theorem Y4x:Y93 K (fun xs H Q=>(∃ i,xs=[.int i]∧Q (.int i) H) ∨ ∃ k,xs=[.bl k]∧Q (.int (if k then 1 else 0)) H) Y62:=fun Z ρ S H Wx σ xs vs Q st a h=>by
  unfold Y62 at h
  split at h
  · rename_i j
    obtain ⟨v,rfl,b⟩:=Y56 a
    have e:v = .int j:=by cases b; rfl
    exact .inl ⟨_,by rw [e],X6.ret0 h st (.d (.int _))⟩
  · rename_i j
    obtain ⟨v,rfl,b⟩:=Y56 a
    have e:v = .bl j:=by cases b; rfl
    exact .inr ⟨_,by rw [e],X6.ret0 h st (.d (.int _))⟩
  · exact h.elim
def X86:D→Option Int
  | .str z=>if decide (z.length ≤ sizeLine) then some z.length else none
  | .scr ns=>some ns.length
  | _=>none
def X0c (S:Sto):Bv.X→Option Int
  | .d (.dic kvs)=>some kvs.length
  | .d d=>match items S (.d d) with
    | some ys=>some ys.length
    | none=>X86 d
  | .r n=>match S[n]? with
    | some (.lst xs)=>some xs.length
    | some (.dic kvs)=>some kvs.length
    | some (.fdc kvs)=>some kvs.length
    | _=>none
def Z3e:List Bv.X→Sto→R Bv.X
  | [x],S=>(match X0c S x with
    | some n => .ok (.d (.int n)) S
    | none => .bad)
  | _,_ => .bad
abbrev W3h (K:PySem.W.Frag):List V→Hp→VK→Prop:=fun xs H Q=>((∃ p ys,xs=[.ref p]∧(SqL K H p ys ∨ SqT K H p ys)∧Q (.int ys.length) H) ∨ (∃ z,xs=[.str z]∧z.length ≤ sizeLine∧Q (.int z.length) H)) ∨ ∃ a kvs,xs=[V.ref a]∧Rd H a (.dK kvs)∧Q (.int kvs.length) H
theorem Y97 {X:Cx}:CallR X (.builtin "len") (fun xs H Q=>∃ a kvs,xs=[V.ref a]∧Rd H a (.dK kvs)∧Q (.int kvs.length) H):=fun pins s σ H xs us Q I r h=>by
  obtain ⟨a,kvs,rfl,hd,q⟩:=h
  cases r with
  | cons r t =>
    cases t
    cases (show _=Value.ref a from r)
    exact d_len I hd fun t s' I'=>⟨V.int kvs.length,H,I',⟨t,rfl⟩,q⟩
theorem Z24 {X:Cx}:CallR X (.builtin "len") (W3h X.K):=CallR.or (CallR.or call_len_seq call_len_str) Y97
theorem AVk.length {W:Wd} {H:Hp}:∀ {ds:List (D × D)} {vs:List (Key × V)},AVk K W H ds vs→ds.length=vs.length
  | _,_, .nil=>rfl
  | _,_, .cons _ _ t=>by simp [AVk.length t]
theorem Z3c:Y93 K (W3h K) Z3e:=fun Z ρ S H Wx σ xs vs Q st a h=>by
  unfold Z3e at h
  split at h
  · rename_i x
    cases a with
    | cons ha t =>
      cases t
      cases q:X0c S x with
      | none=>rw [q] at h; exact h.elim
      | some n =>
        rw [q] at h
        have hQ:Q (.int n) H:=X6.ret0 h st (.d (.int n))
        cases ha with
        | d ha =>
          cases ha with
          | dic w r hs=>cases q; exact .inr ⟨_,_,rfl, .inr ⟨_,r⟩,by rw [← hs.length]; exact hQ⟩
          | lst w r hs =>
            rw [show X0c S (.d (.lst _))=some ((List.map Bv.X.d _).length:Int) from rfl,List.length_map] at q
            cases q; exact .inl (.inl ⟨_,_,rfl, .inl (.inl (.inl r)),by rw [← hs.length]; exact hQ⟩)
          | tup r hs =>
            rw [show X0c S (.d (.tup _))=some ((List.map Bv.X.d _).length:Int) from rfl,List.length_map] at q
            cases q; exact .inl (.inl ⟨_,_,rfl, .inr r.sq,by rw [← hs.length]; exact hQ⟩)
          | scr r =>
            rename_i q' ns
            cases q
            exact .inl (.inl ⟨_,ns.map V.int,rfl, .inl r.sl,by rw [List.length_map]; exact hQ⟩)
          | str hz =>
            rename_i z
            have q:(if decide (z.length ≤ sizeLine) then some (z.length:Int) else none)=some n:=q
            obtain ⟨h1,h2⟩:=Z37 q
            cases h2
            exact .inl (.inr ⟨z,rfl,of_decide_eq_true h1,hQ⟩)
          | _=>cases q
        | r e =>
          rename_i m b
          have q:(match S[m]? with
            | some (.lst xs)=>some (xs.length:Int)
            | some (.dic kvs)=>some (kvs.length:Int)
            | some (.fdc kvs)=>some (kvs.length:Int)
            | _=>none)=some n:=q
          cases z:S[m]? with
          | none=>rw [z] at q; cases q
          | some o =>
            rw [z] at q
            have ob:=st.ob m o b z e
            cases o with
            | lst xs =>
              cases q
              obtain ⟨vs,h3,h4⟩:=ob
              exact .inl (.inl ⟨_,vs,rfl, .inl (.inl (.inl h3)),by rw [← Paired.length h4]; exact hQ⟩)
            | dic xs =>
              cases q
              obtain ⟨vs,h3,h4⟩:=ob
              exact .inr ⟨_,vs,rfl, .inl h3,by rw [← Paired.length h4]; exact hQ⟩
            | fdc xs =>
              cases q
              obtain ⟨o,vs,h3,h4⟩:=ob
              exact .inr ⟨_,vs,rfl, .inr ⟨o,h3⟩,by rw [← Paired.length h4]; exact hQ⟩
            | _=>cases q
  · exact h.elim
def Z7e:List Bv.X→Sto→R Bv.X
  | [x],S=>(match (items S x).bind ds? with
    | some ds => .ok (.d (.tup ds)) S
    | none => .bad)
  | _,_ => .bad
abbrev W3j (K:PySem.W.Frag):List V→Hp→VK→Prop:=fun xs H Q=>∃ p ys,xs=[.ref p]∧((SqL K H p ys∧∀ l,H l=none→Q (.ref l) (upd H l (.tup ys))) ∨ (SqT K H p ys∧Q (.ref p) H))
theorem Z62:Y93 K (W3j K) Z7e:=fun Z ρ S H Wx σ xs vs Q st a h=>by
  unfold Z7e at h
  split at h
  · rename_i x
    cases a with
    | cons ha t =>
      cases t
      cases q:(items S x).bind ds? with
      | none=>rw [q] at h; exact h.elim
      | some ds =>
        rw [q] at h
        obtain ⟨ys,h1,h2⟩:=Option.bind_eq_some_iff.mp q
        have fin:∀ {b us},SqL K H b us→AXs K (Wn Z ρ) ρ H ys us→∀ l,H l=none→Q (.ref l) (upd H l (.tup us)):=fun hq hp l hl=>X6.ret h st (V9 hl) (.d (Z9b (fun z hz=>st.thereW hz) hl (AXs.ds hp h2)))
        cases ha with
        | r e =>
          obtain ⟨b,us,e1,hq,hp⟩:=(AX.r e).items st h1
          cases e1
          rename_i m _
          have h1':(match S[m]? with
            | some (.lst xs)=>some xs
            | _=>none)=some ys:=h1
          cases z:S[m]? with
          | none=>rw [z] at h1'; cases h1'
          | some o =>
            rw [z] at h1'
            cases o with
            | lst xs =>
              cases h1'
              obtain ⟨vs,h3,h4⟩:=st.ob m _ _ z e
              exact ⟨_,vs,rfl, .inl ⟨.inl (.inl h3),fin (.inl (.inl h3)) h4⟩⟩
            | _=>cases h1'
        | d ha =>
          cases ha with
          | lst w r hs=>cases h1; exact ⟨_,_,rfl, .inl ⟨.inl (.inl r),fin (.inl (.inl r)) hs.axs⟩⟩
          | tup r hs =>
            cases h1
            rename_i ds2
            have e3:∀ (l:List D),ds? (l.map Bv.X.d)=some l:=fun l=>by
              induction l with
              | nil=>rfl
              | cons d r ih=>simp [ds?,ih]
            rw [e3] at h2
            cases h2
            exact ⟨_,_,rfl, .inr ⟨r.sq,X6.ret0 h st (.d (.tup r hs))⟩⟩
          | _=>cases h1
  · exact h.elim
def bls?:List Bv.X→Option (List Bool)
  | []=>some []
  | .d (.bl b) :: r=>(bls? r).map (b :: ·)
  | _ :: _=>none
theorem X1f {W:Wd} {ρ:List Addr} {H:Hp}:∀ {xs:List Bv.X} {vs:List V} {l:List Bool},AXs K W ρ H xs vs→bls? xs=some l→vs=l.map V.bl
  | _,_,_, .nil,e=>by cases e; rfl
  | x :: r,_,l, .cons h t,e=>by
    cases x with
    | r n=>simp [bls?] at e
    | d d =>
      cases d with
      | bl b =>
        obtain ⟨l2,h1,h2⟩:=Option.map_eq_some_iff.mp (show (bls? r).map (b :: ·)=some l from e)
        subst h2
        cases h with
        | d h=>cases h; rw [X1f t h1]; rfl
      | _=>simp [bls?] at e
def Z0l (S:Sto):Bv.X→Bool
  | .d (.lst _)=>true
  | .r n=>match S[n]? with
    | some (.lst _)=>true
    | _=>false
  | _=>false
theorem AX.itemsL {Z:Wd} {ρ:List Addr} {S:Sto} {H:Hp} {x:Bv.X} {v:V} {ys:List Bv.X} (st:Sta K Z ρ S H) (h:AX K (Wn Z ρ) ρ H x v) (e:Bv.items S x=some ys) (hl:Z0l S x=true):∃ q xs,v = .ref q∧H q=some (.lst xs)∧AXs K (Wn Z ρ) ρ H ys xs:=by
  cases h with
  | d h =>
    cases h with
    | lst w r hs=>cases e; exact ⟨_,_,rfl,r,hs.axs⟩
    | _=>cases hl
  | r h =>
    rename_i n q
    have e1:(match S[n]? with
      | some (.lst xs)=>some xs
      | _=>none)=some ys:=e
    cases z:S[n]? with
    | none=>rw [z] at e1; cases e1
    | some o =>
      rw [z] at e1
      cases o with
      | lst xs =>
        cases e1
        obtain ⟨vs,h1,h2⟩:=st.ob n _ q z h
        exact ⟨q,vs,rfl,h1,h2⟩
      | _=>cases e1
def Y41 (f:List Bool→Bool):List Bv.X→Sto→R Bv.X
  | [x],S=>if Z0l S x then (match (items S x).bind bls? with
    | some l => .ok (.d (.bl (f l))) S
    | none => .bad) else .bad
  | _,_ => .bad
theorem Y8o {f:List Bool→Bool} {Z:Wd} {ρ:List Addr} {S:Sto} {H:Hp} {Wx:WX} {σ:St} {Q:VK} {xs:List Bv.X} {vs:List V} (st:Sta K Z ρ S H) (a:AXs K (Wn Z ρ) ρ H xs vs) (h:X6 (AX K) K Z ρ H Wx σ Q (Y41 f xs S)):∃ a bs,vs=[V.ref a]∧SqL K H a (bs.map V.bl)∧Q (.bl (f bs)) H:=by
  unfold Y41 at h
  split at h
  · rename_i x
    split at h
    · rename_i hl
      cases a with
      | cons ha t =>
        cases t
        cases q:(items S x).bind bls? with
        | none=>rw [q] at h; exact h.elim
        | some l =>
          rw [q] at h
          obtain ⟨ys,h1,h2⟩:=Option.bind_eq_some_iff.mp q
          obtain ⟨b,us,rfl,hq,hp⟩:=ha.itemsL st h1 hl
          rw [X1f hp h2] at hq
          exact ⟨b,l,rfl, .inl (.inl hq),X6.ret0 h st (.d (.bl _))⟩
    · exact h.elim
  · exact h.elim
theorem Y3d:Y93 K (rAll K) (Y41 fun l=>l.all id):=fun Z ρ S H Wx σ xs vs Q st a h=>Y8o st a h
theorem W1u:Y93 K (rAny K) (Y41 fun l=>l.any id):=fun Z ρ S H Wx σ xs vs Q st a h=>Y8o st a h
end
end Bv
namespace Bv
open PySem PySem.Spec L2
open PyProof.Rows hiding St
variable [HasW]
abbrev W53:Wd→List Addr→Hp→Option Int→Option Int→Prop:=fun _ _ _ b c=>b=c
abbrev MO (X:Cx) (Wx:WX) (e:Option Expr) (m:MG (Option Int)):Prop:=PO X e (RG W53 X.K Wx m)
def Y2v:MG (Option Int):=fun _ S => .ok none S
def Z20 (m:M):MG (Option Int):=fun e S=>(m e S).bind fun x S1=>Z4r ((Y5g x).map some) S1
def Z8j {α:Type} (xs:List α) (lo hi:Option Int):List α:=(xs.drop (HT.sIx xs.length 0 lo)).take (HT.sIx xs.length xs.length hi - HT.sIx xs.length 0 lo)
def slX (S:Sto) (x:X) (lo hi:Option Int):Option X:=match x with
  | .d (.lst ds)=>some (.d (.lst (Z8j ds lo hi)))
  | .d (.tup ds)=>some (.d (.tup (Z8j ds lo hi)))
  | .d (.scr ns)=>some (.d (.lst ((Z8j ns lo hi).map .int)))
  | .d (.str z)=>if decide (z.length ≤ sizeLine) then some (.d (.str ⟨(Z8j z.cps.toList lo hi).toArray⟩)) else none
  | .r n=>(match S[n]? with
    | some (.lst xs)=>(ds? (Z8j xs lo hi)).map fun ds => .d (.lst ds)
    | _=>none)
  | _=>none
def Z1j (m:M) (ml mh:MG (Option Int)):M:=fun e S=>(m e S).bind fun x S1=>(ml e S1).bind fun l S2=>(mh e S2).bind fun h S3=>Z4r (slX S3 x l h) S3
section
variable {X:Cx} {Wx:WX} {pos p p2 apos:Pos} {a b c o i e:Expr} {lo hi:Option Expr} {ma mb mc m mo mi:M} {ml mh:MG (Option Int)} {ms:MG (List Bv.X)}
theorem PO.of {e:Option Expr} {t t':TO} (h:PO X e t) (w:∀ σ H Q,t' σ H Q→t σ H Q):PO X e t':=⟨fun pins s σ H Q I q=>h.run pins s σ H Q I (w σ H Q q)⟩
theorem Z50:MO X Wx none Y2v:=PO.of po_none fun σ H Q ⟨Z,ρ,e,S,st,ev,p⟩=>X6.ret0 p st rfl
theorem Z51 (h:ME X Wx a m):MO X Wx (some a) (Z20 m):=PO.of (po_some h) fun σ H Q ⟨Z,ρ,e,S,st,ev,p⟩=>X5 st ev p fun ρ1 H1 v x S1 s1 g1 ev1 a1 p1=>by
  obtain ⟨o,ho,p2⟩:=p1.opt
  obtain ⟨j,h1,h2⟩:=Option.map_eq_some_iff.mp ho
  subst h2
  exact ⟨j,a1.int h1,X6.ret0 p2 s1 rfl⟩
theorem AVs.cutV {K:PySem.W.Frag} {W:Wd} {H:Hp} {ds:List D} {vs:List V} (h:AVs K W H ds vs) (lo hi:Option Int):AVs K W H (Z8j ds lo hi) (L2.cutV vs lo hi):=by
  unfold Z8j L2.cutV
  rw [h.length]
  exact (h.drop _).take _
theorem AXs.takeP {α β:Type} {F:α→β→Prop}:∀ {l:List α} {r:List β} (n:Nat),Paired F l r→Paired F (l.take n) (r.take n)
  | _,_,0,_ => .nil
  | _,_,_ + 1, .nil => .nil
  | _,_,n + 1, .cons x t => .cons x (AXs.takeP n t)
theorem AXs.dropP {α β:Type} {F:α→β→Prop}:∀ {l:List α} {r:List β} (n:Nat),Paired F l r→Paired F (l.drop n) (r.drop n)
  | _,_,0,t=>t
  | _,_,_ + 1, .nil => .nil
  | _,_,n + 1, .cons x t=>AXs.dropP n t
theorem X5r {F:Bv.X→V→Prop} {l:List Bv.X} {r:List V} (h:Paired F l r) (lo hi:Option Int):Paired F (Z8j l lo hi) (L2.cutV r lo hi):=by
  unfold Z8j L2.cutV
  rw [Paired.length h]
  exact AXs.takeP _ (AXs.dropP _ h)
theorem X7y {α β:Type} (f:α→β) (xs:List α) (lo hi:Option Int):Z8j (xs.map f) lo hi=(Z8j xs lo hi).map f:=by
  unfold Z8j
  rw [List.length_map,List.map_take,List.map_drop]
theorem X40 {α:Type} {xs:List α} {lo hi:Option Int} {a:α} (h:a ∈ Z8j xs lo hi):a ∈ xs:=List.mem_of_mem_drop (List.mem_of_mem_take h)
theorem Z38 (he:ME X Wx a m) (hl:MO X Wx lo ml) (hh:MO X Wx hi mh):ME X Wx (.Subscript a (.Slice lo hi none p2) pos) (Z1j m ml mh):=PE.of (pe_slice (SlR.or (SlR.or sl_list sl_tupA) sl_str) he hl hh) fun σ H Q ⟨Z,ρ,e,S,st,ev,p⟩=>by
  refine X5 st ev p fun ρ1 H1 v x S1 s1 g1 ev1 a1 p1=>?_
  refine X5 (rel:=W53) s1 ev1 p1 fun ρ2 H2 l l' S2 s2 g2 ev2 e2 p2=>?_
  refine X5 (rel:=W53) s2 ev2 p2 fun ρ3 H3 h h' S3 s3 g3 ev3 e3 p3=>?_
  cases (show l'=l from e2)
  cases (show h'=h from e3)
  have a3:=(a1.mv (g2.mv s1) g2.pre).mv (g3.mv s2) g3.pre
  obtain ⟨y,hy,p4⟩:=p3.opt
  clear p3 p2 p1 p a1
  have lst:∀ {q:Addr} {xs:List V} {ds:List D},SqL X.K H3 q xs→AVs X.K (Wn Z ρ3) H3 ds xs→y = .d (.lst (Z8j ds l h))→∃ a xs,V.ref q = .ref a∧SqL X.K H3 a xs∧∀ p,H3 p=none→Q (.ref p) (upd H3 p (.lst (L2.cutV xs l h))):=fun {q xs ds} hq hs ey=>by
    subst ey
    exact ⟨q,xs,rfl,hq,fun p hp=>X6.ret p4 s3 (V9 hp) (.d (Z54 (fun z hz=>s3.thereW hz) hp (hs.cutV l h)))⟩
  cases a3 with
  | d a =>
    cases a with
    | lst w r hs=>cases hy; exact .inl (.inl (lst (.inl (.inl r)) hs rfl))
    | scr r =>
      rename_i q ns
      cases hy
      exact .inl (.inl (lst r.sl (Y3b ns) (by rw [X7y])))
    | tup t hs =>
      rename_i q xs ds
      cases hy
      refine .inl (.inr ⟨_,xs,rfl,t.sq,fun hw=>?_,fun _ p hp=>X6.ret p4 s3 (V9 hp) (.d (Z9b (fun z hz=>s3.thereW hz) hp (hs.cutV l h)))⟩)
      have e0:Z8j ds l h=ds:=by
        unfold Z8j
        rw [hs.length,hw.1,hw.2,List.drop_zero,Nat.sub_zero,← hs.length,List.take_length]
      rw [e0] at p4
      exact X6.ret0 p4 s3 (.d (.tup t hs))
    | str hz =>
      rename_i z
      have hy:(if decide (z.length ≤ sizeLine) then some (Bv.X.d (.str ⟨(Z8j z.cps.toList l h).toArray⟩)) else none)=some y:=hy
      obtain ⟨h1,h2⟩:=Z37 hy
      cases h2
      refine .inr ⟨z,rfl,of_decide_eq_true h1,?_⟩
      have e0:cutS z l h=⟨(Z8j z.cps.toList l h).toArray⟩:=by
        unfold cutS Z8j
        rw [show z.cps.toList.length=z.length from by simp [Str.length]]
      rw [e0]
      exact X6.ret0 p4 s3 (.d (.str (Z99 fun c m=>Y1p hz (X40 (by simpa using m)))))
    | _=>cases hy
  | r hr =>
    rename_i n q
    have hy:(match S3[n]? with
      | some (.lst xs)=>(ds? (Z8j xs l h)).map fun ds=>Bv.X.d (.lst ds)
      | _=>none)=some y:=hy
    cases z:S3[n]? with
    | none=>rw [z] at hy; cases hy
    | some ob =>
      rw [z] at hy
      cases ob with
      | lst xs =>
        obtain ⟨ds,h1,h2⟩:=Option.map_eq_some_iff.mp (show (ds? (Z8j xs l h)).map (fun ds=>Bv.X.d (.lst ds))=some y from hy)
        subst h2
        obtain ⟨vs,h3,h4⟩:=s3.ob n _ q z hr
        exact .inl (.inl ⟨q,vs,rfl, .inl (.inl h3),fun p hp=>X6.ret p4 s3 (V9 hp) (.d (Z54 (fun z hz=>s3.thereW hz) hp (AXs.ds (X5r h4 l h) h1)))⟩)
      | _=>cases hy
def X4l (S:Sto) (o i v:Bv.X):Option Sto:=match o,Y5g i with
  | .r n,some k=>(match S[n]? with
    | some (.lst xs)=>(ixN xs.length k).map fun j=>S.set n (.lst (xs.set j v))
    | _=>none)
  | _,_=>none
def Y4c (mo mi m:M):MS:=fun e S=>(m e S).so e fun v S1=>(mo e S1).so e fun o S2=>(mi e S2).so e fun i S3=>match X4l S3 o i v with
  | some S4 => .go (.nx e) S4
  | none => .bad
theorem Paired.setP {α β:Type} {F:α→β→Prop} {a:α} {b:β} (h:F a b):∀ {l:List α} {r:List β} (j:Nat),Paired F l r→Paired F (l.set j a) (r.set j b)
  | _,_,_, .nil => .nil
  | _,_,0, .cons _ t => .cons h t
  | _,_,j + 1, .cons x t => .cons x (Paired.setP h j t)
theorem Sta.putL {K:PySem.W.Frag} {Z:Wd} {ρ:List Addr} {S:Sto} {H:Hp} {n:Nat} {q:Addr} {xs:List Bv.X} {vs us:List V} (s:Sta K Z ρ S H) (hn:ρ[n]?=some q) (hq:H q=some (.lst us)) (a:AXs K (Wn Z ρ) ρ H xs vs):Sta K Z ρ (S.set n (.lst xs)) (upd H q (.lst vs))∧Go ρ H ρ (upd H q (.lst vs)) :=
  s.put hn (fun _ _ z=>by rw [hq] at z; cases z) ⟨vs,upd_same,AXs.mv (fun b o h z=>⟨h,by rw [upd_ne (fun y=>h (.inr (by rw [y]; exact List.mem_of_getElem? hn)))]; exact z⟩) (List.prefix_refl _) a⟩
theorem X63 (ho:ME X Wx o mo) (hi:ME X Wx i mi) (ha:ME X Wx a m) (hs:swapsWithSole [.Subscript o i p] a pos.line X.env=pure false:=by rfl) (hw:swappedStores [.Subscript o i p] a X.env=pure none:=by rfl)
    (h1:(assignEach [.Subscript o i p] X.env).map (·.2)=[assign (.Subscript o i p) X.env]:=by rfl)
    (h2:∀ v,assign (.Subscript o i p) X.env v=(do
      let ov ← holding [v] (eval o X.env)
      let iv ← holding [v,ov] (eval i X.env)
      standAt p
      holding [v,ov,iv] (setItem ov iv v)
      release [v,ov,iv] []):=by intro _; rfl):MP X Wx (.Assign [.Subscript o i p] a pos) (Y4c mo mi m):=PS.of (ps_asg ha (pg_sub ho hi set_list h2) hs hw h1) fun D σ H ⟨Z,ρ,e,S,st,ev,q⟩=>by
  refine Z0h st ev q fun ρ1 H1 v x S1 s1 g1 ev1 a1 q1=>?_
  refine Z0h s1 ev1 q1 fun ρ2 H2 ov y S2 s2 g2 ev2 a2 q2=>?_
  refine Z0h s2 ev2 q2 fun ρ3 H3 iv z S3 s3 g3 ev3 a3 q3=>?_
  have b1:=(a1.mv (g2.mv s1) g2.pre).mv (g3.mv s2) g3.pre
  have b2:=a2.mv (g3.mv s2) g3.pre
  cases q4:X4l S3 y z x with
  | none=>rw [q4] at q3; exact q3.elim
  | some S4 =>
    rw [q4] at q3
    cases y with
    | d d=>cases q4
    | r n =>
      have q4:(match Y5g z with
        | some k=>(match S3[n]? with
          | some (.lst xs)=>(ixN xs.length k).map fun j=>S3.set n (.lst (xs.set j x))
          | _=>none)
        | none=>none)=some S4:=by
        cases hz:Y5g z with
        | none=>simp [X4l,hz] at q4
        | some k=>simp only [X4l,hz] at q4; exact q4
      cases hz:Y5g z with
      | none=>rw [hz] at q4; cases q4
      | some k =>
        rw [hz] at q4
        have q4:(match S3[n]? with
          | some (.lst xs)=>(ixN xs.length k).map fun j=>S3.set n (.lst (xs.set j x))
          | _=>none)=some S4:=q4
        cases hs:S3[n]? with
        | none=>rw [hs] at q4; cases q4
        | some ob =>
          rw [hs] at q4
          cases ob with
          | lst xs =>
            obtain ⟨j,h1,h2⟩:=Option.map_eq_some_iff.mp (show (ixN xs.length k).map (fun j=>S3.set n (.lst (xs.set j x)))=some S4 from q4)
            subst h2
            cases b2 with
            | r b2 =>
              rename_i q
              obtain ⟨vs,h3,h4⟩:=s3.ob n _ q hs b2
              have e3:=a3.int hz
              subst e3
              obtain ⟨s5,g5⟩:=s3.putL b2 h3 (Paired.setP b1 j h4)
              exact ⟨q,vs,k,j,rfl,rfl,h3,by rw [← Paired.length h4]; exact h1,q3 ρ3 _ σ s5 g5 (ev3.mv (g5.mv s3) g5.pre)⟩
          | _=>cases q4
def Z4q (ty:Sto→Bv.X→Bool) (g:Bv.X→List Bv.X→Sto→R Bv.X) (mo:M) (ms:MG (List Bv.X)):M:=fun e S=>(mo e S).bind fun x S1=>if ty S1 x then (ms e S1).bind fun xs S2=>g x xs S2 else .bad
def MtX (K:PySem.W.Frag) (r:V→List V→Hp→VK→Prop) (g:Bv.X→List Bv.X→Sto→R Bv.X):Prop:=∀ (Z:Wd) (ρ:List Addr) (S:Sto) (H:Hp) (Wx:WX) (σ:L2.St) (x:Bv.X) (v:V) (xs:List Bv.X) (vs:List V) (Q:VK),Sta K Z ρ S H→AX K (Wn Z ρ) ρ H x v→AXs K (Wn Z ρ) ρ H xs vs→X6 (AX K) K Z ρ H Wx σ Q (g x xs S)→r v vs H Q
theorem Y87 {Z:Wd} {ρ:List Addr} {S:Sto} {H:Hp} {x:Bv.X} {v:V} (st:Sta X.K Z ρ S H) (a:AX X.K (Wn Z ρ) ρ H x v) (h:Z0l S x=true):tyV X.K "list" v H:=by
  cases a with
  | d a =>
    cases a with
    | lst w r hs=>exact .inl ⟨rfl,_, .inl (.inl r)⟩
    | _=>cases h
  | r e =>
    rename_i n q
    have h:(match S[n]? with
      | some (.lst _)=>true
      | _=>false)=true:=h
    cases z:S[n]? with
    | none=>rw [z] at h; cases h
    | some ob =>
      rw [z] at h
      cases ob with
      | lst xs =>
        obtain ⟨vs,h3,_⟩:=st.ob n _ q z e
        exact .inl ⟨rfl,vs, .inl (.inl h3)⟩
      | _=>cases h
variable {es:List Expr} {id:String} {name:Str} {r:V→List V→Hp→VK→Prop} {g:Bv.X→List Bv.X→Sto→R Bv.X} {cpos:Pos}
theorem Z3j (slot:Slot "list" name id) (hty:typeOf (.builtin id)=pure (.type "method_descriptor")) (hm:MtR X id r) (h:MtX X.K r g) (ho:ME X Wx o mo) (ha:MA X Wx (e :: es) ms) (hbase:attributeBase o name X.env (eval o X.env)=eval o X.env:=by rfl)
    (hfew:((backTo cpos (starEach (e :: es) X.env)).all (fun x => !x.1) && (backToKw cpos (keywordEach [] X.env)).all (fun x=>x.1.isSome)
      && decide ((e :: es).length + ([]:List Keyword).length + (if ([]:List Keyword).isEmpty then 0 else 1) < 30))=true:=by rfl)
    (hline:(apos.endLine == cpos.line)=true:=by rfl) (hs:starEach (e :: es) X.env=(false,eval e X.env) :: starEach es X.env:=by rfl) (hplain:(backTo cpos (starEach es X.env)).any (·.1)=false:=by rfl) :
    ME X Wx (.Call (.Attribute o name apos) (e :: es) [] cpos) (Z4q Z0l g mo ms):=PE.of (pe_bm PySem.F.plainAttrs_list slot hty hm ho ha hbase hfew hline hs hplain) fun σ H Q ⟨Z,ρ,e,S,st,ev,p⟩=>X5 st ev p fun ρ1 H1 v x S1 s1 g1 ev1 a1 p1=>by
  have p1:X6 (AX X.K) X.K Z ρ1 H1 Wx σ Q (if Z0l S1 x then (ms e S1).bind fun xs S2=>g x xs S2 else .bad):=p1
  split at p1
  · rename_i hl
    exact ⟨Y87 s1 a1 hl,X5 s1 ev1 p1 fun ρ2 H2 vs xs S2 s2 g2 ev2 a2 p2=>h Z ρ2 S2 H2 Wx σ x v xs vs Q s2 (a1.mv (g2.mv s1) g2.pre) a2 p2⟩
  · exact p1.elim
theorem W2t (slot:Slot "list" name id) (hty:typeOf (.builtin id)=pure (.type "method_descriptor")) (hm:MtR X id r) (h:MtX X.K r g) (ho:ME X Wx o mo) (hbase:attributeBase o name X.env (eval o X.env)=eval o X.env:=by rfl) (hline:(apos.endLine == cpos.line)=true:=by rfl) :
    ME X Wx (.Call (.Attribute o name apos) [] [] cpos) (Z4q Z0l g mo Z7):=PE.of (pe_bm0 PySem.F.plainAttrs_list slot hty hm ho hbase hline) fun σ H Q ⟨Z,ρ,e,S,st,ev,p⟩=>X5 st ev p fun ρ1 H1 v x S1 s1 g1 ev1 a1 p1=>by
  have p1:X6 (AX X.K) X.K Z ρ1 H1 Wx σ Q (if Z0l S1 x then g x [] S1 else .bad):=p1
  split at p1
  · rename_i hl
    exact ⟨Y87 s1 a1 hl,h Z ρ1 S1 H1 Wx σ x v [] [] Q s1 a1 .nil p1⟩
  · exact p1.elim
def Y1x (S:Sto):Bv.X→Option (Nat × List Bv.X)
  | .r n=>(match S[n]? with
    | some (.lst xs)=>some (n,xs)
    | _=>none)
  | _=>none
theorem Y5i {K:PySem.W.Frag} {Z:Wd} {ρ:List Addr} {S:Sto} {H:Hp} {x:Bv.X} {v:V} {n:Nat} {xs:List Bv.X} (st:Sta K Z ρ S H) (a:AX K (Wn Z ρ) ρ H x v) (h:Y1x S x=some (n,xs)):∃ q vs,v = .ref q∧ρ[n]?=some q∧H q=some (.lst vs)∧AXs K (Wn Z ρ) ρ H xs vs:=by
  cases a with
  | d a=>cases h
  | r e =>
    rename_i k q
    have h:(match S[k]? with
      | some (.lst xs)=>some (k,xs)
      | _=>none)=some (n,xs):=h
    cases z:S[k]? with
    | none=>rw [z] at h; cases h
    | some ob =>
      rw [z] at h
      cases ob with
      | lst ys =>
        cases h
        obtain ⟨vs,h3,h4⟩:=st.ob _ _ q z e
        exact ⟨q,vs,rfl,e,h3,h4⟩
      | _=>cases h
def V0:Bv.X→List Bv.X→Sto→R Bv.X:=fun x ys S=>match Y1x S x,ys with
  | some (n,xs),[y]=>if decide (xs.length < sizeLine) then .ok (.d .non) (S.set n (.lst (xs++[y]))) else .bad
  | _,_ => .bad
theorem Q1 {K:PySem.W.Frag}:MtX K rAppend V0:=fun Z ρ S H Wx σ x v ys ws Q st a as p=>by
  unfold V0 at p
  split at p
  · rename_i n xs y hl
    split at p
    · rename_i hz
      obtain ⟨q,vs,rfl,e,h3,h4⟩:=Y5i st a hl
      cases as with
      | cons h t =>
        cases t
        have hz:=of_decide_eq_true hz
        obtain ⟨s5,g5⟩:=st.putL e h3 (Paired.append h4 (.cons h .nil))
        exact ⟨q,vs,_,rfl,rfl,h3,by rw [← Paired.length h4]; exact hz,p ρ _ .non s5 g5 (.d .non)⟩
    · exact p.elim
  · exact p.elim
def X12:Bv.X→List Bv.X→Sto→R Bv.X:=fun x ys S=>match Y1x S x,ys with
  | some (n,xs),[]=>(match xs[xs.length - 1]? with
    | some y => .ok y (S.set n (.lst xs.dropLast))
    | none => .bad)
  | _,_ => .bad
theorem Paired.dropL {α β:Type} {F:α→β→Prop} {l:List α} {r:List β} (h:Paired F l r):Paired F l.dropLast r.dropLast:=by
  rw [List.dropLast_eq_take,List.dropLast_eq_take,Paired.length h]
  exact AXs.takeP _ h
theorem Paired.get {α β:Type} {F:α→β→Prop} {l:List α} {r:List β} (p:Paired F l r) {j:Nat} {a:α} (e:l[j]?=some a):∃ b,r[j]?=some b∧F a b:=by
  induction p generalizing j with
  | nil=>simp at e
  | cons x _ ih =>
    cases j with
    | zero=>simp at e; subst e; exact ⟨_,rfl,x⟩
    | succ n=>simp at e; obtain ⟨b,h1,h2⟩:=ih e; exact ⟨b,by simpa using h1,h2⟩
theorem W1x {K:PySem.W.Frag}:MtX K rPop X12:=fun Z ρ S H Wx σ x v ys ws Q st a as p=>by
  unfold X12 at p
  split at p
  · rename_i n xs hl
    obtain ⟨q,vs,rfl,e,h3,h4⟩:=Y5i st a hl
    cases as
    cases hx:xs[xs.length - 1]? with
    | none=>rw [hx] at p; exact p.elim
    | some y =>
      rw [hx] at p
      obtain ⟨w,h5,h6⟩:=Paired.get h4 hx
      obtain ⟨s5,g5⟩:=st.putL e h3 (Paired.dropL h4)
      exact ⟨q,vs,w,rfl,rfl,h3,by rw [← Paired.length h4]; exact h5,p ρ _ w s5 g5 (h6.mv (g5.mv st) g5.pre)⟩
  · exact p.elim
def strs?:List Bv.X→Option (List Str)
  | []=>some []
  | .d (.str z) :: r=>(strs? r).map (z :: ·)
  | _ :: _=>none
theorem Y0a {K:PySem.W.Frag} {W:Wd} {ρ:List Addr} {H:Hp}:∀ {xs:List Bv.X} {vs:List V} {l:List Str},AXs K W ρ H xs vs→strs? xs=some l→vs=l.map V.str∧∀ z ∈ l,PyData.strOk z=true
  | _,_,_, .nil,e=>by cases e; exact ⟨rfl,fun z h=>by simp at h⟩
  | x :: r,_,l, .cons h t,e=>by
    cases x with
    | r n=>simp [strs?] at e
    | d d =>
      cases d with
      | str b =>
        obtain ⟨l2,h1,h2⟩:=Option.map_eq_some_iff.mp (show (strs? r).map (b :: ·)=some l from e)
        subst h2
        cases h with
        | d h =>
          cases h with
          | str hz =>
            obtain ⟨h3,h4⟩:=Y0a t h1
            exact ⟨by rw [h3]; rfl,fun z m=>(List.mem_cons.mp m).elim (fun q=>by rw [q]; exact hz) (h4 z)⟩
      | _=>simp [strs?] at e
theorem Y26 {a:Str} (ha:PyData.strOk a=true):∀ {ys:List Str},(∀ z ∈ ys,PyData.strOk z=true)→PyData.strOk (Str.join a ys)=true
  | [],_=>Z99 fun c m=>by simp [Str.join,Str.empty] at m
  | [x],h=>h x (by simp)
  | x :: y :: r,h=>by
    show PyData.strOk (x++a++Str.join a (y :: r))=true
    exact Z13 (Z13 (h x (by simp)) ha) (Y26 ha fun z m=>h z (List.mem_cons_of_mem _ m))
def Y5e (a:Str) (y:Bv.X) (S:Sto):R Bv.X:=match (items S y).bind strs? with
  | some ys=>if decide ((ys.map (·.length)).sum + ys.length * a.length ≤ 16777216) then .ok (.d (.str (Str.join a ys))) S else .bad
  | none => .bad
def Z5z (g:Str→Bv.X→Sto→R Bv.X) (mo m:M):M:=fun e S=>(mo e S).bind fun x S1=>match x with
  | .d (.str a)=>(m e S1).bind fun y S2=>g a y S2
  | _ => .bad
theorem X9b (ho:ME X Wx o mo) (he:ME X Wx e m) (hs:starEach [e] X.env=[(false,eval e X.env)]:=by rfl) (hbase:attributeBase o "join" X.env (eval o X.env)=eval o X.env:=by rfl) (hline:(apos.endLine == pos.line)=true:=by rfl) :
    ME X Wx (.Call (.Attribute o "join" apos) [e] [] pos) (Z5z Y5e mo m):=PE.of (pe_join ho he hs hbase hline) fun σ H Q ⟨Z,ρ,e,S,st,ev,p⟩=>X5 st ev p fun ρ1 H1 v x S1 s1 g1 ev1 a1 p1=>by
  cases a1 with
  | r _=>exact p1.elim
  | d a =>
    cases a with
    | str hz =>
      rename_i z
      refine ⟨⟨z,rfl⟩,X5 s1 ev1 (show X6 (AX X.K) X.K Z ρ1 H1 Wx σ Q ((m e S1).bind fun y S2=>Y5e z y S2) from p1) fun ρ2 H2 u y S2 s2 g2 ev2 a2 p2=>?_⟩
      unfold Y5e at p2
      cases q:(items S2 y).bind strs? with
      | none=>rw [q] at p2; exact p2.elim
      | some ys =>
        rw [q] at p2
        obtain ⟨zs,h1,h2⟩:=Option.bind_eq_some_iff.mp q
        obtain ⟨b,us,rfl,hq,hp⟩:=a2.items s2 h1
        obtain ⟨rfl,hk⟩:=Y0a hp h2
        have p2:X6 (AX X.K) X.K Z ρ2 H2 Wx σ Q (if decide ((ys.map (·.length)).sum + ys.length * z.length ≤ 16777216) then .ok (.d (.str (Str.join z ys))) S2 else .bad):=p2
        split at p2
        · rename_i hl
          refine ⟨z,b,ys,rfl,rfl,hq.symm,of_decide_eq_true hl,?_⟩
          rw [show Txt.join z ys=Str.join z ys from StrLaws.glued_eq_join ..]
          exact X6.ret0 p2 s2 (.d (.str (Y26 hz hk)))
        · exact p2.elim
    | _=>exact p1.elim
def Z6d (i j:Nat) (ms:MG (List Bv.X)):MS:=fun e S=>(ms e S).so e fun xs S1=>match xs with
  | [x,y] => .go (.nx ((e.set i (some x)).set j (some y))) S1
  | _ => .bad
theorem Y2w {i j:Nat} {x y:Str} {px py pt:Pos} {kt k2 pt2} (hc:X.calm=true) (hN:X.N.Nodup) (hi:X.N[i]?=some x) (hj:X.N[j]?=some y) (hij:i ≠ j) (hx:X.env.scope.names.lookup x=some .local) (hy:X.env.scope.names.lookup y=some .local) (ha:MA X Wx [a,b] ms)
    (hw:swappedStores [.Tuple [.Name x px, .Name y py] kt pt] (.Tuple [a,b] k2 pt2) X.env=pure (some [x,y]):=by rfl) (hs:swapsWithSole [.Tuple [.Name x px, .Name y py] kt pt] (.Tuple [a,b] k2 pt2) pos.line X.env=pure false:=by rfl) :
    MP X Wx (.Assign [.Tuple [.Name x px, .Name y py] kt pt] (.Tuple [a,b] k2 pt2) pos) (Z6d i j ms):=PS.of (ps_par hc hN hi hj hij hx hy ha hw hs) fun D σ H ⟨Z,ρ,e,S,st,ev,p⟩=>Z0h (rel:=AXs X.K) st ev p fun ρ1 H1 vs xs S1 s1 g1 ev1 a1 p1=>by
  match xs,vs,a1,p1 with
  | [x,y],_, .cons h1 (.cons h2 .nil),p1=>exact ⟨_,_,rfl,p1.next s1 ((ev1.set h1).set h2)⟩
  | [],_,_,p1=>exact p1.elim
  | [_],_,_,p1=>exact p1.elim
  | _ :: _ :: _ :: _,_,_,p1=>exact p1.elim
end
end Bv
namespace Bv
open PySem PySem.Spec L2
open PyProof.Rows hiding St
variable [HasW]
structure OwnIs (K:PySem.W.Frag) (C:Str):Prop where
  cl:Cls K (He.ga K C)
  ha:PySem.W.findIn K (.ref (He.ga K C)) "__class__" = some (some (.builtin "object.__class__"))
  hn:PySem.W.specialIn K (.builtin "object.__class__") "__get__" = some (some (.builtin "getset_descriptor.__get__"))
  htk:PySem.W.takesIn K (.builtin "object.__class__")=some true
  hm:PySem.W.mroIn K (He.ga K C) (.type "object")=some true
structure IsT (K:PySem.W.Frag) (u:Value) (tab:List (String × Bool)) (own:List (Str × Bool)):Prop where
  bt:∀ k b,tab.lookup k=some b→PySem.W.kitOne K (.type k) u=some b
  ow:∀ C b,own.lookup C=some b→OwnIs K C∧PySem.W.kitOne K (.ref (He.ga K C)) u=some b
def W40:D→Option String
  | .non=>some "NoneType"
  | .bl _=>some "bool"
  | .int _=>some "int"
  | .str _=>some "str"
  | .tup _=>some "tuple"
  | .lst _=>some "list"
  | .scr _=>some "list"
  | .dic _=>some "dict"
  | _=>none
def isX (tab:List (String × Bool)) (own:List (Str × Bool)) (S:Sto):X→Option Bool
  | .d (.obj C _)=>own.lookup C
  | .d d=>(W40 d).bind fun k=>tab.lookup k
  | .r n=>match S[n]? with
    | some (.lst _)=>tab.lookup "list"
    | some (.dic _)=>tab.lookup "dict"
    | some (.fdc _)=>tab.lookup "dict"
    | some (.ins C _)=>own.lookup C
    | _=>none
def Z86 (tab:List (String × Bool)) (own:List (Str × Bool)) (m:M):M:=fun e S=>(m e S).bind fun x S1=>Z4r ((isX tab own S1 x).map fun b => .d (.bl b)) S1
section
variable {X:Cx} {Wx:WX} {pos p p2 apos:Pos} {a b c o i e:Expr} {ma mb mc m mo mi:M} {ms:MG (List Bv.X)}
theorem Tp.tyX {K:PySem.W.Frag} {W:Wd} {H:Hp} {a:Addr} {xs:List V} (t:Tp K W H a xs):TyX K H (.ref a) (.type "tuple"):=by
  rcases t with ⟨_,h⟩ | ⟨o,its,n,h1,h2,_⟩
  · exact .base (.tup h)
  · exact .kTuple h1 h2
theorem W2j {K:PySem.W.Frag} {u:Value} {tab:List (String × Bool)} {own:List (Str × Bool)} (T:IsT K u tab own) {Z:Wd} {ρ:List Addr} {S:Sto} {H:Hp} {x:Bv.X} {v:V} {k:Bool} (st:Sta K Z ρ S H) (a:AX K (Wn Z ρ) ρ H x v) (h:isX tab own S x=some k) :
    ∃ t,TyX K H v t∧PySem.W.kitOne K t u=some k:=by
  cases a with
  | d a =>
    cases a with
    | obj w r hs =>
      obtain ⟨O,q⟩:=T.ow _ _ h
      exact ⟨_, .base (.ins r O.cl O.ha O.hn O.htk O.hm),q⟩
    | non=>exact ⟨_, .base .non,T.bt _ _ h⟩
    | bl k=>exact ⟨_, .base (.bl k),T.bt _ _ h⟩
    | int k=>exact ⟨_, .base (.int k),T.bt _ _ h⟩
    | str k=>exact ⟨_, .base (.str _),T.bt _ _ h⟩
    | tup t hs=>exact ⟨_,t.tyX,T.bt _ _ h⟩
    | lst w r hs=>exact ⟨_, .base (.lst r),T.bt _ _ h⟩
    | scr r =>
      rcases r with ⟨_,r | ⟨ob,r⟩⟩ | ⟨o,its,n,r1,r2,_⟩
      · exact ⟨_, .base (.lst r),T.bt _ _ h⟩
      · exact ⟨_, .base (.frz r),T.bt _ _ h⟩
      · exact ⟨_, .kList r1 r2,T.bt _ _ h⟩
    | dic w r hs=>exact ⟨_, .fDict r,T.bt _ _ h⟩
    | gl x=>cases h
  | r e =>
    rename_i n q
    have h:(match S[n]? with
      | some (.lst _)=>tab.lookup "list"
      | some (.dic _)=>tab.lookup "dict"
      | some (.fdc _)=>tab.lookup "dict"
      | some (.ins C _)=>own.lookup C
      | _=>none)=some k:=h
    cases z:S[n]? with
    | none=>rw [z] at h; cases h
    | some ob =>
      rw [z] at h
      have y:=st.ob n _ q z e
      cases ob with
      | lst xs=>obtain ⟨vs,h1,_⟩:=y; exact ⟨_, .base (.lst h1),T.bt _ _ h⟩
      | dic xs=>obtain ⟨vs,h1,_⟩:=y; exact ⟨_, .base (.dK h1),T.bt _ _ h⟩
      | fdc xs=>obtain ⟨o,vs,h1,_⟩:=y; exact ⟨_, .fDict h1,T.bt _ _ h⟩
      | tdc xs=>cases h
      | ndc xs=>cases h
      | ldc xs=>cases h
      | tfc xs=>cases h
      | ins C fs =>
        obtain ⟨dx,vs,h1,_⟩:=y
        obtain ⟨O,q⟩:=T.ow _ _ h
        exact ⟨_, .base (.ins h1 O.cl O.ha O.hn O.htk O.hm),q⟩
theorem Y1e {tab:List (String × Bool)} {own:List (Str × Bool)} {u:Value} {cv:V} (hg:Gl X "isinstance") (hm:X.mg "isinstance" = none) (he:ME X Wx a m) (hc:PE X c (tC cv)) (T:IsT X.K u tab own) (k:ClsV cv u)
    (hs:starEach [a,c] X.env=(false,eval a X.env) :: starEach [c] X.env:=by rfl) (hs2:starEach [c] X.env=(false,eval c X.env) :: starEach [] X.env:=by rfl) (hpl:(backTo pos (starEach [c] X.env)).any (·.1)=false:=by rfl) :
    ME X Wx (.Call (.Name "isinstance" p) [a,c] [] pos) (Z86 tab own m):=PE.of (pe_callB call_isi hg hm (by rfl) (pa_cons he (pa_cons hc pa_nil hs2) hs) (by decide) (by decide) hs hpl) fun σ H Q ⟨Z,ρ,e,S,st,ev,q⟩=>X5 st ev q fun ρ1 H1 v x S1 s1 g1 ev1 a1 p1=>by
  obtain ⟨w,hw,p2⟩:=p1.opt
  obtain ⟨b,h1,h2⟩:=Option.map_eq_some_iff.mp hw
  subst h2
  obtain ⟨t,ty,kt⟩:=W2j T s1 a1 h1
  exact ⟨v,cv,t,u,b,rfl,k,ty,kt,X6.ret0 p2 s1 (.d (.bl b))⟩
omit [HasW] in
theorem X2p {β:Type} {k:String} {b:β}:∀ {l:List (String × β)},l.lookup k=some b→(k,b) ∈ l
  | [],h=>by cases h
  | (k',b') :: r,h=>by
    rw [List.lookup_cons] at h
    cases q:k == k' with
    | true =>
      rw [q] at h
      cases h
      rw [beq_iff_eq.mp q]
      exact List.mem_cons_self
    | false=>rw [q] at h; exact List.mem_cons_of_mem _ (X2p h)
def Y1q (T:String):List (String × Bool):=["NoneType", "bool", "int", "str", "tuple", "list", "dict"].filterMap fun k=>(kitB k T).map fun b=>(k,b)
def Z79:List Bv.X→Sto→R Bv.X
  | [.d (.int i)],S=>if decide (i.natAbs.log2 < 1920) && PyData.strOk (toString i:String) then .ok (.d (.str (toString i:String))) S else .bad
  | [.d (.str z)],S => .ok (.d (.str z)) S
  | _,_ => .bad
abbrev W3i:List V→Hp→VK→Prop:=fun xs H Q=>(∃ i,xs=[.int i]∧i.natAbs.log2 < 1920∧Q (.str (toString i)) H) ∨ ∃ a,xs=[.str a]∧Q (.str a) H
theorem Y8p:CallR X (.type "str") W3i:=CallR.or call_str_int SkE.call_str_str
theorem Y8n {K:PySem.W.Frag}:Y93 K W3i Z79:=fun Z ρ S H Wx σ xs vs Q st a h=>by
  unfold Z79 at h
  split at h
  · rename_i i
    obtain ⟨v,rfl,b⟩:=Y56 a
    have e:v = .int i:=by cases b; rfl
    split at h
    · rename_i hc
      obtain ⟨h1,h2⟩:=Bool.and_eq_true_iff.mp hc
      exact .inl ⟨i,by rw [e],of_decide_eq_true h1,X6.ret0 h st (.d (.str h2))⟩
    · exact h.elim
  · rename_i z
    obtain ⟨v,rfl,b⟩:=Y56 a
    have e:v = .str z:=by cases b; rfl
    have hz:PyData.strOk z=true:=by cases b with | str h=>exact h
    exact .inr ⟨z,by rw [e],X6.ret0 h st (.d (.str hz))⟩
  · exact h.elim
end
end Bv
namespace Bv
open PySem PySem.Spec L2
open PyProof.Rows hiding St
variable [HasW]
section
variable {X:Cx} {Wx:WX} {pos p p2 apos:Pos} {a b c o i e:Expr} {ma mb mc m mo mi:M} {ms:MG (List Bv.X)} {k n:Nat} {f:Addr} {fd:FuncData} {ps:List Str} {g:List D→PR} {C:Str}
structure OwnStr (K:PySem.W.Frag) (C:Str) (f:Addr):Prop where
  at_:PySem.W.findIn K (.ref (He.ga K C)) "__str__" = some (some (.ref f))
  fn:PySem.W.isFn K (.ref f)=true
structure OwnEq (K:PySem.W.Frag) (C:Str) (f:Addr):Prop where
  at_:PySem.W.findIn K (.ref (He.ga K C)) "__eq__" = some (some (.ref f))
  fn:PySem.W.isFn K (.ref f)=true
  ne:PySem.W.findIn K (.ref (He.ga K C)) "__ne__" = some (some (.builtin "object.__ne__"))
  mo:PySem.W.mroIn K (He.ga K C) (.type "object")=some true
def eqO (C:Str) (g:List D→PR) (neg:Bool) (a b:D):Option D:=match a,b with
  | .obj C1 f1, .obj C2 f2=>if decide (C1=C) && decide (C2=C) then (match g [.obj C1 f1, .obj C2 f2] with
    | .ok (.bl r)=>some (.bl (r ^^ neg))
    | _=>none) else none
  | _,_=>none
structure IsTs (K:PySem.W.Frag) (us:List Value) (tab:List (String × Bool)) (own:List (Str × Bool)):Prop where
  bt:∀ k b,tab.lookup k=some b→PySem.W.kitAny K (.type k) us=some b
  ow:∀ C b,own.lookup C=some b→OwnIs K C∧PySem.W.kitAny K (.ref (He.ga K C)) us=some b
theorem X8f {K:PySem.W.Frag} {us:List Value} {tab:List (String × Bool)} {own:List (Str × Bool)} (T:IsTs K us tab own) {Z:Wd} {ρ:List Addr} {S:Sto} {H:Hp} {x:Bv.X} {v:V} {k:Bool} (st:Sta K Z ρ S H) (a:AX K (Wn Z ρ) ρ H x v) (h:isX tab own S x=some k) :
    ∃ t,TyX K H v t∧PySem.W.kitAny K t us=some k:=by
  cases a with
  | d a =>
    cases a with
    | obj w r hs =>
      obtain ⟨O,q⟩:=T.ow _ _ h
      exact ⟨_, .base (.ins r O.cl O.ha O.hn O.htk O.hm),q⟩
    | non=>exact ⟨_, .base .non,T.bt _ _ h⟩
    | bl k=>exact ⟨_, .base (.bl k),T.bt _ _ h⟩
    | int k=>exact ⟨_, .base (.int k),T.bt _ _ h⟩
    | str k=>exact ⟨_, .base (.str _),T.bt _ _ h⟩
    | tup t hs=>exact ⟨_,t.tyX,T.bt _ _ h⟩
    | lst w r hs=>exact ⟨_, .base (.lst r),T.bt _ _ h⟩
    | scr r =>
      rcases r with ⟨_,r | ⟨ob,r⟩⟩ | ⟨o,its,n,r1,r2,_⟩
      · exact ⟨_, .base (.lst r),T.bt _ _ h⟩
      · exact ⟨_, .base (.frz r),T.bt _ _ h⟩
      · exact ⟨_, .kList r1 r2,T.bt _ _ h⟩
    | dic w r hs=>exact ⟨_, .fDict r,T.bt _ _ h⟩
    | gl x=>cases h
  | r e =>
    rename_i n q
    have h:(match S[n]? with
      | some (.lst _)=>tab.lookup "list"
      | some (.dic _)=>tab.lookup "dict"
      | some (.fdc _)=>tab.lookup "dict"
      | some (.ins C _)=>own.lookup C
      | _=>none)=some k:=h
    cases z:S[n]? with
    | none=>rw [z] at h; cases h
    | some ob =>
      rw [z] at h
      have y:=st.ob n _ q z e
      cases ob with
      | lst xs=>obtain ⟨vs,h1,_⟩:=y; exact ⟨_, .base (.lst h1),T.bt _ _ h⟩
      | dic xs=>obtain ⟨vs,h1,_⟩:=y; exact ⟨_, .base (.dK h1),T.bt _ _ h⟩
      | fdc xs=>obtain ⟨o,vs,h1,_⟩:=y; exact ⟨_, .fDict h1,T.bt _ _ h⟩
      | tdc xs=>cases h
      | ndc xs=>cases h
      | ldc xs=>cases h
      | tfc xs=>cases h
      | ins C fs =>
        obtain ⟨dx,vs,h1,_⟩:=y
        obtain ⟨O,q⟩:=T.ow _ _ h
        exact ⟨_, .base (.ins h1 O.cl O.ha O.hn O.htk O.hm),q⟩
end
end Bv
namespace Bv
open PySem PySem.Spec L2
open PyProof.Rows hiding St
structure DefB where
  ad:PySem.W.Frag→Addr
  name:Str
  qual:Str
  params:Arguments
  body:List Stmt
  scope:Scope
  dfl:List He.Dv:=[]
def X4y (C m:Str) (K:PySem.W.Frag):Addr:=match PySem.W.recIn K (He.ma K (He.ga K C) m) "classmethod" with
  | some (.ref g :: _)=>g
  | _=>0
def seen (K:PySem.W.Frag) (a:Addr):He.FnW:=match K.lookup a with
  | some ⟨_,_, .func fd,_⟩=>some (fd.name,fd.qualname,fd.params,fd.body,fd.scope,fd.globals,fd.closure,fd.builtins)
  | _=>none
def DefB.val (d:DefB):He.FnW:=some (d.name,d.qual,d.params, .stmts d.body,d.scope,mainGlobals,[],builtinsNs)
def DefB.dvs (K:PySem.W.Frag) (d:DefB):List V:=d.dfl.map (He.Dv.v K)
def DefB.ok (K:PySem.W.Frag) (d:DefB):Bool:=PySem.W.keepIn K (.ref (d.ad K)) && (match K.lookup (d.ad K) with
  | some ⟨_,_, .func fd,_⟩=>PySem.W.codeIn K fd.code d.qual && He.dflB K fd.defaults (d.dvs K)
  | _=>false)
theorem DefB.fun {K:PySem.W.Frag} {d:DefB} (e:seen K (d.ad K)=d.val) (c:d.ok K=true):∃ fd,FunD K d.name d.qual d.params d.body d.scope (d.dvs K) [] (d.ad K) fd:=by
  obtain ⟨kp,c2⟩:=He.ba c
  unfold seen at e
  cases q:K.lookup (d.ad K) with
  | none=>rw [q] at c2; cases c2
  | some o =>
    obtain ⟨oc,od,dt,osl⟩:=o
    rw [q] at c2 e
    cases dt with
    | func fd =>
      obtain ⟨m1,m2,m3,m4,m5,m6,m7,m8,m9,m10,m11,m12,m13,m14,m15⟩:=fd
      have e2:(some (m1,m2,m3,m4,m5,m6,m7,m15):He.FnW)=some (d.name,d.qual,d.params, .stmts d.body,d.scope,mainGlobals,[],builtinsNs):=e
      simp only [Option.some.injEq,Prod.mk.injEq] at e2
      obtain ⟨rfl,rfl,rfl,rfl,rfl,rfl,rfl,rfl⟩:=e2
      obtain ⟨k1,k2⟩:=He.ba (show (PySem.W.codeIn K m13 d.qual && He.dflB K m8 (d.dvs K))=true from c2)
      exact ⟨_,⟨oc,od,m8,m9,m10,m11,m12,m13,m14,osl,rfl,q,k1,He.dflB_ok k2, .inl rfl⟩,kp⟩
    | _=>cases c2
abbrev AlB:Type:=Bool × List He.FnW
def W66 (ts:List (PySem.W.Frag→Bool)) (ds:List DefB) (K:PySem.W.Frag):AlB:=((ts.all fun t=>t K) && ds.all fun d=>d.ok K,ds.map fun d=>seen K (d.ad K))
def W7n (ds:List DefB):AlB:=(true,ds.map DefB.val)
def Y3a (ts:List (PySem.W.Frag→Bool)) (ds:List DefB) (K:PySem.W.Frag):Prop:=W66 ts ds K=W7n ds
section
variable {ts:List (PySem.W.Frag→Bool)} {ds:List DefB} {K:PySem.W.Frag}
theorem Y3a.both (c:Y3a ts ds K):(ts.all fun t=>t K)=true∧(ds.all fun d=>d.ok K)=true:=He.ba (show ((ts.all fun t=>t K) && ds.all fun d=>d.ok K)=true from congrArg (fun z:AlB=>z.1) c)
theorem Y3a.test (c:Y3a ts ds K) (i:Nat) {t:PySem.W.Frag→Bool} (h:ts[i]?=some t:=by rfl):t K=true:=List.all_eq_true.mp c.both.1 t (List.mem_of_getElem? h)
theorem Y3a.fun (c:Y3a ts ds K) (i:Nat) {d:DefB} (h:ds[i]?=some d:=by rfl):∃ fd,FunD K d.name d.qual d.params d.body d.scope (d.dvs K) [] (d.ad K) fd:=by
  have e:ds.map (fun d=>seen K (d.ad K))=ds.map DefB.val:=congrArg (fun z:AlB=>z.2) c
  have e2:=congrArg (fun l=>l[i]?) e
  simp only [List.getElem?_map,h,Option.map_some,Option.some.injEq] at e2
  exact DefB.fun e2 (List.all_eq_true.mp c.both.2 d (List.mem_of_getElem? h))
end
def Z1r (x:Str) (K:PySem.W.Frag):Bool:=(He.Fa.glo x).ok K
def Z3l (x:Str) (K:PySem.W.Frag):Bool:=(He.Fa.free x).ok K
def X35 (C:Str) (K:PySem.W.Frag):Bool:=(He.Fa.cls C).ok K
def W32 (C f:Str) (K:PySem.W.Frag):Bool:=(He.Fa.noat C f).ok K
def Z6b (C m:Str) (K:PySem.W.Frag):Bool:=(He.Fa.meth C m).ok K
def Y8e (C:Str) (K:PySem.W.Frag):Bool:=(He.Fa.mkr C).ok K
def W0x (C:Str) (K:PySem.W.Frag):Bool:=(He.Fa.cls C).ok K && (He.eqO (PySem.W.findIn K (.ref (He.ga K C)) "__class__") (some (some (.builtin "object.__class__"))) && (He.eqO (PySem.W.specialIn K (.builtin "object.__class__") "__get__") (some (some (.builtin "getset_descriptor.__get__"))) &&
  (decide (PySem.W.takesIn K (.builtin "object.__class__")=some true) && decide (PySem.W.mroIn K (He.ga K C) (.type "object")=some true))))
theorem X7a {C:Str} {K:PySem.W.Frag} (h:W0x C K=true):OwnIs K C:=by
  obtain ⟨c1,h⟩:=He.ba h
  obtain ⟨c2,h⟩:=He.ba h
  obtain ⟨c3,h⟩:=He.ba h
  obtain ⟨c4,c5⟩:=He.ba h
  exact ⟨He.cls_ok c1,He.eqO_ok c2,He.eqO_ok c3,of_decide_eq_true c4,of_decide_eq_true c5⟩
def Z9i (x:Str) (vs:List Str) (K:PySem.W.Frag):Bool:=He.tupB K x (vs.map He.Dv.str)
theorem Y8k {K:PySem.W.Frag} {W:Wd} {H:Hp}:∀ {vs:List Str},(vs.all fun z=>PyData.strOk z)=true→AVs K W H (vs.map D.str) ((vs.map He.Dv.str).map (He.Dv.v K))
  | [],_ => .nil
  | z :: r,h=>by
    rw [List.all_cons,Bool.and_eq_true] at h
    exact .cons (.str h.1) (Y8k h.2)
theorem X8y {K:PySem.W.Frag} {x:Str} {vs:List He.Dv} (h:He.tupB K x vs=true):W6m K (He.ga K x) (vs.map (He.Dv.v K)):=by
  unfold He.tupB at h
  cases q:K.lookup (He.ga K x) with
  | none=>rw [q] at h; cases h
  | some o =>
    obtain ⟨oc,od,dt,osl⟩:=o
    rw [q] at h
    cases oc with
    | type c =>
      cases dt with
      | seq its n =>
        obtain ⟨h1,h2⟩:=He.ba (show (decide (c = "tuple") && (decide (its.size ≤ sizeLine) && He.relAll (vs.map (He.Dv.v K)) its.toList))=true from h)
        obtain ⟨h3,h4⟩:=He.ba h2
        exact ⟨_,its,n,q,congrArg Value.type (of_decide_eq_true h1),rfl,of_decide_eq_true h3,He.relAll_ok h4⟩
      | _=>cases h
    | _=>cases dt <;> cases h
theorem X6i {K:PySem.W.Frag} {x:Str} {vs:List Str} (h:Z9i x vs K=true) (hv:(vs.all fun z=>PyData.strOk z)=true:=by decide +kernel):∃ v,(∀ W H,AV K W H (.tup (vs.map D.str)) v)∧RelV v (.ref (He.ga K x)) :=
  ⟨.ref (He.ga K x),fun W H => .tup (.inr (X8y h)) (Y8k hv),rfl⟩
def W0y (x z:Str) (K:PySem.W.Frag):Bool:=(He.Fa.str x z).ok K
def W31 (x:Str) (i:Int) (K:PySem.W.Frag):Bool:=(He.Fa.int x i).ok K
section
variable {K:PySem.W.Frag} {h:Heap} {mg:Str→Option Value}
def X7j (f:Str × Option Str) (i:Nat) (K:PySem.W.Frag):Bool:=match K.lookup (He.dflAt f i K) with
  | some ⟨.type c,_, .seq its _,_⟩=>decide (c = "tuple") && decide (its.size=0)
  | _=>false
end
structure Kept (P:Program) (w:World) (K:PySem.W.Frag) (mg:Str→Option Value) (base:Heap) (k:Nat) (f:Addr) (sp:Sp):Prop where
  ex:∃ fd ps,FnG P w K mg base k f fd ps sp∧Binds K fd ps []
  kp:PySem.W.keepIn K (.ref f)=true
structure KeptD (P:Program) (w:World) (K:PySem.W.Frag) (mg:Str→Option Value) (base:Heap) (k:Nat) (f:Addr) (sp:Sp) (dxs:List D):Prop where
  ex:∃ fd ps dvs ds,FnG P w K mg base k f fd ps sp∧Binds K fd ps ds∧Dft K dxs dvs ds
  kp:PySem.W.keepIn K (.ref f)=true
structure Here (X:Cx) (Wx:WX) (k:Nat):Prop where
  tk:Xq.Tk X Wx
  gu:X.A.guards=some []
  room:Room k X.A
section
variable [HasW] {X:Cx} {Wx:WX} {k j n:Nat} {f:Addr} {dxs:List D}
theorem AVs.len_d {K:PySem.W.Frag} {ds:List Value} {dvs:List V} (d:Dft K dxs dvs ds):dvs.length=dxs.length:=(d.av (fun _=>False) (fun _=>none)).length.symm
theorem Here.callE {g:List Bv.X→Sto→R Bv.X} (h:Here X Wx k) (c:Kept X.prog X.w X.K X.mg X.base j f (spE X.K n g)) (hj:j ≤ k:=by decide):Y8h X Wx (.ref f) n (W1 [] g):=by
  obtain ⟨fd,ps,F,b⟩:=c.ex
  exact W10 h.tk h.gu F (h.room.mono hj) b Y67
theorem Here.callP {g:List D→PR} (h:Here X Wx k) (c:Kept X.prog X.w X.K X.mg X.base j f (spP X.K n g)) (hj:j ≤ k:=by decide):Y8h X Wx (.ref f) n (W1 [] (Bv.callP g)):=by
  obtain ⟨fd,ps,F,b⟩:=c.ex
  exact W4l h.tk h.gu F (h.room.mono hj) b Y67
theorem Here.make {C:Str} {mk:Nat→R Bv.X→R Bv.X} {g:List Bv.X→Sto→R Bv.X} (hm:Mks mk) (h:Here X Wx k) (M:Mk X.K (He.ga X.K C) f) (c:Kept X.prog X.w X.K X.mg X.base j f (spE X.K (n + 1) g)) (hj:j + 1 ≤ k:=by decide):Y8h X Wx (.ref (He.ga X.K C)) n (W1 [] (made C mk g)):=by
  obtain ⟨fd,ps,F,b⟩:=c.ex
  exact X4v hm h.tk h.gu M F (h.room.mono hj) b Y67
end
end Bv
namespace Bv
open PySem PySem.Spec L2
open PyProof.Rows hiding St
variable [HasW]
theorem V5 {P:Program} {w:World} {K:PySem.W.Frag} {mg:Str→Option Value} {base:Heap} {N:List Str} {qual:Str} {sc:Scope} {f:Addr} {cdv:Value} {A:Around} {outer:List Env} {s:Shared} {H:Hp} {E:XK} {k:Nat}
    (gu:A.guards=some []) (room:Room k (A.deeper (envOfC qual sc s.heap.objs.size f cdv))):Here (cxB P w K mg base N qual sc f cdv A outer s H E) (wxE E) k :=
  ⟨Xq.tk_of (E:=E) rfl rfl rfl rfl,gu,room⟩
theorem Z34 {P:Program} {w:World} {K:PySem.W.Frag} {mg:Str→Option Value} {base:Heap} {N:List Str} {qual:Str} {sc:Scope} {f:Addr} {cdv:Value} {A:Around} {outer:List Env} {s:Shared} {H:Hp} {E:XK} :
    PassesOwn (model (cxB P w K mg base N qual sc f cdv A outer s H E).prog (cxB P w K mg base N qual sc f cdv A outer s H E).w) (cxB P w K mg base N qual sc f cdv A outer s H E).A (cxB P w K mg base N qual sc f cdv A outer s H E).env (cxB P w K mg base N qual sc f cdv A outer s H E).xe :=
  passes_of (X:=cxB P w K mg base N qual sc f cdv A outer s H E) rfl
theorem Y9n {P:Program} {w:World} {K:PySem.W.Frag} {mg:Str→Option Value} {base:Heap} {N:List Str} {qual:Str} {sc:Scope} {f:Addr} {cdv:Value} {A:Around} {outer:List Env} {s:Shared} {H:Hp} {E:XK} (hd:Option Value) :
    PassesOwnAt (model (cxB P w K mg base N qual sc f cdv A outer s H E).prog (cxB P w K mg base N qual sc f cdv A outer s H E).w) ((cxB P w K mg base N qual sc f cdv A outer s H E).A.mark hd) (cxB P w K mg base N qual sc f cdv A outer s H E).A (cxB P w K mg base N qual sc f cdv A outer s H E).env (cxB P w K mg base N qual sc f cdv A outer s H E).xe :=
  L2H.passesAt_of (X:=cxB P w K mg base N qual sc f cdv A outer s H E) rfl hd
section
variable {X:Cx} {Wx:WX} {k:Nat} {pos:Pos} {a b c:Expr} {ma mb mc m:M}
theorem Here.blk (h:Here X Wx k) (s:Shared) (H:Hp) (sc:Scope) (ce:Env) (fp:List Addr):Here (X.blk s H sc ce fp) WX0 k:=⟨Xq.tk0,h.gu,h.room⟩
theorem Here.u1 (h:Here X Wx k):X.A.units + 1 < cLine:=by have:=h.room.un; omega
theorem Here.u64 (h:Here X Wx k):X.A.units + 64 < cLine:=by have:=h.room.un; omega
theorem Here.u65 (h:Here X Wx k):X.A.units + 65 < cLine:=by have:=h.room.un; omega
structure Opr (X:Cx) (s:Value→Value→Sem Value) (f:D→D→Option D):Prop where
  ex:∃ r:R2,OpR X s r∧Op2 X.K r f
theorem Here.eq (h:Here X Wx k):Opr X (compareOp .Eq) eqD:=⟨_,op_eqD h.u64,W7t⟩
theorem Here.ne (h:Here X Wx k):Opr X (compareOp .NotEq) neD:=⟨_,op_neD h.u64,W7w⟩
theorem Here.in_ (h:Here X Wx k):Opr X (compareOp .In) inD:=⟨_,W3b h.u65,W7u⟩
theorem Here.nin (h:Here X Wx k):Opr X (compareOp .NotIn) W4c:=⟨_,X91 h.u65,W5o⟩
theorem Here.lt (h:Here X Wx k):Opr X (compareOp .Lt) ltD:=⟨_,op_lt,Y9l⟩
theorem Here.le (h:Here X Wx k):Opr X (compareOp .LtE) leD:=⟨_,op_le,Y9l⟩
theorem Here.gt (h:Here X Wx k):Opr X (compareOp .Gt) gtD:=⟨_,op_gt,Y9l⟩
theorem Here.ge (h:Here X Wx k):Opr X (compareOp .GtE) geD:=⟨_,op_ge,Y9l⟩
theorem Here.is_ (h:Here X Wx k):Opr X (compareOp .Is) isD:=⟨_,op_isN,W7v⟩
theorem Here.isn (h:Here X Wx k):Opr X (compareOp .IsNot) X6w:=⟨_,op_notN,W5n⟩
theorem Here.add (h:Here X Wx k):Opr X (binaryOp .Add) Z8i:=⟨_,X3g,W27⟩
theorem Here.sub (h:Here X Wx k):Opr X (binaryOp .Sub) W1h:=⟨_,op_sub,W29⟩
theorem Here.mul (h:Here X Wx k):Opr X (binaryOp .Mult) Y63:=⟨_,op_mul,Y9m⟩
theorem Here.fdiv (h:Here X Wx k):Opr X (binaryOp .FloorDiv) X1z:=⟨_,op_fdiv,Y9m⟩
theorem Here.mod (h:Here X Wx k):Opr X (binaryOp .Mod) X0h:=⟨_,op_mod,Y9m⟩
theorem Here.pow (h:Here X Wx k):Opr X (binaryOp .Pow) W52:=⟨_,op_pow,Y9m⟩
theorem Z64 {op:Operator} {f:D→D→Option D} (o:Opr X (binaryOp op) f) (ha:ME X Wx a ma) (hb:ME X Wx b mb):ME X Wx (.BinOp a op b pos) (Y5 f ma mb):=by
  obtain ⟨r,h1,h2⟩:=o.ex
  exact W43 h1 h2 ha hb
theorem Z4p {op:CmpOp} {f:D→D→Option D} (o:Opr X (compareOp op) f) (ha:ME X Wx a ma) (hb:ME X Wx b mb) (hm:behindInMarks op b=false:=by first | exact nomark _ | (with_unfolding_all rfl)):ME X Wx (.Compare a [op] [b] pos) (Y5 f ma mb):=by
  obtain ⟨r,h1,h2⟩:=o.ex
  exact W2q h1 h2 ha hb hm
theorem W7 {op:CmpOp} {f:D→D→Option D} (o:Opr X (compareOp op) f) (ha:ME X Wx a ma) (hb:ME X Wx b mb) (hm:behindInMarks op b=false:=by first | exact nomark _ | (with_unfolding_all rfl)):MT X Wx (.Compare a [op] [b] pos) (U4 (Y5 f ma mb)):=by
  obtain ⟨r,h1,h2⟩:=o.ex
  exact W2y h1 h2 ha hb hm
theorem X72 {op op':CmpOp} {f g:D→D→Option D} (o:Opr X (compareOp op) f) (o':Opr X (compareOp op') g) (ha:ME X Wx a ma) (hb:ME X Wx b mb) (hc:ME X Wx c mc) (hm:lastMarks [op,op'] [b,c]=false:=by with_unfolding_all rfl) :
    ME X Wx (.Compare a [op,op'] [b,c] pos) (Z16 f g ma mb mc):=by
  obtain ⟨r,h1,h2⟩:=o.ex
  obtain ⟨r',h1',h2'⟩:=o'.ex
  exact X5b h1 h1' h2 h2' ha hb hc hm
theorem X34 {op op':CmpOp} {f g:D→D→Option D} (o:Opr X (compareOp op) f) (o':Opr X (compareOp op') g) (ha:ME X Wx a ma) (hb:ME X Wx b mb) (hc:ME X Wx c mc) (hm:lastMarks [op,op'] [b,c]=false:=by with_unfolding_all rfl) :
    MT X Wx (.Compare a [op,op'] [b,c] pos) (U4 (Z16 f g ma mb mc)):=by
  obtain ⟨r,h1,h2⟩:=o.ex
  obtain ⟨r',h1',h2'⟩:=o'.ex
  exact X5h h1 h1' h2 h2' ha hb hc hm
theorem X6p {x z:Str} (hg:Gl X x) (h:∃ t,X.mg x=some (.str z t)) (hz:PyData.strOk z=true:=by decide +kernel) (hd:(x == ("__debug__" : Str))=false:=by decide):ME X Wx (.Name x pos) (m_c (.str z)):=by
  obtain ⟨t,e⟩:=h
  exact Y3t hg e ⟨.str z,fun _ _ => .str hz,⟨t,rfl⟩⟩ hd
theorem W14 {x:Str} {i:Int} (hg:Gl X x) (h:∃ t,X.mg x=some (.int i t)) (hd:(x == ("__debug__" : Str))=false:=by decide):ME X Wx (.Name x pos) (m_c (.int i)):=by
  obtain ⟨t,e⟩:=h
  exact Y3t hg e ⟨.int i,fun _ _ => .int i,⟨t,rfl⟩⟩ hd
theorem Y03 {x:Str} {vs:List Str} (hg:Gl X x) (h:X.mg x=some (.ref (He.ga X.K x))) (hv:Z9i x vs X.K=true) (hz:(vs.all fun z=>PyData.strOk z)=true:=by decide +kernel) (hd:(x == ("__debug__" : Str))=false:=by decide):ME X Wx (.Name x pos) (m_c (.tup (vs.map D.str))) :=
  Y3t hg h (X6i hv hz) hd
theorem X1p {x:Str} (hg:Gl X x) (h:X.mg x=some (.ref (He.ga X.K x))) (hd:(x == ("__debug__" : Str))=false:=by decide):ME X Wx (.Name x pos) (m_c (.gl x)) :=
  Y3t hg h ⟨.ref (He.ga X.K x),fun _ _ => .gl x,rfl⟩ hd
theorem X7b {x:Str} {T:String} (hg:Gl X x) (hm:X.mg x=none) (hv:bootBuiltins x=some (.type T):=by rfl) (hn:x ≠ "__name__" := by decide) (hd:(x == ("__debug__" : Str))=false:=by decide):PE X (.Name x pos) (tC (.ty T)):=pe_bltn hg hm hv rfl hn hd
theorem W5r {x:Str} (hg:Gl X x) (h:X.mg x=some (.ref (He.ga X.K x))) (hd:(x == ("__debug__" : Str))=false:=by decide):PE X (.Name x pos) (tC (.ref (He.ga X.K x))):=pe_glob hg h rfl hd
end
end Bv
namespace Bv
open PySem PySem.Spec L2
open PyProof.Rows hiding St
variable [HasW]
def Y8f:List (String × Bool):=[("NoneType",false),("bool",false),("int",false),("str",false),("tuple",false),("list",false),("dict",false)]
section
variable {X:Cx} {Wx:WX} {k j n:Nat} {pos p:Pos} {e:Expr} {es:List Expr} {ms:MG (List Bv.X)} {C:Str} {g:List D→PR}
end
end Bv
namespace Bv
open PySem PySem.Spec L2
open PyProof.Rows hiding St
def X6d (u:PySem.W.Frag→Value) (tab:List (String × Bool)) (own:List (Str × Bool)) (K:PySem.W.Frag):Bool:=(tab.all fun p=>decide (PySem.W.kitOne K (.type p.1) (u K)=some p.2)) && own.all fun p=>W0x p.1 K && decide (PySem.W.kitOne K (.ref (He.ga K p.1)) (u K)=some p.2)
def X7k (us:List Value) (tab:List (String × Bool)) (own:List (Str × Bool)) (K:PySem.W.Frag):Bool:=(tab.all fun p=>decide (PySem.W.kitAny K (.type p.1) us=some p.2)) && own.all fun p=>W0x p.1 K && decide (PySem.W.kitAny K (.ref (He.ga K p.1)) us=some p.2)
def X37 (Ts:List String):List (String × Bool):=["NoneType", "bool", "int", "str", "tuple", "list", "dict"].map fun k=>(k,Ts.any fun T=>kitB k T == some true)
section
variable {K:PySem.W.Frag} {h:Heap} {mg:Str→Option Value}
theorem X18 {u:PySem.W.Frag→Value} {tab:List (String × Bool)} {own:List (Str × Bool)} (c:X6d u tab own K=true):IsT K (u K) tab own:=by
  obtain ⟨c1,c2⟩:=He.ba c
  refine ⟨fun k b q=>of_decide_eq_true (List.all_eq_true.mp c1 (k,b) (X2p q)),fun C b q=>?_⟩
  obtain ⟨c3,c4⟩:=He.ba (List.all_eq_true.mp c2 (C,b) (PySem.mem_of_lookup q))
  exact ⟨X7a c3,of_decide_eq_true c4⟩
theorem X8e {us:List Value} {tab:List (String × Bool)} {own:List (Str × Bool)} (c:X7k us tab own K=true):IsTs K us tab own:=by
  obtain ⟨c1,c2⟩:=He.ba c
  refine ⟨fun k b q=>of_decide_eq_true (List.all_eq_true.mp c1 (k,b) (X2p q)),fun C b q=>?_⟩
  obtain ⟨c3,c4⟩:=He.ba (List.all_eq_true.mp c2 (C,b) (PySem.mem_of_lookup q))
  exact ⟨X7a c3,of_decide_eq_true c4⟩
def Z14 (Cs:List Str) (f:Str) (K:PySem.W.Frag):Bool:=Cs.all fun C=>X35 C K && W32 C f K
theorem Z0q {Cs:List Str} {f:Str} (c:Z14 Cs f K=true):Z1m K Cs f:=fun C m=>by
  obtain ⟨c1,c2⟩:=He.ba (List.all_eq_true.mp c C m)
  exact ⟨He.cls_ok c1,He.noat_ok c2⟩
theorem U3 (X:K.In h) (G:h.Ns mainGlobals mg) {x:Str} (c:Z1r x K=true):mg x=some (.ref (He.ga K x)):=He.glo_ok X G c
theorem Z05 (X:K.In h) (G:h.Ns mainGlobals mg) {x:Str} (c:Z3l x K=true):mg x=none:=He.free_ok X G c
theorem X4c (X:K.In h) (G:h.Ns mainGlobals mg) {x z:Str} (c:W0y x z K=true):∃ t,mg x=some (.str z t):=He.str_ok X G c
theorem X8d (X:K.In h) (G:h.Ns mainGlobals mg) {x:Str} {i:Int} (c:W31 x i K=true):∃ t,mg x=some (.int i t):=He.int_ok X G c
theorem Z88 {C:Str} (c:Y8e C K=true):Mk K (He.ga K C) (He.ma K (He.ga K C) "__init__"):=He.mkr_ok c
end
section
variable {P:Program} {w:World} {K:PySem.W.Frag} {mg:Str→Option Value} {base:Heap} {k:Nat} {f:Addr} {fd:FuncData} {ps:List Str} {sp:Sp} {x qual:Str} {pa:Arguments} {bd:List Stmt} {sc:Scope} {dl:List V}
theorem Z15 (F:FunD K x qual pa bd sc [] [] f fd) (ok:FnG P w K mg base k f fd ps sp)
    (h:∀ (kV doc pm:Value) (an:Option Addr) (cdv ct:Value) (us:List Value),us.length=ps.length→bindArgs (PySem.W.fnOf x qual pa bd sc .none kV doc pm an cdv ct) ⟨us,[]⟩=pure (ps.zip us)):Kept P w K mg base k f sp:=⟨⟨fd,ps,ok,F.bindsN h⟩,F.kp⟩
theorem X43 (F:FunD K x qual pa bd sc dl [] f fd) (ok:FnG P w K mg base k f fd ps sp) (hd:dl ≠ [])
    (h:∀ (T:Addr) (kV doc pm:Value) (an:Option Addr) (cdv ct:Value) (us its:List Value),us.length=ps.length→its.length=dl.length →
      ∃ k,bindArgs (PySem.W.fnOf x qual pa bd sc (.ref T) kV doc pm an cdv ct) ⟨us,[]⟩=seqItems? (.ref T) >>= k∧k (some its.toArray)=pure (ps.zip (us++its.drop dl.length))):Kept P w K mg base k f sp:=by
  obtain ⟨ds,r,b⟩:=F.binds1 ps.length dl.length hd (by omega) h
  rw [List.drop_length] at r
  cases r
  exact ⟨⟨fd,ps,ok,b⟩,F.kp⟩
theorem W4y {dxs:List D} (F:FunD K x qual pa bd sc dl [] f fd) (ok:FnG P w K mg base k f fd ps sp) (n j:Nat) (hd:dl ≠ []) (hn:n + (dl.length - j)=ps.length) (a:∀ W H,AVs K W H dxs (dl.drop j))
    (h:∀ (T:Addr) (kV doc pm:Value) (an:Option Addr) (cdv ct:Value) (us its:List Value),us.length=n→its.length=dl.length →
      ∃ k,bindArgs (PySem.W.fnOf x qual pa bd sc (.ref T) kV doc pm an cdv ct) ⟨us,[]⟩=seqItems? (.ref T) >>= k∧k (some its.toArray)=pure (ps.zip (us++its.drop j))):KeptD P w K mg base k f sp dxs:=by
  obtain ⟨ds,r,b⟩:=F.binds1 n j hd hn h
  exact ⟨⟨fd,ps,dl.drop j,ds,ok,b,⟨a,r⟩⟩,F.kp⟩
end
theorem law_sp {K:PySem.W.Frag} {g:List D→PR} (hg:∀ ns:List Int,ns.length ≤ 63→g [.scr ns] = .ok (.bl true)) (H:Hp) (a:Addr) (ns:List Int) (hl:ns.length ≤ 63) (only:Only H) (hS:SqL K H a (ns.map V.int)):spP K 1 g [.ref a] H (fun v _=>v = .bl true) fun _ _ _=>False:=by
  refine ⟨rfl,fun _=>False,[.scr ns],fun _ z=>z.elim, .cons (.scr ?_) .nil,?_⟩
  · rcases hS with h | h
    · exact .inl ⟨fun z=>z,h⟩
    · exact .inr h
  · rw [hg ns hl]
    intro H' v k a
    cases a
    rfl
end Bv
namespace Bv
open PySem PySem.Spec L2
open PyProof.Rows hiding St
variable [HasW]
def Z1q (acc:List Str) (x:Str):List Str:=if acc.contains x then acc else acc++[x]
def Z4a (xs:List Str):List Str:=xs.foldl Z1q []
theorem Y6c {xs:List Str} {i:Nat} (h:i < xs.length):Z4a (xs.take (i + 1))=Z1q (Z4a (xs.take i)) (xs.getD i Str.empty):=by
  unfold Z4a
  rw [List.take_add_one,List.getElem?_eq_getElem h,Option.toList_some,List.foldl_append]
  simp [List.getD_eq_getElem?_getD,h]
theorem Y6b (acc:List Str) (x k:Str):(Z1q acc x).contains k=(acc.contains k || decide (k=x)):=by
  unfold Z1q
  by_cases h:acc.contains x=true
  · rw [if_pos h]
    by_cases e:k=x
    · rw [e,h]; rfl
    · simp [e]
  · rw [if_neg h]
    simp [List.contains_append,Bool.or_comm,eq_comm]
theorem Y22 (acc:List Str) (x:Str):(Z1q acc x).length=if acc.contains x then acc.length else acc.length + 1:=by
  unfold Z1q
  split <;> simp
theorem Y4d:∀ (xs acc:List Str),(xs.foldl Z1q acc).length ≤ acc.length + xs.length
  | [],acc=>by simp
  | x :: r,acc=>by
    have h:=Y4d r (Z1q acc x)
    have h2:=Y22 acc x
    simp only [List.foldl_cons,List.length_cons]
    split at h2 <;> omega
section
variable {prog:Program} {w:World} {A:Around} {R:Result→Shared→Prop} {it:Addr} {fp wr:List Addr} {G:Array GenState→Array GenState→Prop} {n:Nat} {P:Nat→Value→Prop} {St:Nat→Shared→Prop}
theorem fill (W:WalksS prog w A.in1 it fp wr G n P St) (S:Addr) (apart:S ∉ fp) (xs:List Str) (many:xs.length=n) (few:xs.length + 1 < scanBound) (says:∀ i v,P i v→∃ t,v = .str (xs.getD i Str.empty) t) :
    ∀ (k i:Nat) (s:Shared),n - i=k→i ≤ n→St i s→s.heap.SetOf (PySem.strKind prog w) S (fun k=>(Z4a (xs.take i)).contains k) (Z4a (xs.take i)).length →
      (∀ s',Moved (S :: wr) G s s'→s'.heap.SetOf (PySem.strKind prog w) S (fun k=>(Z4a (xs.take n)).contains k) (Z4a (xs.take n)).length→R (.ok (.ret .none)) s') →
      codeAny (model prog w) A (.builtin "set.update.loop" ⟨[.ref S, .ref it],[]⟩) R s:=by
  have out:S ∉ wr:=fun z=>apart (W.sub _ z)
  have more:∀ b ∈ wr,b ∈ S :: wr:=fun b z=>List.mem_cons_of_mem _ z
  have stay:∀ {i:Nat} {s s':Shared},Moved wr G s s'→s.heap.SetOf (PySem.strKind prog w) S (fun k=>(Z4a (xs.take i)).contains k) (Z4a (xs.take i)).length→s'.heap.SetOf (PySem.strKind prog w) S (fun k=>(Z4a (xs.take i)).contains k) (Z4a (xs.take i)).length :=
    fun mv ⟨o,es,ep,t,q,rest⟩=>⟨o,es,ep,t,mv.heap S _ out q,rest⟩
  intro k
  induction k with
  | zero =>
    intro i s e1 e2 st set fin
    obtain rfl:i=n:=by omega
    refine (codeAny_builtin PyProof.Rows.F.entry_set_update_loop ?_)
    rw [(Around.under_plainId PyProof.Rows.F.plain_set_update_loop _)]
    show wpAny _ A.in1 (pyNext (.ref it) >>= _) _ _ s
    refine wpAny_bind (W.done s _ _ st fun s' mv=>?_)
    exact wpAny_pure (fin s' (mv.mono more) (stay mv set))
  | succ k ih =>
    intro i s e1 e2 st set fin
    have lt:i < n:=by omega
    refine (codeAny_builtin PyProof.Rows.F.entry_set_update_loop ?_)
    rw [(Around.under_plainId PyProof.Rows.F.plain_set_update_loop _)]
    show wpAny _ A.in1 (pyNext (.ref it) >>= _) _ _ s
    refine wpAny_bind (W.item i s _ _ lt st fun v s' p st' mv=>?_)
    obtain ⟨t,rfl⟩:=says i v p
    have set':=stay mv set
    have room:(Z4a (xs.take i)).length + 1 < scanBound:=by
      have h:=Y4d (xs.take i) []
      have h2:=List.length_take_le i xs
      unfold Z4a at *
      simp only [List.length_nil,Nat.zero_add] at h
      omega
    show wpAny _ A.in1 (holding [Value.str (xs.getD i Str.empty) t] (setAdd S (.str (xs.getD i Str.empty) t)) >>= _) _ _ s'
    refine (wpAny_bind (wpAny_holding ?_))
    unfold setAdd
    refine (wpAny_holding (wpAny_bind ((PySem.strKind prog w).pyHash (k:=xs.getD i Str.empty) (strKind_is _ _ _ _) ?_)))
    refine wpAny_setAddHashed_of (knd:=PySem.strKind prog w) (s:={ s' with toks:=s'.toks + 1 }) (strKind_is _ _ _ _) rfl set' room fun h' but W6d=>?_
    have set3:h'.SetOf (PySem.strKind prog w) S (fun k=>(Z4a (xs.take (i + 1))).contains k) (Z4a (xs.take (i + 1))).length:=SetOf_congr W6d (fun k=>by rw [Y6c (by omega),Y6b]) (by rw [Y6c (by omega),Y22])
    refine wpAny_pure ⟨plainId_quiet PyProof.Rows.F.plain_set_update_loop _,ih (i + 1) _ (by omega) lt (W.frame _ s' _ _ st' (Nat.le_succ _) fun b z o q=>?_) set3 fun s2 mv2 q2=>?_⟩
    · rw [but.2 b fun y=>apart (by rw [← y]; exact z)]; exact q
    · refine fin s2 (Moved.trans W.gtrans ((mv.mono more).then_heap (Nat.le_succ _) fun b o z q=>?_) mv2) q2
      rw [but.2 b fun y=>z (by rw [y]; exact List.mem_cons_self)]; exact q
end
section
variable {prog:Program} {w:World} {A:Around} {E:Value→Shared→Prop} {s:Shared}
set_option maxHeartbeats 3200000 in
theorem set_list {l:Addr} {items:Array Value} {xs:List Str} {Q:Value→Shared→Prop} (calm:A.handled=none) (at_:s.heap.IsList l items) (are:StrsAre items.toList xs) (few:xs.length + 1 < scanBound)
    (fin:∀ (h':Heap) (tk:Nat),h'.SetOf (PySem.strKind prog w) s.heap.objs.size (fun k=>(Z4a xs).contains k) (Z4a xs).length→(∀ b o,b < s.heap.objs.size→s.heap.get? b=some o→h'.get? b=some o)→Q (.ref s.heap.objs.size) { s with heap:=h',toks:=tk }) :
    wpAny (model prog w) A (call (.type "set") [.ref l]) Q E s:=by
  obtain ⟨c,tl,known⟩:=PySem.F.called_set.mro
  have mk:=PySem.F.called_set.made
  have below:=PySem.F.called_set.sub
  have no1:=PySem.F.called_set.notType
  have may:=PySem.F.called_set.canCreate
  have chk:=PySem.F.typeCall_set_1 (.ref l)
  have slen:xs.length=items.size:=by rw [← StrsAre.len_eq are,Array.length_toList]
  refine wpAny_call (codeAny_of_tree ?_)
  show wpAny _ _ (callAny (.type "set") _) _ E s
  refine (wpAny_pure ⟨Code.quiet_builtin _ (by decide +kernel),(codeAny_builtin PySem.F.entry_type_call ?_)⟩)
  rw [(Around.under_plain (weight_type_call_type "set" [.ref l] []) rfl)]
  (repeat (any_goals (first | assumption | wp_step)))
  let new (led:Bool):Heap:=s.heap.push { cls := .type "set",dict:=none,data := .set #[] 0 (.fresh 0 0 led) }
  refine codeAny_mono (code_set_new_1 (.ref l) (E:=E) (Q₁:=fun obj s1=>∃ led:Bool,obj = .ref s.heap.objs.size∧s1={ s with heap:=new led }) fun led=>⟨led,rfl,rfl⟩) fun y s1 z=>?_
  match y,z with
  | .error e,z=>exact z
  | .ok (.ret obj),z =>
    obtain ⟨led,rfl,rfl⟩:=z
    have there:(new led).get? s.heap.objs.size=some { cls := .type "set",dict:=none,data := .set #[] 0 (.fresh 0 0 led) }:=Heap.get?_push_size _ rfl
    have isSet:Shared.TypeIs { s with heap:=new led } (.ref s.heap.objs.size) "set" := ⟨_,there,rfl⟩
    have look:=PySem.F.called_set.init.lookup
    have bound:=PySem.F.called_set.init.bind (.ref s.heap.objs.size)
    (repeat (any_goals (first | assumption | wp_step)))
    refine codeAny_mono (codeAny_call_builtin (R:=wants (fun r s2=>r = .none∧∃ h' tk,s2={ s with heap:=h',toks:=tk }∧h'.SetOf (PySem.strKind prog w) s.heap.objs.size (fun k=>(Z4a xs).contains k) (Z4a xs).length∧(∀ b o,b < s.heap.objs.size→s.heap.get? b=some o→h'.get? b=some o)) E)
      PySem.F.called_set.init.plain PySem.F.entry_set_init (check_set_init_1 isSet ?_)) fun y2 s2 z2=>?_
    · obtain ⟨ob,hob,cl,n,dt⟩:=at_
      obtain ⟨obc,obd,obt,obs⟩:=ob
      simp only at cl dt
      subst cl dt
      have ob2:(new led).get? l=some { cls := .type "list",dict:=obd,data := .seq items n,slots:=obs }:=Heap.get?_push_of_some _ hob
      have no2:=PySem.F.sub_list_set
      have no3:=PySem.F.sub_list_frozenset
      have no4:(Value.type "list" == Value.type "dict")=false:=by decide
      have isL:(new led).IsList l items:=⟨_,ob2,rfl,n,rfl⟩
      unfold Builtin.«set.__init__» noKeywords Builtin.Frozenset.updateFrom
      generalize hp:pyIter=it
      wp_walk
      subst hp
      refine wpAny_pyIter_list isL ?_
      refine (wpAny_bind (wpAny_runValue ?_))
      have lt:l < s.heap.objs.size:=Heap.lt_size hob
      have sz:(new led).objs.size=s.heap.objs.size + 1:=Heap.size_push ..
      have off1:l ≠ (new led).objs.size:=by rw [sz]; exact Nat.ne_of_lt (Nat.lt_succ_of_lt lt)
      have off2:s.heap.objs.size ∉ [(new led).objs.size,l]:=by
        simp only [List.mem_cons,List.not_mem_nil,or_false,not_or]
        exact ⟨by rw [sz]; exact Nat.ne_of_lt (Nat.lt_succ_self _),Nat.ne_of_gt lt⟩
      refine fill ((Walks.list (show A.in1.in1.in1.handled=none by simp [calm]) _ l off1 items).toS) s.heap.objs.size off2 xs slen few (fun i v q=>SS.strs_at are i v (by rw [Array.getElem?_toList]; exact q)) (items.size - 0) 0 _ (by omega) (Nat.zero_le _) ⟨⟨_,Heap.get?_push_size _ rfl,rfl,rfl⟩,isL.push _⟩ ?_ ?_
      · have there2:((new led).push { cls := .type "list_iterator",data := .fields #[.ref l, .int 0 0] }).get? s.heap.objs.size=some { cls := .type "set",dict:=none,data := .set #[] 0 (.fresh 0 0 led) }:=Heap.get?_push_of_some _ there
        exact SetOf_congr ((setObjOf_fresh (knd:=PySem.strKind prog w) led).setOf there2 (by unfold scanBound; omega)) (fun _=>rfl) rfl
      · intro s3 mv set3
        obtain ⟨h3,g3,d3,t3,o3⟩:=s3
        obtain rfl:g3=s.gens:=mv.gens
        obtain rfl:d3=s.drawn:=mv.drawn
        obtain rfl:o3=s.os:=mv.os
        show (wpAny _ _ _ _ _ _)
        refine (wpAny_pure ?_)
        show (wpAny _ _ (ret Value.none) _ _ _)
        refine wpAny_pure ⟨rfl,h3,t3,rfl,by rw [← slen,List.take_length] at set3; exact set3,fun b o hb q=>?_⟩
        exact mv.heap b o (by simp only [List.mem_cons,List.not_mem_nil,or_false,not_or]; exact ⟨Nat.ne_of_lt hb,by rw [sz]; exact Nat.ne_of_lt (Nat.lt_succ_of_lt hb)⟩) (Heap.get?_push_of_some _ (Heap.get?_push_of_some _ q))
    · match y2,z2 with
      | .error e,z2=>exact z2
      | .ok (.ret r),z2 =>
        obtain ⟨rfl,h3,t3,rfl,set3,keep3⟩:=z2
        (repeat (any_goals (first | assumption | wp_step)))
        exact fin _ _ set3 keep3
      | .ok .next,z2=>exact z2.elim
      | .ok .brk,z2=>exact z2.elim
      | .ok .cont,z2=>exact z2.elim
  | .ok .next,z=>exact z.elim
  | .ok .brk,z=>exact z.elim
  | .ok .cont,z=>exact z.elim
end
end Bv
namespace Bv
open PySem PySem.Spec L2
open PyProof.Rows hiding St
variable [HasW]
section
variable {prog:Program} {w:World} {A:Around} {E:Value→Shared→Prop} {s:Shared}
set_option maxHeartbeats 3200000 in
theorem X3u {l:Addr} {items:Array Value} {xs:List Str} {Q:Value→Shared→Prop} (calm:A.handled=none) (at_:s.heap.IsTuple l items) (are:StrsAre items.toList xs) (few:xs.length + 1 < scanBound)
    (fin:∀ (h':Heap) (tk:Nat),h'.SetOf (PySem.strKind prog w) s.heap.objs.size (fun k=>(Z4a xs).contains k) (Z4a xs).length→(∀ b o,b < s.heap.objs.size→s.heap.get? b=some o→h'.get? b=some o)→Q (.ref s.heap.objs.size) { s with heap:=h',toks:=tk }) :
    wpAny (model prog w) A (call (.type "set") [.ref l]) Q E s:=by
  obtain ⟨c,tl,known⟩:=PySem.F.called_set.mro
  have mk:=PySem.F.called_set.made
  have below:=PySem.F.called_set.sub
  have no1:=PySem.F.called_set.notType
  have may:=PySem.F.called_set.canCreate
  have chk:=PySem.F.typeCall_set_1 (.ref l)
  have slen:xs.length=items.size:=by rw [← StrsAre.len_eq are,Array.length_toList]
  refine wpAny_call (codeAny_of_tree ?_)
  show wpAny _ _ (callAny (.type "set") _) _ E s
  refine (wpAny_pure ⟨Code.quiet_builtin _ (by decide +kernel),(codeAny_builtin PySem.F.entry_type_call ?_)⟩)
  rw [(Around.under_plain (weight_type_call_type "set" [.ref l] []) rfl)]
  (repeat (any_goals (first | assumption | wp_step)))
  let new (led:Bool):Heap:=s.heap.push { cls := .type "set",dict:=none,data := .set #[] 0 (.fresh 0 0 led) }
  refine codeAny_mono (code_set_new_1 (.ref l) (E:=E) (Q₁:=fun obj s1=>∃ led:Bool,obj = .ref s.heap.objs.size∧s1={ s with heap:=new led }) fun led=>⟨led,rfl,rfl⟩) fun y s1 z=>?_
  match y,z with
  | .error e,z=>exact z
  | .ok (.ret obj),z =>
    obtain ⟨led,rfl,rfl⟩:=z
    have there:(new led).get? s.heap.objs.size=some { cls := .type "set",dict:=none,data := .set #[] 0 (.fresh 0 0 led) }:=Heap.get?_push_size _ rfl
    have isSet:Shared.TypeIs { s with heap:=new led } (.ref s.heap.objs.size) "set" := ⟨_,there,rfl⟩
    have look:=PySem.F.called_set.init.lookup
    have bound:=PySem.F.called_set.init.bind (.ref s.heap.objs.size)
    (repeat (any_goals (first | assumption | wp_step)))
    refine codeAny_mono (codeAny_call_builtin (R:=wants (fun r s2=>r = .none∧∃ h' tk,s2={ s with heap:=h',toks:=tk }∧h'.SetOf (PySem.strKind prog w) s.heap.objs.size (fun k=>(Z4a xs).contains k) (Z4a xs).length∧(∀ b o,b < s.heap.objs.size→s.heap.get? b=some o→h'.get? b=some o)) E)
      PySem.F.called_set.init.plain PySem.F.entry_set_init (check_set_init_1 isSet ?_)) fun y2 s2 z2=>?_
    · obtain ⟨ob,hob,cl,n,dt⟩:=at_
      obtain ⟨obc,obd,obt,obs⟩:=ob
      simp only at cl dt
      subst cl dt
      have ob2:(new led).get? l=some { cls := .type "tuple",dict:=obd,data := .seq items n,slots:=obs }:=Heap.get?_push_of_some _ hob
      have no2:=PySem.F.sub_tuple_set
      have no3:=PySem.F.sub_tuple_frozenset
      have no4:(Value.type "tuple" == Value.type "dict")=false:=by decide
      have isL:(new led).IsTuple l items:=⟨_,ob2,rfl,n,rfl⟩
      unfold Builtin.«set.__init__» noKeywords Builtin.Frozenset.updateFrom
      generalize hp:pyIter=it
      wp_walk
      subst hp
      refine wpAny_pyIter_tuple isL ?_
      refine (wpAny_bind (wpAny_runValue ?_))
      have lt:l < s.heap.objs.size:=Heap.lt_size hob
      have sz:(new led).objs.size=s.heap.objs.size + 1:=Heap.size_push ..
      have off1:l ≠ (new led).objs.size:=by rw [sz]; exact Nat.ne_of_lt (Nat.lt_succ_of_lt lt)
      have off2:s.heap.objs.size ∉ [(new led).objs.size,l]:=by
        simp only [List.mem_cons,List.not_mem_nil,or_false,not_or]
        exact ⟨by rw [sz]; exact Nat.ne_of_lt (Nat.lt_succ_self _),Nat.ne_of_gt lt⟩
      refine fill ((Walks.tuple (show A.in1.in1.in1.handled=none by simp [calm]) _ l off1 items).toS) s.heap.objs.size off2 xs slen few (fun i v q=>SS.strs_at are i v (by rw [Array.getElem?_toList]; exact q)) (items.size - 0) 0 _ (by omega) (Nat.zero_le _) ⟨⟨_,Heap.get?_push_size _ rfl,rfl,rfl⟩,isL.push _⟩ ?_ ?_
      · have there2:((new led).push { cls := .type "tuple_iterator",data := .fields #[.ref l, .int 0 0] }).get? s.heap.objs.size=some { cls := .type "set",dict:=none,data := .set #[] 0 (.fresh 0 0 led) }:=Heap.get?_push_of_some _ there
        exact SetOf_congr ((setObjOf_fresh (knd:=PySem.strKind prog w) led).setOf there2 (by unfold scanBound; omega)) (fun _=>rfl) rfl
      · intro s3 mv set3
        obtain ⟨h3,g3,d3,t3,o3⟩:=s3
        obtain rfl:g3=s.gens:=mv.gens
        obtain rfl:d3=s.drawn:=mv.drawn
        obtain rfl:o3=s.os:=mv.os
        show (wpAny _ _ _ _ _ _)
        refine (wpAny_pure ?_)
        show (wpAny _ _ (ret Value.none) _ _ _)
        refine wpAny_pure ⟨rfl,h3,t3,rfl,by rw [← slen,List.take_length] at set3; exact set3,fun b o hb q=>?_⟩
        exact mv.heap b o (by simp only [List.mem_cons,List.not_mem_nil,or_false,not_or]; exact ⟨Nat.ne_of_lt hb,by rw [sz]; exact Nat.ne_of_lt (Nat.lt_succ_of_lt hb)⟩) (Heap.get?_push_of_some _ (Heap.get?_push_of_some _ q))
    · match y2,z2 with
      | .error e,z2=>exact z2
      | .ok (.ret r),z2 =>
        obtain ⟨rfl,h3,t3,rfl,set3,keep3⟩:=z2
        (repeat (any_goals (first | assumption | wp_step)))
        exact fin _ _ set3 keep3
      | .ok .next,z2=>exact z2.elim
      | .ok .brk,z2=>exact z2.elim
      | .ok .cont,z2=>exact z2.elim
  | .ok .next,z=>exact z.elim
  | .ok .brk,z=>exact z.elim
  | .ok .cont,z=>exact z.elim
end
def Y85:List Bv.X→Sto→R Bv.X
  | [x],S=>(match (items S x).bind strs? with
    | some xs=>if decide (xs.length + 1 < scanBound) then .ok (.d (.int (Z4a xs).length)) S else .bad
    | none => .bad)
  | _,_ => .bad
def Z8d (m:M):M:=fun e S=>(m e S).bind fun x S1=>Y85 [x] S1
section
variable {X:Cx} {Wx:WX} {p p2 q pos:Pos} {a:Expr} {m:M}
theorem Y5j (hc:X.calm=true) (hg:Gl X "len") (hm:X.mg "len" = none) (hg2:Gl X "set") (hm2:X.mg "set" = none) (ha:ME X Wx a m) (na:starEach [a] X.env=(false,eval a X.env) :: starEach [] X.env:=by rfl) :
    ME X Wx (.Call (.Name "len" p) [.Call (.Name "set" p2) [a] [] q] [] pos) (Z8d m):=⟨fun pins s σ H Q I ⟨Z,ρ,e,S,st,ev,w⟩=>by
  refine Call_ (ld_blt I hg hm boot_len (callWith_builtin1 (args_cons (Call_ (ld_blt I hg2 hm2 boot_set (callWith_type1 (args_cons (thn (ha.run pins s σ H _ I (X5 (R':=fun v H1=>∃ (b:Addr) (xs:List Str),v = .ref b∧(SqT X.K H1 b (xs.map V.str) ∨ SqL X.K H1 b (xs.map V.str))∧xs.length + 1 < scanBound∧Q (.int (Z4a xs).length) H1) st ev w
    fun ρ1 H1 v x S1 s1 g1 ev1 a1 p1=>?_)) fun v s1 ⟨x,H1,I1,r1,b,xs,ex,hq,few,q1⟩=>args_nil ?_) na) na rfl))) rfl) rfl rfl))
  · have p1:X6 (AX X.K) X.K Z ρ1 H1 Wx σ Q (match (items S1 x).bind strs? with
      | some xs=>if decide (xs.length + 1 < scanBound) then .ok (.d (.int (Z4a xs).length)) S1 else .bad
      | none => .bad):=p1
    cases y:(items S1 x).bind strs? with
    | none=>rw [y] at p1; exact p1.elim
    | some xs =>
      rw [y] at p1
      have p1:X6 (AX X.K) X.K Z ρ1 H1 Wx σ Q (if decide (xs.length + 1 < scanBound) then .ok (.d (.int (Z4a xs).length)) S1 else .bad):=p1
      split at p1
      · rename_i few
        obtain ⟨ys,h1,h2⟩:=Option.bind_eq_some_iff.mp y
        obtain ⟨b,us,rfl,hq,hp⟩:=a1.items s1 h1
        obtain ⟨rfl,_⟩:=Y0a hp h2
        exact ⟨b,xs,rfl,hq,of_decide_eq_true few,X6.ret0 p1 s1 (.d (.int _))⟩
      · exact p1.elim
  · subst ex
    cases r1
    have fin:∀ (h':Heap) (tk:Nat),h'.SetOf (PySem.strKind X.prog X.w) s1.heap.objs.size (fun k=>(Z4a xs).contains k) (Z4a xs).length→(∀ b o,b < s1.heap.objs.size→s1.heap.get? b=some o→h'.get? b=some o) →
        wpAny (model X.prog X.w) X.A (spliced (backTo pos (starEach [] X.env))) (fun vs s2=>wpAny (model X.prog X.w) X.A (call (.builtin "len") (Value.ref s1.heap.objs.size :: vs)) (EP X pins σ Q) X.xe s2) X.xe { s1 with heap:=h',toks:=tk }:=fun h' tk set keep=>by
      refine args_nil ?_
      obtain ⟨o,es,ep,t,ho,hex,hd,_,_,_,hf,hn⟩:=set
      have I2:Inv X pins σ H1 { s1 with heap:=h',toks:=tk }:=I1.kept fun b o e=>keep b o (Heap.lt_size e) e
      have le:=Y4d xs []
      refine call_len_set ho hex hd hf (by rw [hn]; unfold Z4a scanBound at *; simp only [List.length_nil,Nat.zero_add] at le; omega) ⟨.int (Z4a xs).length,H1,I2.tok _,⟨_,by rw [hn]⟩,q1⟩
    rcases hq with hq | hq
    · obtain ⟨its,r,pl,_⟩:=I1.tuple hq
      exact X3u (I1.ok.hd hc) pl (by simpa using strsAre_of r) few fun h' tk set keep=>fin h' tk set keep
    · obtain ⟨its,r,pl,_⟩:=I1.list hq
      exact set_list (I1.ok.hd hc) pl.isList (by simpa using strsAre_of r) few fun h' tk set keep=>fin h' tk set keep⟩
end
end Bv
namespace Bv
open PySem PySem.Spec L2
open PyProof.Rows hiding St
structure ClsM (K:PySem.W.Frag) (C m:Str):Prop where
  rd:ClX.CRead K (He.ga K C) (.type "type")
  me:ClX.CMet K (He.ga K C) (.type "type") m (He.ma K (He.ga K C) m) (X4y C m K)
def W6i (C m:Str) (K:PySem.W.Frag):Bool:=PySem.W.readsIn K (He.ga K C) (.type "type") && (He.eqO (PySem.W.specialIn K (.ref (He.ga K C)) "__getattribute__") (some (some (.builtin "type.__getattribute__"))) &&
  ((match PySem.W.findCls K (.ref (He.ga K C)) (.type "type") m with
    | some (.get (.builtin id) (.ref p) .none (.ref c))=>decide (id = "classmethod.__get__") && (decide (p=He.ma K (He.ga K C) m) && decide (c=He.ga K C))
    | _=>false) && ((match PySem.W.recIn K (He.ma K (He.ga K C) m) "classmethod" with
    | some (.ref _ :: _)=>true
    | _=>false) && PySem.W.fnIn K (X4y C m K))))
theorem W12 {C m:Str} {K:PySem.W.Frag} (h:W6i C m K=true):ClsM K C m:=by
  obtain ⟨c1,h⟩:=He.ba h
  obtain ⟨c2,h⟩:=He.ba h
  obtain ⟨c3,h⟩:=He.ba h
  obtain ⟨c4,c5⟩:=He.ba h
  refine ⟨⟨c1,He.eqO_ok c2⟩,⟨?_,?_,c5⟩⟩
  · split at c3
    · rename_i id p c q
      obtain ⟨e1,e2⟩:=He.ba c3
      obtain ⟨e2,e3⟩:=He.ba e2
      obtain rfl:=of_decide_eq_true e1
      obtain rfl:=of_decide_eq_true e2
      obtain rfl:=of_decide_eq_true e3
      exact q
    · cases c3
  · split at c4
    · rename_i g rest q
      refine ⟨rest,?_⟩
      have e:X4y C m K=g:=by unfold X4y; rw [q]
      rw [e]; exact q
    · cases c4
def Z85 (C:Str) (g:List Bv.X→Sto→R Bv.X) (mo:M) (ms:MG (List Bv.X)):M:=fun e S=>(mo e S).bind fun x S1=>match x with
  | .d (.gl D)=>if decide (D=C) then (ms e S1).bind fun xs S2=>g (x :: xs) S2 else .bad
  | _ => .bad
section
variable [HasW] {X:Cx} {Wx:WX} {n:Nat} {x:Str} {p pos apos:Pos} {e o:Expr} {es:List Expr} {ms:MG (List Bv.X)} {mo m:M} {g:List Bv.X→Sto→R Bv.X} {C mth:Str} {pl:Sem Bool}
theorem X89 (cc:Y8h X Wx (.ref (X4y C mth X.K)) n g) (k:ClsM X.K C mth) (ho:ME X Wx o mo) (ha:MA X Wx (e :: es) ms) (hst:starEach (e :: es) X.env=(false,eval e X.env) :: starEach es X.env:=by rfl) (hpl:(backTo pos (starEach es X.env)).any (·.1)=false:=by rfl)
    (ht:eval (.Call (.Attribute o mth apos) (e :: es) [] pos) X.env=(do
      let ov ← eval o X.env
      standAt apos.atName
      let (f,first) ← holding [ov] (getMethod ov mth pl)
      callWith pos f first (backTo pos (starEach (e :: es) X.env)) (backToKw pos (keywordEach [] X.env))):=by rfl):ME X Wx (.Call (.Attribute o mth apos) (e :: es) [] pos) (Z85 C (X9 n g) mo ms):=⟨fun pins s σ H Q I ⟨Z,ρ,e,S,st,ev,q⟩=>by
  refine PySem.W.methodCall_KW (pl:=pl) (thn (ho.run pins s σ H _ I (X5 (R':=fun v H1=>v = .ref (He.ga X.K C)∧∃ (ρ1:List Addr) (S1:Sto),Sta X.K Z ρ1 S1 H1∧EvOk X.K (Wn Z ρ1) ρ1 H1 e σ∧X6 (AX X.K) X.K Z ρ1 H1 Wx σ Q ((ms e S1).bind fun xs S2=>X9 n g (.d (.gl C) :: xs) S2)) st ev q
    fun ρ1 H1 v y S1 s1 g1 ev1 a1 p1=>by
      cases a1 with
      | r _=>exact p1.elim
      | d a =>
        cases a with
        | gl D =>
          have p2:X6 (AX X.K) X.K Z ρ1 H1 Wx σ Q (if decide (D=C) then (ms e S1).bind fun xs S2=>X9 n g (.d (.gl D) :: xs) S2 else .bad):=p1
          clear p1
          by_cases hd:D=C
          · rw [if_pos (decide_eq_true hd)] at p2
            subst hd
            exact ⟨rfl,ρ1,S1,s1,ev1,p2⟩
          · rw [if_neg (by simpa using hd)] at p2; exact p2.elim
        | _=>exact p1.elim)) fun u s1 ⟨x,H1,I1,rx,ex,ρ1,S1,st1,ev1,p1⟩=>?_) ht
  subst ex
  obtain rfl:u=Value.ref (He.ga X.K C):=rx
  refine ClX.getmethcm_ok I1 k.rd k.me fun s2 I2=>?_
  refine ClX.callwith_cm I2 (ClX.base_none I1 (Nat.le_refl _)) k.me.fi (thn (ha.run pos _ s2 σ H1 _ I2 (X5 (R':=fun vs H2=>∃ (ρ2:List Addr) (xs:List Bv.X) (S2:Sto),Sta X.K Z ρ2 S2 H2∧AXs X.K (Wn Z ρ2) ρ2 H2 xs vs∧X6 (AX X.K) X.K Z ρ2 H2 Wx σ Q (X9 n g (.d (.gl C) :: xs) S2)) st1 ev1 p1
    fun ρ2 H2 v xs S2 s2 g2 ev2 a2 p2=>⟨ρ2,xs,S2,s2,a2,p2⟩)) fun us s3 ⟨vs,H2,I3,rv,ρ2,xs,S2,st2,a2,p2⟩=>⟨⟨ClX.pin_at I3,I3.kIn⟩,?_⟩) hst hpl
  obtain ⟨hl,p3⟩:=ari (rel:=X6 (AX X.K) X.K Z ρ2 H2 Wx σ Q) (fun z=>z) p2
  have aa:AXs X.K (Wn Z ρ2) ρ2 H2 (.d (.gl C) :: xs) (V.ref (He.ga X.K C) :: vs) := .cons (.d (.gl C)) a2
  have z:=wpAny_call (PySem.W.method_call (ClX.pin_at I3) (cc _ s3 σ H2 Q (.ref (He.ga X.K C) :: us) (.ref (He.ga X.K C) :: vs) Z ρ2 _ S2 I3 (.cons rfl rv) st2 aa (by rw [← Paired.length aa]; exact hl) p3))
  exact thn z fun _ _ y=>ClX.unpinE y⟩
def Y7j (i:Nat) (C:Str) (g:List Bv.X→Sto→R Bv.X) (ms:MG (List Bv.X)):M:=fun e S=>(Z4 i e S).bind fun x S1=>match x with
  | .d (.gl D)=>if decide (D=C) then (ms e S1).bind g else .bad
  | _ => .bad
theorem Y9g (i:Nat) (c:Y8h X Wx (.ref (He.ga X.K C)) n g) (hk:PySem.W.keepIn X.K (.ref (He.ga X.K C))=true) (ha:MA X Wx (e :: es) ms) (hN:X.N[i]?=some x:=by rfl) (hv:Vis X.env.scope x:=by first | exact Or.inl rfl | exact Or.inr (Or.inl rfl) | exact Or.inr (Or.inr rfl))
    (hdb:(x == ("__debug__" : Str))=false:=by decide) (hcd:(x == ("__classdict__" : Str))=false:=by decide) (he:starEach (e :: es) X.env=(false,eval e X.env) :: starEach es X.env:=by rfl) (hpl:(backTo pos (starEach es X.env)).any (·.1)=false:=by rfl) :
    ME X Wx (.Call (.Name x p) (e :: es) [] pos) (Y7j i C (X9 n g) ms):=⟨fun pins s σ H Q I ⟨Z,ρ,e,S,st,ev,q⟩=>by
  refine wpAny_Call_Name_kw (thn ((Z0 (Wx:=Wx) (pos:=p) i hN hv hdb hcd).run pins s σ H _ I (X5 (R':=fun v H1=>v = .ref (He.ga X.K C)∧∃ (ρ1:List Addr) (S1:Sto),Sta X.K Z ρ1 S1 H1∧EvOk X.K (Wn Z ρ1) ρ1 H1 e σ∧X6 (AX X.K) X.K Z ρ1 H1 Wx σ Q ((ms e S1).bind (X9 n g))) st ev q
    fun ρ1 H1 v y S1 s1 g1 ev1 a1 p1=>by
      cases a1 with
      | r _=>exact p1.elim
      | d a =>
        cases a with
        | gl D =>
          have p2:X6 (AX X.K) X.K Z ρ1 H1 Wx σ Q (if decide (D=C) then (ms e S1).bind (X9 n g) else .bad):=p1
          clear p1
          by_cases hd:D=C
          · rw [if_pos (decide_eq_true hd)] at p2
            subst hd
            exact ⟨rfl,ρ1,S1,s1,ev1,p2⟩
          · rw [if_neg (by simpa using hd)] at p2; exact p2.elim
        | _=>exact p1.elim)) fun u s1 ⟨x,H1,I1,rx,ex,ρ1,S1,st1,ev1,p1⟩=>?_)
  subst ex
  obtain rfl:u=Value.ref (He.ga X.K C):=rx
  refine PySem.W.callWith_K (h₀:=X.base) I1.ok.mod.kin hk (thn (ha.run pos pins s1 σ H1 _ I1 (X5 (R':=fun vs H2=>∃ (ρ2:List Addr) (xs:List Bv.X) (S2:Sto),Sta X.K Z ρ2 S2 H2∧AXs X.K (Wn Z ρ2) ρ2 H2 xs vs∧X6 (AX X.K) X.K Z ρ2 H2 Wx σ Q (X9 n g xs S2)) st1 ev1 p1
    fun ρ2 H2 v xs S2 s2 g2 ev2 a2 p2=>⟨ρ2,xs,S2,s2,a2,p2⟩)) fun us s2 ⟨vs,H2,I2,r,ρ2,xs,S2,st2,a2,p2⟩=>⟨I2.kIn,?_⟩) he hpl
  obtain ⟨hl,p3⟩:=ari (rel:=X6 (AX X.K) X.K Z ρ2 H2 Wx σ Q) (fun z=>z) p2
  exact wpAny_call (c pins s2 σ H2 Q us vs Z ρ2 xs S2 I2 r st2 a2 (by rw [← Paired.length a2]; exact hl) p3)⟩
def X0r (i:Nat) (f:D→D→Option D) (m:M):MS:=fun e S=>(Z4 i e S).so e fun x S1=>(m e S1).so e fun y S2=>(op2 f S2 x y).so e fun z S3 => .go (.nx (e.set i (some z))) S3
def W4f:D→D→Option D:=ii fun i j=>some (.int (i + j))
theorem W28 {K:PySem.W.Frag}:Op2 K (ipI fun i j=>i + j) W4f:=fun W H d1 d2 v1 v2 d Q hw a1 a2 e k=>by
  obtain ⟨i,j,rfl,rfl,e⟩:=Y86 e
  cases e
  exact ⟨i,j,a1.int_inv,a2.int_inv,k H _ (Same.refl H) (.int _)⟩
theorem W2v {i:Nat} {f:D→D→Option D} {op:Operator} {ti:TIp} {pos':Pos} (hN:X.N.Nodup) (hi:X.N[i]?=some x) (hx:Loc X.env.scope x) (he:ME X Wx e m) (ho:PIp X op ti) (hf:Op2 X.K ti f)
    (hc:X.fn x=true ∨ X.env.scope.names.lookup x=some .local:=by first | exact .inl rfl | exact .inr rfl | assumption):MP X Wx (.AugAssign (.Name x pos') op e pos) (X0r i f m):=PS.of (ps_aug hN hi hx he ho hc) fun D σ H ⟨Z,ρ,e,S,st,ev,q⟩=>by
  unfold X0r Z4 at q
  cases z:e[i]? with
  | none=>rw [z] at q; exact q.elim
  | some o =>
    cases o with
    | none=>rw [z] at q; exact q.elim
    | some y =>
      rw [z] at q
      obtain ⟨v,h1,h2⟩:=ev.at_ i y z
      refine ⟨v,h1,Z0h st ev (show Z1n X.K Z ρ H Wx D ((m e S).so e fun w S2=>(op2 f S2 y w).so e fun z S3 => .go (.nx (e.set i (some z))) S3) from q) fun ρ1 H1 u w S1 s1 g1 ev1 a1 p1=>?_⟩
      have b1:=h2.mv (g1.mv st) g1.pre
      unfold op2 at p1
      cases e1:y.get S1 with
      | none=>rw [e1] at p1; exact p1.elim
      | some d1 =>
        cases e2:w.get S1 with
        | none=>rw [e1,e2] at p1; exact p1.elim
        | some d2 =>
          rw [e1,e2] at p1
          cases e3:f d1 d2 with
          | none=>simp only [e3] at p1; exact p1.elim
          | some d =>
            simp only [e3] at p1
            exact hf (Wn Z ρ1) H1 d1 d2 v u d _ (fun _ h=>s1.thereW h) (b1.get s1 e1) (a1.get s1 e2) e3 fun H' v' k a =>
              p1 ρ1 H' _ (s1.grow k) (Go.grow k) ((ev1.mv ((Go.grow k).mv s1) (List.prefix_refl _)).set (.d a))
end
end Bv
namespace Bv
open PySem PySem.Spec L2
open PyProof.Rows hiding St
variable [HasW]
theorem X9a {X:Cx} {Wx:WX} {pos p tpos:Pos} {kt:Nat} {a b c:Expr} {m:M} {tab:List (String × Bool)} {own:List (Str × Bool)} {u1 u2:Value} {c1 c2:V} (hg:Gl X "isinstance") (hm:X.mg "isinstance" = none) (he:ME X Wx a m) (hc1:PE X b (tC c1)) (hc2:PE X c (tC c2)) (T:IsTs X.K [u1,u2] tab own) (k1:ClsV c1 u1) (k2:ClsV c2 u2)
    (ht1:starEach [b,c] X.env=(false,eval b X.env) :: starEach [c] X.env:=by rfl) (ht2:starEach [c] X.env=(false,eval c X.env) :: starEach [] X.env:=by rfl)
    (hs:starEach [a, .Tuple [b,c] kt tpos] X.env=(false,eval a X.env) :: starEach [.Tuple [b,c] kt tpos] X.env:=by rfl) (hs2:starEach [.Tuple [b,c] kt tpos] X.env=(false,eval (.Tuple [b,c] kt tpos) X.env) :: starEach [] X.env:=by rfl)
    (hpl:(backTo pos (starEach [.Tuple [b,c] kt tpos] X.env)).any (·.1)=false:=by rfl):ME X Wx (.Call (.Name "isinstance" p) [a, .Tuple [b,c] kt tpos] [] pos) (Z86 tab own m):=PE.of (pe_callB call_isiT hg hm (by rfl) (pa_cons he (pa_cons (pe_tup (pa_cons hc1 (pa_cons hc2 pa_nil ht2) ht1)) pa_nil hs2) hs) (by decide) (by decide) hs hpl) fun σ H Q ⟨Z,ρ,e,S,st,ev,q⟩=>X5 st ev q fun ρ1 H1 v x S1 s1 g1 ev1 a1 p1=>by
  obtain ⟨w,hw,p2⟩:=p1.opt
  obtain ⟨b,h1,h2⟩:=Option.map_eq_some_iff.mp hw
  subst h2
  refine ⟨Nat.le_trans (show [c1,c2].length ≤ 2 from Nat.le_refl _) (by decide),fun r hr=>?_⟩
  have k:=V9 (o:=HO.tup [c1,c2]) hr
  have s2:=s1.grow k
  obtain ⟨t,ty,kt⟩:=X8f T s2 (a1.mv ((Go.grow k).mv s1) (List.prefix_refl _)) h1
  exact ⟨v,r,[c1,c2],t,[u1,u2],b,rfl,upd_same, .cons k1 (.cons k2 .nil),ty,kt,X6.ret p2 s1 k (.d (.bl b))⟩
end Bv
namespace Bv
open PySem PySem.Spec L2
open PyProof.Rows hiding St
variable [HasW]
def Z4m (l:List Str):Bool:=l.all fun z=>PyData.strOk z
def Z3d (a:Str) (y:Bv.X) (S:Sto):R Bv.X:=match y with
  | .d (.str b)=>if !(b.length == 0) && decide (a.length + 2 ≤ sizeLine) && Z4m (Txt.split a b) then .ok (.d (.lst ((Txt.split a b).map .str))) S else .bad
  | _ => .bad
theorem Y0e {K:PySem.W.Frag} {W:Wd} {H:Hp}:∀ {l:List Str},Z4m l=true→AVs K W H (l.map D.str) (l.map V.str)
  | [],_ => .nil
  | z :: r,h=>by
    have h2:(PyData.strOk z && Z4m r)=true:=h
    rw [Bool.and_eq_true] at h2
    exact .cons (.str h2.1) (Y0e h2.2)
section
variable {X:Cx} {Wx:WX} {pos apos:Pos} {o e:Expr} {mo m:M}
theorem X5m {Z:Wd} {ρ:List Addr} {S:Sto} {H:Hp} {σ:L2.St} {Q:VK} {l:List Str} (st:Sta X.K Z ρ S H) (h:Z4m l=true) (p:X6 (AX X.K) X.K Z ρ H Wx σ Q (.ok (.d (.lst (l.map .str))) S)):∀ q,H q=none→Q (.ref q) (upd H q (.lst (l.map V.str))) :=
  fun q hq=>X6.ret p st (V9 hq) (.d (Z54 (fun z hz=>st.thereW hz) hq (Y0e h)))
theorem Z60 (ho:ME X Wx o mo) (he:ME X Wx e m) (hs:starEach [e] X.env=[(false,eval e X.env)]:=by rfl) (hbase:attributeBase o "split" X.env (eval o X.env)=eval o X.env:=by rfl) (hline:(apos.endLine == pos.line)=true:=by rfl) :
    ME X Wx (.Call (.Attribute o "split" apos) [e] [] pos) (Z5z Z3d mo m):=PE.of (pe_split ho he hs hbase hline) fun σ H Q ⟨Z,ρ,e,S,st,ev,p⟩=>X5 st ev p fun ρ1 H1 v x S1 s1 g1 ev1 a1 p1=>by
  cases a1 with
  | r _=>exact p1.elim
  | d a =>
    cases a with
    | str hz =>
      rename_i z
      refine ⟨⟨z,rfl⟩,X5 s1 ev1 (show X6 (AX X.K) X.K Z ρ1 H1 Wx σ Q ((m e S1).bind fun y S2=>Z3d z y S2) from p1) fun ρ2 H2 u y S2 s2 g2 ev2 a2 p2=>?_⟩
      unfold Z3d at p2
      split at p2
      · rename_i b
        split at p2
        · rename_i hc
          rw [Bool.and_eq_true,Bool.and_eq_true] at hc
          obtain ⟨⟨c1,c2⟩,c3⟩:=hc
          cases a2 with
          | d a2 =>
            cases a2 with
            | str hb=>exact ⟨z,b,rfl,rfl,by simpa using c1,of_decide_eq_true c2,X5m s2 c3 p2⟩
        · exact p2.elim
      · exact p2.elim
    | _=>exact p1.elim
end
end Bv
namespace Bv
open PySem PySem.Spec L2
open PyProof.Rows hiding St
variable [HasW]
def ItE (K:PySem.W.Frag) (a:Addr):It :=
  ⟨fun i H=>∃ xs x,SqT K H a xs∧xs[i]?=some x,fun i H v H'=>∃ T x,v = .ref T∧H T=none∧H'=upd H T (.tup [.int (i:Nat),x])∧∀ xs,SqT K H a xs→xs[i]?=some x,fun i H=>∃ xs:List V,SqT K H a xs∧xs.length ≤ i⟩
theorem X1n {prog:Program} {w:World} {A:Around} {it a:Addr} {i:Nat} {items:Array Value} (hh:A.handled=none) (no:items[i]?=none):Draws prog w A it [it,a] i (fun _ _=>True) (fun j h=>j=i∧h.IsTupleIter it a i∧h.IsTuple a items) where
  live:=fun _ _ st=>let ⟨o,ho,_⟩:=st.2.1; ⟨o,ho⟩
  frame:=fun _ _ _ st hk=>⟨st.1,st.2.1.at fun o e=>hk it (by simp) o e,st.2.2.at fun o e=>hk a (by simp) o e⟩
  item:=fun j s Q E hj st _=>absurd st.1 (Nat.ne_of_lt hj)
  done:=fun s Q E st hE=>wpAny_nextOf_tuple_end hh st.2.1 st.2.2 no hE
theorem X05 {P:Program} {w:World} {K:PySem.W.Frag} {elts:List Expr} {kk:Nat} {tpos:Pos} (a e it:Addr) :
    Turn P w K (.Tuple elts kk tpos) (ItE K a) [e,it] e (fun i h=>(∃ old,IsEnum h e it ((i:Nat):Int) old)∧h.IsTupleIter it a i∧e ≠ it∧a ≠ it∧e ≠ a) where
  mem:=by simp
  obj:=fun i h st b hb=>by
    obtain ⟨⟨old,he⟩,⟨o,ho,hc,hd⟩,_⟩:=st
    rcases (show b=e ∨ b=it by simpa using hb) with z | z
    · rw [z]; exact ⟨_,he,fun v q=>nomatch q⟩
    · rw [z]; exact ⟨o,ho,fun v q=>by rw [hd] at q; cases q⟩
  keep:=fun i h h' st k=>let ⟨⟨old,he⟩,hi,hne⟩:=st; ⟨⟨old,k e (by simp) _ he⟩,hi.at fun o q=>k it (by simp) o q,hne⟩
  item:=by
    intro X hP hw hK hc i pins s σ H E I hf st hg
    subst hP hw hK
    obtain ⟨⟨old,he⟩,hit,hne,hai,hea⟩:=st
    obtain ⟨xs,x,hq,hx⟩:=hg
    obtain ⟨its,rv,p,hz⟩:=I.tuple hq
    obtain ⟨u,hu,ru⟩:=rv.get hx
    have el:e < s.heap.objs.size:=Heap.lt_size he
    have il:it < s.heap.objs.size:=by obtain ⟨_,q,_⟩:=hit; exact Heap.lt_size q
    have lt:i < its.toArray.size:=by
      have:=(List.getElem?_eq_some_iff.mp hu).1
      simpa using this
    refine wpAny_pyNext_enum_itemD (Draws.tuple (A:=X.A.in1) (show X.A.in1.handled=none from I.ok.hd hc) it a hai its.toArray) he ⟨hit,p⟩ lt hne (by simp; exact ⟨hne,hea⟩) fun y h' tk hy ho hit' hT hsz hk=>?_
    have ey:y=u:=by
      have hy:its.toArray[i]?=some y:=hy
      have hu':its.toArray[i]?=some u:=by simpa using hu
      rw [hy] at hu'
      exact Option.some.inj hu'
    subst ey
    refine ⟨_,rfl,wpAny_letOwnedTupleGo_enum (s:={ s with heap:=h',toks:=tk + 1 }) ho fun h'' he' sb=>?_⟩
    have hT2:h''.get? s.heap.objs.size=some { cls := .type "tuple",data := .seq #[.int i tk,y] }:=(sb.2 _ (Nat.ne_of_gt el)).trans hT
    have new:ObjOk X.prog X.w (upd H s.heap.objs.size (.tup [.int (i:Nat),x])) h'' s.heap.objs.size (.tup [.int (i:Nat),x]):=⟨(by decide:2 ≤ sizeLine),[.int i tk,y], .cons ⟨_,rfl⟩ (.cons ru .nil),⟨_,hT2,rfl,_,rfl⟩⟩
    have I1:Inv X pins σ (upd H s.heap.objs.size (.tup [.int (i:Nat),x])) { s with heap:=h'',toks:=tk + 1 } :=
      I.turnedNew (ch:=[e,it]) (fun b ob hb q=>(sb.2 b (fun z=>hb (by simp [z]))).trans (hk b ob (fun z=>hb (by simp [z])) (fun z=>hb (by simp [z])) q)) hf (Nat.le_refl _) new
    refine ⟨.ref s.heap.objs.size,_,I1,rfl,⟨_,x,rfl,I.hok.fresh (Nat.le_refl _),rfl,fun ys hy=>by rw [I.tuple_inj hy hq]; exact hx⟩,⟨⟨y,?_⟩,hit'.1.at fun o q=>(sb.2 it (Ne.symm hne)).trans q,hne,hai,hea⟩,fun b hb=>?_⟩
    · rw [show ((i + 1:Nat):Int)=(i:Int) + 1 by omega]; exact he'
    · have hb':b < s.heap.objs.size:=by
        rcases (show b=e ∨ b=it by simpa using hb) with z | z
        · rw [z]; exact el
        · rw [z]; exact il
      rw [upd_ne (Nat.ne_of_lt hb')]
      exact (hf b hb).1
  done:=by
    intro X hP hw hK hc i pins s σ H E I hf st hg
    subst hP hw hK
    obtain ⟨⟨old,he⟩,hit,hne,hai,hea⟩:=st
    obtain ⟨xs,hq,hx⟩:=hg
    obtain ⟨its,rv,p,hz⟩:=I.tuple hq
    obtain ⟨f0,f1,f2,f3,f4,f5⟩:=hf it (by simp)
    have no:its.toArray[i]?=none:=by
      have:=rv.length
      simp; omega
    exact wpAny_pyNext_enum_endD (X1n (A:=X.A.in1) (show X.A.in1.handled=none from I.ok.hd hc) no) he ⟨rfl,hit,p⟩ fun h' eb=>⟨rfl,I.turned (t':=s.toks) (fun b o hb q=>eb b o hb q) f0 f1 f3 f4 f5⟩
  self:=fun A i s Q E st h=>let ⟨⟨_,he⟩,_⟩:=st; wpAny_pyIter_enum he h
end Bv
namespace PySem
open Sem (wp)
open AutoSeq1 (wpAny_loadPart')
theorem enumT_new (t:Addr) (items:Array Value) (n:Nat) (dct:Option Addr) (sl:Array (Option Value)) :
    Meets (Builtin.«enumerate.__new__» ⟨[.type "enumerate", .ref t],[]⟩) (fun _ R s=>s.heap.get? t=some { cls := .type "tuple",dict:=dct,data := .seq items n,slots:=sl } ∧
      R (.ok (.ret (.ref (s.heap.push { cls := .type "tuple_iterator",data := .fields #[.ref t, .int 0 0] }).objs.size))) { s with heap:=(s.heap.push { cls := .type "tuple_iterator",data := .fields #[.ref t, .int 0 0] }).push { cls := .type "enumerate",data := .fields #[.none, .bool false, .ref s.heap.objs.size,rawInt 0, .none, .none] } }) :=
  .of_wp fun prog w A R s q=>by
    obtain ⟨hp,g,d,tk,os⟩:=s
    obtain ⟨ht,fin⟩:=q
    have below:=sub_enumerate
    have isT:Heap.IsTuple (Shared.heap ⟨hp,g,d,tk,os⟩) t items:=⟨_,ht,rfl,n,rfl⟩
    wp_walk using wpAny_loadPart' ht
    refine (wpAny_stack_any fun st=>wpAny_pure ?_)
    split
    · rename_i c _ _ _ _ _
      cases (c == Value.type "enumerate") <;> (wp_walk using wpAny_loadPart' ht,wpAny_pyIter_tuple isT; exact ⟨_,rfl,fin⟩)
    · wp_walk using wpAny_loadPart' ht,wpAny_pyIter_tuple isT
      exact ⟨_,rfl,fin⟩
theorem call_enumT {prog:Program} {w:World} {A:Around} {E:Value→Shared→Prop} {s:Shared} {t:Addr} {items:Array Value} {Q:Value→Shared→Prop} (hT:s.heap.IsTuple t items)
    (fin:∀ h',IsEnum h' (s.heap.objs.size + 1) s.heap.objs.size 0 .none→h'.IsTupleIter s.heap.objs.size t 0→h'.objs.size=s.heap.objs.size + 2→(∀ b o,s.heap.get? b=some o→h'.get? b=some o)→Q (.ref (s.heap.objs.size + 1)) { s with heap:=h' }) :
    wpAny (model prog w) A (call (.type "enumerate") [.ref t]) Q E s:=by
  obtain ⟨⟨c,dct,dt,sl⟩,ht,hc,n,hd⟩:=hT
  obtain rfl:c = .type "tuple" := hc
  obtain rfl:dt = .seq items n:=hd
  refine callType_new F.called_enumerate (by decide) (F.typeCall_enumerate_1 _) (F.newCall_enumerate_1 _) (fun obj=>F.args_object_init_2 obj _) F.entry_enumerate_new (enumT_new t items n dct sl) ⟨ht,?_⟩
  have z:(s.heap.push { cls := .type "tuple_iterator",data := .fields #[.ref t, .int 0 0] }).objs.size=s.heap.objs.size + 1:=Heap.size_push ..
  show _∧_
  rw [z]
  have en:IsEnum ((s.heap.push { cls := .type "tuple_iterator",data := .fields #[.ref t, .int 0 0] }).push { cls := .type "enumerate",data := .fields #[.none, .bool false, .ref s.heap.objs.size,rawInt 0, .none, .none] }) (s.heap.objs.size + 1) s.heap.objs.size 0 .none:=by
    have y:=Heap.get?_push_size (s.heap.push { cls := .type "tuple_iterator",data := .fields #[.ref t, .int 0 0] }) (o:={ cls := .type "enumerate",data := .fields #[.none, .bool false, .ref s.heap.objs.size,rawInt 0, .none, .none] }) rfl
    rw [z] at y
    exact y
  exact ⟨⟨_,en,rfl⟩,fin _ en ⟨_,Heap.get?_push_of_some _ (Heap.get?_push_size _ rfl),rfl,rfl⟩ (by rw [Heap.size_push,z]) fun b o x=>Heap.get?_push_of_some _ (Heap.get?_push_of_some _ x)⟩
end PySem
namespace Bv
open PySem PySem.Spec L2
open PyProof.Rows hiding St
variable [HasW]
def W2f (K:PySem.W.Frag) (ta:TA):TI:=fun σ H R=>ta σ H fun vs H1=>∃ a xs,vs=[.ref a]∧((SqL K H1 a xs∧R (Ite K a) H1) ∨ (SqT K H1 a xs∧R (ItE K a) H1))
theorem X5y {X:Cx} {e:Expr} {ta:TA} {p pos tpos:Pos} {elts:List Expr} {kk:Nat} (hg:Gl X "enumerate") (hm:X.mg "enumerate" = none) (ha:PA X [e] ta) (hs:starEach [e] X.env=[(false,eval e X.env)]:=by rfl) :
    PI X (.Tuple elts kk tpos) (.Call (.Name "enumerate" p) [e] [] pos) (W2f X.K ta):=⟨fun pins s σ H R I h=>by
  refine Call_ (ld_blt I hg hm boot_enumerate (callWith_type1 (thn (ha.run pos pins s σ H _ I h) fun us s1 ⟨vs,H1,I1,r1,a,xs,ex,q1⟩=>?_) hs rfl))
  subst ex
  cases r1 with
  | cons r rr =>
    cases rr
    cases r
    have two:∀ b ∈ [s1.heap.objs.size + 1,s1.heap.objs.size],FpOk X pins H1 b:=fun b hb=>by
      have le:s1.heap.objs.size ≤ b:=by
        rcases (show b=s1.heap.objs.size + 1 ∨ b=s1.heap.objs.size by simpa using hb) with z | z
        · rw [z]; exact Nat.le_add_right _ _
        · rw [z]; exact Nat.le_refl _
      exact I1.fpOk le (I1.hok.fresh le)
    rcases q1 with ⟨hq,q⟩ | ⟨hq,q⟩
    · obtain ⟨its,rv,pl,_⟩:=I1.list hq
      exact call_enumerate_list pl.isList fun h' he hit hsz hk=>wpAny_pyIter_enum he ⟨s1.heap.objs.size + 1,[s1.heap.objs.size + 1,s1.heap.objs.size],_,_,H1,rfl,I1.kept (t':=s1.toks) hk,turn_enum a (s1.heap.objs.size + 1) s1.heap.objs.size,⟨⟨.none,he⟩,hit,Nat.succ_ne_self _⟩,two,q⟩
    · obtain ⟨its,rv,pl,_⟩:=I1.tuple hq
      have lt:a < s1.heap.objs.size:=by obtain ⟨o,ho,_⟩:=id pl; exact Heap.lt_size ho
      exact call_enumT (show s1.heap.IsTuple a its.toArray from pl) fun h' he hit hsz hk=>wpAny_pyIter_enum he ⟨s1.heap.objs.size + 1,[s1.heap.objs.size + 1,s1.heap.objs.size],_,_,H1,rfl,I1.kept (t':=s1.toks) hk,X05 a (s1.heap.objs.size + 1) s1.heap.objs.size,⟨⟨.none,he⟩,hit,Nat.succ_ne_self _,Nat.ne_of_lt lt,Nat.ne_of_gt (Nat.lt_succ_of_lt lt)⟩,two,q⟩⟩
theorem X07 {K:PySem.W.Frag} {a:Addr} {xs:List V}:Walk (ItE K a) xs.length (fun H=>SqT K H a xs) (YPair (fun i=>some (.int (i:Nat))) (fun i=>xs[i]?)) :=
  ⟨fun i _ hi q=>⟨xs,xs[i],q,by simp [hi]⟩,fun _ q=>⟨xs,q,Nat.le_refl _⟩,fun i H v H' _ q ⟨T,x,h1,h2,h3,h4⟩=>⟨T, .int (i:Nat),x,h1,h2,h3,rfl,h4 xs q⟩⟩
def numbered (ds:List D):List Bv.X:=(List.range ds.length).zipWith (fun (i:Nat) d=>Bv.X.d (.tup [.int (i:Nat),d])) ds
def X74:List Bv.X→Option (List Bv.X × Lk)
  | [.d (.lst ds)]=>some (numbered ds, .free)
  | [.d (.tup ds)]=>some (numbered ds, .free)
  | _=>none
def Y5b (S:Sto):List Bv.X→Option (List Bv.X × Lk)
  | [.r n]=>(match S[n]? with
    | some (.lst xs)=>(match ds? xs with
      | some ds=>some (numbered ds, .lst n xs)
      | none=>none)
    | _=>none)
  | xs=>X74 xs
def Y2r (ms:MG (List Bv.X)):MIt:=fun e S=>(ms e S).bind fun xs S1=>Z4r (Y5b S1 xs) S1
theorem Z7w {ds:List D} {i:Nat} {d:D} (h:ds[i]?=some d):(numbered ds)[i]?=some (.d (.tup [.int (i:Nat),d])):=by
  have lt:=(List.getElem?_eq_some_iff.mp h).1
  unfold numbered
  rw [List.getElem?_zipWith,h]
  simp [lt]
theorem Z6t (ds:List D):(numbered ds).length=ds.length:=by simp [numbered]
theorem Y6t {K:PySem.W.Frag} {W:Wd} {ρ:List Addr} {H:Hp} {J:It} {G:Hp→Prop} {xs:List V} {ds:List D} (hs:AVs K W H ds xs) (w:Walk J xs.length G (YPair (fun i=>some (.int (i:Nat))) (fun i=>xs[i]?)))
    (hg:∀ (Z2:Wd) (ρ2:List Addr) (H2:Hp),Mv W H (Wn Z2 ρ2) H2→G H2):Srv K W ρ H (numbered ds, .free) J :=
  ⟨G,_,by rw [show (numbered ds,Lk.free).1.length=xs.length by rw [show (numbered ds,Lk.free).1=numbered ds from rfl,Z6t,hs.length]]; exact w,fun Z2 ρ2 S2 H2 st m p fz k=>⟨hg Z2 ρ2 H2 m,fun i x H3 y=>by
    obtain ⟨T,u,v,rfl,hT,rfl,h1,h2⟩:=y
    cases h1
    obtain ⟨d,h3,h4⟩:=(hs.mv m).at_ h2
    have kp:=V9 (o:=HO.tup [.int (i:Nat),v]) hT
    exact ⟨kp,_,Z7w h3, .d (.tup (.inl ⟨st.fresh hT,upd_same⟩) (.cons (.int _) (.cons (h4.mv (Z26 kp)) .nil)))⟩⟩⟩
theorem X06 {K:PySem.W.Frag} {a:Addr} (n:Nat):Walk (Ite K a) n (fun H=>∃ xs,xs.length=n∧SqL K H a xs) (fun i H v H'=>∃ T x,v = .ref T∧H T=none∧H'=upd H T (.tup [.int (i:Nat),x])∧∀ xs,SqL K H a xs→xs[i]?=some x) :=
  ⟨fun i _ hi ⟨xs,e,q⟩=>⟨xs,xs[i]'(by omega),q,by simp [show i < xs.length by omega]⟩,fun _ ⟨xs,e,q⟩=>⟨xs,q,by omega⟩,fun _ _ _ _ _ _ y=>y⟩
theorem X03 {K:PySem.W.Frag} {W:Wd} {ρ:List Addr} {H:Hp} {a:Addr} {n:Nat} {ds:List D} (h:ρ[n]?=some a):Srv K W ρ H (numbered ds, .lst n (ds.map Bv.X.d)) (Ite K a) :=
  ⟨_,_,by rw [show (numbered ds,Lk.lst n (ds.map Bv.X.d)).1.length=ds.length from Z6t ds]; exact X06 ds.length,fun Z2 ρ2 S2 H2 st m p fz k=>by
    have k:(match S2[n]? with
      | some (.lst zs)=>decide (zs=ds.map Bv.X.d)
      | _=>false)=true:=k
    cases q2:S2[n]? with
    | none=>rw [q2] at k; cases k
    | some o2 =>
      rw [q2] at k
      cases o2 with
      | lst zs =>
        have k:zs=ds.map Bv.X.d:=of_decide_eq_true k
        subst k
        have h':ρ2[n]?=some a:=by
          obtain ⟨t,rfl⟩:=p
          rw [List.getElem?_append_left (List.getElem?_eq_some_iff.mp h).1]; exact h
        obtain ⟨us,h3,h4⟩:=st.ob n _ _ q2 h'
        have hl:us.length=ds.length:=by
          have:=Paired.length h4
          rw [List.length_map] at this
          exact this.symm
        refine ⟨⟨us,hl, .inl (.inl h3)⟩,fun i x H3 y=>?_⟩
        obtain ⟨T,u,rfl,hT,rfl,y⟩:=y
        obtain ⟨b,h5,h6⟩:=Y4a h4 (y us (.inl (.inl h3)))
        rw [List.getElem?_map] at h5
        cases hd:ds[i]? with
        | none=>rw [hd] at h5; cases h5
        | some d =>
          rw [hd] at h5
          cases h5
          cases h6 with
          | d h6 =>
            have kp:=V9 (o:=HO.tup [.int (i:Nat),u]) hT
            exact ⟨kp,_,Z7w hd, .d (.tup (.inl ⟨st.fresh hT,upd_same⟩) (.cons (.int _) (.cons (h6.mv (Z26 kp)) .nil)))⟩
      | _=>cases k⟩
theorem W4p {xs:List Bv.X}:∀ {ds:List D},ds? xs=some ds→xs=ds.map Bv.X.d:=by
  induction xs with
  | nil=>intro ds h; cases h; rfl
  | cons x r ih =>
    intro ds h
    cases x with
    | r n=>cases h
    | d v =>
      have h:(match Bv.X.d v,ds? r with
        | .d v,some l=>some (v :: l)
        | _,_=>none)=some ds:=h
      cases q:ds? r with
      | none=>rw [q] at h; cases h
      | some l=>rw [q] at h; cases h; rw [ih q]; rfl
theorem Y3v {X:Cx} {Wx:WX} {e:Expr} {ms:MG (List Bv.X)} {p pos tpos:Pos} {elts:List Expr} {kk:Nat} (hg:Gl X "enumerate") (hm:X.mg "enumerate" = none) (ha:MA X Wx [e] ms) (hs:starEach [e] X.env=[(false,eval e X.env)]:=by rfl) :
    MI X Wx (.Tuple elts kk tpos) (.Call (.Name "enumerate" p) [e] [] pos) (Y2r ms):=PI.of (X5y hg hm ha hs) fun σ H R ⟨Z,ρ,e,S,st,ev,p⟩=>X5 st ev p fun ρ1 H1 v xs S1 st1 g1 ev1 a1 p1=>by
  obtain ⟨w,hw,p2⟩:=p1.opt
  unfold Y5b at hw
  split at hw
  · rename_i n
    cases a1 with
    | cons ha t =>
      cases t
      cases ha with
      | r h =>
        rename_i a
        cases q:S1[n]? with
        | none=>rw [q] at hw; cases hw
        | some o =>
          rw [q] at hw
          cases o with
          | lst xs =>
            have hw:(match ds? xs with
              | some ds=>some (numbered ds,Lk.lst n xs)
              | none=>none)=some w:=hw
            cases q3:ds? xs with
            | none=>rw [q3] at hw; cases hw
            | some ds =>
              rw [q3] at hw
              cases hw
              have exs:=W4p q3
              subst exs
              obtain ⟨vs,h1,h2⟩:=st1.ob n _ _ q h
              exact ⟨_,_,rfl, .inl ⟨.inl (.inl h1),X6.ret0 p2 st1 (X03 h)⟩⟩
          | _=>cases hw
  · unfold X74 at hw
    split at hw
    · cases hw
      obtain ⟨v,rfl,a⟩:=Y56 a1
      cases a with
      | lst w r hs=>exact ⟨_,_,rfl, .inl ⟨.inl (.inl r),X6.ret0 p2 st1 (Y6t hs walk_enum fun Z2 ρ2 H2 m => .inl (.inl (m _ _ w r).2))⟩⟩
    · cases hw
      obtain ⟨v,rfl,a⟩:=Y56 a1
      cases a with
      | tup t hs=>exact ⟨_,_,rfl, .inr ⟨t.sq,X6.ret0 p2 st1 (Y6t hs X07 fun Z2 ρ2 H2 m=>(m.tp t).sq)⟩⟩
    · cases hw
end Bv
namespace Bv
open PySem PySem.Spec L2
open PyProof.Rows hiding St
variable [HasW]
end Bv
namespace Bv
open PySem PySem.Spec L2
open PyProof.Rows hiding St
variable [HasW]
end Bv
namespace PySem
open Sem (wp)
open AutoSeq1 (wpAny_loadPart')
open MeetsSeq MeetsSeq2 MeetsSeq3 SeqRoads2
namespace BvIn
section
variable {prog:Program} {w:World} {A:Around} {E:Value→Shared→Prop} {s:Shared}
end
end BvIn
end PySem
namespace Bv
open PySem PySem.Spec L2
open PyProof.Rows hiding St
structure OwnSub (K:PySem.W.Frag) (C:Str):Prop where
  st:PySem.W.subIn K (.ref (He.ga K C)) (.type "str")=some false
  no:PySem.W.subIn K (.ref (He.ga K C)) (.type "NoneType")=some false
  tu:PySem.W.subIn K (.ref (He.ga K C)) (.type "tuple")=some false
variable [HasW]
section
variable {X:Cx} {k:Nat} {f:Addr} {fd:FuncData} {ps:List Str} {g:List D→PR} {C:Str}
end
section
variable {X:Cx} {Wx:WX} {k j:Nat} {C:Str} {g:List D→PR}
end
end Bv
namespace PySem
open Sem (wp)
open AutoSeq1 (wpAny_loadPart')
open MeetsSeq MeetsSeq2 MeetsSeq3 SeqRoads2
namespace BvTu
section
variable {prog:Program} {w:World} {A:Around} {R:Result→Shared→Prop}
variable {E:Value→Shared→Prop} {s:Shared}
end
end BvTu
end PySem
namespace Bv
open PySem PySem.Spec L2
open PyProof.Rows hiding St
variable [HasW]
section
variable {X:Cx} {k:Nat} {f:Addr} {fd:FuncData} {ps:List Str} {g:List D→PR} {C:Str}
end
def X2s (m:M):M:=fun e S=>(m e S).bind fun x S1=>Z4r ((Y5g x).map fun i => .d (.int (-i))) S1
section
variable {X:Cx} {Wx:WX} {k j:Nat} {C:Str} {g:List D→PR} {pos:Pos} {a:Expr} {m:M}
theorem X61 (h:ME X Wx a m):ME X Wx (.UnaryOp .USub a pos) (X2s m):=PE.of (pe_un un_neg h) fun σ H Q ⟨Z,ρ,e,S,st,ev,p⟩=>X5 st ev p fun ρ1 H1 v x S1 s1 g1 ev1 a1 p1=>by
  obtain ⟨w,hw,p2⟩:=p1.opt
  obtain ⟨i,h1,h2⟩:=Option.map_eq_some_iff.mp hw
  subst h2
  exact ⟨i,a1.int h1,X6.ret0 p2 s1 (.d (.int _))⟩
end
end Bv
namespace Bv
open PySem PySem.Spec L2
open PyProof.Rows hiding St
variable [HasW]
section
variable {X:Cx} {Wx:WX} {pos apos:Pos} {o e:Expr} {mo m:M}
end
end Bv
namespace Bv
open PySem PySem.Spec L2
open PyProof.Rows hiding St
variable [HasW]
end Bv
namespace Xe
open PySem PySem.W PySem.Calls PyProof.Rows PySem.HandSPX
structure TailF (newId:String) (bm:List Value):Prop where
  new:∃ (Bn inN:String) (bmN:List Value),ExcBaseFacts Bn newId inN bmN∧bm.contains (.type Bn)=true
  noA:bm.contains (.type "AttributeError")=false
  noN:bm.contains (.type "NameError")=false
structure InitF (B initId:String):Prop where
  init:Slot B "__init__" initId
  entry:entryFor table initId=some Builtin.«BaseException.__init__»
  kind:builtinKind initId=some .slot
  row:Manifest.signature? initId=some ⟨.positional, "*",B, .self,[⟨"args", .varPos,false⟩]⟩
  star:(B != "*")=true
theorem TailF.of {B newId initId:String} {bm:List Value} (F:ExcBaseFacts B newId initId bm):TailF newId bm:=⟨⟨B,initId,bm,F,F.hasB⟩,F.noAttr,F.noName⟩
theorem InitF.of {B newId initId:String} {bm:List Value} (F:ExcBaseFacts B newId initId bm):InitF B initId:=⟨F.init,F.initEntry,F.initKind,F.initRow,F.noStar⟩
theorem TailF.same {newId:String} {bm bmB:List Value} (T:TailF newId bmB) (h:∀ X:String,bm.contains (.type X)=bmB.contains (.type X)):TailF newId bm:=by
  obtain ⟨⟨Bn,inN,bmN,F,hb⟩,a,n⟩:=T
  exact ⟨⟨Bn,inN,bmN,F,(h _).trans hb⟩,(h _).trans a,(h _).trans n⟩
section
variable {prog:Program} {w:World} {M:Model} {A:Around} {E:Value→Shared→Prop} {R:Result→Shared→Prop} {h:Heap} {g:Array GenState} {d:Drawn} {t:Nat} {os:OsState}
variable {nm q:Str} {C N:Addr} {bs bm:List Value} {hdct:Bool} {sn:List Str} {sub:List Value} {ab:Bool} {col:Option Bool} {dd:Option Addr} {k0 k1 k2 k3 k5:Option Value} {B newId initId:String}
theorem new_check {Bn inN:String} {bmN:List Value} (F:ExcBaseFacts Bn newId inN bmN) (hB:bm.contains (.type Bn)=true) {rest:List Value} {Q:Unit→Shared→Prop}
    (hC:h.get? C=some (excClassObj nm q C N bs bm hdct sn sub ab col dd k0 k1 k2 k3 k5 newId)) (hq:Q () ⟨h,g,d,t,os⟩):wpAny M A (checkBuiltinCall newId ⟨.ref C :: rest,[]⟩) Q E ⟨h,g,d,t,os⟩:=by
  have within:(Value.ref C :: bm).contains (.type Bn)=true:=by rw [List.contains_cons,hB,Bool.or_true]
  have star:=F.noStar
  simp only [checkBuiltinCall,F.newKind,F.newSplit,F.newRow]
  repeat (first | refine wpAny_loadPart_at hC ?_ | (refine wpAny_isSubtype_exc hC ?_; rw [within]) | refine wpAny_staticBase_exc hC ?_ | refine wpAny_madeBy_exc hC ?_ | simp only [bne_self_eq_false,Bool.false_eq_true,if_false] | wp_step)
  exact hq
theorem new_made {Bn inN:String} {bmN:List Value} (F:ExcBaseFacts Bn newId inN bmN) (hB:bm.contains (.type Bn)=true) (hA:bm.contains (.type "AttributeError")=false) (hN:bm.contains (.type "NameError")=false) {rest:List Value}
    (hC:h.get? C=some (excClassObj nm q C N bs bm hdct sn sub ab col dd k0 k1 k2 k3 k5 newId))
    (hq:R (.ok (.ret (.ref (h.objs.size + 1)))) ⟨(h.push (kdv_tup rest)).push (excO C h.objs.size),g,d,t,os⟩) (hrest:rest.length ≤ sizeLine) :
    codeAny (model prog w) A (.builtin newId ⟨.ref C :: rest,[]⟩) R ⟨h,g,d,t,os⟩:=by
  have ends:=F.ends
  have c1:(Value.ref C :: bm).contains (.type Bn)=true:=by rw [List.contains_cons,hB,Bool.or_true]
  have c2:(Value.ref C :: bm).contains (.type "AttributeError")=false:=by rw [List.contains_cons,hA]; rfl
  have c3:(Value.ref C :: bm).contains (.type "NameError")=false:=by rw [List.contains_cons,hN]; rfl
  refine codeAny_builtinAt F.entry ?_
  unfold Builtin.«BaseException.__new__»
  refine PySem.wpAt_bind ?_
  show PySem.wpAt _ _ _ (stack >>= _) _ _ _
  refine PySem.wpAt_bind (PySem.wpAt_stack fun p below=>PySem.wpAt_of_wpAny ?_)
  wp_walk
  refine PySem.wpAt_of_wpAny ?_
  rw [F.owner]
  repeat (first | with_reducible refine wpAny_madeHere_exc F.canon hC ?_ | with_reducible refine wpAny_loadPart_at hC ?_ | (with_reducible refine wpAny_isSubtype_exc hC ?_; first | rw [c1] | rw [c2] | rw [c3]) | wp_step)
  show R _ _
  rw [Heap.size_push]
  exact hq
theorem class_call (T:TailF newId bm) {rest:List Value} {fI:Addr} {Q:Fin→Shared→Prop}
    (hC:h.get? C=some (excClassObj nm q C N bs bm hdct sn sub ab col dd k0 k1 k2 k3 k5 newId))
    (hi:W.Looks (model prog w) h (typeLookup (.ref C) "__init__") (some (.ref fI))) (hb:∀ self,W.Looks (model prog w) h (bindSpecial (.ref fI) self) (.ref fI,[self])) (hrest:rest.length ≤ sizeLine)
    (hq:codeAny (model prog w) A (.call (.ref fI) ⟨.ref (h.objs.size + 1) :: rest,[]⟩)
      (fun r s'=>match r with | .ok (.ret v)=>v = .none∧Q (.done (.ret (.ref (h.objs.size + 1)))) s' | .ok _=>False | .error e=>E e s')
      ⟨(h.push (W.kdv_tup rest)).push (excO C h.objs.size),g,d,t,os⟩) :
    wpAny (model prog w) A (Builtin.«type.__call__» ⟨.ref C :: rest,[]⟩) Q E ⟨h,g,d,t,os⟩:=by
  obtain ⟨⟨Bn,inN,bmN,F,hB⟩,hA,hN⟩:=T
  repeat (first | with_reducible refine wpAny_loadPart_at hC ?_ | with_reducible refine wpAny_madeBy_exc hC ?_ | wp_step)
  refine codeAny_call_builtin_code (Code.quiet_builtin _ F.quiet) (new_check F hB hC ?_)
  refine new_made F hB hA hN hC ?_ hrest
  show wpAny _ _ _ _ _ _
  have k:∀ b o,h.get? b=some o→((h.push (W.kdv_tup rest)).push (excO C h.objs.size)).get? b=some o:=fun b o e=>Heap.get?_push_of_some _ (Heap.get?_push_of_some _ e)
  have cls1:=k _ _ hC
  have obj1:((h.push (W.kdv_tup rest)).push (excO C h.objs.size)).get? (h.objs.size + 1)=some (excO C h.objs.size):=by heap_get
  have self1:(Value.ref C :: bm).contains (.ref C)=true:=by simp
  have i1:=hi.keeps k
  have b1:=(hb (.ref (h.objs.size + 1))).keeps k
  unfold isInstance
  repeat (first | with_reducible refine wpAny_loadPart_at obj1 ?_ | (with_reducible refine wpAny_isSubtype_exc cls1 ?_; rw [self1]) | wp_step)
  show wpAny _ _ (typeLookup (.ref C) _) _ _ _
  refine i1.at ?_
  refine wpAny_holding (wpAny_bind (b1.at ?_))
  refine wpAny_bind (wpAny_call (codeAny_mono hq fun r s' z=>?_))
  rcases r with e | (v | _ | _ | _) <;> first | exact z | exact z.elim | skip
  obtain ⟨rfl,z⟩:=z
  first
    | exact wpAny_pure (wpAny_pure z)
    | (wp_walk; exact z)
theorem call_class (T:TailF newId bm) {rest:List Value} {fI:Addr}
    (hC:h.get? C=some (excClassObj nm q C N bs bm hdct sn sub ab col dd k0 k1 k2 k3 k5 newId))
    (hi:W.Looks (model prog w) h (typeLookup (.ref C) "__init__") (some (.ref fI))) (hb:∀ self,W.Looks (model prog w) h (bindSpecial (.ref fI) self) (.ref fI,[self])) (hrest:rest.length ≤ sizeLine)
    (hq:codeAny (model prog w) (A.under (.builtin "type.__call__" ⟨.ref C :: rest,[]⟩)) (.call (.ref fI) ⟨.ref (h.objs.size + 1) :: rest,[]⟩) (W.InitBack (h.objs.size + 1) R)
      ⟨(h.push (W.kdv_tup rest)).push (excO C h.objs.size),g,d,t,os⟩) :
    codeAny (model prog w) A (.call (.ref C) ⟨rest,[]⟩) R ⟨h,g,d,t,os⟩:=by
  have f1:=tc_lookup
  have f2:=tc_bind (.ref C)
  have ty:(⟨h,g,d,t,os⟩:Shared).TypeIs (.ref C) "type" := ⟨_,hC,rfl⟩
  refine codeAny_of_tree ?_
  show wpAny _ _ (callAny (.ref C) _) _ _ _
  repeat (any_goals (first | assumption | with_reducible refine wpAny_loadPart_at hC ?_ | wp_step))
  refine ⟨rfl,?_⟩
  refine codeAny_call_builtin_at (Code.quiet_builtin _ (by decide +kernel)) entry_typeCall (wpAny_check_type_call_sub hC (class_call T hC hi hb hrest ?_))
  refine codeAny_mono hq fun r s' z=>?_
  rcases r with e | (v | _ | _ | _) <;> exact z
theorem bound_check (F:InitF B initId) {e:Addr} {oe:Obj} {rest:List Value} {Q:Unit→Shared→Prop}
    (hC:h.get? C=some (excClassObj nm q C N bs bm hdct sn sub ab col dd k0 k1 k2 k3 k5 newId)) (he:h.get? e=some oe) (hcls:oe.cls = .ref C) (hq:Q () ⟨h,g,d,t,os⟩):wpAny M A (checkBoundCall initId ⟨.ref e :: rest,[]⟩) Q E ⟨h,g,d,t,os⟩:=by
  have star:=F.star
  simp only [checkBoundCall,F.kind,F.row]
  repeat (first | (with_reducible refine wpAny_loadPart_at he ?_; rw [hcls]) | with_reducible refine wpAny_loadPart_at hC ?_ | wp_step)
  refine wpAny_onRaise ?_
  rw [show ∀ (a b:String) (n:Nat),Bind.check ⟨.positional, "*",B, .self,[⟨"args", .varPos,false⟩]⟩ a b n (List.map (fun x=>x.fst) ({ pos:=Value.ref e :: rest }:Args).kw)=pure () from
    fun a b n=>check_star_args _ _ _ _ _ _]
  exact wpAny_pure hq
end
theorem store_KE:StoreFacts "KeyError" [.type "KeyError", .type "LookupError", .type "Exception", .type "BaseException", .type "object"] "object.__setattr__" "object" where
  mro:=by kernel_rfl
  slot := .of (owner := "object") (n := "__setattr__") (by rw [typeLookup_type,builtinLookup_eq_fast]; kernel_rfl) (by decide +kernel) (by decide +kernel) (by decide +kernel)
    (by first | exact .inl (by decide +kernel) | exact .inr (by decide +kernel)) (by rw [isSubtype_type]; kernel_rfl)
  entry:=F.entry_object_sa
  kind:=by decide +kernel
  split:=by decide +kernel
  hasOwner:=by decide +kernel
  args:=fun a b c=>by unfold argsOk; kernel_rfl
  passes:=fun self=>by kernel_rfl
theorem init_KE:InitF "KeyError" "KeyError.__init__" where
  init := .of (owner := "KeyError") (n := "__init__") (by rw [typeLookup_type,builtinLookup_eq_fast]; kernel_rfl) (by decide +kernel) (by decide +kernel) (by decide +kernel)
    (by first | exact .inl (by decide +kernel) | exact .inr (by decide +kernel)) (by rw [isSubtype_type]; kernel_rfl)
  entry:=entryFor_alias (id' := "BaseException.__init__") (by rw [fastTable_eq_tree]; kernel_rfl) (by first | rfl | decide +kernel) (by decide +kernel) (by rw [fastTable_eq_tree]; kernel_rfl)
  kind:=by kernel_rfl
  row:=by kernel_rfl
  star:=by decide +kernel
theorem tail_KE:TailF "LookupError.__new__" [.type "KeyError", .type "LookupError", .type "Exception", .type "BaseException", .type "object"]:=⟨⟨_,_,_,F.excBase_LookupError,by decide +kernel⟩,by decide +kernel,by decide +kernel⟩
theorem kxs_KE:KxsFacts "KeyError" "KeyError.__init__" := ⟨by show builtinType _=_; rw [builtinType_eq_fast]; kernel_rfl,by first | kernel_rfl | rfl⟩
end Xe
namespace Xe
open PySem PySem.W PySem.Calls PyProof.Rows PySem.HandSPX
def eArgs (p:Str) (a1 a2:Pos):Arguments:={ posonlyargs:=[],args:=[{ arg := "self",annotation:=none,pos:=a1 },{ arg:=p,annotation:=none,pos:=a2 }],vararg:=none,kwonlyargs:=[],kw_defaults:=[],kwarg:=none,defaults:=[] }
def eBody (p:Str) (p0 p1 p2 p3 p4 p5 q1 q2 q3 q4:Pos):List Stmt :=
  [.Expr (.Call (.Attribute (.Call (.Name "super" p0) [] [] p1) "__init__" p2) [.Name p p3] [] p4) p5, .Assign [.Attribute (.Name "self" q1) p q2] (.Name p q3) q4]
def eSc (p:Str):Scope:={ kind := .function,names:=[("self", .local),(p, .local),("__class__", .free),("super", .globalImplicit)],isGenerator:=false,isCoroutine:=false,more:=[] }
theorem eSc_cells {p:Str}:∀ x ∈ (eSc p).names,x.2 ≠ .cell:=fun x hx=>by
  simp only [eSc,List.mem_cons,List.not_mem_nil,or_false] at hx
  rcases hx with rfl | rfl | rfl | rfl <;> simp
def EHe (p:Str) (p0 p1 p2 p3 p4:Pos):Prop:=∀ env:Env,∃ pl:Sem Bool,eval (.Call (.Attribute (.Call (.Name "super" p0) [] [] p1) "__init__" p2) [.Name p p3] [] p4) env=(do
  let ov ← attributeBase (.Call (.Name "super" p0) [] [] p1) "__init__" env (eval (.Call (.Name "super" p0) [] [] p1) env)
  standAt p2.atName
  let (f,first) ← holding [ov] (getMethod ov "__init__" pl)
  callWith p4 f first (backTo p4 (starEach [.Name p p3] env)) [])
def ParN (p:Str):Prop:=p = "word" ∨ p = "at" ∨ p = "name"
structure EBase (B newId initId:String) (bmB:List Value):Prop where
  T:TailF newId bmB
  I:InitF B initId
  K:KxsFacts B initId
  S:StoreFacts B bmB "object.__setattr__" "object"
theorem base_VE:EBase "ValueError" "ValueError.__new__" "ValueError.__init__" [.type "ValueError", .type "Exception", .type "BaseException", .type "object"]:=⟨.of F.excBase_ValueError, .of F.excBase_ValueError,kxs_ValueError,F.store_ValueError⟩
theorem base_IE:EBase "IndexError" "IndexError.__new__" "IndexError.__init__" [.type "IndexError", .type "LookupError", .type "Exception", .type "BaseException", .type "object"]:=⟨.of F.excBase_IndexError, .of F.excBase_IndexError,kxs_IndexError,F.store_IndexError⟩
theorem base_KE:EBase "KeyError" "LookupError.__new__" "KeyError.__init__" [.type "KeyError", .type "LookupError", .type "Exception", .type "BaseException", .type "object"]:=⟨tail_KE,init_KE,kxs_KE,store_KE⟩
structure ErrT (prog:Program) (K:Frag) (C fI:Addr) (p:Str) (B newId initId:String) (bmB:List Value):Prop where
  ini:excInitIn K C bmB newId=true
  over:excOver K C bmB=true
  hdC:hasDictIn K C=true
  sa:findIn K (.ref C) "__setattr__" = some (some (.builtin "object.__setattr__"))
  noP:findIn K (.ref C) p=some none
  iC:findIn K (.ref C) "__init__" = some (some (.ref fI))
  tC:typeIn K (.ref fI)=some (.type "function")
  kC:keepIn K (.ref C)=true
  exC:subIn K (.ref C) (.type "BaseException")=some true
  exB:subIn K (.ref C) (.type B)=some true
  tyC:typeIn K (.ref C)=some (.type "type")
  opq:nsIn K cStatics "thirdparty.any" = some none
  sup:ks_superIn K C C "__init__" = some (some (.builtin initId))
  mro:mroIn K C (.ref C)=some true
  sg:nsIn K mainGlobals "super" = some none
  fn:∃ (oc:Value) (od:Option Addr) (doc pm:Value) (an:Option Addr) (cda cc:Addr) (ct:Value) (osl:Array (Option Value)) (qual:Str) (a1 a2 p0 p1 p2 p3 p4 p5 q1 q2 q3 q4:Pos),
    K.lookup fI=some ⟨oc,od, .func (ksFn "__init__" qual (eArgs p a1 a2) (eBody p p0 p1 p2 p3 p4 p5 q1 q2 q3 q4) (eSc p) .none .none doc pm an (.ref cda) ct cc),osl⟩∧codeIn K (.ref cda) qual=true∧EHe p p0 p1 p2 p3 p4 ∧
    (∃ ccl cdd vs ccs file tf,K.lookup cda=some ⟨ccl,cdd, .fields vs,ccs⟩∧vs[2]?=some (.str file tf)∧((prog.main.file:Str) == file)=true) ∧
    (∃ cl cld csl,K.lookup cc=some ⟨cl,cld, .cell (some (.ref C)),csl⟩)
structure EMod (K:Frag) (base:Heap) (prog:Program):Prop where
  kin:K.In base
  ns:∃ mg,base.Ns mainGlobals mg
  blt:∃ mb,base.Ns builtinsNs mb∧∀ x:Str,x ≠ "__name__" → mb x=bootBuiltins x
  top:(prog.main.scope.names.lookup ("super" : Str)).isSome=false
theorem one_size' (v:Value):[v].length ≤ sizeLine:=by
  rw [sizeLine_eq]
  exact (by decide:1 ≤ 16777216)
structure EEnd (h h':Heap) (x C dx t1:Addr) (p:Str) (v:Value):Prop where
  keep:∀ b o,b ≠ x→h.get? b=some o→h'.get? b=some o
  obj:h'.get? x=some { cls := .ref C,dict:=some dx,data := .fields #[.ref t1, .none, .none, .none, .bool false, .none] }
  dbig:h.objs.size ≤ dx
  dne:dx ≠ x
  ns:h'.Ns1 dx (fun y=>if y=p then some v else none)
structure EMade (h h':Heap) (e C d:Addr) (p:Str) (v:Value):Prop where
  keep:∀ b o,h.get? b=some o→h'.get? b=some o
  new:h.objs.size ≤ e
  obj:∃ t1:Addr,h'.get? e=some ({ cls := .ref C,dict:=some d,data := .fields #[.ref t1, .none, .none, .none, .bool false, .none] }:Obj)
  dbig:h.objs.size ≤ d
  dne:d ≠ e
  ns:h'.Ns1 d (fun y=>if y=p then some v else none)
section
variable {prog:Program} {w:World} {A:Around} {E:Value→Shared→Prop} {R:Result→Shared→Prop} {K:Frag} {C fI:Addr} {p:Str} {B newId initId:String} {bmB:List Value} {base:Heap}
theorem store_new {x:Addr} {fv:Array Value} {v:Value} {tk:Tok} {h:Heap} {g:Array GenState} {d:Drawn} {t:Nat} {os:OsState} (SF:StoreFacts B bmB "object.__setattr__" "object") (X:K.In h) (hx:h.get? x=some { cls := .ref C,data := .fields fv }) (ov:excOver K C bmB=true) (hdc:hasDictIn K C=true) (np:findIn K (.ref C) p=some none)
    (hq:∀ h' tk' dx,(∀ b o,b ≠ x→h.get? b=some o→h'.get? b=some o)→h.objs.size ≤ dx→dx ≠ x→h'.get? x=some { cls := .ref C,dict:=some dx,data := .fields fv }→h'.Ns1 dx (fun y=>if y=p then some v else none)→R (.ok (.ret .none)) ⟨h',g,d,tk',os⟩) :
    codeAny (model prog w) A (.call (.builtin "object.__setattr__") ⟨[.ref x, .str p tk,v],[]⟩) R ⟨h,g,d,t,os⟩:=by
  have I:InstAt h x { cls := .ref C,data := .fields fv } C none:=⟨hx,rfl,rfl,trivial⟩
  have nx:x ≠ h.objs.size:=Nat.ne_of_lt (Heap.lt_size hx)
  obtain ⟨cd,hcd,hdt⟩:∃ cd,clsIn K C=some cd∧cd.hasDict=true:=by
    unfold hasDictIn at hdc
    cases z:clsIn K C with
    | none=>rw [z] at hdc; cases hdc
    | some cd=>rw [z] at hdc; exact ⟨cd,rfl,hdc⟩
  have LC:Looks (model prog w) h (classData C) cd:=looks_clsIn X hcd
  refine osa_openX SF (s:=⟨h,g,d,t,os⟩) X I ov (show takerIn K C p=some none by unfold takerIn; rw [np]; rfl) fun bb=>?_
  show wpAny _ _ (Builtin.ObjectAttr.storeInOwnDict (.ref x) (.ref C) (.str p tk) p v bb) _ _ _
  obtain ⟨c1,c2,c3,c4,c5,c6,c7,c8,c9,c10,c11⟩:=cd
  dsimp only at hdt
  subst hdt
  unfold Builtin.ObjectAttr.storeInOwnDict Builtin.ObjectAttr.ownDictForStores
  repeat (first
    | with_reducible refine HandSPX.store_in_new ?_ ?_
    | with_reducible refine wpAny_loadPart_at hx ?_
    | with_reducible refine LC.at ?_
    | wp_step)
  · have at_:=(Heap.get?_update_ne (h.push { cls := .type "dict",data := .dict #[] }) h.objs.size x (fun o=>{ o with dict:=some h.objs.size }) nx.symm).trans (Heap.get?_push_at rfl rfl)
    exact ⟨_,#[],_,at_,rfl,fun e he=>absurd he (by simp),fun _=>rfl⟩
  · intro h1 tk1 N1 S1
    have hx1:=Heap.get?_push_of_some { cls:=Value.type "dict",data:=Data.dict #[] } hx
    refine hq h1 tk1 h.objs.size (fun b o hb ho=>?_) (Nat.le_refl _) nx.symm ?_ N1
    · have up:=(Heap.get?_update_ne _ _ _ (fun o:Obj=>{ o with dict:=some h.objs.size }) hb).trans (Heap.get?_push_of_some { cls:=Value.type "dict",data:=Data.dict #[] } ho)
      exact (S1.2 b (Nat.ne_of_lt (Heap.lt_size ho))).trans up
    · exact (S1.2 x nx).trans (Heap.get?_update_self _ hx1 rfl)
theorem ne_key {K:Frag} {h:Heap} (X:K.In h) {a:Addr} (ha:h.objs.size ≤ a):K.lookup a=none:=by
  cases e:K.lookup a with
  | none=>rfl
  | some o=>exact absurd (Heap.lt_size (X _ _ e)) (Nat.not_lt.mpr ha)
theorem callWith_one {M:Model} {pos:Pos} {i:String} {x u:Addr} {env:Env} {e:PySem.Expr} {s:Shared} {Q:Value→Shared→Prop} (h:wpAny M A (eval e env) (fun v s1=>KxsAt i u x s1.heap∧wpAny M A (call (.ref u) [v]) Q E s1) E s)
    (he:starEach [e] env=[(false,eval e env)]):wpAny M A (callWith pos (.ref u) [] (backTo pos (starEach [e] env)) []) Q E s:=by
  have key:wpAny M A (spliced (backTo pos (starEach [e] env))) (fun vs s1=>KxsAt i u x s1.heap∧wpAny M A (call (.ref u) vs) Q E s1) E s :=
    PyProof.Rows.spliced_more (wpAny_mono h (fun v s1 h1=>PyProof.Rows.spliced_none h1) fun _ _ z=>z) he
  rw [he] at key ⊢
  exact kxs_callWith (i:=i) (x:=x) rfl (evalArgs_plain key)
theorem call_mw (Bs:EBase B newId initId bmB) {nm qn:Str} {N:Addr} {bs bm:List Value} {hdct:Bool} {sn:List Str} {sub:List Value} {ab:Bool} {col:Option Bool} {dd:Option Addr} {j0 j1 j2 j3 j5:Option Value} {h:Heap} {g:Array GenState} {d:Drawn} {t:Nat} {os:OsState} {u x t0:Addr} {v:Value} {Q:Value→Shared→Prop}
    (hC:h.get? C=some (excClassObj nm qn C N bs bm hdct sn sub ab col dd j0 j1 j2 j3 j5 newId)) (hx:h.get? x=some (excO C t0)) (hu:h.get? u=some (kxs_mw initId x))
    (hq:∀ h',(∀ b o,b ≠ x→h.get? b=some o→h'.get? b=some o)→h'.get? x=some (excO C h.objs.size)→Q .none ⟨h',g,d,t,os⟩):wpAny (model prog w) A (call (.ref u) [v]) Q E ⟨h,g,d,t,os⟩:=by
  refine wpAny_call (codeAny_of_tree ?_)
  show wpAny _ A.in1 (callAny (.ref u) ⟨[v],[]⟩) _ _ _
  simp only [callAny]
  refine wpAny_bind (wpAny_load hu ?_)
  have mw:(Value.type "method-wrapper" == Value.type "method" || Value.type "method-wrapper" == Value.type "builtin_function_or_method" || Value.type "method-wrapper" == Value.type "method-wrapper")=true:=by decide
  simp only [kxs_mw,mw,if_true]
  refine KFB.if_so (by decide) (wpAny_bind (bound_check Bs.I hC hx rfl (wpAny_bind (wpAny_pure (wpAny_pure ?_)))))
  refine ⟨plainId_quiet Bs.I.init.plain _,codeAny_builtin Bs.I.entry ?_⟩
  rw [Around.under_plainId Bs.I.init.plain _]
  exact exc_init_tree (cls := .ref C) (t0:=t0) (dv:=none) (c2 := .none) (c3 := .none) (b4 := .bool false) hx (one_size' v) fun h' k e _=>hq h' k e
theorem sup_init (hp:ParN p) (T:ErrT prog K C fI p B newId initId bmB) (Bs:EBase B newId initId bmB) (G:EMod K base prog) {s:Shared} (kb:∀ b o,base.get? b=some o→s.heap.get? b=some o) {x t0:Addr} {v:Value} (lim:s.heap.NoLimit) (hx:s.heap.get? x=some (excO C t0)) (hnx:K.lookup x=none) (room:A.depth < recursionLimit)
    (hq:∀ h' tk dx t1,EEnd s.heap h' x C dx t1 p v→R (.ok (.ret .none)) { s with heap:=h',toks:=tk }):codeAny (model prog w) A (.call (.ref fI) ⟨[.ref x,v],[]⟩) R s:=by
  obtain ⟨oc,od,doc,pm,an,cda,cc,ct,osl,qual,a1,a2,p0,p1,p2,p3,p4,p5,q1,q2,q3,q4,ho,hcode,hHe,⟨ccl,cdd,vs,ccs,file,tf,hcda,hv2,hfile⟩,⟨cl,cld,csl,hcc⟩⟩:=T.fn
  have X:K.In s.heap:=G.kin.keeps kb
  rcases hp with e | e | e <;> subst e
  all_goals
    refine ks_codeAny_call_defAt (fd:=ksFn "__init__" qual (eArgs _ a1 a2) (eBody _ p0 p1 p2 p3 p4 p5 q1 q2 q3 q4) (eSc _) .none .none doc pm an (.ref cda) ct cc) (body:=eBody _ p0 p1 p2 p3 p4 p5 q1 q2 q3 q4) (binds:=[("self", .ref x),(_,v)])
      room (X _ _ ho) rfl lim (codeRec_of X hcode) rfl (BindsTo.of_eq (by first | rfl | with_unfolding_all rfl)) eSc_cells (by simp only [List.mem_cons,List.not_mem_nil,or_false,forall_eq_or_imp,forall_eq]; exact ⟨by decide +kernel,by decide +kernel⟩) (fun h1 ns1 k1=>?_) rfl rfl rfl
    have X1:K.In h1:=X.keeps k1
    have hx1:=k1 _ _ hx
    have kb1:∀ b o,base.get? b=some o→h1.get? b=some o:=fun b o e=>k1 b o (kb b o e)
    obtain ⟨mg,hmg⟩:=G.ns
    have mgs:mg "super" = none:=mg_none_of G.kin hmg T.sg
    obtain ⟨mb,hmb,hbb⟩:=G.blt
    obtain ⟨nm,N,qn,bs,bm,hdct,sn,sub,ab,col,dd,j0,j1,j2,j3,j5,hC,hT⟩:=excInit_of X1 T.ini
    have nxC:x ≠ C:=fun z=>by
      have:K.lookup C=none:=z ▸ hnx
      have c:=T.ini
      unfold excInitIn at c
      rw [this] at c
      cases c
    obtain ⟨pl,he⟩:=hHe (callEnv (ksFn "__init__" qual (eArgs _ a1 a2) (eBody _ p0 p1 p2 p3 p4 p5 q1 q2 q3 q4) (eSc _) .none .none doc pm an (.ref cda) ct cc) s.heap.objs.size fI)
    refine ks_wpAt_execs_cons (ks_wpAt_Expr_any (ks_wpAt_MethodCall (pl:=pl) (he:=he) (ks_wpAt_super_base (ar:={ arg := "self",annotation:=none,pos:=a1 }) rfl rfl (by decide +kernel) rfl (X1 _ _ ho) rfl rfl rfl (X1 _ _ hcda) rfl hv2 hfile G.top ?_)))
    refine ks_loadName_global rfl rfl (loadGlobal_builtin (hmg.keeps kb1) mgs (hmb.keeps kb1) ((hbb "super" (by decide)).trans (by decide +kernel)) ⟨rfl,?_⟩)
    refine wpAny_loadName_free rfl rfl rfl ⟨_,X1 _ _ hcc,rfl⟩ ?_
    refine wpAny_loadName_local (v := .ref x) rfl rfl ns1 (by first | rfl | with_unfolding_all rfl | kernel_rfl) ?_
    refine ks_wpAny_isType_cls hC rfl ⟨rfl,?_⟩
    refine ks_wpAny_call_super hC rfl hx1 rfl (fun c e=>by cases e) (looks_mroIn X1 T.mro) (fun h2 e2 k2=>?_)
    have X2:K.In h2:=X1.keeps k2
    have hx2:=k2 _ _ hx1
    have hC2:=k2 _ _ hC
    have I2:InstAt h2 x (excO C t0) C none:=⟨hx2,rfl,rfl,trivial⟩
    have hI:Looks (model prog w) h2 (isInstance (.ref x) (.type B)) true:=I2.type.andThen (looks_subIn X2 T.exB)
    obtain ⟨cd,hcd⟩:∃ cd,clsIn K C=some cd:=by
      have c:=T.sup
      unfold ks_superIn at c
      cases z:clsIn K C with
      | none=>rw [z] at c; cases c
      | some cd=>exact ⟨cd,rfl⟩
    have hm:alongIn K "__init__" ((cd.mro.dropWhile (· != .ref C)).drop 1)=some (some (.builtin initId)):=by
      have c:=T.sup
      unfold ks_superIn at c
      rw [hcd] at c
      exact c
    refine kxs_getMethod Bs.K e2 (looks_opaque X2 T.opq) (l₀:=cd.mro) (fun A Q E s k q=>wpAny_bind ((looks_clsIn X2 hcd) A _ E s k (wpAny_pure q))) rfl X2 hm hI nxC (by decide +kernel) ?_
    refine callWith_one (i:=initId) (x:=x) (wpAny_Name (wpAny_loadName_local (v:=v) rfl rfl (ns1.at fun o e=>Heap.get?_push_of_some _ (k2 _ _ e)) (by first | rfl | with_unfolding_all rfl | kernel_rfl) ?_)) (by rfl)
    have hu:(h2.push (kxs_mw initId x)).get? h2.objs.size=some (kxs_mw initId x):=Heap.get?_push_at rfl rfl
    refine ⟨hu,call_mw Bs (Heap.get?_push_of_some _ hC2) (Heap.get?_push_of_some _ hx2) hu fun h3 k3 hx3=>?_⟩
    have nL:s.heap.objs.size ≠ x:=Nat.ne_of_gt (Heap.lt_size hx)
    have k23:∀ b o,b ≠ x→h1.get? b=some o→h3.get? b=some o:=fun b o hb e=>k3 b o hb (Heap.get?_push_of_some _ (k2 _ _ e))
    have ns3:h3.Ns s.heap.objs.size _:=ns1.at fun o e=>k23 _ o nL e
    have X3:K.In h3:=fun a o e=>k23 a o (fun z=>by rw [z,hnx] at e; cases e) (X1 a o e)
    refine wpAt_of_wpAny (wpAny_execs_cons (plainObj_wpAny_Assign_Attribute ?_))
    refine wpAny_Name (wpAny_loadName_local (v:=v) rfl rfl ns3 (by first | rfl | with_unfolding_all rfl | kernel_rfl) ?_)
    refine wpAny_Name (wpAny_loadName_local (v := .ref x) rfl rfl ns3 (by first | rfl | with_unfolding_all rfl | kernel_rfl) ?_)
    refine set_plain X3 (ox:=excO C _) (od:=none) ⟨hx3,rfl,rfl,trivial⟩ T.sa ?_
    refine store_new Bs.S X3 hx3 T.over T.hdC T.noP fun h4 tk4 dx k4 dn dne hx4 hn4=>?_
    have bg:s.heap.objs.size < h3.objs.size:=ns3.lt
    exact wpAny_execs_nil (hq h4 _ dx _ ⟨fun b o hb e=>k4 b o hb (k23 b o hb (k1 b o e)),hx4,Nat.le_trans (Nat.le_of_lt bg) dn,dne,hn4⟩)
theorem made_ok (hp:ParN p) (T:ErrT prog K C fI p B newId initId bmB) (Bs:EBase B newId initId bmB) (G:EMod K base prog) {h:Heap} {g:Array GenState} {d:Drawn} {t:Nat} {os:OsState} (kb:∀ b o,base.get? b=some o→h.get? b=some o) {v:Value} (lim:h.NoLimit) (room:A.depth + 1 < recursionLimit)
    (hq:∀ h' tk e d',EMade h h' e C d' p v→R (.ok (.ret (.ref e))) ⟨h',g,d,tk,os⟩):codeAny (model prog w) A (.call (.ref C) ⟨[v],[]⟩) R ⟨h,g,d,t,os⟩:=by
  have X:K.In h:=G.kin.keeps kb
  obtain ⟨nm,N,qn,bs,bm,hdct,sn,sub,ab,col,dd,j0,j1,j2,j3,j5,hC,hT⟩:=excInit_of X T.ini
  have k:∀ b o,h.get? b=some o→((h.push (kdv_tup [v])).push (excO C h.objs.size)).get? b=some o:=fun b o e=>Heap.get?_push_of_some _ (Heap.get?_push_of_some _ e)
  have at_:((h.push (kdv_tup [v])).push (excO C h.objs.size)).get? (h.objs.size + 1)=some (excO C h.objs.size):=by heap_get
  refine call_class (Bs.T.same hT) hC (looks_findIn X T.iC) (fun self=>bind_fn X self T.tC) (one_size' v) ?_
  refine sup_init (s:=⟨(h.push (kdv_tup [v])).push (excO C h.objs.size),g,d,t,os⟩) hp T Bs G (fun b o e=>k b o (kb b o e)) (lim.keeps k) at_ (ne_key X (Nat.le_succ _)) room fun h' tk' dx t1 ⟨k',hx,dn,dne,hns⟩=>?_
  have old:∀ b o,h.get? b=some o→h'.get? b=some o:=fun b o e=>k' b o (Nat.ne_of_lt (Nat.lt_succ_of_lt (Heap.lt_size e))) (k b o e)
  have z:h.objs.size ≤ dx:=by
    have q:((h.push (kdv_tup [v])).push (excO C h.objs.size)).objs.size ≤ dx:=dn
    rw [Heap.size_push,Heap.size_push] at q
    omega
  exact ⟨rfl,hq h' tk' (h.objs.size + 1) dx ⟨old,Nat.le_succ _,⟨_,hx⟩,z,dne,hns⟩⟩
end
end Xe
namespace Xe
open PySem PySem.Spec PyProof.Rows L2
structure ErrOk (P:Program) (K:PySem.W.Frag) (C fI:Addr) (p:Str):Prop where
  ex:∃ B newId initId bmB,ErrT P K C fI p B newId initId bmB∧EBase B newId initId bmB
  par:ParN p
  top:(P.main.scope.names.lookup ("super" : Str)).isSome=false
def tMkS (C:Addr) (p:Str) (ta:TA):L2.St→Hp→XK→Prop:=fun σ H Q=>ta σ H fun vs H1=>∃ v,vs=[v]∧∀ d,H1 d=none→Q (.ref C) (some d) (upd H1 d (.xd [(p,v)]))
section
variable {X:Cx} {C fI:Addr} {p:Str}
theorem pmk_sup {x:Str} {a:Expr} {ta:TA} {np pos:Pos} (T:ErrOk X.prog X.K C fI p) (gC:X.mg x=some (.ref C)) (hr:X.A.depth + 1 < recursionLimit) (ha:PA X [a] ta) (hg:Gl X x) (hdb:(x == ("__debug__" : Str))=false:=by decide)
    (he:starEach (a :: []) X.env=(false,eval a X.env) :: starEach [] X.env:=by rfl) (hpl:(backTo pos (starEach [] X.env)).any (·.1)=false:=by rfl) :
    L2H.PMk5 X (.Call (.Name x np) [a] [] pos) (tMkS C p ta):=by
  intro pins s σ H Q I h
  obtain ⟨⟨B,newId,initId,bmB,T0,Bs⟩,par,top⟩:=T
  refine wpAny_Call_Name_kw (ld_glob I hg gC ?_ hdb)
  refine PySem.W.callWith_K (h₀:=X.base) I.ok.mod.kin T0.kC (thn (ha.run pos pins s σ H _ I h) fun us s1 ⟨vs,H1,I1,r1,v,ev,q1⟩=>⟨I1.kIn,?_⟩) he hpl
  subst ev
  cases r1 with
  | @cons _ v' _ us' rv rn =>
    cases rn
    show wpAny _ _ (call (.ref C) [v']) _ _ _
    have lim:=I1.nolimit
    have bk:=I1.bk
    have md:=I1.ok.mod
    obtain ⟨hp,g,dr,tk,os⟩:=s1
    refine wpAny_call (made_ok par T0 Bs ⟨md.kin,⟨_,md.glob⟩,md.blt,top⟩ bk lim (hr) fun h' tk' e d M=>?_)
    obtain ⟨t1,hoe⟩:=M.obj
    have hns:=M.ns
    obtain ⟨G,g1,g2⟩:=restrict h' fun b=>decide (b ≠ e)
    have gk:∀ b,b ≠ e→G.get? b=h'.get? b:=fun b hb=>g1 b (decide_eq_true hb)
    have ge:G.get? e=none:=g2 e (by simp)
    have old:∀ b o,hp.get? b=some o→G.get? b=some o:=fun b o q=>(gk b (Nat.ne_of_lt (Nat.lt_of_lt_of_le (Heap.lt_size q) M.new))).trans (M.keep b o q)
    have rel:∀ f,RelO (List.lookup f [(p,v)]) (if f=p then some v' else none):=relO_put (fs:=[]) rv fun _=>True.intro
    have ob:ObjOk X.prog X.w (upd H1 d (.xd [(p,v)])) G d (.xd [(p,v)]):=⟨_,hns.at (fun o q=>(gk d M.dne).trans q),rel⟩
    have J:Inv X pins σ (upd H1 d (.xd [(p,v)])) ⟨G,g,dr,tk',os⟩:=I1.laid (t':=tk') old M.dbig ob
    have ctx:L2N.Zn (.ref C) (some d) ({ cls := .ref C,dict:=some d,data := .fields #[.ref t1, .none, .none, .none, .bool false, .none] }:Obj):=⟨rfl,rfl,fun vs e=>by cases e; rfl⟩
    refine ⟨⟨e,_,_,⟨G,g,dr,tk',os⟩,_, .ref C,some d,rfl,J,fun b o q=>?_,ge,hoe,ctx,rfl,rfl,?_,rfl,I1.bare,raises_own T0.exC T0.tyC,q1 d (I1.hok.fresh M.dbig)⟩,fun a oe ws ea hg hd=>?_⟩
    · by_cases hb:b=e
      · have q':G.get? b=some o:=q
        rw [hb,ge] at q'; cases q'
      · exact (gk b hb).symm.trans q
    · rw [upd_ne (Ne.symm M.dne)]
      exact I1.hok.fresh M.new
    · cases ea
      have hg':h'.get? e=some oe:=hg
      rw [hoe] at hg'
      cases hg'
      cases hd
      simp
end
end Xe
namespace Xe
open PySem PySem.Spec PyProof.Rows L2
end Xe
namespace Bv
open PySem PySem.Spec L2
open PyProof.Rows hiding St
variable [HasW]
def Z1l (C p:Str) (ms:MG (List Bv.X)):MS:=fun e S=>(ms e S).so e fun xs S1=>match xs with
  | [.d v] => .err C [(p,v)] e S1
  | _ => .bad
section
variable {X:Cx} {Wx:WX} {k:Nat} {pos pos2 np:Pos} {a:Expr} {ms:MG (List Bv.X)} {C p x:Str} {fI:Addr}
theorem Z1o (hc:X.calm=true) (h:Here X Wx k) (T:Xe.ErrOk X.prog X.K (He.ga X.K C) fI p) (gC:X.mg x=some (.ref (He.ga X.K C))) (hg:Gl X x) (ha:MA X Wx [a] ms) (hk:1 ≤ k:=by decide) (hdb:(x == ("__debug__" : Str))=false:=by decide)
    (he:starEach (a :: []) X.env=(false,eval a X.env) :: starEach [] X.env:=by rfl) (hpl:(backTo pos (starEach [] X.env)).any (·.1)=false:=by rfl):MP X Wx (.Raise (some (.Call (.Name x np) [a] [] pos)) none pos2) (Z1l C p ms) :=
  PS.of (Xq.ps_raiseQ hc h.tk (Xe.pmk_sup T gC (by have:=h.room.dp; omega) ha hg hdb he hpl).pmk) fun D σ H ⟨Z,ρ,e,S,st,ev,q⟩ =>
    Z0h (rel:=AXs X.K) st ev q fun ρ1 H1 vs xs S1 s1 g1 ev1 a1 p1=>by
      match xs,vs,a1,p1 with
      | [.d v],[u], .cons (.d a) .nil,p1 =>
        refine ⟨u,rfl,fun d hd=>?_⟩
        have kp:=V9 (o := .xd [(p,u)]) hd
        have mv:=(Go.grow (ρ:=ρ1) kp).mv s1
        exact p1 ρ1 _ σ (some d) (s1.grow kp) (Go.grow kp) (ev1.mv mv (List.prefix_refl _)) (.inr ⟨d,_,rfl,hd,s1.fresh hd,upd_same, .cons (a.mv mv) .nil⟩)
      | [],_,_,p1=>exact p1.elim
      | [.r _],_,_,p1=>exact p1.elim
      | .d _ :: _ :: _,_,_,p1=>exact p1.elim
      | .r _ :: _ :: _,_,_,p1=>exact p1.elim
end
structure Err0 (K:PySem.W.Frag) (C:Addr):Prop where
  ini:PySem.W.excIn K C [.type "ValueError", .type "Exception", .type "BaseException", .type "object"] "ValueError.__new__" = true
  kC:PySem.W.keepIn K (.ref C)=true
  exC:PySem.W.subIn K (.ref C) (.type "BaseException")=some true
  tyC:PySem.W.typeIn K (.ref C)=some (.type "type")
section
variable {X:Cx} {Wx:WX} {k:Nat} {pos pos2 np:Pos} {C x:Str}
end
end Bv
namespace Bv
open PySem PySem.Spec L2
open PyProof.Rows hiding St
variable [HasW]
theorem W0q {H H1 H2:Hp} (a:Same H H1) (b:Same H1 H2):Same H H2:=fun c o q=>b c o (a c o q)
abbrev SX:=Str→List (Str × D)→Option D
abbrev SXs:=Str→List (Str × D)→Option (List D)
abbrev SXb:=Str→List (Str × D)→Option Bool
def X1a (K:PySem.W.Frag) (W:Wd) (H:Hp) (fs:List (Str × D)) (d:Option Addr):Prop:=(d=none∧fs=[]) ∨ ∃ (dd:Addr) (vs:List (Str × V)),d=some dd∧H dd=some (.xd vs)∧AVf K W H fs vs
theorem X1a.same {K:PySem.W.Frag} {W:Wd} {H H':Hp} {fs:List (Str × D)} {d:Option Addr} (h:X1a K W H fs d) (k:Same H H'):X1a K W H' fs d:=by
  rcases h with h | ⟨dd,vs,h1,h2,h3⟩
  · exact .inl h
  · exact .inr ⟨dd,vs,h1,k _ _ h2,h3.mv (Z26 k)⟩
structure SAt (lv:Ev) (K:PySem.W.Frag) (W:Wd) (i:Nat) (a:Addr) (fs:List (Str × D)) (d:Option Addr) (σ:L2.St) (H:Hp):Prop where
  there:∀ b,W b→∃ o,H b=some o
  slot:σ[i]?=some (some (.ref a))
  err:X1a K W H fs d
  loc:∀ (j:Nat) (v:D),lv[j]?=some (some (.d v))→∃ u,σ[j]?=some (some u)∧AV K W H v u
theorem SAt.same {lv:Ev} {K:PySem.W.Frag} {W:Wd} {i:Nat} {a:Addr} {fs:List (Str × D)} {d:Option Addr} {σ:L2.St} {H H':Hp} (h:SAt lv K W i a fs d σ H) (k:Same H H'):SAt lv K W i a fs d σ H':=⟨fun b z=>let ⟨o,e⟩:=h.there b z; ⟨o,k _ _ e⟩,h.slot,h.err.same k,fun j v e=>let ⟨u,e1,av⟩:=h.loc j v e; ⟨u,e1,av.mv (Z26 k)⟩⟩
def tSE (lv:Ev) (K:PySem.W.Frag) (i:Nat) (a:Addr) (C:Str) (d:Option Addr) (m:SX):TE:=fun σ H Q=>∃ (W:Wd) (fs:List (Str × D)) (f:D),SAt lv K W i a fs d σ H∧m C fs=some f∧∀ H' v,Same H H'→AV K W H' f v→Q v H'
abbrev InS (X:Cx) (C:Str) (oe:Obj) (d:Option Addr):Prop:=Zc (.ref (He.ga X.K C)) d oe∧∃ vs,oe.data = .fields vs
def SE (lv:Ev) (X:Cx) (i:Nat) (e:Expr) (m:SX):Prop:=∀ (a:Addr) (oe:Obj) (C:Str) (d:Option Addr) (pn:List (Addr × Obj)),InS X C oe d→PE (X.suite a ((a,oe) :: pn)) e (tSE lv X.K i a C d m)
def x_c (v:D):SX:=fun _ _=>some v
def W6l (g:D→D→Option D) (m1 m2:SX):SX:=fun C fs=>match m1 C fs,m2 C fs with
  | some a,some b=>g a b
  | _,_=>none
section
variable {lv:Ev} {X:Cx} {i:Nat} {n x:Str} {np p pos tpos:Pos} {e e1 e2 c t:Expr} {es rest:List Expr} {m m1 m2:SX} {ms:SXs} {mb mc:SXb}
theorem W7e {v:D} {u:V} (h:∀ a oe pn,PE (X.suite a ((a,oe) :: pn)) e (tC u)) (av:∀ W H,AV X.K W H v u):SE lv X i e (x_c v):=fun a oe C d pn _=>PE.of (h a oe pn) fun σ H Q ⟨W,fs,f,at_,hm,q⟩=>by
  cases hm
  exact q H _ Same.rfl' (av _ _)
theorem W3q {z:Int} {j}:SE lv X i (.Constant (.int z) j pos) (x_c (.int z)):=W7e (fun _ _ _=>pe_int) fun _ _ => .int z
theorem W6c {op:Operator} {r:R2} {g:D→D→Option D} (ho:∀ a oe pn,OpR (X.suite a ((a,oe) :: pn)) (binaryOp op) r) (hf:Op2 X.K r g) (h1:SE lv X i e1 m1) (h2:SE lv X i e2 m2):SE lv X i (.BinOp e1 op e2 pos) (W6l g m1 m2):=fun a oe C d pn hz =>
  PE.of (pe_op (ho a oe pn) (h1 a oe C d pn hz) (h2 a oe C d pn hz)) fun σ H Q ⟨W,fs,f,at_,hm,q⟩=>by
    unfold W6l at hm
    cases z1:m1 C fs with
    | none=>rw [z1] at hm; cases hm
    | some d1 =>
      cases z2:m2 C fs with
      | none=>rw [z1,z2] at hm; cases hm
      | some d2 =>
        rw [z1,z2] at hm
        have hm:g d1 d2=some f:=hm
        exact ⟨W,fs,d1,at_,z1,fun H1 v k a1=>⟨W,fs,d2,at_.same k,z2,fun H2 u k2 a2=>hf W H2 d1 d2 v u f _ (fun b hb=>(at_.same (W0q k k2)).there b hb) (.av (a1.mv (Z26 k2))) (.av a2) hm fun H3 y k3 a3=>q H3 y (W0q (W0q k k2) k3) a3⟩⟩
end
end Bv
namespace Bv
open PySem PySem.Spec L2
open PyProof.Rows hiding St
variable [HasW]
theorem EvOk.unset {K:PySem.W.Frag} {W:Wd} {ρ:List Addr} {H:Hp} {e:Ev} {σ:L2.St} {i:Nat} (h:EvOk K W ρ H e σ):EvOk K W ρ H (e.set i none) (σ.set i none):=by
  refine ⟨by rw [List.length_set,List.length_set]; exact h.len,fun j x q=>?_⟩
  by_cases hj:i=j
  · subst hj
    have hl:i < e.length:=by
      have:=(List.getElem?_eq_some_iff.mp q).1
      rwa [List.length_set] at this
    rw [List.getElem?_set_self hl] at q
    cases q
  · rw [List.getElem?_set_ne hj] at q
    obtain ⟨u,h1,h2⟩:=h.at_ j x q
    exact ⟨u,by rw [List.getElem?_set_ne hj]; exact h1,h2⟩
def X4m (K:PySem.W.Frag) (c:Value) (tab:List (Str × Bool)):Prop:=∀ C b,tab.lookup C=some b→PySem.W.exmOne K (.ref (He.ga K C)) c=some b
section
variable {X:Cx} {Wx:WX} {k i j:Nat} {n y x:Str} {c:Value} {body:List Stmt} {np yp apos pos pos':Pos} {ex:Expr} {mb:MS} {m:SX} {tab:List (Str × Bool)}
theorem Here.tr (h:Here X Wx k) {W:WX} {pn:List (Addr × Obj)} {xe:Value→Shared→Prop} (tk:Xq.Tk (X.tr pn xe) W):Here (X.tr pn xe) W k:=⟨tk,h.gu,h.room⟩
end
end Bv
namespace Bv
open PySem PySem.Spec L2
open PyProof.Rows hiding St
structure ErrB where
  cls:Str
  qual:Str
  par:Str
  st:Stmt
abbrev Y7d (C:Str) (K:PySem.W.Frag):Addr:=He.ma K (He.ga K C) "__init__"
def X0y (K:PySem.W.Frag) (d:ErrB):He.FnW:=match K.lookup (Y7d d.cls K) with
  | some ⟨_,_, .func fd,_⟩=>some (fd.name,fd.qualname,fd.params,fd.body,fd.scope,fd.globals,[],fd.builtins)
  | _=>none
def ErrB.val (d:ErrB):He.FnW:=some ("__init__",d.qual,defArgs d.st, .stmts (defBody d.st),defScope d.st,mainGlobals,[],builtinsNs)
def W1e (ts:List (PySem.W.Frag→Bool)) (ds:List DefB) (xs:List ErrB) (K:PySem.W.Frag):AlB:=((ts.all fun t=>t K) && ds.all fun d=>d.ok K,(ds.map fun d=>seen K (d.ad K))++xs.map (X0y K))
def X09 (ds:List DefB) (xs:List ErrB):AlB:=(true,ds.map DefB.val++xs.map ErrB.val)
def Y96 (ts:List (PySem.W.Frag→Bool)) (ds:List DefB) (xs:List ErrB) (K:PySem.W.Frag):Prop:=W1e ts ds xs K=X09 ds xs
section
variable {ts:List (PySem.W.Frag→Bool)} {ds:List DefB} {xs:List ErrB} {K:PySem.W.Frag}
theorem Y96.toB (c:Y96 ts ds xs K):Y3a ts ds K:=by
  have e1:=congrArg (fun z:AlB=>z.1) c
  have e2:(ds.map fun d=>seen K (d.ad K))++xs.map (X0y K)=ds.map DefB.val++xs.map ErrB.val:=congrArg (fun z:AlB=>z.2) c
  have e3:=(List.append_inj e2 (by rw [List.length_map,List.length_map])).1
  unfold Y3a W66 W7n
  rw [e3]
  exact congrArg (fun b=>(b,ds.map DefB.val)) (show ((ts.all fun t=>t K) && ds.all fun d=>d.ok K)=true from e1)
theorem Y96.seen (c:Y96 ts ds xs K) (i:Nat) {d:ErrB} (h:xs[i]?=some d:=by rfl):X0y K d=d.val:=by
  have e2:(ds.map fun d=>Bv.seen K (d.ad K))++xs.map (X0y K)=ds.map DefB.val++xs.map ErrB.val:=congrArg (fun z:AlB=>z.2) c
  have e3:=(List.append_inj e2 (by rw [List.length_map,List.length_map])).2
  have e4:=congrArg (fun l=>l[i]?) e3
  simp only [List.getElem?_map,h,Option.map_some,Option.some.injEq] at e4
  exact e4
end
def W1k (st:Stmt) (p:Str):Prop:=∃ a1 a2 p0 p1 p2 p3 p4 p5 q1 q2 q3 q4:Pos,defArgs st=Xe.eArgs p a1 a2∧defBody st=Xe.eBody p p0 p1 p2 p3 p4 p5 q1 q2 q3 q4∧defScope st=Xe.eSc p∧Xe.EHe p p0 p1 p2 p3 p4
inductive EB where
  | ve | ie | ke
def Y3e:EB→List Value
  | .ve=>[.type "ValueError", .type "Exception", .type "BaseException", .type "object"]
  | .ie=>[.type "IndexError", .type "LookupError", .type "Exception", .type "BaseException", .type "object"]
  | .ke=>[.type "KeyError", .type "LookupError", .type "Exception", .type "BaseException", .type "object"]
def baseOf:EB→String
  | .ve => "ValueError"
  | .ie => "IndexError"
  | .ke => "KeyError"
def newOf:EB→String
  | .ve => "ValueError.__new__"
  | .ie => "IndexError.__new__"
  | .ke => "LookupError.__new__"
def W2h:EB→String
  | .ve => "ValueError.__init__"
  | .ie => "IndexError.__init__"
  | .ke => "KeyError.__init__"
theorem X7x (b:EB):Xe.EBase (baseOf b) (newOf b) (W2h b) (Y3e b):=by
  cases b with
  | ve=>exact Xe.base_VE
  | ie=>exact Xe.base_IE
  | ke=>exact Xe.base_KE
def Y6w (C p:Str) (b:EB) (K:PySem.W.Frag):Bool :=
  PySem.W.excInitIn K (He.ga K C) (Y3e b) (newOf b) && (PySem.W.excOver K (He.ga K C) (Y3e b) && (PySem.W.hasDictIn K (He.ga K C) && (He.eqO (PySem.W.findIn K (.ref (He.ga K C)) "__setattr__") (some (some (.builtin "object.__setattr__"))) &&
  (He.eqO (PySem.W.findIn K (.ref (He.ga K C)) p) (some none) && (He.eqO (PySem.W.findIn K (.ref (He.ga K C)) "__init__") (some (some (.ref (Y7d C K)))) && (decide (PySem.W.typeIn K (.ref (Y7d C K))=some (.type "function")) && PySem.W.keepIn K (.ref (He.ga K C))))))))
def Y6x (C:Str) (b:EB) (K:PySem.W.Frag):Bool :=
  decide (PySem.W.subIn K (.ref (He.ga K C)) (.type "BaseException")=some true) && (decide (PySem.W.subIn K (.ref (He.ga K C)) (.type (baseOf b))=some true) && (decide (PySem.W.typeIn K (.ref (He.ga K C))=some (.type "type")) &&
  (He.eqO (PySem.W.nsIn K cStatics "thirdparty.any") (some none) && (He.eqO (PySem.W.ks_superIn K (He.ga K C) (He.ga K C) "__init__") (some (some (.builtin (W2h b)))) &&
  (decide (PySem.W.mroIn K (He.ga K C) (.ref (He.ga K C))=some true) && He.eqO (PySem.W.nsIn K mainGlobals "super") (some none))))))
def Y27 (C qual file:Str) (K:PySem.W.Frag):Bool:=match K.lookup (Y7d C K) with
  | some ⟨_,_, .func fd,_⟩=>(match fd.closure,fd.code with
    | [(x,cc)], .ref cda=>decide (x = "__class__") && (decide (fd.defaults = .none) && (decide (fd.kwdefaults = .none) && (PySem.W.codeIn K (.ref cda) qual && ((match K.lookup cda with
      | some ⟨_,_, .fields vs,_⟩=>(match vs.toList[2]? with
        | some (Value.str f _)=>decide (file=f)
        | _=>false)
      | _=>false) && (match K.lookup cc with
      | some ⟨_,_, .cell (some (.ref D)),_⟩=>decide (D=He.ga K C)
      | _=>false)))))
    | _,_=>false)
  | _=>false
theorem Y8x {P:Program} {K:PySem.W.Frag} {d:ErrB} {b:EB} {file:Str} (S:W1k d.st d.par) (hp:Xe.ParN d.par) (hs:X0y K d=d.val) (c1:Y6w d.cls d.par b K=true) (c2:Y6x d.cls b K=true) (c3:Y27 d.cls d.qual file K=true) (hf:P.main.file=file) (ht:(P.main.scope.names.lookup ("super" : Str)).isSome=false) :
    Xe.ErrOk P K (He.ga K d.cls) (Y7d d.cls K) d.par:=by
  obtain ⟨e1,h⟩:=He.ba c1
  obtain ⟨e2,h⟩:=He.ba h
  obtain ⟨e3,h⟩:=He.ba h
  obtain ⟨e4,h⟩:=He.ba h
  obtain ⟨e5,h⟩:=He.ba h
  obtain ⟨e6,h⟩:=He.ba h
  obtain ⟨e7,e8⟩:=He.ba h
  obtain ⟨f1,h⟩:=He.ba c2
  obtain ⟨f2,h⟩:=He.ba h
  obtain ⟨f3,h⟩:=He.ba h
  obtain ⟨f4,h⟩:=He.ba h
  obtain ⟨f5,h⟩:=He.ba h
  obtain ⟨f6,f7⟩:=He.ba h
  obtain ⟨a1,a2,p0,p1,p2,p3,p4,p5,q1,q2,q3,q4,s1,s2,s3,s4⟩:=S
  refine ⟨⟨_,_,_,_,⟨e1,e2,e3,He.eqO_ok e4,He.eqO_ok e5,He.eqO_ok e6,of_decide_eq_true e7,e8,of_decide_eq_true f1,of_decide_eq_true f2,of_decide_eq_true f3,He.eqO_ok f4,He.eqO_ok f5,of_decide_eq_true f6,He.eqO_ok f7,?_⟩,X7x b⟩,hp,ht⟩
  unfold X0y ErrB.val at hs
  unfold Y27 at c3
  cases q:K.lookup (Y7d d.cls K) with
  | none=>rw [q] at c3; cases c3
  | some o =>
    obtain ⟨oc,od,dt,osl⟩:=o
    rw [q] at c3 hs
    cases dt with
    | func fd =>
      obtain ⟨m1,m2,m3,m4,m5,m6,m7,m8,m9,m10,m11,m12,m13,m14,m15⟩:=fd
      have hs:(some (m1,m2,m3,m4,m5,m6,[],m15):He.FnW)=some (("__init__" : Str),d.qual,defArgs d.st,FuncBody.stmts (defBody d.st),defScope d.st,mainGlobals,[],builtinsNs):=hs
      simp only [Option.some.injEq,Prod.mk.injEq] at hs
      obtain ⟨rfl,rfl,rfl,rfl,rfl,rfl,-,rfl⟩:=hs
      dsimp only at c3
      split at c3
      · rename_i x cc cda
        obtain ⟨g1,h⟩:=He.ba c3
        obtain ⟨g2,h⟩:=He.ba h
        obtain ⟨g3,h⟩:=He.ba h
        obtain ⟨g4,h⟩:=He.ba h
        obtain ⟨g5,g6⟩:=He.ba h
        obtain rfl:=of_decide_eq_true g1
        have z2:=of_decide_eq_true g2
        have z3:=of_decide_eq_true g3
        subst z2 z3
        refine ⟨oc,od,m10,m11,m12,cda,cc,m14,osl,d.qual,a1,a2,p0,p1,p2,p3,p4,p5,q1,q2,q3,q4,?_,g4,s4,?_,?_⟩
        · rw [s1,s2,s3]
        · cases w:K.lookup cda with
          | none=>rw [w] at g5; cases g5
          | some o2 =>
            obtain ⟨c2,d2,t2,l2⟩:=o2
            rw [w] at g5
            cases t2 with
            | fields vs =>
              dsimp only at g5
              split at g5
              · rename_i f tf hv
                exact ⟨c2,d2,vs,l2,f,tf,rfl,by rw [← Array.getElem?_toList]; exact hv,by rw [hf,of_decide_eq_true g5]; exact beq_self_eq_true _⟩
              · cases g5
            | _=>cases g5
        · cases w:K.lookup cc with
          | none=>rw [w] at g6; cases g6
          | some o2 =>
            obtain ⟨c2,d2,t2,l2⟩:=o2
            rw [w] at g6
            split at g6
            · rename_i e
              cases e
              rw [of_decide_eq_true g6]
              exact ⟨_,_,_,rfl⟩
            · cases g6
      · cases c3
    | _=>cases c3
def Y8d (C:Str) (tab:List (Str × Bool)) (K:PySem.W.Frag):Bool:=tab.all fun p=>decide (PySem.W.exmOne K (.ref (He.ga K p.1)) (.ref (He.ga K C))=some p.2)
theorem Y8q {C:Str} {tab:List (Str × Bool)} {K:PySem.W.Frag} (h:Y8d C tab K=true):X4m K (.ref (He.ga K C)) tab:=fun D b q=>of_decide_eq_true (List.all_eq_true.mp h (D,b) (PySem.mem_of_lookup q))
end Bv
namespace Bv
open PySem PySem.Spec L2
open PyProof.Rows hiding St
structure OwnSp (K:PySem.W.Frag) (C:Str) (m:Str) (f:Addr):Prop where
  at_:PySem.W.findIn K (.ref (He.ga K C)) m=some (some (.ref f))
  fn:PySem.W.isFn K (.ref f)=true
  fi:PySem.W.fnIn K f=true
variable [HasW]
section
variable {X:Cx} {Wx:WX} {pos p:Pos} {a b e:Expr} {es:List Expr} {ma mb:M} {ms:MG (List Bv.X)} {k j:Nat} {f:Addr} {fd:FuncData} {ps:List Str} {g:List D→PR} {C:Str}
end
end Bv
namespace Bv
open PySem PySem.Spec L2
open PyProof.Rows hiding St
variable [HasW]
section
variable {X:Cx} {Wx:WX} {k j:Nat} {f:Addr} {fd:FuncData} {ps:List Str} {g:List D→PR} {C:Str}
end
section
variable {X:Cx}
end
def W7p (a:D) (y:Bool):Bool:=match a with
  | .bl x=>decide (x=y)
  | _=>false
def isA (neg:Bool) (a b:D):Option D:=match b with
  | .bl y=>some (.bl (W7p a y ^^ neg))
  | _=>none
section
variable {X:Cx} {Wx:WX} {k:Nat}
end
end Bv
namespace PySem
open Sem (wp)
open AutoSeq1 (wpAny_loadPart')
open MeetsSeq MeetsSeq2 MeetsSeq3 SeqRoads2
namespace BvLs
section
variable {prog:Program} {w:World} {A:Around} {R:Result→Shared→Prop}
variable {E:Value→Shared→Prop} {s:Shared}
end
end BvLs
end PySem
namespace Bv
open PySem PySem.Spec L2
open PyProof.Rows hiding St
variable [HasW]
section
variable {X:Cx} {k:Nat} {f:Addr} {fd:FuncData} {ps:List Str} {g:List D→PR} {C:Str}
end
section
variable {X:Cx} {Wx:WX} {k j:Nat} {C:Str} {g:List D→PR}
end
end Bv
namespace Bv
open PySem PySem.Spec L2
open PyProof.Rows hiding St
def W6j (tab:List (Str × Bool)) (K:PySem.W.Frag):Bool:=tab.all fun q=>decide (PySem.W.subIn K (.ref (He.ga K q.1)) (.type "BaseException")=some true) && decide (PySem.W.typeIn K (.ref (He.ga K q.1))=some (.type "type"))
def W1p (K:PySem.W.Frag) (tab:List (Str × Bool)):Prop:=∀ C,tab.lookup C=some true→PySem.W.subIn K (.ref (He.ga K C)) (.type "BaseException")=some true∧PySem.W.typeIn K (.ref (He.ga K C))=some (.type "type")
theorem W3l {tab:List (Str × Bool)} {K:PySem.W.Frag} (h:W6j tab K=true):W1p K tab:=fun C q=>by
  obtain ⟨c1,c2⟩:=He.ba (List.all_eq_true.mp h (C,true) (PySem.mem_of_lookup q))
  exact ⟨of_decide_eq_true c1,of_decide_eq_true c2⟩
theorem W1p.at {X:Cx} {tab:List (Str × Bool)} (h:W1p X.K tab):∀ C,tab.lookup C=some true→Raises X (.ref (He.ga X.K C)):=fun C q=>raises_own (h C q).1 (h C q).2
variable [HasW]
def W07 (lv:Ev) (j:Nat):SX:=fun _ _=>match lv[j]? with
  | some (some (.d v))=>some v
  | _=>none
def W06 (m:SX):SX:=fun C fs=>match m C fs with
  | some (.tup ds)=>some (.int ds.length)
  | _=>none
section
variable {lv:Ev} {X:Cx} {i j:Nat} {n x:Str} {np p pos:Pos} {e:Expr} {m:SX}
theorem W3s {y:Str} (hN:X.N[j]?=some y:=by rfl) (hv:Vis X.env.scope y:=by first | exact Or.inl rfl | exact Or.inr (Or.inl rfl) | exact Or.inr (Or.inr rfl)) (hd:(y == ("__debug__" : Str))=false:=by decide) (hcd:(y == ("__classdict__" : Str))=false:=by decide):SE lv X i (.Name y np) (W07 lv j):=fun a oe C d pn hz =>
  PE.of (pe_var (X:=X.suite a ((a,oe) :: pn)) hN hv hd hcd) fun σ H Q ⟨W,fs,f,at_,hm,q⟩=>by
    unfold W07 at hm
    split at hm
    · rename_i v hl
      cases hm
      obtain ⟨u,e1,av⟩:=at_.loc j f hl
      exact ⟨u,e1,q H u Same.rfl' av⟩
    · cases hm
theorem W3r (hg:Gl X "len") (hm:X.mg "len" = none) (h:SE lv X i e m) (hs:starEach [e] X.env=(false,eval e X.env) :: starEach [] X.env:=by rfl) (hpl:(backTo pos (starEach [] X.env)).any (·.1)=false:=by rfl):SE lv X i (.Call (.Name "len" p) [e] [] pos) (W06 m):=fun a oe C d pn hz =>
  PE.of (pe_callB (X:=X.suite a ((a,oe) :: pn)) Z24 hg hm (by rfl) (pa_cons (h a oe C d pn hz) pa_nil hs) (by decide) (by decide) hs hpl) fun σ H Q ⟨W,fs,f,at_,hm,q⟩=>by
    unfold W06 at hm
    cases z:m C fs with
    | none=>rw [z] at hm; cases hm
    | some g =>
      rw [z] at hm
      cases g with
      | tup ds =>
        cases hm
        refine ⟨W,fs,_,at_,z,fun H1 v k av=>?_⟩
        cases av with
        | tup r hs=>exact .inl (.inl ⟨_,_,rfl, .inr r.sq,by rw [← hs.length]; exact q H1 _ k (.int _)⟩)
      | _=>cases hm
theorem W0l {y:Str} {vs:List Str} (hg:Gl X y) (h:X.mg y=some (.ref (He.ga X.K y))) (hv:Z9i y vs X.K=true) (hz:(vs.all fun z=>PyData.strOk z)=true:=by decide +kernel) (hd:(y == ("__debug__" : Str))=false:=by decide):SE lv X i (.Name y np) (x_c (.tup (vs.map D.str))):=by
  obtain ⟨u,av,r⟩:=X6i hv hz
  exact W7e (fun a oe pn=>pe_glob (X:=X.suite a ((a,oe) :: pn)) hg h r hd) av
end
def Y9s (tab:List (Str × Bool)) (mb:MS) (i:Nat) (C2 p:Str) (m:Ev→SX):MS:=fun e S=>match mb e S with
  | .err C fs e1 S1=>(match tab.lookup C with
    | some true=>(match m (e1.set i none) C fs with
      | some f=>if i < e1.length then .err C2 [(p,f)] (e1.set i none) S1 else .bad
      | none => .bad)
    | some false => .err C fs e1 S1
    | none => .bad)
  | r=>r
section
variable {X:Cx} {Wx:WX} {k i:Nat} {n x y:Str} {c:Value} {body:List Stmt} {np np2 yp rpos pos pos2 pos3:Pos} {ex:Expr} {mb:MS} {m:Ev→SX} {tab:List (Str × Bool)} {C2 p:Str} {fI:Addr}
theorem X24 (h:Here X Wx k) (hs:X.stack=X.env :: X.outer) (hf:X.env.frame=some X.env.locals) (hN:X.N.Nodup) (hi:X.N[i]?=some n) (hln:X.env.kindOf n=some .local) (hc:Names X x c) (ht:X4m X.K c tab) (hrs:∀ C,tab.lookup C=some true→Raises X (.ref (He.ga X.K C)))
    (hpa:∀ hd:Option Value,PassesOwnAt (model X.prog X.w) (X.A.mark hd) X.A X.env X.xe) (hb:∀ (W:WX) (pn:List (Addr × Obj)) (xe:Value→Shared→Prop),Here (X.tr pn xe) W k→MPs (X.tr pn xe) W body mb)
    (T:Xe.ErrOk X.prog X.K (He.ga X.K C2) fI p) (gC:X.mg y=some (.ref (He.ga X.K C2))) (hg:Gl X y) (hse:∀ lv,SE lv X i ex (m lv)) (hk:1 ≤ k:=by decide) (hdn:(n == ("__debug__" : Str))=false:=by decide) (hdb:(y == ("__debug__" : Str))=false:=by decide)
    (he:starEach (ex :: []) X.env=(false,eval ex X.env) :: starEach [] X.env:=by rfl) (hpl:(backTo rpos (starEach [] X.env)).any (·.1)=false:=by rfl) :
    MP X Wx (.Try body [.ExceptHandler (some (.Name x np)) (some n) [.Raise (some (.Call (.Name y yp) [ex] [] rpos)) (some (.Name n np2)) pos2] pos3] [] [] pos) (Y9s tab mb i C2 p m):=by
  let ts:Addr→Value→Option Addr→TS:=fun a cls d D σ H=>∃ (C:Str) (lv:Ev),cls = .ref (He.ga X.K C)∧Raises X cls∧σ[i]?=some (some (.ref a))∧Xe.tMkS (He.ga X.K C2) p (tCons (tSE lv X.K i a C d (m lv)) tNil) σ H fun cls' d' H'=>Wx cls' d' (σ.set i none) H'
  have hsu:∀ (a:Addr) (oe:Obj) (cls:Value) (d:Option Addr) (pn:List (Addr × Obj)) (xe:Value→Shared→Prop),Zc cls d oe→(∃ vs,oe.data = .fields vs)→Xq.Hot (Xq.suiteQ X a ((a,oe) :: pn) xe) a cls →
      Xq.Tk (Xq.suiteQ X a ((a,oe) :: pn) xe) (fun cls d σ H=>Wx cls d (σ.set i none) H)→PSs (Xq.suiteQ X a ((a,oe) :: pn) xe) [.Raise (some (.Call (.Name y yp) [ex] [] rpos)) (some (.Name n np2)) pos2] (ts a cls d):=fun a oe cls d pn xe hz hd hot tkS =>
    ⟨fun pins s σ H D I ⟨C,lv,ec,rz,hi2,q⟩=>by
      subst ec
      have hr:(Xq.suiteQ X a ((a,oe) :: pn) xe).A.depth + 1 < recursionLimit:=by have:=h.room.dp; show X.A.depth + 1 < _; omega
      have pa:PA (Xq.suiteQ X a ((a,oe) :: pn) xe) [ex] (tCons (tSE lv X.K i a C d (m lv)) tNil):=Xq.pa_suiteQ (pa_cons (X:=X.suite a ((a,oe) :: pn)) (hse lv a oe C d pn ⟨hz,hd⟩) pa_nil he)
      have mk:=Xe.pmk_sup (X:=Xq.suiteQ X a ((a,oe) :: pn) xe) (np:=yp) (pos:=rpos) T gC hr pa hg hdb he hpl
      exact (pss_one (Xq.ps_raiseQF (X:=Xq.suiteQ X a ((a,oe) :: pn) xe) hot rz tkS mk hi hln hdn)).run pins s σ H D I ⟨hi2,q⟩⟩
  refine PS.of (Xq.ps_try_asQ (tb:=fun W=>RS X.K W mb) hs hf hN hi hln hc hpa h.tk (fun W pn xe tk po=>hb W pn xe (h.tr tk)) hsu) fun D σ H ⟨Z,ρ,e,S,st,ev,q0⟩=>?_
  refine ⟨Z,ρ,e,S,st,ev,?_⟩
  unfold Y9s at q0
  cases q:mb e S with
  | bad=>rw [q] at q0; exact q0
  | go o S'=>rw [q] at q0; cases o <;> exact q0
  | err C fs e1 S1 =>
    rw [q] at q0
    intro ρ' H' σ' d s1 g1 ev1 er
    have q0:Z1n X.K Z ρ H Wx D (match tab.lookup C with
      | some true=>(match m (e1.set i none) C fs with
        | some f=>if i < e1.length then .err C2 [(p,f)] (e1.set i none) S1 else .bad
        | none => .bad)
      | some false => .err C fs e1 S1
      | none => .bad):=q0
    cases z:tab.lookup C with
    | none=>rw [z] at q0; exact q0.elim
    | some b =>
      rw [z] at q0
      refine ⟨b,ht C b z,fun hb1 a na=>?_,fun hb1=>?_⟩
      · subst hb1
        have q0:Z1n X.K Z ρ H Wx D (match m (e1.set i none) C fs with
          | some f=>if i < e1.length then .err C2 [(p,f)] (e1.set i none) S1 else .bad
          | none => .bad):=q0
        cases w:m (e1.set i none) C fs with
        | none=>rw [w] at q0; exact q0.elim
        | some f =>
          rw [w] at q0
          have q0:Z1n X.K Z ρ H Wx D (if i < e1.length then .err C2 [(p,f)] (e1.set i none) S1 else .bad):=q0
          by_cases il0:i < e1.length
          case neg=>rw [if_neg il0] at q0; exact q0.elim
          rw [if_pos il0] at q0
          have il:i < σ'.length:=by rw [← ev1.len]; exact il0
          have er2:X1a X.K (Wn Z ρ') H' fs d:=by
            rcases er with er | ⟨dd,vs,h1,_,_,h4,h5⟩
            · exact .inl er
            · exact .inr ⟨dd,vs,h1,h4,h5⟩
          have loc:∀ (j:Nat) (v:Bv.D),(e1.set i none)[j]?=some (some (.d v))→∃ u,(σ'.set i (some (.ref a)))[j]?=some (some u)∧AV X.K (Wn Z ρ') H' v u:=fun j v e=>by
            by_cases hj:i=j
            · subst hj
              rw [List.getElem?_set_self il0] at e
              cases e
            · rw [List.getElem?_set_ne hj] at e ⊢
              obtain ⟨u,e2,av⟩:=ev1.at_ j _ e
              cases av with
              | d av=>exact ⟨u,e2,av⟩
          refine ⟨C,e1.set i none,rfl,hrs C z,by rw [List.getElem?_set_self il],Wn Z ρ',fs,f,⟨fun b hb=>s1.thereW hb,by rw [List.getElem?_set_self il],er2,loc⟩,w,fun H2 v k2 av=>⟨v,rfl,fun dd hd=>?_⟩⟩
          have s2:=s1.grow k2
          have g2:=g1.trans (Go.grow k2)
          have kp:=V9 (o := .xd [(p,v)]) hd
          have mv:=(Go.grow (ρ:=ρ') kp).mv s2
          have hn:H dd=none:=by
            cases y:H dd with
            | none=>rfl
            | some o =>
              obtain ⟨u,y2⟩:=Y4o g2 s2 dd o y
              rw [hd] at y2; cases y2
          rw [List.set_set]
          exact q0 ρ' _ _ (some dd) (s2.grow kp) (g2.trans (Go.grow kp)) (((ev1.unset).mv (Z26 k2) (List.prefix_refl _)).mv mv (List.prefix_refl _)) (.inr ⟨dd,_,rfl,hn,s2.fresh hd,upd_same, .cons (av.mv mv) .nil⟩)
      · subst hb1
        exact q0 ρ' H' σ' d s1 g1 ev1 er
end
end Bv
namespace Bv
open PySem PySem.Spec L2
open PyProof.Rows hiding St
section
open PySem.W PySem.Calls
theorem X53 {r:PySem.W.OpenRow} {q:Program} {H:PySem.W.Hook} {ob:PySem.W.SharedT→H.α} {M:Nat} {loose:List PySem.Str} {w:World}
    (h1:∀ os:OsState,(HandSHeadRun.endF (HandSHeadRun.stepQ (HandSHeadRun.denQ HandSHeadRun.tabQ) r.prog w) M r.prog w os).map (fun s=>HandSHeadRun.looksF r.prog (boot_heap w.params) s.abs)=some true)
    (h2:∀ os:OsState,(HandSHeadRun.endF (HandSHeadRun.stepQ (HandSHeadRun.denQ HandSHeadRun.tabQ) r.prog w) M r.prog w os).map (fun s=>HandSHeadRun.seenQ q loose (importedModules r.prog.main.body) (fun s=>xlAt q [] s && recOk r.toRowW.records s) s.abs)=some (openGood q loose))
    (h3:∀ os:OsState,(HandSHeadRun.endF (HandSHeadRun.stepQ (HandSHeadRun.denQ HandSHeadRun.tabQ) r.prog w) M r.prog w os).map ob=some (H.val w)):HandSHeadRun.RunEq r q H ob M loose w:=fun os=>by
  have g1:=h1 os
  have g2:=h2 os
  have g3:=h3 os
  cases e:HandSHeadRun.endF (HandSHeadRun.stepQ (HandSHeadRun.denQ HandSHeadRun.tabQ) r.prog w) M r.prog w os with
  | none=>rw [e] at g1; cases g1
  | some s =>
    rw [e,Option.map_some] at g1 g2 g3
    rw [Option.map_some]
    injection g1 with g1
    injection g2 with g2
    injection g3 with g3
    rw [g1,g2,g3]
end
theorem X9y {ts1 ts2:List (PySem.W.Frag→Bool)} {ds1 ds2:List DefB} {xs:List ErrB} {K:PySem.W.Frag} (h1:W1e ts1 ds1 [] K=X09 ds1 []) (h2:W1e ts2 ds2 xs K=X09 ds2 xs):W1e (ts1++ts2) (ds1++ds2) xs K=X09 (ds1++ds2) xs:=by
  unfold W1e X09 at *
  simp only [Prod.mk.injEq] at h1 h2 ⊢
  obtain ⟨a1,b1⟩:=h1
  obtain ⟨a2,b2⟩:=h2
  rw [Bool.and_eq_true] at a1 a2
  refine ⟨?_,?_⟩
  · rw [List.all_append,List.all_append,a1.1,a1.2,a2.1,a2.2]
    rfl
  · rw [List.map_nil,List.map_nil,List.append_nil,List.append_nil] at b1
    rw [List.map_append,List.map_append,List.append_assoc,List.append_assoc,b2,b1]
end Bv
namespace Bv
open PySem PySem.Spec L2
open PyProof.Rows hiding St
def W7d (n:Nat):List Addr:=mainGlobals :: (List.range n).reverse
def Y33 (n:Nat) (ts:List (PySem.W.Frag→Bool)) (ds:List DefB) (xs:List ErrB) (g:Addr→Option Obj):AlB:=W1e ts ds xs (He.frG g (W7d n))
def W2e (n:Nat) (ts:List (PySem.W.Frag→Bool)) (ds:List DefB) (xs:List ErrB):PySem.W.Hook where
  α:=AlB
  obs:=fun s=>Y33 n ts ds xs s.heap.get?
  val:=fun _=>X09 ds xs
  says:=fun _ h=>∃ K:PySem.W.Frag,K.In h∧Y96 ts ds xs K
  of:=fun _ _ e=>⟨_,He.frG_in,e⟩
  keeps:=fun _ _ _ ⟨K,i,c⟩ k=>⟨K,PySem.W.Frag.In.keeps i k,c⟩
theorem X5o {n:Nat} {ts:List (PySem.W.Frag→Bool)} {ds:List DefB} {xs:List ErrB} {g:Addr→Option Obj} {s:Shared} (h:∀ a,g a=s.heap.get? a):Y33 n ts ds xs g=(W2e n ts ds xs).obs s:=by
  rw [show g=s.heap.get? from funext h]
  rfl
theorem Y5s {o:Option PySem.W.SharedT} {n a p:Nat} {ts:List (PySem.W.Frag→Bool)} {ds:List DefB} {xs:List ErrB}
    (h1:o.map (fun s=>Y33 n (ts.take a) (ds.take p) [] (HandSHeadRun.getT s))=some (X09 (ds.take p) []))
    (h2:o.map (fun s=>Y33 n (ts.drop a) (ds.drop p) xs (HandSHeadRun.getT s))=some (X09 (ds.drop p) xs)):o.map (fun s=>Y33 n ts ds xs (HandSHeadRun.getT s))=some (X09 ds xs):=by
  cases o with
  | none=>cases h1
  | some s =>
    rw [Option.map_some] at h1 h2 ⊢
    injection h1 with h1
    injection h2 with h2
    have:=X9y (K:=He.frG (HandSHeadRun.getT s) (W7d n)) h1 h2
    rw [List.take_append_drop,List.take_append_drop] at this
    exact congrArg some this
end Bv
set_option maxHeartbeats 0
namespace Lw
open PySem PySem.Spec L2 Bv
open PyProof.Rows hiding St
def top (i:Nat):Stmt:=PySem.Challenge.pw_wordingkept_k21_stories_known.main.body.getD i (.Pass ⟨0,0,0,0⟩)
abbrev Z2r:Stmt:=top 17
abbrev Z19:Stmt:=top 47
abbrev Z3b:Stmt:=top 21
abbrev Z2m:Stmt:=inClass (top 43) 0
abbrev Z2n:Stmt:=inClass (top 43) 1
abbrev Z00:Stmt:=top 19
abbrev Z1g:Stmt:=top 20
abbrev Z1f:Stmt:=top 46
abbrev Q7:Stmt:=inClass (top 48) 0
abbrev Z1x:Stmt:=inClass (top 48) 1
abbrev Z1y:Stmt:=top 50
abbrev Z0x:Stmt:=top 51
abbrev Z1d:Stmt:=top 54
abbrev Z1w:Stmt:=inClass (top 34) 0
abbrev Z1b:Stmt:=inClass (top 33) 0
abbrev Z1a:Stmt:=inClass (top 34) 1
abbrev Z2l:Stmt:=inClass (top 43) 2
abbrev Z0p:Stmt:=inClass (top 48) 3
abbrev Z0o:Stmt:=inClass (top 48) 4
abbrev Z2k:Stmt:=inClass (top 34) 2
abbrev Z0w:Stmt:=inClass (top 34) 3
abbrev U2:Stmt:=inClass (top 34) 4
abbrev Z1v:Stmt:=inClass (top 34) 6
abbrev Z0k:Stmt:=inClass (top 34) 5
abbrev Z3a:Stmt:=inClass (top 34) 7
abbrev Z2q:Stmt:=top 37
abbrev Z1c:Stmt:=inClass (top 33) 1
abbrev Z12:Stmt:=top 36
abbrev Z2o:Stmt:=top 35
abbrev Z1z:Stmt:=top 38
abbrev Z0f:Stmt:=inClass (top 34) 8
abbrev U8:Stmt:=inClass (top 39) 0
abbrev Z4n:Stmt:=top 40
abbrev Z1h:Stmt:=top 22
abbrev Z3i:Stmt:=top 18
abbrev Z2p:Stmt:=top 24
abbrev Z11:Stmt:=top 25
abbrev Z2t:Stmt:=top 26
abbrev Z2s:Stmt:=top 27
abbrev Z0z:Stmt:=top 28
abbrev Z0n:Stmt:=top 31
abbrev Z1e:Stmt:=top 30
abbrev Z0u:Stmt:=inClass (top 29) 0
abbrev Z6w:Stmt:=top 55
def Z4b:ErrB:=⟨"InvalidText", "InvalidText.__init__", "at",inClass (top 5) 0⟩
theorem Y1v:W1k Z4b.st Z4b.par:=⟨_,_,_,_,_,_,_,_,_,_,_,_,rfl,rfl,rfl,fun _=>⟨_,rfl⟩⟩
def Z4z:ErrB:=⟨"InvalidRow", "InvalidRow.__init__", "word",inClass (top 3) 0⟩
theorem Y3h:W1k Z4z.st Z4z.par:=⟨_,_,_,_,_,_,_,_,_,_,_,_,rfl,rfl,rfl,fun _=>⟨_,rfl⟩⟩
def Z4c:ErrB:=⟨"InvalidTool", "InvalidTool.__init__", "word",inClass (top 4) 0⟩
theorem Y1w:W1k Z4c.st Z4c.par:=⟨_,_,_,_,_,_,_,_,_,_,_,_,rfl,rfl,rfl,fun _=>⟨_,rfl⟩⟩
def Z3t:ErrB:=⟨"InvalidEvent", "InvalidEvent.__init__", "at",inClass (top 6) 0⟩
theorem Y05:W1k Z3t.st Z3t.par:=⟨_,_,_,_,_,_,_,_,_,_,_,_,rfl,rfl,rfl,fun _=>⟨_,rfl⟩⟩
def xsL:List ErrB:=[Z4b,Z4z,Z4c,Z3t]
def Y46:DefB:=⟨fun K=>He.ga K "is_name", "is_name", "is_name",defArgs Z2r,defBody Z2r,defScope Z2r,[]⟩
def Z78:DefB:=⟨fun K=>He.ga K "is_sequence", "is_sequence", "is_sequence",defArgs Z00,defBody Z00,defScope Z00,[]⟩
def Z9t:DefB:=⟨fun K=>He.ga K "are_unlike", "are_unlike", "are_unlike",defArgs Z1g,defBody Z1g,defScope Z1g,[]⟩
def Y47:DefB:=⟨fun K=>He.ga K "is_word", "is_word", "is_word",defArgs Z3b,defBody Z3b,defScope Z3b,[]⟩
def Y0z:DefB:=⟨fun K=>He.ga K "number_in", "number_in", "number_in",defArgs Z1h,defBody Z1h,defScope Z1h,[]⟩
def Y48:DefB:=⟨fun K=>He.ga K "keys_of", "keys_of", "keys_of",defArgs Z2s,defBody Z2s,defScope Z2s,[]⟩
def Z9q:DefB:=⟨fun K=>He.ma K (He.ga K "Entry") "__init__", "__init__", "Entry.__init__",defArgs Z1b,defBody Z1b,defScope Z1b,[]⟩
def Z9r:DefB:=⟨fun K=>He.ma K (He.ga K "Entry") "told", "told", "Entry.told",defArgs Z1c,defBody Z1c,defScope Z1c,[]⟩
def Y0t:DefB:=⟨fun K=>He.ma K (He.ga K "Book") "__init__", "__init__", "Book.__init__",defArgs Z1w,defBody Z1w,defScope Z1w,[]⟩
def Z59:DefB:=⟨fun K=>He.ma K (He.ga K "Book") "source_of", "source_of", "Book.source_of",defArgs U2,defBody U2,defScope U2,[]⟩
def Y2i:DefB:=⟨fun K=>He.ma K (He.ga K "Row") "fits", "fits", "Row.fits",defArgs Z2l,defBody Z2l,defScope Z2l,[]⟩
def Y0v:DefB:=⟨fun K=>He.ga K "_law_seed", "_law_seed", "_law_seed",defArgs Z1y,defBody Z1y,defScope Z1y,[]⟩
def Z76:DefB:=⟨fun K=>He.ga K "_law_choose", "_law_choose", "_law_choose",defArgs Z0x,defBody Z0x,defScope Z0x,[]⟩
def Z9s:DefB:=⟨fun K=>He.ga K "_law_cases", "_law_cases", "_law_cases",defArgs Z1d,defBody Z1d,defScope Z1d,[]⟩
def Y8t:DefB:=⟨fun K=>He.ga K "is_key", "is_key", "is_key",defArgs Z3i,defBody Z3i,defScope Z3i,[]⟩
def Z77:DefB:=⟨fun K=>He.ga K "is_possible", "is_possible", "is_possible",defArgs Z0z,defBody Z0z,defScope Z0z,[]⟩
def Y2m:DefB:=⟨fun K=>He.ga K "needs_of", "needs_of", "needs_of",defArgs Z0n,defBody Z0n,defScope Z0n,[]⟩
def Z8u:DefB:=⟨fun K=>He.ma K (He.ga K "Row") "__init__", "__init__", "Row.__init__",defArgs Z2m,defBody Z2m,defScope Z2m,[.bl true]⟩
def Y0x:DefB:=⟨fun K=>He.ga K "are_names", "are_names", "are_names",defArgs Z1f,defBody Z1f,defScope Z1f,[]⟩
def Y2l:DefB:=⟨fun K=>He.ga K "names_in", "names_in", "names_in",defArgs Z19,defBody Z19,defScope Z19,[]⟩
def Z68:DefB:=⟨fun K=>He.ma K (He.ga K "Tool") "row_for", "row_for", "Tool.row_for",defArgs Z0p,defBody Z0p,defScope Z0p,[]⟩
def Y2n:DefB:=⟨fun K=>He.ga K "place_in", "place_in", "place_in",defArgs Z2p,defBody Z2p,defScope Z2p,[]⟩
def Y0w:DefB:=⟨fun K=>He.ga K "all_needs", "all_needs", "all_needs",defArgs Z1e,defBody Z1e,defScope Z1e,[]⟩
def Z9p:DefB:=⟨fun K=>He.ma K (He.ga K "Book") "entry", "entry", "Book.entry",defArgs Z1a,defBody Z1a,defScope Z1a,[]⟩
def Y2h:DefB:=⟨fun K=>He.ma K (He.ga K "Book") "put", "put", "Book.put",defArgs Z2k,defBody Z2k,defScope Z2k,[]⟩
def Z7o:DefB:=⟨fun K=>He.ma K (He.ga K "Tool") "__init__", "__init__", "Tool.__init__",defArgs Q7,defBody Q7,defScope Q7,[.adr (He.dflAt ("Tool",some "__init__") 0)]⟩
def Z67:DefB:=⟨fun K=>He.ma K (He.ga K "Tool") "becomes", "becomes", "Tool.becomes",defArgs Z0o,defBody Z0o,defScope Z0o,[]⟩
def Y00:DefB:=⟨fun K=>He.ga K "places_in", "places_in", "places_in",defArgs Z11,defBody Z11,defScope Z11,[]⟩
def Z35:DefB:=⟨fun K=>He.ma K (He.ga K "Book") "happen", "happen", "Book.happen",defArgs Z0w,defBody Z0w,defScope Z0w,[.non]⟩
def Z58:DefB:=⟨fun K=>He.ma K (He.ga K "Book") "shows_for", "shows_for", "Book.shows_for",defArgs Z0f,defBody Z0f,defScope Z0f,[]⟩
def Y01:DefB:=⟨fun K=>He.ga K "ways_from", "ways_from", "ways_from",defArgs Z12,defBody Z12,defScope Z12,[]⟩
def Y45:DefB:=⟨fun K=>He.ga K "is_lost", "is_lost", "is_lost",defArgs Z2q,defBody Z2q,defScope Z2q,[]⟩
def Y2j:DefB:=⟨fun K=>X4y "Row" "read" K, "read", "Row.read",defArgs Z2n,defBody Z2n,defScope Z2n,[]⟩
def Y49:DefB:=⟨fun K=>He.ga K "move_in", "move_in", "move_in",defArgs Z2t,defBody Z2t,defScope Z2t,[]⟩
def Y0r:DefB:=⟨fun K=>He.ma K (He.ga K "Book") "come", "come", "Book.come",defArgs Z1v,defBody Z1v,defScope Z1v,[]⟩
def Y2k:DefB:=⟨fun K=>He.ga K "is_stuck", "is_stuck", "is_stuck",defArgs Z2o,defBody Z2o,defScope Z2o,[]⟩
def Z75:DefB:=⟨fun K=>He.ma K (He.ga K "Played") "__init__", "__init__", "Played.__init__",defArgs U8,defBody U8,defScope U8,[]⟩
def Y0u:DefB:=⟨fun K=>X4y "Tool" "read" K, "read", "Tool.read",defArgs Z1x,defBody Z1x,defScope Z1x,[]⟩
def Z6l:DefB:=⟨fun K=>He.ma K (He.ga K "Story") "__init__", "__init__", "Story.__init__",defArgs Z0u,defBody Z0u,defScope Z0u,[.adr (He.dflAt ("Story",some "__init__") 0)]⟩
def Y0s:DefB:=⟨fun K=>He.ma K (He.ga K "Book") "edit", "edit", "Book.edit",defArgs Z0k,defBody Z0k,defScope Z0k,[]⟩
def Y0y:DefB:=⟨fun K=>He.ga K "faults_of", "faults_of", "faults_of",defArgs Z1z,defBody Z1z,defScope Z1z,[]⟩
def Y44:DefB:=⟨fun K=>He.ma K (He.ga K "Book") "do", "do", "Book.do",defArgs Z3a,defBody Z3a,defScope Z3a,[]⟩
def X6k:DefB:=⟨fun K=>He.ga K "play", "play", "play",defArgs Z4n,defBody Z4n,defScope Z4n,[]⟩
def W13:DefB:=⟨fun K=>He.ga K "law", "law", "law",defArgs Z6w,defBody Z6w,defScope Z6w,[]⟩
def dsL:List DefB:=[Y46,Z78,Z9t,Y47,Y0z,Y48,Z9q,Z9r,Y0t,Z59,Y2i,Y0v,Z76,Z9s,Y8t,Z77,Y2m,Z8u,Y0x,Y2l,Z68,Y2n,Y0w,Z9p,Y2h,Z7o,Z67,Y00,Z35,Z58,Y01,Y45,Y2j,Y49,Y0r,Y2k,Z75,Y0u,Z6l,Y0s,Y0y,Y44,X6k,W13]
def tsL:List (PySem.W.Frag→Bool):=[Z9i "HEADS" ["marks", "shown", "asked"],
  Z1r "HEADS",
  Z3l "enumerate",
  Z3l "len",
  Z1r "InvalidText",
  Z3l "isinstance",
  X6d (fun K=>(.type "str")) (Y1q "str") [("Row",false),("Tool",false),("Story",false)],
  Z3l "str",
  Z9i "BARRED" ["any", "same", "take", "keep", "to"],
  Z1r "BARRED",
  W31 "MOST_LETTERS" 5,
  W0y "LETTERS" "abcdefghijklmnopqrstuvwxyz",
  Z3l "all",
  Z1r "is_name",
  Z1r "names_in",
  Y8d "InvalidText" [("InvalidRow",false),("InvalidTool",false),("InvalidText",true),("InvalidEvent",false)],
  W6j [("InvalidRow",false),("InvalidTool",false),("InvalidText",true),("InvalidEvent",false)],
  Z9i "TAKINGS" ["keep", "take"],
  Z1r "TAKINGS",
  Y8d "InvalidRow" [("InvalidRow",true),("InvalidTool",false),("InvalidText",false),("InvalidEvent",false)],
  W6j [("InvalidRow",true),("InvalidTool",false),("InvalidText",false),("InvalidEvent",false)],
  Z9i "HAPPENINGS" ["give", "carry", "drop", "back", "right", "wrong"],
  Z1r "HAPPENINGS",
  Z1r "is_word",
  Z1r "InvalidRow",
  X6d (fun K=>(.type "bool")) (Y1q "bool") [("Row",false),("Tool",false),("Story",false)],
  Z3l "bool",
  Z14 ["Row"] "word",
  Z14 ["Row"] "old",
  Z14 ["Row"] "then",
  Z14 ["Row"] "take",
  Y8e "Row",
  Z1r "Row",
  W6i "Row" "read",
  X7k [.type "list", .type "tuple"] (X37 ["list", "tuple"]) [("Row",false),("Tool",false),("Story",false)],
  Z3l "list",
  Z3l "tuple",
  Z1r "is_sequence",
  Z3l "set",
  Z1r "are_unlike",
  Z1r "are_names",
  Z1r "InvalidTool",
  X6d (fun K=>(.ref (He.ga K "Row"))) Y8f [("Row",true),("Tool",false),("Story",false)],
  Z3l "any",
  Z14 ["Tool"] "marks",
  Z14 ["Tool"] "shown",
  Z14 ["Tool"] "asked",
  Z14 ["Tool"] "rows",
  Z14 ["Tool"] "blank",
  Y8e "Tool",
  Z1r "Tool",
  W6i "Tool" "read",
  Z3l "min",
  Z3l "max",
  Z3l "range",
  Z3l "abs",
  Z3l "int",
  Z1r "_law_seed",
  Z1r "_law_choose",
  Z1r "_law_cases",
  Z14 ["Book"] "maker",
  Z14 ["Book"] "entries",
  Z14 ["Book"] "editions",
  Z14 ["Book"] "held",
  Y8e "Book",
  Z1r "Book",
  Z14 ["Story"] "moves",
  Z3l "dict",
  Z14 ["Entry"] "mark",
  Z14 ["Entry"] "text",
  Y8e "Entry",
  Z1r "Entry",
  X35 "Book",
  Z6b "Book" "entry",
  X35 "Row",
  Z6b "Row" "fits",
  X35 "Tool",
  Z6b "Tool" "row_for",
  Z6b "Tool" "becomes",
  Z6b "Book" "put",
  Z6b "Book" "happen",
  Z6b "Book" "source_of",
  Z6b "Book" "come",
  Z14 ["Story", "Book"] "editions",
  Z6b "Book" "edit",
  Z6b "Book" "do",
  Z1r "is_lost",
  X35 "Entry",
  Z6b "Entry" "told",
  Z1r "ways_from",
  Z1r "is_stuck",
  Z1r "faults_of",
  Z9i "FAULTS" ["again", "fallen", "lost", "strange", "stuck", "vain"],
  Z1r "FAULTS",
  Z3l "sorted",
  Z14 ["Played"] "book",
  Z6b "Book" "shows_for",
  Z14 ["Played"] "shows",
  Z14 ["Played"] "asks",
  Z14 ["Played"] "now",
  Z14 ["Played"] "met",
  Y8e "Played",
  Z1r "Played",
  Z1r "InvalidEvent",
  W0y "DIGITS" "0123456789",
  Z1r "number_in",
  Z1r "is_key",
  Z1r "place_in",
  Z1r "places_in",
  Z1r "move_in",
  Z1r "keys_of",
  Z1r "is_possible",
  Z14 ["Story"] "events",
  Z14 ["Story"] "editions",
  Z1r "needs_of",
  Z1r "all_needs",
  Z14 ["Story"] "asked_for",
  Y8e "Story",
  Z1r "Story",
  Z1r "play",
  Z1r "law",
  X7j ("Story",some "__init__") 0,
  X7j ("Tool",some "__init__") 0,
  Y6w "InvalidText" "at" .ve,
  Y6x "InvalidText" .ve,
  Y27 "InvalidText" "InvalidText.__init__" (PySem.Challenge.pw_wordingkept_k21_stories_known.main.file),
  Y6w "InvalidRow" "word" .ve,
  Y6x "InvalidRow" .ve,
  Y27 "InvalidRow" "InvalidRow.__init__" (PySem.Challenge.pw_wordingkept_k21_stories_known.main.file),
  Y6w "InvalidTool" "word" .ve,
  Y6x "InvalidTool" .ve,
  Y27 "InvalidTool" "InvalidTool.__init__" (PySem.Challenge.pw_wordingkept_k21_stories_known.main.file),
  Y6w "InvalidEvent" "at" .ve,
  Y6x "InvalidEvent" .ve,
  Y27 "InvalidEvent" "InvalidEvent.__init__" (PySem.Challenge.pw_wordingkept_k21_stories_known.main.file)]
def W2n:List PySem.Str:=["_wall", "WordError", "InvalidRow", "InvalidTool", "InvalidText", "InvalidEvent", "NoRow", "NoMark", "HAPPENINGS", "FAULTS", "BARRED", "LETTERS", "DIGITS", "MOST_LETTERS", "is_integer", "is_name", "is_key", "is_sequence", "are_unlike", "is_word", "number_in", "place_in", "places_in", "move_in", "keys_of", "is_possible", "Story", "all_needs", "needs_of", "Entry"]
def W2o:List PySem.Str:=["Book", "is_stuck", "ways_from", "is_lost", "faults_of", "Played", "play", "TAKINGS", "Row", "HEADS", "are_names", "names_in", "Tool", "_law_seed", "_law_choose", "_law_one_of", "_law_mixed", "_law_cases"]
def looseL:List PySem.Str:=W2n++W2o
abbrev Rw:PySem.W.OpenRow:=PySem.W.OpenLaw.row PySem.Challenge.rw_wordingkept_k21_stories_known
abbrev Vw:Program:=PySem.W.view Rw.prog [55]
abbrev hkL:PySem.W.Hook:=W2e 1500 tsL dsL xsL
def obL (s:PySem.W.SharedT):AlB:=Y33 1500 tsL dsL xsL (HandSHeadRun.getT s)
theorem obL_eq (s:PySem.W.SharedT):obL s=hkL.obs s.abs:=X5o (HandSHeadRun.getT_eq s)
section
open PySem.W PySem.Calls
theorem W55 (w:World) (os:OsState):(HandSHeadRun.endF (HandSHeadRun.stepQ (HandSHeadRun.denQ HandSHeadRun.tabQ) Rw.prog w) 60000 Rw.prog w os).map (fun s=>HandSHeadRun.looksF Rw.prog (boot_heap w.params) s.abs)=some true:=by kernel_rfl
theorem W56 (w:World) (os:OsState):(HandSHeadRun.endF (HandSHeadRun.stepQ (HandSHeadRun.denQ HandSHeadRun.tabQ) Rw.prog w) 60000 Rw.prog w os).map (fun s=>HandSHeadRun.seenQ Vw looseL (importedModules Rw.prog.main.body) (fun s=>xlAt Vw [] s && recOk Rw.toRowW.records s) s.abs)=some (openGood Vw looseL):=by kernel_rfl
theorem W57 (w:World) (os:OsState):(HandSHeadRun.endF (HandSHeadRun.stepQ (HandSHeadRun.denQ HandSHeadRun.tabQ) Rw.prog w) 60000 Rw.prog w os).map (fun s=>Y33 1500 (tsL.take 45) (dsL.take 15) [] (HandSHeadRun.getT s))=some (X09 (dsL.take 15) []):=by kernel_rfl
theorem W58 (w:World) (os:OsState):(HandSHeadRun.endF (HandSHeadRun.stepQ (HandSHeadRun.denQ HandSHeadRun.tabQ) Rw.prog w) 60000 Rw.prog w os).map (fun s=>Y33 1500 ((tsL.drop 45).take 45) ((dsL.drop 15).take 15) [] (HandSHeadRun.getT s))=some (X09 ((dsL.drop 15).take 15) []):=by kernel_rfl
theorem W59 (w:World) (os:OsState):(HandSHeadRun.endF (HandSHeadRun.stepQ (HandSHeadRun.denQ HandSHeadRun.tabQ) Rw.prog w) 60000 Rw.prog w os).map (fun s=>Y33 1500 ((tsL.drop 45).drop 45) ((dsL.drop 15).drop 15) xsL (HandSHeadRun.getT s))=some (X09 ((dsL.drop 15).drop 15) xsL):=by kernel_rfl
theorem runL (w:World):HandSHeadRun.RunEq Rw Vw hkL obL 60000 looseL w:=X53 (W55 w) (W56 w) fun os=>Y5s (W57 w os) (Y5s (W58 w os) (W59 w os))
end
end Lw
set_option maxHeartbeats 4000000
namespace Bv
open PySem PySem.Spec L2
open PyProof.Rows hiding St
variable [HasW]
section
variable {α:Type}
def Z25 (kvs:List (D × α)) (k:D):Option α:=(kvs.find? fun p=>decide (p.1=k)).map (·.2)
def Z98 (kvs:List (D × α)) (k:D) (v:α):List (D × α):=if (kvs.any fun p=>decide (p.1=k))=true then kvs.map (fun p=>if p.1=k then (p.1,v) else p) else kvs++[(k,v)]
abbrev KVR (R:α→V→Prop):List (D × α)→List (Key × V)→Prop:=Paired fun p q=>p.1.key?=some q.1∧R p.2 q.2
theorem key_inj {k k2:D} {q:Key} (h:k.key?=some q) (h2:k2.key?=some q):k=k2:=by
  cases k with
  | int i=>cases h; cases k2 with
    | int j=>cases h2; rfl
    | _=>cases h2
  | str x=>cases h; cases k2 with
    | str y=>cases h2; rfl
    | _=>cases h2
  | _=>cases h
theorem Y7f {k k2:D} {q q2:Key} (h:k.key?=some q) (h2:k2.key?=some q2):decide (k=k2)=decide (q=q2):=by
  by_cases e:k=k2
  · subst e
    rw [h] at h2; cases h2
    rw [decide_eq_true rfl,decide_eq_true rfl]
  · have ne:¬ q=q2:=fun z=>e (key_inj (z ▸ h) h2)
    rw [decide_eq_false e,decide_eq_false ne]
theorem KVR.look {R:α→V→Prop} {k:D} {q:Key} (hk:k.key?=some q):∀ {kvs:List (D × α)} {ks:List (Key × V)},KVR R kvs ks→(∃ d v,Z25 kvs k=some d∧valV ks q=some v∧R d v) ∨ (Z25 kvs k=none∧valV ks q=none)
  | _,_, .nil => .inr ⟨rfl,rfl⟩
  | (k1,d1) :: r,(q1,v1) :: s, .cons h t=>by
    have e:=Y7f h.1 hk
    unfold Z25 valV
    rw [List.find?_cons,List.find?_cons]
    have e:decide (k1=k)=decide (q1=q):=e
    cases c:decide (q1=q) with
    | true=>rw [c] at e; rw [e]; exact .inl ⟨d1,v1,rfl,rfl,h.2⟩
    | false=>rw [c] at e; rw [e]; exact KVR.look hk t
theorem KVR.any {R:α→V→Prop} {k:D} {q:Key} (hk:k.key?=some q):∀ {kvs:List (D × α)} {ks:List (Key × V)},KVR R kvs ks→(kvs.any fun p=>decide (p.1=k))=(ks.any fun p=>decide (p.1=q))
  | _,_, .nil=>rfl
  | (k1,d1) :: r,(q1,v1) :: s, .cons h t=>by
    rw [List.any_cons,List.any_cons,KVR.any hk t]
    show (decide (k1=k) || _)=(decide (q1=q) || _)
    rw [Y7f h.1 hk]
theorem KVR.setAll {R:α→V→Prop} {k:D} {q:Key} {d:α} {v:V} (hk:k.key?=some q) (hv:R d v):∀ {kvs:List (D × α)} {ks:List (Key × V)},KVR R kvs ks→KVR R (kvs.map fun p=>if p.1=k then (p.1,d) else p) (ks.map fun p=>if p.1=q then (p.1,v) else p)
  | _,_, .nil => .nil
  | (k1,d1) :: r,(q1,v1) :: s, .cons h t=>by
    have e:=Y7f h.1 hk
    refine .cons ?_ (KVR.setAll hk hv t)
    show (if k1=k then (k1,d) else (k1,d1)).1.key?=some (if q1=q then (q1,v) else (q1,v1)).1∧R (if k1=k then (k1,d) else (k1,d1)).2 (if q1=q then (q1,v) else (q1,v1)).2
    by_cases c:q1=q
    · have c2:k1=k:=of_decide_eq_true (by rw [show decide (k1=k)=decide (q1=q) from e]; exact decide_eq_true c)
      rw [if_pos c,if_pos c2]; exact ⟨h.1,hv⟩
    · have c2:¬ k1=k:=of_decide_eq_false (by rw [show decide (k1=k)=decide (q1=q) from e]; exact decide_eq_false c)
      rw [if_neg c,if_neg c2]; exact h
theorem KVR.put {R:α→V→Prop} {k:D} {q:Key} {d:α} {v:V} (hk:k.key?=some q) (hv:R d v) {kvs:List (D × α)} {ks:List (Key × V)} (r:KVR R kvs ks):KVR R (Z98 kvs k d) (putK ks q v):=by
  unfold Z98 putK
  rw [KVR.any hk r]
  split
  · exact KVR.setAll hk hv r
  · exact Paired.append r (.cons ⟨hk,hv⟩ .nil)
end
theorem KVR.avk {K:PySem.W.Frag} {W:Wd} {H:Hp}:∀ {kvs:List (D × D)} {ks:List (Key × V)},KVR (AV K W H) kvs ks→AVk K W H kvs ks
  | _,_, .nil => .nil
  | (_,_) :: _,(_,_) :: _, .cons h t => .cons h.1 h.2 (KVR.avk t)
theorem Y9a {K:PySem.W.Frag} {W:Wd} {H:Hp} {k:D} {v:V} {q:Key} (h:k.key?=some q) (a:AV K W H k v):v=kV q:=by
  cases k with
  | int i=>cases h; cases a; rfl
  | str x=>cases h; cases a; rfl
  | _=>cases h
theorem key_of {K:PySem.W.Frag} {W:Wd} {H:Hp} {k:D} {q:Key} (h:k.key?=some q) (ok:∀ x,k = .str x→PyData.strOk x=true):AV K W H k (kV q):=by
  cases k with
  | int i=>cases h; exact .int i
  | str x=>cases h; exact .str (ok x rfl)
  | _=>cases h
def Z63 (S:Sto):X→Option (List (D × X))
  | .d (.dic kvs)=>some (kvs.map fun p=>(p.1, .d p.2))
  | .d _=>none
  | .r n=>match S[n]? with
    | some (.dic kvs)=>some kvs
    | some (.fdc kvs)=>some kvs
    | _=>none
theorem KVR.ofData {K:PySem.W.Frag} {W:Wd} {ρ:List Addr} {H:Hp}:∀ {kvs:List (D × D)} {ks:List (Key × V)},AVk K W H kvs ks→KVR (AX K W ρ H) (kvs.map fun p=>(p.1,X.d p.2)) ks
  | _,_, .nil => .nil
  | _,_, .cons k a t => .cons ⟨k, .d a⟩ (KVR.ofData t)
theorem Z6m {K:PySem.W.Frag} {Z:Wd} {ρ:List Addr} {S:Sto} {H:Hp} {x:Bv.X} {v:V} {kvs:List (D × Bv.X)} (st:Sta K Z ρ S H) (a:AX K (Wn Z ρ) ρ H x v) (h:Z63 S x=some kvs):∃ p ks,v = .ref p∧Rd H p (.dK ks)∧KVR (AX K (Wn Z ρ) ρ H) kvs ks:=by
  cases a with
  | d a =>
    cases a with
    | dic w e hs=>cases h; exact ⟨_,_,rfl, .inr ⟨_,e⟩,KVR.ofData hs⟩
    | _=>cases h
  | r e =>
    rename_i n a
    unfold Z63 at h
    cases q:S[n]? with
    | none=>simp only [q] at h; cases h
    | some o =>
      simp only [q] at h
      cases o with
      | dic kvs=>cases h; obtain ⟨ks,e2,r⟩:=st.ob n _ _ q e; exact ⟨_,ks,rfl, .inl e2,r⟩
      | fdc kvs=>cases h; obtain ⟨ob,ks,e2,r⟩:=st.ob n _ _ q e; exact ⟨_,ks,rfl, .inr ⟨ob,e2⟩,r⟩
      | _=>cases h
def dkX (S:Sto) (x y:Bv.X):Option (List (D × Bv.X) × D):=(Z63 S x).bind fun kvs=>match y with
  | .d k=>if k.key?.isSome then some (kvs,k) else none
  | .r _=>none
theorem X7z {S:Sto} {x y:Bv.X} {p:List (D × Bv.X) × D} (h:dkX S x y=some p):Z63 S x=some p.1∧y = .d p.2∧∃ q,p.2.key?=some q:=by
  obtain ⟨kvs,h1,h2⟩:=Option.bind_eq_some_iff.mp h
  cases y with
  | d k =>
    have h2:(if k.key?.isSome then some (kvs,k) else none)=some p:=h2
    split at h2
    · rename_i c
      cases h2
      exact ⟨h1,rfl,Option.isSome_iff_exists.mp c⟩
    · cases h2
  | r _=>cases h2
def X16:Bv.X→Bool
  | .d .non=>true
  | _=>false
theorem X0b {y:Bv.X} (h:X16 y=true):y = .d .non:=by
  cases y with
  | d k=>cases k <;> first | rfl | cases h
  | r _=>cases h
def Y98 (S:Sto) (x y:Bv.X):R Bv.X:=Z4r ((dkX S x y).bind fun p=>Z25 p.1 p.2) S
def Z2g (mo mi:M):M:=fun e S=>(mo e S).bind fun x S1=>(mi e S1).bind fun y S2=>Y98 S2 x y
def X6o (S:Sto) (y x:Bv.X):Option Bool:=match dkX S x y with
  | some p=>some (Z25 p.1 p.2).isSome
  | none=>if X16 y && (Z63 S x).isSome then some false else none
def Z8c (neg:Bool) (mi mo:M):M:=fun e S=>(mi e S).bind fun y S1=>(mo e S1).bind fun x S2=>Z4r ((X6o S2 y x).map fun b => .d (.bl (b ^^ neg))) S2
def Z5y (mo mi:M):M:=fun e S=>(mo e S).bind fun x S1=>if (Z63 S1 x).isSome then (mi e S1).bind fun y S2=>Z4r ((dkX S2 x y).map fun p=>(Z25 p.1 p.2).getD (.d .non)) S2 else .bad
def Y1c (mo mi mx:M):M:=fun e S=>(mo e S).bind fun x S1=>if (Z63 S1 x).isSome then (mi e S1).bind fun y S2=>(mx e S2).bind fun z S3=>Z4r ((dkX S3 x y).map fun p=>(Z25 p.1 p.2).getD z) S3 else .bad
section
variable {X:Cx} {Wx:WX} {pos apos cpos:Pos} {o i e f:Expr} {mo mi mx:M}
theorem Y3f {K:PySem.W.Frag} {Z:Wd} {ρ:List Addr} {S:Sto} {H:Hp} {x y:Bv.X} {v u:V} {p:List (D × Bv.X) × D} (st:Sta K Z ρ S H) (a:AX K (Wn Z ρ) ρ H x v) (b:AX K (Wn Z ρ) ρ H y u) (h:dkX S x y=some p) :
    ∃ c ks q,v = .ref c∧Rd H c (.dK ks)∧DGet H c u (valV ks q)∧((∃ d w,Z25 p.1 p.2=some d∧valV ks q=some w∧AX K (Wn Z ρ) ρ H d w) ∨ (Z25 p.1 p.2=none∧valV ks q=none)):=by
  obtain ⟨h1,h2,q,hk⟩:=X7z h
  subst h2
  obtain ⟨c,ks,rfl,r,kv⟩:=Z6m st a h1
  cases b with
  | d b=>exact ⟨c,ks,q,rfl,r, .inl ⟨ks,q,r,Y9a hk b,rfl⟩,kv.look hk⟩
theorem Z17 (hu:X.A.units + 1 < cLine) (ho:ME X Wx o mo) (hi:ME X Wx i mi) (hs:NoSl i:=by intro _ _; rfl):ME X Wx (.Subscript o i pos) (Z2g mo mi) :=
  PE.of (pe_dget hu ho hi hs) fun σ H Q ⟨Z,ρ,e,S,st,ev,p⟩=>X5 (rel:=AX X.K) st ev p fun ρ1 H1 v x S1 st1 g1 ev1 a1 p1=>X5 (rel:=AX X.K) st1 ev1 p1 fun ρ2 H2 u y S2 st2 g2 ev2 a2 p2=>by
    have ax:=a1.mv (g2.mv st1) g2.pre
    obtain ⟨d,hl,p3⟩:=(show Z23 X.K Z ρ2 H2 Wx σ Q (Y98 S2 x y) from p2).opt
    obtain ⟨p,h1,h2⟩:=Option.bind_eq_some_iff.mp hl
    obtain ⟨c,ks,q,rfl,r,g,lk⟩:=Y3f st2 ax a2 h1
    rcases lk with ⟨d2,w,e1,e2,aw⟩ | ⟨e1,_⟩
    · rw [h2] at e1; cases e1
      rw [e2] at g
      exact ⟨c,w,rfl,g,X6.ret0 p3 st2 aw⟩
    · rw [h2] at e1; cases e1
theorem X1l {neg:Bool} {σ:L2.St} {H:Hp} {Q:VK} (h:RE X.K Wx (Z8c neg mi mo) σ H Q):(RE X.K Wx mi) σ H fun y H1=>(RE X.K Wx mo) σ H1 fun x H2=>(∃ a ov,x = .ref a∧DGet H2 a y ov∧Q (.bl (ov.isSome ^^ neg)) H2) ∨ ∃ a kvs,x = .ref a∧y = .non∧Rd H2 a (.dK kvs)∧Q (.bl neg) H2:=by
  obtain ⟨Z,ρ,e,S,st,ev,p⟩:=h
  refine X5 (rel:=AX X.K) st ev p fun ρ1 H1 u y S1 st1 g1 ev1 a1 p1=>X5 (rel:=AX X.K) st1 ev1 p1 fun ρ2 H2 v x S2 st2 g2 ev2 a2 p2=>?_
  have ay:=a1.mv (g2.mv st1) g2.pre
  obtain ⟨d,hl,p3⟩:=(show Z23 X.K Z ρ2 H2 Wx σ Q (Z4r ((X6o S2 y x).map fun b => .d (.bl (b ^^ neg))) S2) from p2).opt
  obtain ⟨b,hb,rfl⟩:=Option.map_eq_some_iff.mp hl
  unfold X6o at hb
  cases h1:dkX S2 x y with
  | some p =>
    rw [h1] at hb
    cases hb
    obtain ⟨c,ks,q,rfl,r,g,lk⟩:=Y3f st2 a2 ay h1
    have e:(Z25 p.1 p.2).isSome=(valV ks q).isSome:=by rcases lk with ⟨d2,w,e1,e2,_⟩ | ⟨e1,e2⟩ <;> rw [e1,e2] <;> rfl
    rw [e] at p3
    exact .inl ⟨c,_,rfl,g,X6.ret0 p3 st2 (.d (.bl _))⟩
  | none =>
    rw [h1] at hb
    have hb:(if X16 y && (Z63 S2 x).isSome then some false else none)=some b:=hb
    split at hb
    · rename_i c
      cases hb
      obtain ⟨c1,c2⟩:=Bool.and_eq_true_iff.mp c
      obtain ⟨kvs,hd⟩:=Option.isSome_iff_exists.mp c2
      have hy:=X0b c1
      subst hy
      obtain ⟨p,ks,rfl,r,kv⟩:=Z6m st2 a2 hd
      cases ay with
      | d ay =>
        cases ay
        refine .inr ⟨p,ks,rfl,rfl,r,X6.ret0 p3 st2 ?_⟩
        rw [Bool.false_xor]
        exact .d (.bl _)
    · cases hb
theorem X3k (hu:X.A.units + 1 < cLine) (hi:ME X Wx i mi) (ho:ME X Wx o mo):PC X .In i o (RE X.K Wx (Z8c false mi mo)):=⟨fun pins s σ H Q I h=>(pc_dinN hu hi ho).run pins s σ H Q I (by
  have q:=X1l h
  simp only [Bool.xor_false] at q
  exact q)⟩
theorem X5s (hu:X.A.units + 1 < cLine) (hi:ME X Wx i mi) (ho:ME X Wx o mo):PC X .NotIn i o (RE X.K Wx (Z8c true mi mo)):=⟨fun pins s σ H Q I h=>(pc_dnotinN hu hi ho).run pins s σ H Q I (by
  have q:=X1l h
  simp only [Bool.xor_true] at q
  exact q)⟩
theorem W2r (hu:X.A.units + 1 < cLine) (hi:ME X Wx i mi) (ho:ME X Wx o mo) (hb:behindInMarks .In o=false:=by rfl):ME X Wx (.Compare i [.In] [o] pos) (Z8c false mi mo):=pe_cmp (X3k hu hi ho) hb
theorem X9k {op:CmpOp} {m:M} (h:PC X op i o (RE X.K Wx m)) (hb:behindInMarks op o=false):MT X Wx (.Compare i [op] [o] pos) (U4 m):=⟨fun pins s σ H Q I hq=>(pt_cmp h hb).run pins s σ H Q I (by
  obtain ⟨Z,ρ,e,S,st,ev,p⟩:=hq
  refine X5 (rel:=AX X.K) st ev p fun ρ1 H1 v x S1 st1 g1 ev1 a1 p1=>?_
  match x,a1,p1 with
  | .d (.bl b), .d (.bl _),p1=>exact ⟨b,rfl,X6.ret0 p1 st1 rfl⟩
  | .d (.non),_,p1=>exact p1.elim
  | .d (.int _),_,p1=>exact p1.elim
  | .d (.str _),_,p1=>exact p1.elim
  | .d (.tup _),_,p1=>exact p1.elim
  | .d (.lst _),_,p1=>exact p1.elim
  | .d (.dic _),_,p1=>exact p1.elim
  | .d (.obj _ _),_,p1=>exact p1.elim
  | .d (.gl _),_,p1=>exact p1.elim
  | .d (.scr _),_,p1=>exact p1.elim
  | .r _,_,p1=>exact p1.elim)⟩
theorem X64 (hu:X.A.units + 1 < cLine) (hi:ME X Wx i mi) (ho:ME X Wx o mo) (hb:behindInMarks .In o=false:=by rfl):MT X Wx (.Compare i [.In] [o] pos) (U4 (Z8c false mi mo)):=X9k (X3k hu hi ho) hb
theorem X26 (hu:X.A.units + 1 < cLine) (hi:ME X Wx i mi) (ho:ME X Wx o mo) (hb:behindInMarks .NotIn o=false:=by rfl):MT X Wx (.Compare i [.NotIn] [o] pos) (U4 (Z8c true mi mo)):=X9k (X5s hu hi ho) hb
theorem Z96 (hu:X.A.units + 1 < cLine) (ho:ME X Wx o mo) (hi:ME X Wx e mi) (m:M1 X o "get" apos e cpos:=by exact ⟨by rfl,by rfl,by rfl,by rfl⟩):ME X Wx (.Call (.Attribute o "get" apos) [e] [] cpos) (Z5y mo mi) :=
  PE.of (pe_dget1 hu ho hi m) fun σ H Q ⟨Z,ρ,e,S,st,ev,p⟩=>X5 (rel:=AX X.K) st ev p fun ρ1 H1 v x S1 st1 g1 ev1 a1 p1=>by
    have p1:Z23 X.K Z ρ1 H1 Wx σ Q (if (Z63 S1 x).isSome then (mi e S1).bind fun y S2=>Z4r ((dkX S2 x y).map fun p=>(Z25 p.1 p.2).getD (.d .non)) S2 else .bad):=p1
    by_cases c:(Z63 S1 x).isSome=true
    case neg=>rw [if_neg c] at p1; exact p1.elim
    rw [if_pos c] at p1
    obtain ⟨kvs1,hd⟩:=Option.isSome_iff_exists.mp c
    obtain ⟨a,ks1,rfl,r1,_⟩:=Z6m st1 a1 hd
    refine ⟨a,rfl, .inl ⟨ks1,r1⟩,X5 (rel:=AX X.K) st1 ev1 p1 fun ρ2 H2 u y S2 st2 g2 ev2 a2 p2=>?_⟩
    have ax:=a1.mv (g2.mv st1) g2.pre
    obtain ⟨d,hl,p3⟩:=(show Z23 X.K Z ρ2 H2 Wx σ Q (Z4r ((dkX S2 x y).map fun p=>(Z25 p.1 p.2).getD (.d .non)) S2) from p2).opt
    obtain ⟨p,h1,rfl⟩:=Option.map_eq_some_iff.mp hl
    obtain ⟨c,ks,q,e0,r,g,lk⟩:=Y3f st2 ax a2 h1
    cases e0
    refine ⟨_,g,?_⟩
    rcases lk with ⟨d2,w,e1,e2,aw⟩ | ⟨e1,e2⟩
    · rw [e1] at p3; rw [e2]; exact X6.ret0 p3 st2 aw
    · rw [e1] at p3; rw [e2]; exact X6.ret0 p3 st2 (.d .non)
theorem Z97 (hu:X.A.units + 1 < cLine) (ho:ME X Wx o mo) (hi:ME X Wx e mi) (hx:ME X Wx f mx) (m:M2 X o "get" apos e f cpos:=by exact ⟨by rfl,by rfl,by rfl,by rfl⟩):ME X Wx (.Call (.Attribute o "get" apos) [e,f] [] cpos) (Y1c mo mi mx) :=
  PE.of (pe_dget2 hu ho hi hx m) fun σ H Q ⟨Z,ρ,e,S,st,ev,p⟩=>X5 (rel:=AX X.K) st ev p fun ρ1 H1 v x S1 st1 g1 ev1 a1 p1=>by
    have p1:Z23 X.K Z ρ1 H1 Wx σ Q (if (Z63 S1 x).isSome then (mi e S1).bind fun y S2=>(mx e S2).bind fun z S3=>Z4r ((dkX S3 x y).map fun p=>(Z25 p.1 p.2).getD z) S3 else .bad):=p1
    by_cases c:(Z63 S1 x).isSome=true
    case neg=>rw [if_neg c] at p1; exact p1.elim
    rw [if_pos c] at p1
    obtain ⟨kvs1,hd⟩:=Option.isSome_iff_exists.mp c
    obtain ⟨a,ks1,rfl,r1,_⟩:=Z6m st1 a1 hd
    refine ⟨a,rfl, .inl ⟨ks1,r1⟩,X5 (rel:=AX X.K) st1 ev1 p1 fun ρ2 H2 u y S2 st2 g2 ev2 a2 p2=>X5 (rel:=AX X.K) st2 ev2 p2 fun ρ3 H3 t z S3 st3 g3 ev3 a3 p3=>?_⟩
    have ax:=(a1.mv (g2.mv st1) g2.pre).mv (g3.mv st2) g3.pre
    have ay:=a2.mv (g3.mv st2) g3.pre
    obtain ⟨d,hl,p4⟩:=(show Z23 X.K Z ρ3 H3 Wx σ Q (Z4r ((dkX S3 x y).map fun p=>(Z25 p.1 p.2).getD z) S3) from p3).opt
    obtain ⟨p,h1,rfl⟩:=Option.map_eq_some_iff.mp hl
    obtain ⟨c,ks,q,e0,r,g,lk⟩:=Y3f st3 ax ay h1
    cases e0
    refine ⟨_,g,?_⟩
    rcases lk with ⟨d2,w,e1,e2,aw⟩ | ⟨e1,e2⟩
    · rw [e1] at p4; rw [e2]; exact X6.ret0 p4 st3 aw
    · rw [e1] at p4; rw [e2]; exact X6.ret0 p4 st3 a3
end
end Bv
namespace Bv
open PySem PySem.Spec L2
open PyProof.Rows hiding St
variable [HasW]
def tFz (t:TE):TE:=fun σ H Q=>t σ H fun v H1=>Q v H1 ∨ ∃ a u,H1 a=some u∧Mut (some u)∧∀ od,Q v (upd H1 a (.frz od u))
theorem X5v {X:Cx} {e:Expr} {t:TE} (h:PE X e t):PE X e (tFz t):=⟨fun pins s σ H Q I q=>thn (h.run pins s σ H _ I q) fun u s1 ⟨v,H1,I1,r,w⟩=>by
  rcases w with w | ⟨a,o,ha,mu,w⟩
  · exact ⟨v,H1,I1,r,w⟩
  · obtain ⟨od,I2⟩:=I1.lock ha mu
    exact ⟨v,_,I2,r,w od⟩⟩
def Y59 (S:Sto) (x y:Bv.X):Option (Nat × List (D × Bv.X) × D):=match x with
  | .r n=>(match S[n]? with
    | some (.dic kvs)=>(match y with
      | .d k=>if k.key?.isSome && decide (kvs.length < sizeLine) then some (n,kvs,k) else none
      | .r _=>none)
    | _=>none)
  | .d _=>none
theorem X3o {S:Sto} {x y:Bv.X} {p:Nat × List (D × Bv.X) × D} (h:Y59 S x y=some p):x = .r p.1∧S[p.1]?=some (.dic p.2.1)∧y = .d p.2.2∧(∃ q,p.2.2.key?=some q)∧p.2.1.length < sizeLine:=by
  unfold Y59 at h
  cases x with
  | d _=>cases h
  | r n =>
    cases q:S[n]? with
    | none=>simp only [q] at h; cases h
    | some o =>
      simp only [q] at h
      cases o with
      | dic kvs =>
        cases y with
        | r _=>cases h
        | d k =>
          have h:(if k.key?.isSome && decide (kvs.length < sizeLine) then some (n,kvs,k) else none)=some p:=h
          split at h
          · rename_i c
            cases h
            obtain ⟨c1,c2⟩:=Bool.and_eq_true_iff.mp c
            exact ⟨rfl,q,rfl,Option.isSome_iff_exists.mp c1,of_decide_eq_true c2⟩
          · cases h
      | _=>cases h
def Z8h (mo mi mv:M):MS:=fun e S=>(mv e S).so e fun z S1=>(mo e S1).so e fun x S2=>(mi e S2).so e fun y S3=>match Y59 S3 x y with
  | some p => .go (.nx e) (S3.set p.1 (.dic (Z98 p.2.1 p.2.2 z)))
  | none => .bad
theorem KVR.mv {K:PySem.W.Frag} {W W':Wd} {ρ ρ':List Addr} {H H':Hp} (m:Mv W H W' H') (p:ρ <+: ρ') {kvs:List (D × X)} {ks:List (Key × V)} (h:KVR (AX K W ρ H) kvs ks):KVR (AX K W' ρ' H') kvs ks:=Paired.mapP h fun _ _ q=>⟨q.1,q.2.mv m p⟩
section
variable {X:Cx} {Wx:WX} {pos pos' apos cpos:Pos} {o i e f value tg:Expr} {mo mi mv m:M}
theorem Y3w (hu:X.A.units + 1 < cLine) (ho:ME X Wx o mo) (hi:ME X Wx i mi) (hv:ME X Wx value mv) (hs:swapsWith value (some (.Subscript o i pos')) pos.line X.env=pure false:=by rfl):MP X Wx (.Assign [.Subscript o i pos'] value pos) (Z8h mo mi mv) :=
  PS.of (ps_dput hu ho hi hv hs) fun D σ H ⟨Z,ρ,e,S,st,ev,q⟩=>by
    refine Z0h (rel:=AX X.K) st ev q fun ρ1 H1 w z S1 s1 g1 ev1 a1 q1=>Z0h (rel:=AX X.K) s1 ev1 q1 fun ρ2 H2 v x S2 s2 g2 ev2 a2 q2=>Z0h (rel:=AX X.K) s2 ev2 q2 fun ρ3 H3 u y S3 s3 g3 ev3 a3 q3=>?_
    have az:=(a1.mv (g2.mv s1) g2.pre).mv (g3.mv s2) g3.pre
    have ax:=a2.mv (g3.mv s2) g3.pre
    have q3:Z1n X.K Z ρ3 H3 Wx D (match Y59 S3 x y with
      | some p => .go (.nx e) (S3.set p.1 (.dic (Z98 p.2.1 p.2.2 z)))
      | none => .bad):=q3
    cases h:Y59 S3 x y with
    | none=>rw [h] at q3; exact q3.elim
    | some p =>
      rw [h] at q3
      have q9:Z1n X.K Z ρ3 H3 Wx D (.go (.nx e) (S3.set p.1 (.dic (Z98 p.2.1 p.2.2 z)))):=q3
      obtain ⟨e5,hS,e6,⟨k,hk⟩,hl⟩:=X3o h
      subst e5 e6
      cases ax with
      | r ha =>
        rename_i a
        obtain ⟨ks,e1,kv⟩:=s3.ob _ _ _ hS ha
        cases a3 with
        | d a3 =>
          have hu:=Y9a hk a3
          subst hu
          have kv2:KVR (AX X.K (Wn Z ρ3) ρ3 H3) (Z98 p.2.1 p.2.2 z) (putK ks k w):=KVR.put hk az kv
          have inρ:a ∈ ρ3:=List.mem_of_getElem? ha
          have m:Mv (Wn Z ρ3) H3 (Wn Z ρ3) (upd H3 a (.dK (putK ks k w))):=fun b o hb z=>⟨hb,by rw [upd_ne (fun y=>hb (.inr (by rw [y]; exact inρ)))]; exact z⟩
          obtain ⟨s4,g4⟩:=s3.put (o' := .dic (Z98 p.2.1 p.2.2 z)) (u := .dK (putK ks k w)) ha (fun _ _ z=>by rw [e1] at z; cases z) ⟨_,upd_same,KVR.mv m (List.prefix_refl _) kv2⟩
          exact ⟨a,_,rfl, .k e1 (by rw [← Paired.length kv]; exact hl),q9 ρ3 _ _ s4 g4 (ev3.mv (g4.mv s3) (List.prefix_refl _))⟩
def Y1d:M:=fun _ S => .ok (.r S.length) (S++[.dic []])
def Y9f:M:=fun _ S => .ok (.d (.dic [])) S
theorem Y3s:ME X Wx (.Dict [] [] pos) Y1d:=PE.of pe_dnewK fun σ H Q ⟨Z,ρ,e,S,st,ev,p⟩=>fun a ha=>by
  have k:=V9 (o := .dK []) ha
  obtain ⟨s1,g1⟩:=st.push (o' := .dic []) ha k ⟨[],upd_same, .nil⟩
  exact p _ _ _ s1 g1 (.r (by rw [st.len]; simp))
theorem X2w:ME X Wx (.Dict [] [] pos) Y9f:=PE.of (X5v pe_dnewK) fun σ H Q ⟨Z,ρ,e,S,st,ev,p⟩=>fun a ha => .inr ⟨a,_,upd_same,trivial,fun od=>by
  have k:∀ b o,H b=some o→upd (upd H a (.dK [])) a (.frz od (.dK [])) b=some o:=fun b o q=>by rw [upd_ne (ne_of_none q ha),upd_ne (ne_of_none q ha)]; exact q
  exact p ρ _ _ (st.grow k) (Go.grow k) (.d (.dic (st.fresh ha) upd_same .nil))⟩
end
def W1a (S:Sto):Bv.X→Option (List (D × Bv.X) × Sto)
  | .d (.dic kvs)=>some (kvs.map fun p=>(p.1, .d p.2),S)
  | .d _=>none
  | .r n=>match S[n]? with
    | some (.dic kvs)=>some (kvs,S.set n (.fdc kvs))
    | some (.fdc kvs)=>some (kvs,S)
    | _=>none
theorem W2d {K:PySem.W.Frag} {Z:Wd} {ρ:List Addr} {S:Sto} {H:Hp} {x:Bv.X} {v:V} {p:List (D × Bv.X) × Sto} (st:Sta K Z ρ S H) (a:AX K (Wn Z ρ) ρ H x v) (h:W1a S x=some p) :
    ∃ c ks,v = .ref c∧KVR (AX K (Wn Z ρ) ρ H) p.1 ks∧((p.2=S∧∃ od,H c=some (.frz od (.dK ks))) ∨ (H c=some (.dK ks)∧∀ od,Sta K Z ρ p.2 (upd H c (.frz od (.dK ks)))∧Go ρ H ρ (upd H c (.frz od (.dK ks)))∧Mv (Wn Z ρ) H (Wn Z ρ) (upd H c (.frz od (.dK ks))))):=by
  cases a with
  | d a =>
    cases a with
    | dic w e hs=>cases h; exact ⟨_,_,rfl,KVR.ofData hs, .inl ⟨rfl,_,e⟩⟩
    | _=>cases h
  | r e =>
    rename_i n a
    unfold W1a at h
    cases q:S[n]? with
    | none=>simp only [q] at h; cases h
    | some o =>
      simp only [q] at h
      cases o with
      | fdc kvs=>cases h; obtain ⟨ob,ks,e2,r⟩:=st.ob n _ _ q e; exact ⟨_,ks,rfl,r, .inl ⟨rfl,ob,e2⟩⟩
      | dic kvs =>
        cases h
        obtain ⟨ks,e2,r⟩:=st.ob n _ _ q e
        refine ⟨_,ks,rfl,r, .inr ⟨e2,fun od=>?_⟩⟩
        have inρ:a ∈ ρ:=List.mem_of_getElem? e
        have m:Mv (Wn Z ρ) H (Wn Z ρ) (upd H a (.frz od (.dK ks))):=fun b o hb z=>⟨hb,by rw [upd_ne (fun y=>hb (.inr (by rw [y]; exact inρ)))]; exact z⟩
        obtain ⟨s4,g4⟩:=st.put (o' := .fdc kvs) (u := .frz od (.dK ks)) e (fun _ _ z=>by rw [e2] at z; cases z) ⟨od,ks,upd_same,KVR.mv m (List.prefix_refl _) r⟩
        exact ⟨s4,g4,m⟩
      | _=>cases h
def Y6y (g:List (D × Bv.X)→Option (List Bv.X)) (S:Sto) (x:Bv.X):R (List Bv.X × Lk):=match W1a S x with
  | some p=>Z4r ((g p.1).map fun ys=>(ys,Lk.free)) p.2
  | none => .bad
def Y5t:D→Bool
  | .str x=>PyData.strOk x
  | _=>true
def keysOf (kvs:List (D × Bv.X)):Option (List Bv.X):=if kvs.all (fun p=>Y5t p.1) then some (kvs.map fun p => .d p.1) else none
def Z29 (m:M):MIt:=fun e S=>(m e S).bind fun x S1=>Y6y keysOf S1 x
theorem X6f {K:PySem.W.Frag} {g:List (D × Bv.X)→Option (List Bv.X)} {Jt:Addr→Obj→List (Key × V)→It}
    (sv:∀ {W:Wd} {ρ:List Addr} {H:Hp} {kvs:List (D × Bv.X)} {ks:List (Key × V)} {ys:List Bv.X} {c:Addr} {od:Obj},KVR (AX K W ρ H) kvs ks→g kvs=some ys→H c=some (.frz od (.dK ks))→Srv K W ρ H (ys, .free) (Jt c od ks))
    {Z:Wd} {ρ:List Addr} {H:Hp} {S:Sto} {σ:L2.St} {R:It→Hp→Prop} {x:Bv.X} {v:V} (st:Sta K Z ρ S H) (a:AX K (Wn Z ρ) ρ H x v) (p:X6 (Srv K) K Z ρ H Wx σ R (Y6y g S x)) :
    (∃ c od ks,v = .ref c∧H c=some (.frz od (.dK ks))∧R (Jt c od ks) H) ∨ ∃ c ks,v = .ref c∧H c=some (.dK ks)∧∀ od,R (Jt c od ks) (upd H c (.frz od (.dK ks))):=by
  unfold Y6y at p
  cases h:W1a S x with
  | none=>rw [h] at p; exact p.elim
  | some q =>
    rw [h] at p
    obtain ⟨w,hw,p2⟩:=X6.opt p
    obtain ⟨ys,hg,rfl⟩:=Option.map_eq_some_iff.mp hw
    obtain ⟨c,ks,rfl,kv,r⟩:=W2d st a h
    rcases r with ⟨e,od,hc⟩ | ⟨hc,r⟩
    · rw [e] at p2
      exact .inl ⟨c,od,ks,rfl,hc,X6.ret0 p2 st (sv kv hg hc)⟩
    · refine .inr ⟨c,ks,rfl,hc,fun od=>?_⟩
      obtain ⟨s4,g4,m⟩:=r od
      exact p2 ρ _ _ s4 g4 (sv (KVR.mv m (List.prefix_refl _) kv) hg upd_same)
theorem KVR.at_ {K:PySem.W.Frag} {W:Wd} {ρ:List Addr} {H:Hp} {kvs:List (D × Bv.X)} {ks:List (Key × V)} {j:Nat} {k:Key} {v:V} (h:KVR (AX K W ρ H) kvs ks) (e:ks[j]?=some (k,v)):∃ p,kvs[j]?=some p∧p.1.key?=some k∧AX K W ρ H p.2 v:=by
  obtain ⟨p,h1,h2⟩:=Y4a h e
  exact ⟨p,h1,h2.1,h2.2⟩
theorem W4z {K:PySem.W.Frag} {W:Wd} {H:Hp} {k:D} {q:Key} (h:k.key?=some q) (ok:Y5t k=true):AV K W H k (kV q):=key_of h fun x e=>by subst e; exact ok
theorem KVR.len {α:Type} {R:α→V→Prop} {kvs:List (D × α)} {ks:List (Key × V)} (h:KVR R kvs ks):kvs.length=ks.length:=Paired.length h
theorem X6c {K:PySem.W.Frag} {W:Wd} {ρ:List Addr} {H:Hp} {kvs:List (D × Bv.X)} {ks:List (Key × V)} {ys:List Bv.X} {c:Addr} {od:Obj} (kv:KVR (AX K W ρ H) kvs ks) (hg:keysOf kvs=some ys) (hc:H c=some (.frz od (.dK ks))):Srv K W ρ H (ys, .free) (Itk c od ks):=by
  unfold keysOf at hg
  obtain ⟨ok,hg⟩:=Z37 hg
  cases hg
  refine ⟨fun H=>H c=some (.frz od (.dK ks)),fun i H x H'=>H'=H∧∃ k v,ks[i]?=some (k,v)∧x=kV k,?_,fun Z2 ρ2 S2 H2 st m p fz _=>⟨fz _ _ _ hc,fun i x H3 y=>?_⟩⟩
  · have e:(kvs.map fun p=>Bv.X.d p.1,Lk.free).1.length=ks.length:=by rw [List.length_map]; exact kv.len
    rw [e]
    exact ⟨fun i _ hi g=>⟨g,hi⟩,fun _ g=>⟨g,Nat.le_refl _⟩,fun _ _ _ _ _ _ y=>y⟩
  · obtain ⟨rfl,k,v,hk,rfl⟩:=y
    obtain ⟨q,h1,h2,_⟩:=kv.at_ hk
    refine ⟨Same.rfl', .d q.1,by simp [h1], .d (W4z h2 (List.all_eq_true.mp ok q (List.mem_of_getElem? h1)))⟩
section
variable {X:Cx} {Wx:WX} {apos cpos tpos:Pos} {e tg:Expr} {m:M} {elts:List Expr} {kk:Nat}
theorem Z3o (h:ME X Wx e m):MI X Wx tg e (Z29 m):=PI.of (pi_keys (X5v h)) fun σ H R ⟨Z,ρ,e,S,st,ev,p⟩=>X5 (rel:=AX X.K) st ev p fun ρ1 H1 v x S1 st1 g1 ev1 a1 p1=>by
  rcases X6f X6c st1 a1 p1 with ⟨c,od,ks,rfl,hc,r⟩ | ⟨c,ks,rfl,hc,r⟩
  · exact .inl ⟨c,od,rfl, .inl ⟨ks,hc,r⟩⟩
  · exact .inr ⟨c,_,hc,trivial,fun od=>⟨c,od,rfl, .inl ⟨ks,upd_same,r od⟩⟩⟩
end
end Bv
namespace Bv
open PySem PySem.Spec L2
open PyProof.Rows hiding St
variable [HasW]
theorem W4n {J:It} {n:Nat} {G:Hp→Prop} {Y:Nat→Hp→V→Hp→Prop} (w:Walk J n G Y) {g:TG} {tt:TT} {tk tv:TE} {vs:List Nat} {σ:L2.St} {H1:Hp} {D:Addr} {Qd:Hp→Prop} (Pv:Nat→Hp→Prop) (h0:Pv 0 (upd H1 D (.dK []))) (hG:∀ i H,i ≤ n→Pv i H→G H)
    (hs:∀ i x H H',i < n→Pv i H→Y i H x H'→g x (wipe σ vs) H' fun σ2 H2=>wipe σ2 vs=wipe σ vs∧tt σ2 H2 fun b H3 =>
      if b=true then tk σ2 H3 fun y H4=>tv σ2 H4 fun z H5=>∃ kvs k,y=kV k∧H5 D=some (.dK kvs)∧kvs.length < sizeLine∧Pv (i + 1) (upd H5 D (.dK (putK kvs k z))) else Pv (i + 1) H3) (hd:∀ H,Pv n H→Qd H) :
    ∃ W:Nat→Nat→Hp→Prop,(∃ m,W 0 m (upd H1 D (.dK [])))∧∀ i m H,W i m H →
      (J.stop i H∧Qd H) ∨ (J.go i H∧∃ Nx:Hp→Prop,(∀ H',Nx H'→∃ m',m' < m∧W (i + 1) m' H')∧∀ x H',J.yld i H x H'→g x (wipe σ vs) H' fun σ2 H2=>wipe σ2 vs=wipe σ vs∧tt σ2 H2 fun b H3 =>
        if b=true then tk σ2 H3 fun y H4=>tv σ2 H4 fun z H5=>∃ kvs k,y=kV k∧H5 D=some (.dK kvs)∧kvs.length < sizeLine∧Nx (upd H5 D (.dK (putK kvs k z))) else Nx H3):=by
  refine ⟨fun i m H=>m=n - i∧i ≤ n∧Pv i H,⟨n,(Nat.sub_zero n).symm,Nat.zero_le _,h0⟩,fun i m H ⟨em,hi,p⟩=>?_⟩
  subst em
  have q:=hG i H hi p
  rcases Nat.lt_or_ge i n with hlt | hge
  · exact .inr ⟨w.goes i H hlt q,Pv (i + 1),fun H' p'=>⟨n - (i + 1),by omega,rfl,hlt,p'⟩,fun x H' y=>hs i x H H' hlt p (w.yields i H x H' hlt q y)⟩
  · obtain rfl:i=n:=by omega
    exact .inl ⟨w.stops H q,hd H p⟩
def dcK (acc:List (D × D)) (y z:X):Option (List (D × D)):=match y,z with
  | .d k, .d v=>if k.key?.isSome && (Y5t k && decide (acc.length < sizeLine)) then some (Z98 acc k v) else none
  | _,_=>none
def dcL (t:Tg) (l:Lk) (mt:MG Bool) (mk mv:M) (e:Ev):List (D × D)→List X→Sto→R (List (D × D))
  | acc,[],S=>if l.ok S then .ok acc S else .bad
  | acc,x :: xs,S=>if l.ok S then (match t.asg S x e with
    | some e1=>(mt e1 S).ne.bind fun b S1=>if b then (mk e1 S1).ne.bind fun y S2=>(mv e1 S2).ne.bind fun z S3=>(match dcK acc y z with
        | some acc2=>dcL t l mt mk mv e acc2 xs S3
        | none => .bad) else dcL t l mt mk mv e acc xs S1
    | none => .bad) else .bad
def X0e (t:Tg) (mi:MIt) (mt:MG Bool) (mk mv:M) (vs:List Nat):M:=fun e S=>(mi e S).bind fun p S1=>(dcL t p.2 mt mk mv (W6 e vs) [] p.1 S1).bind fun kvs S2 => .ok (.d (.dic kvs)) S2
section
variable {X:Cx} {Wx:WX} {pos:Pos} {tg iter kx vx c:Expr} {ifs:List Expr} {mi:MIt} {mt:MG Bool} {mk mv:M} {t:Tg} {vs:List Nat}
theorem X6m (hs:∀ i ∈ t.slots,i ∈ vs) {σ:L2.St} {H:Hp} {Q:VK} (h:RE X.K Wx (X0e t mi mt mk mv vs) σ H Q):tDc (RG (Srv X.K) X.K Wx mi) (TGt X.K t) (RB X.K WX0 mt) (RE X.K WX0 mk) (RE X.K WX0 mv) vs σ H (fun v H1=>Q v H1 ∨ ∃ a u,H1 a=some u∧Mut (some u)∧∀ od,Q v (upd H1 a (.frz od u))):=by
  obtain ⟨Z,ρ,e,S,st,ev,p⟩:=h
  refine X5 (rel:=Srv X.K) st ev p fun ρ1 H1 J p0 S1 st1 g1 ev1 srv p1=>?_
  obtain ⟨ys,l⟩:=p0
  obtain ⟨G,Y,w,sv⟩:=srv
  intro D0 hD
  let fin:List (D × D)→Sto→R Bv.X:=fun kvs S2 => .ok (.d (.dic kvs)) S2
  have p1:Z23 X.K Z ρ1 H1 Wx σ Q ((dcL t l mt mk mv (W6 e vs) [] ys S1).bind fin):=p1
  have sv:∀ (Z2:Wd) (ρ2:List Addr) (S2:Sto) (H2:Hp),Sta X.K Z2 ρ2 S2 H2→Mv (Wn Z ρ1) H1 (Wn Z2 ρ2) H2→ρ1 <+: ρ2→(∀ a ob u,H1 a=some (.frz ob u)→H2 a=some (.frz ob u))→l.ok S2=true→G H2 ∧
    ∀ i x H3,Y i H2 x H3→Same H2 H3∧∃ y,ys[i]?=some y∧AX X.K (Wn Z2 ρ2) ρ2 H3 y x:=sv
  have w:Walk J ys.length G Y:=w
  have evw:=ev1.wipe vs
  let Z':Wd:=fun a=>Z a ∨ a=D0
  let Pv:Nat→Hp→Prop:=fun i H=>∃ (ρ:List Addr) (S:Sto) (acc:List (D × D)) (ks:List (Key × V)),Sta X.K Z' ρ S H∧ρ1 <+: ρ∧(∀ a o,a ∉ ρ1→H1 a=some o→a ∉ ρ∧H a=some o)∧(∀ a ob u,H1 a=some (.frz ob u)→H a=some (.frz ob u))∧H D0=some (.dK ks)∧KVR (AV X.K (Wn Z' ρ) H) acc ks ∧
    EvOk X.K (Wn Z' ρ) ρ H (W6 e vs) (wipe σ vs)∧Z23 X.K Z ρ1 H1 Wx σ Q ((dcL t l mt mk mv (W6 e vs) acc (ys.drop i) S).bind fin)
  have mvOf:∀ {ρ:List Addr} {S:Sto} {H:Hp},Sta X.K Z' ρ S H→(∀ a o,a ∉ ρ1→H1 a=some o→a ∉ ρ∧H a=some o)→Mv (Wn Z ρ1) H1 (Wn Z' ρ) H:=fun {ρ S H} s k a o hn hq=>by
    obtain ⟨h2,h3⟩:=k a o (fun z=>hn (.inr z)) hq
    refine ⟨fun z=>?_,h3⟩
    rcases z with (z | z) | z
    · exact hn (.inl z)
    · rw [z,hD] at hq; cases hq
    · exact h2 z
  have okOf:∀ {xs:List Bv.X} {S:Sto} {acc:List (D × D)},Z23 X.K Z ρ1 H1 Wx σ Q ((dcL t l mt mk mv (W6 e vs) acc xs S).bind fin)→l.ok S=true:=fun {xs S acc} q=>by
    cases z:l.ok S with
    | true=>rfl
    | false=>cases xs <;> (simp only [dcL,z] at q; exact q.elim)
  refine W4n w Pv ?_ ?_ ?_ ?_
  · have k:=V9 (o := .dK []) hD
    have s0:=st1.grow k
    have hnw:¬ Wn Z ρ1 D0:=st1.fresh hD
    have m0:Mv (Wn Z ρ1) H1 (Wn Z' ρ1) (upd H1 D0 (.dK [])):=fun a o hn hq=>⟨fun z=>by
      rcases z with (z | z) | z
      · exact hn (.inl z)
      · rw [z,hD] at hq; cases hq
      · exact hn (.inr z),k a o hq⟩
    refine ⟨ρ1,S1,[],[],⟨st1.nd,fun a z=>?_,st1.len,fun n o a e1 e2=>AO.mv m0 (List.prefix_refl _) (fun u q=>k _ _ q) (st1.ob n o a e1 e2)⟩,List.prefix_refl _,fun a o hn hq=>⟨hn,k a o hq⟩,fun a _ _ q=>k a _ q,upd_same, .nil,evw.mv m0 (List.prefix_refl _),?_⟩
    · rcases z with z | z
      · exact ⟨(st1.z a z).1,let ⟨o,q⟩:=(st1.z a z).2; ⟨o,k a o q⟩⟩
      · exact ⟨fun z2=>hnw (.inr (by rw [← z]; exact z2)),⟨_,by rw [z]; exact upd_same⟩⟩
    · rw [List.drop_zero]
      exact p1
  · rintro i H2 _ ⟨ρ2,S2,acc,ks,st2,pr2,k2,f2,d2,a2,ev2,q2⟩
    exact (sv Z' ρ2 S2 H2 st2 (mvOf st2 k2) pr2 f2 (okOf q2)).1
  · rintro i x H2 H3 hi ⟨ρ2,S2,acc,ks,st2,pr2,k2,f2,d2,a2,ev2,q2⟩ hy
    have hk:=okOf q2
    obtain ⟨k,y,e3,a⟩:=(sv Z' ρ2 S2 H2 st2 (mvOf st2 k2) pr2 f2 hk).2 i x H3 hy
    have st3:=st2.grow k
    have m23:Mv (Wn Z' ρ2) H2 (Wn Z' ρ2) H3:=Z26 k
    have ev3:=ev2.mv m23 (List.prefix_refl _)
    rw [Z5u e3] at q2
    simp only [dcL,hk,if_true] at q2
    cases q4:t.asg S2 y (W6 e vs) with
    | none=>rw [q4] at q2; exact q2.elim
    | some e4 =>
      rw [q4] at q2
      refine ⟨Z',ρ2,W6 e vs,S2,y,e4,st3,ev3,a,q4,fun σ5 ev5 w5=>⟨?_,?_⟩⟩
      · rw [w5 vs hs,Z5i]
      have q2:Z23 X.K Z ρ1 H1 Wx σ Q (((mt e4 S2).ne.bind fun b S1=>if b then (mk e4 S1).ne.bind fun y S2=>(mv e4 S2).ne.bind fun z S3=>(match dcK acc y z with
          | some acc2=>dcL t l mt mk mv (W6 e vs) acc2 (ys.drop (i + 1)) S3
          | none => .bad) else dcL t l mt mk mv (W6 e vs) acc (ys.drop (i + 1)) S1).bind fin):=q2
      cases q5:(mt e4 S2).ne with
      | err _ _ _=>cases q6:mt e4 S2 <;> rw [q6] at q5 <;> cases q5
      | bad=>rw [q5] at q2; exact q2.elim
      | ok b S6 =>
        rw [q5] at q2
        refine Z4l (rel:=relB) st3 ev5 q5 fun ρ6 H6 v st6 g6 ev6 r6=>?_
        cases (show b=v from r6)
        have nD:D0 ∉ ρ2:=(st2.z D0 (.inr rfl)).1
        obtain ⟨nD6,d6⟩:=g6.keep D0 _ nD (k _ _ d2)
        have k6:∀ a o,a ∉ ρ1→H1 a=some o→a ∉ ρ6∧H6 a=some o:=fun a o h1 h2=>by
          obtain ⟨h3,h4⟩:=k2 a o h1 h2
          exact g6.keep a o h3 (k _ _ h4)
        have f6:∀ a ob u,H1 a=some (.frz ob u)→H6 a=some (.frz ob u):=fun a ob u q=>g6.fz a ob u (k _ _ (f2 a ob u q))
        have m36:=g6.mv st3
        have ev6':EvOk X.K (Wn Z' ρ6) ρ6 H6 (W6 e vs) (wipe σ vs):=ev3.mv m36 g6.pre
        have a6:KVR (AV X.K (Wn Z' ρ6) H6) acc ks:=Paired.mapP a2 fun _ _ q=>⟨q.1,(q.2.mv m23).mv m36⟩
        cases b with
        | false =>
          rw [if_neg Bool.false_ne_true]
          exact ⟨ρ6,S6,acc,ks,st6,pr2.trans g6.pre,k6,f6,d6,a6,ev6',q2⟩
        | true =>
          rw [if_pos rfl]
          have q2:Z23 X.K Z ρ1 H1 Wx σ Q (((mk e4 S6).ne.bind fun y S2=>(mv e4 S2).ne.bind fun z S3=>(match dcK acc y z with
            | some acc2=>dcL t l mt mk mv (W6 e vs) acc2 (ys.drop (i + 1)) S3
            | none => .bad)).bind fin):=q2
          cases q7:(mk e4 S6).ne with
          | err _ _ _=>cases q6:mk e4 S6 <;> rw [q6] at q7 <;> cases q7
          | bad=>rw [q7] at q2; exact q2.elim
          | ok y7 S7 =>
            rw [q7] at q2
            refine Z4l (rel:=AX X.K) st6 ev6 q7 fun ρ7 H7 v7 st7 g7 ev7 r7=>?_
            have q2:Z23 X.K Z ρ1 H1 Wx σ Q (((mv e4 S7).ne.bind fun z S3=>(match dcK acc y7 z with
              | some acc2=>dcL t l mt mk mv (W6 e vs) acc2 (ys.drop (i + 1)) S3
              | none => .bad)).bind fin):=q2
            cases q8:(mv e4 S7).ne with
            | err _ _ _=>cases q6:mv e4 S7 <;> rw [q6] at q8 <;> cases q8
            | bad=>rw [q8] at q2; exact q2.elim
            | ok z8 S8 =>
              rw [q8] at q2
              refine Z4l (rel:=AX X.K) st7 ev7 q8 fun ρ8 H8 v8 st8 g8 ev8 r8=>?_
              have q2:Z23 X.K Z ρ1 H1 Wx σ Q ((match dcK acc y7 z8 with
                | some acc2=>dcL t l mt mk mv (W6 e vs) acc2 (ys.drop (i + 1)) S8
                | none => .bad).bind fin):=q2
              cases q9:dcK acc y7 z8 with
              | none=>rw [q9] at q2; exact q2.elim
              | some acc2 =>
                rw [q9] at q2
                have r7':=r7.mv (g8.mv st7) g8.pre
                match y7,z8,r7',r8,q9 with
                | .r _,_,_,_,q9=>cases q9
                | .d _, .r _,_,_,q9=>cases q9
                | .d kk, .d vv, .d ak, .d av,q9 =>
                  have q9:(if kk.key?.isSome && (Y5t kk && decide (acc.length < sizeLine)) then some (Z98 acc kk vv) else none)=some acc2:=q9
                  obtain ⟨c0,q9⟩:=Z37 q9
                  cases q9
                  obtain ⟨c1,c2⟩:=Bool.and_eq_true_iff.mp c0
                  obtain ⟨_,c3⟩:=Bool.and_eq_true_iff.mp c2
                  obtain ⟨qk,hqk⟩:=Option.isSome_iff_exists.mp c1
                  have hv7:=Y9a hqk ak
                  obtain ⟨nD7,d7⟩:=g7.keep D0 _ nD6 d6
                  obtain ⟨nD8,d8⟩:=g8.keep D0 _ nD7 d7
                  have m68:=fun a o h1 h2=>let ⟨h3,h4⟩:=(g7.mv st6) a o h1 h2; (g8.mv st7) a o h3 h4
                  have a8:KVR (AV X.K (Wn Z' ρ8) H8) acc ks:=Paired.mapP a6 fun _ _ q=>⟨q.1,(q.2.mv (g7.mv st6)).mv (g8.mv st7)⟩
                  have k8:∀ a o,a ∉ ρ1→H1 a=some o→a ∉ ρ8∧H8 a=some o:=fun a o h1 h2=>by
                    obtain ⟨h3,h4⟩:=k6 a o h1 h2
                    obtain ⟨h5,h6⟩:=g7.keep a o h3 h4
                    exact g8.keep a o h5 h6
                  have wD:Wn Z' ρ8 D0 := .inl (.inr rfl)
                  have m9:Mv (Wn Z' ρ8) H8 (Wn Z' ρ8) (upd H8 D0 (.dK (putK ks qk v8))):=fun a o hn hq=>⟨hn,by rw [upd_ne (fun z=>hn (by rw [z]; exact wD))]; exact hq⟩
                  have neD:∀ b,b ∈ ρ8→b ≠ D0:=fun b hb z=>nD8 (by rw [← z]; exact hb)
                  have kv9:KVR (AV X.K (Wn Z' ρ8) (upd H8 D0 (.dK (putK ks qk v8)))) (Z98 acc kk vv) (putK ks qk v8):=Paired.mapP (KVR.put hqk av a8) fun _ _ q=>⟨q.1,q.2.mv m9⟩
                  refine ⟨ks,qk,hv7,d8,by rw [← a8.len]; exact of_decide_eq_true c3,ρ8,S8,Z98 acc kk vv,putK ks qk v8,⟨st8.nd,fun a z=>⟨(st8.z a z).1,?_⟩,st8.len,fun n o a e1 e2=>AO.mv m9 (List.prefix_refl _) (fun u q=>by rw [upd_ne (neD a (List.mem_of_getElem? e2))]; exact q) (st8.ob n o a e1 e2)⟩,((pr2.trans g6.pre).trans g7.pre).trans g8.pre,fun a o h1 h2=>?_,fun a ob u q=>by rw [upd_ne (fun z=>by rw [z,hD] at q; cases q)]; exact g8.fz a ob u (g7.fz a ob u (f6 a ob u q)),upd_same,kv9,((ev6'.mv (g7.mv st6) g7.pre).mv (g8.mv st7) g8.pre).mv m9 (List.prefix_refl _),q2⟩
                  · by_cases hz:a=D0
                    · exact ⟨_,by rw [hz]; exact upd_same⟩
                    · obtain ⟨o,q⟩:=(st8.z a z).2
                      exact ⟨o,by rw [upd_ne hz]; exact q⟩
                  · obtain ⟨h3,h4⟩:=k8 a o h1 h2
                    exact ⟨h3,by rw [upd_ne (fun z=>by rw [z,hD] at h2; cases h2)]; exact h4⟩
  · rintro H2 ⟨ρ2,S2,acc,ks,st2,pr2,k2,f2,d2,a2,ev2,q2⟩
    have hk:=okOf q2
    rw [List.drop_length] at q2
    simp only [dcL,hk,if_true] at q2
    have q2:Z23 X.K Z ρ1 H1 Wx σ Q (.ok (.d (.dic acc)) S2):=q2
    refine .inr ⟨D0,_,d2,trivial,fun od=>?_⟩
    have nD:D0 ∉ ρ2:=(st2.z D0 (.inr rfl)).1
    have nZ:¬ Wn Z ρ2 D0:=fun z=>z.elim (fun z=>st1.fresh hD (.inl z)) nD
    have m:Mv (Wn Z' ρ2) H2 (Wn Z ρ2) (upd H2 D0 (.frz od (.dK ks))):=fun a o hn hq=>⟨fun z=>hn (z.elim (fun z => .inl (.inl z)) .inr),by rw [upd_ne (fun z=>hn (.inl (.inr z)))]; exact hq⟩
    have neD:∀ b,b ∈ ρ2→b ≠ D0:=fun b hb z=>nD (by rw [← z]; exact hb)
    refine q2 ρ2 _ (.ref D0) ⟨st2.nd,fun a z=>⟨(st2.z a (.inl z)).1,?_⟩,st2.len,fun n o a e1 e2=>AO.mv m (List.prefix_refl _) (fun u q=>by rw [upd_ne (neD a (List.mem_of_getElem? e2))]; exact q) (st2.ob n o a e1 e2)⟩ ⟨pr2,fun a o h1 h2=>?_,fun a ob u q=>?_⟩ (.d (.dic nZ upd_same (KVR.avk (Paired.mapP a2 fun _ _ q=>⟨q.1,q.2.mv m⟩))))
    · by_cases hz:a=D0
      · exact ⟨_,by rw [hz]; exact upd_same⟩
      · obtain ⟨o,q⟩:=(st2.z a (.inl z)).2
        exact ⟨o,by rw [upd_ne hz]; exact q⟩
    · obtain ⟨h3,h4⟩:=k2 a o h1 h2
      exact ⟨h3,by rw [upd_ne (fun z=>by rw [z,hD] at h2; cases h2)]; exact h4⟩
    · rw [upd_ne (fun z=>by rw [z,hD] at q; cases q)]; exact f2 a ob u q
end
end Bv
namespace Bv
open PySem PySem.Spec L2
open PyProof.Rows hiding St
section
variable {X:Cx}
theorem X50 {i:Nat} {y:Str} {py:Pos} {kx vx tg iter:Expr} {ifs:List Expr} {scope:Scope} {own:List (Str × Nat)} {pos spos:Pos} {wi:TI} {g:TG} {tt:TT} {tk tv:TE} (hc:X.calm=true) (hN:X.N.Nodup) (hy:X.N[i]?=some y) (hyl:X.env.scope.names.lookup y=some .local)
    (hsw:swapsWith (.DictComp kx vx [⟨tg,iter,ifs,0⟩] scope pos) (some (.Name y py)) spos.line X.env=pure true) (hi:PI X tg iter wi) (ok:BlkOk X.N X.env.scope scope own)
    (hg:∀ (s:Shared) (H:Hp) (C:Addr) (cl:List (Str × Addr)) (fp:List Addr),PG (X.blk s H scope (compEnvC scope cl C X.env) fp) tg g) (ht:∀ (s:Shared) (H:Hp) (C:Addr) (cl:List (Str × Addr)) (fp:List Addr),PTs (X.blk s H scope (compEnvC scope cl C X.env) fp) ifs tt)
    (hk:∀ (s:Shared) (H:Hp) (C:Addr) (cl:List (Str × Addr)) (fp:List Addr),PE (X.blk s H scope (compEnvC scope cl C X.env) fp) kx tk) (he:∀ (s:Shared) (H:Hp) (C:Addr) (cl:List (Str × Addr)) (fp:List Addr),PE (X.blk s H scope (compEnvC scope cl C X.env) fp) vx tv)
    (hs:∀ x,foldedSetIterable iter X.env x=pure x:=by intro _; rfl):PS X (.Assign [.Name y py] (.DictComp kx vx [⟨tg,iter,ifs,0⟩] scope pos) spos) (tAsg (tFz (tDc wi g tt tk tv (own.map (·.2)))) (gName i)):=by
  refine ⟨fun pins s σ H D I h=>?_⟩
  rw [exec_Assign_Name_used _ _ _ _ hsw]
  refine wpAny_bind (wpAny_standAt (wpAny_bind ?_))
  show wpAny _ X.A (do let _ ← comprehension (.DictComp kx vx [⟨tg,iter,ifs,0⟩] scope pos) scope X.env (firstIterPos [⟨tg,iter,ifs,0⟩] pos) newDict false (eval iter X.env) (some (assign (.Name y py) X.env))) _ _ s
  have h:tDc wi g tt tk tv (own.map (·.2)) σ H (fun v H1=>gName i v σ H1 D.nx ∨ ∃ a u,H1 a=some u∧Mut (some u)∧∀ od,gName i v σ (upd H1 a (.frz od u)) D.nx):=h
  refine wpAny_bind (thn (dc_core (Qf:=fun _ s'=>SP X pins D .next s') hc hN I hi ok hg ht hk he hs h fun L C s' m H' I' q hn f=>?_) fun _ s' hq=>wpAny_pure (wpAny_pure hq))
  show wpAny _ _ (assign (.Name y py) X.env (.ref L)) _ _ _
  refine wpAny_assign_Name (store_ok2 (v:=V.ref L) I' hN hy (.inl hyl) rfl (fun s2 I2 ⟨a,sb,ha⟩=>?_) (.inr hyl))
  obtain ⟨f0,f1,f2,f3,f4,f5⟩:=f
  have away:C ≠ a:=ha.elim (fun z=>by rw [z]; exact f1) fun z e=>f4 y a z e.symm
  refine ⟨m,hn.sameBut sb away,fun h3 sb3=>?_⟩
  have J:=I2.turned (t':=s2.toks) (fun b o hb e=>(sb3.2 b hb).trans e) f0 f1 f3 f4 f5
  rcases q with q | ⟨b,u,hb,mu,q⟩
  · exact ⟨_,H',J,q⟩
  · obtain ⟨od,J2⟩:=J.lock hb mu
    exact ⟨_,_,J2,q od⟩
theorem W0v {kx vx:Expr} {gs:List Comprehension} {scope:Scope} {pos py:Pos} {y:Str} {l:Nat} {env:Env} (hk:env.scope.kind = .function) (hy:env.scope.names.lookup y=some .local) (hl:(py.line == pos.line)=true)
    (ha:(scope.names.any fun (n,k)=>n == y && (k == .local || k == .cell))=false):swapsWith (.DictComp kx vx gs scope pos) (some (.Name y py)) l env=pure true:=by
  have ky:env.kindOf y=some .local:=hy
  have hb:env.blockKind = .function:=by unfold Env.blockKind; rw [hk]; rfl
  unfold swapsWith
  simp only [hb,ky,ha,Expr.pos,hl]
  rfl
end
variable [HasW]
section
variable {X:Cx} {Wx:WX} {pos:Pos} {tg iter kx vx c:Expr} {ifs:List Expr} {mi:MIt} {mt:MG Bool} {mk mv:M} {t:Tg} {vs:List Nat}
theorem X5c {scope:Scope} {own:List (Str × Nat)} (hc:X.calm=true) (hN:X.N.Nodup) (hi:MI X Wx tg iter mi) (ok:BlkOk X.N X.env.scope scope own) (hsl:∀ i ∈ t.slots,i ∈ own.map (·.2))
    (hg:∀ (s:Shared) (H:Hp) (C:Addr) (cl:List (Str × Addr)) (fp:List Addr),PG (X.blk s H scope (compEnvC scope cl C X.env) fp) tg (TGt X.K t)) (ht:∀ (s:Shared) (H:Hp) (C:Addr) (cl:List (Str × Addr)) (fp:List Addr),MTs (X.blk s H scope (compEnvC scope cl C X.env) fp) WX0 ifs mt)
    (hk:∀ (s:Shared) (H:Hp) (C:Addr) (cl:List (Str × Addr)) (fp:List Addr),ME (X.blk s H scope (compEnvC scope cl C X.env) fp) WX0 kx mk) (he:∀ (s:Shared) (H:Hp) (C:Addr) (cl:List (Str × Addr)) (fp:List Addr),ME (X.blk s H scope (compEnvC scope cl C X.env) fp) WX0 vx mv)
    (hs:∀ x,foldedSetIterable iter X.env x=pure x:=by intro _; rfl):ME X Wx (.DictComp kx vx [⟨tg,iter,ifs,0⟩] scope pos) (X0e t mi mt mk mv (own.map (·.2))):=PE.of (X5v (pe_dc hc hN hi ok hg ht hk he hs)) fun _ _ _ h=>X6m hsl h
theorem X5e {i:Nat} {y:Str} {py spos:Pos} {scope:Scope} {own:List (Str × Nat)} (hc:X.calm=true) (hN:X.N.Nodup) (hy:X.N[i]?=some y) (hyl:X.env.scope.names.lookup y=some .local)
    (hsw:swapsWith (.DictComp kx vx [⟨tg,iter,ifs,0⟩] scope pos) (some (.Name y py)) spos.line X.env=pure true) (hi:MI X Wx tg iter mi) (ok:BlkOk X.N X.env.scope scope own) (hsl:∀ i ∈ t.slots,i ∈ own.map (·.2))
    (hg:∀ (s:Shared) (H:Hp) (C:Addr) (cl:List (Str × Addr)) (fp:List Addr),PG (X.blk s H scope (compEnvC scope cl C X.env) fp) tg (TGt X.K t)) (ht:∀ (s:Shared) (H:Hp) (C:Addr) (cl:List (Str × Addr)) (fp:List Addr),MTs (X.blk s H scope (compEnvC scope cl C X.env) fp) WX0 ifs mt)
    (hk:∀ (s:Shared) (H:Hp) (C:Addr) (cl:List (Str × Addr)) (fp:List Addr),ME (X.blk s H scope (compEnvC scope cl C X.env) fp) WX0 kx mk) (he:∀ (s:Shared) (H:Hp) (C:Addr) (cl:List (Str × Addr)) (fp:List Addr),ME (X.blk s H scope (compEnvC scope cl C X.env) fp) WX0 vx mv)
    (hs:∀ x,foldedSetIterable iter X.env x=pure x:=by intro _; rfl):MP X Wx (.Assign [.Name y py] (.DictComp kx vx [⟨tg,iter,ifs,0⟩] scope pos) spos) (W3 i (X0e t mi mt mk mv (own.map (·.2)))):=PS.of (X50 hc hN hy hyl hsw hi ok hg ht hk he hs) fun D σ H ⟨Z,ρ,e,S,st,ev,p⟩=>by
  refine X6m (mt:=mt) (mk:=mk) (mv:=mv) (t:=t) (Q:=fun v H1=>gName i v σ H1 D.nx) hsl ?_
  exact Z0h (rel:=AX X.K) st ev p fun ρ1 H1 v x S1 st1 g1 ev1 a1 p1=>p1.next st1 (ev1.set a1)
end
end Bv
namespace Bv
open PySem PySem.Spec L2
open PyProof.Rows hiding St
variable [HasW]
theorem W41 {K:PySem.W.Frag} {Z:Wd} {ρb:List Addr} {Hb:Hp} {Sb:Sto} {D0:Addr} {t:Tg} {l:Lk} {mt:MG Bool} {me:M} {vs:List Nat} {e e':Ev} {σ σ':L2.St} {ys:List Bv.X} {J:It} {G:Hp→Prop} {Y:Nat→Hp→V→Hp→Prop} {Pq:R Bv.X→Prop} {k:List D→Sto→R Bv.X} {acc0:List D} {xs0:List V} {Nx:Hp→Prop}
    (hs:∀ i ∈ t.slots,i ∈ vs) (w:Walk J ys.length G Y)
    (sv:∀ (Z2:Wd) (ρ2:List Addr) (S2:Sto) (H2:Hp),Sta K Z2 ρ2 S2 H2→Mv (Wn (fun a=>Z a ∨ a=D0) ρb) Hb (Wn Z2 ρ2) H2→ρb <+: ρ2→(∀ a ob u,Hb a=some (.frz ob u)→H2 a=some (.frz ob u))→l.ok S2=true→G H2∧∀ i x H3,Y i H2 x H3→Same H2 H3∧∃ y,ys[i]?=some y∧AX K (Wn Z2 ρ2) ρ2 H3 y x)
    (hbad:¬ Pq .bad) (hlen:∀ acc S,Pq (k acc S)→acc.length ≤ sizeLine)
    (st:Sta K (fun a=>Z a ∨ a=D0) ρb Sb Hb) (d0:Hb D0=some (.lst xs0)) (a0:AVs K (Wn (fun a=>Z a ∨ a=D0) ρb) Hb acc0 xs0) (ev:EvOk K (Wn (fun a=>Z a ∨ a=D0) ρb) ρb Hb (W6 e vs) (wipe σ vs)) (ev':EvOk K (Wn (fun a=>Z a ∨ a=D0) ρb) ρb Hb e' σ')
    (p:Pq ((lcL t l mt me (W6 e vs) ys Sb).bind fun ds S'=>k (acc0++ds) S'))
    (fin:∀ (ρ:List Addr) (S:Sto) (H:Hp) (acc:List D) (xs:List V),Sta K (fun a=>Z a ∨ a=D0) ρ S H→ρb <+: ρ→(∀ a o,a ∉ ρb→a ≠ D0→Hb a=some o→a ∉ ρ∧H a=some o)→(∀ a ob u,Hb a=some (.frz ob u)→H a=some (.frz ob u))→H D0=some (.lst xs)→AVs K (Wn (fun a=>Z a ∨ a=D0) ρ) H acc xs→EvOk K (Wn (fun a=>Z a ∨ a=D0) ρ) ρ H e' σ'→Pq (k acc S)→Nx H) :
    ∃ W:Nat→Nat→Hp→Prop,(∃ m,W 0 m Hb)∧∀ i m H,W i m H →
      (J.stop i H∧Nx H) ∨ (J.go i H∧∃ Nx1:Hp→Prop,(∀ H',Nx1 H'→∃ m',m' < m∧W (i + 1) m' H')∧∀ x H',J.yld i H x H'→(TGt K t) x (wipe σ vs) H' fun σ2 H2=>wipe σ2 vs=wipe σ vs∧(RB K WX0 mt) σ2 H2 fun b H3 =>
        if b=true then (RE K WX0 me) σ2 H3 fun y H4=>∃ acc,H4 D0=some (.lst acc)∧acc.length < sizeLine∧Nx1 (upd H4 D0 (.lst (acc++[y]))) else Nx1 H3):=by
  let Z':Wd:=fun a=>Z a ∨ a=D0
  have nDb:D0 ∉ ρb:=(st.z D0 (.inr rfl)).1
  let Pv:Nat→Hp→Prop:=fun i H=>∃ (ρ:List Addr) (S:Sto) (acc:List D) (xs:List V),Sta K Z' ρ S H∧ρb <+: ρ∧(∀ a o,a ∉ ρb→a ≠ D0→Hb a=some o→a ∉ ρ∧H a=some o)∧(∀ a ob u,Hb a=some (.frz ob u)→H a=some (.frz ob u))∧H D0=some (.lst xs)∧AVs K (Wn Z' ρ) H acc xs ∧
    EvOk K (Wn Z' ρ) ρ H (W6 e vs) (wipe σ vs)∧EvOk K (Wn Z' ρ) ρ H e' σ'∧Pq ((lcL t l mt me (W6 e vs) (ys.drop i) S).bind fun ds S'=>k (acc++ds) S')
  have mvOf:∀ {ρ:List Addr} {S:Sto} {H:Hp},Sta K Z' ρ S H→(∀ a o,a ∉ ρb→a ≠ D0→Hb a=some o→a ∉ ρ∧H a=some o)→Mv (Wn Z' ρb) Hb (Wn Z' ρ) H:=fun {ρ S H} s kp a o hn hq=>by
    obtain ⟨h2,h3⟩:=kp a o (fun z=>hn (.inr z)) (fun z=>hn (.inl (.inr z))) hq
    exact ⟨fun z=>z.elim (fun z=>hn (.inl z)) h2,h3⟩
  have okOf:∀ {xs:List Bv.X} {S:Sto} {acc:List D},Pq ((lcL t l mt me (W6 e vs) xs S).bind fun ds S'=>k (acc++ds) S')→l.ok S=true:=fun {xs S acc} q=>by
    cases z:l.ok S with
    | true=>rfl
    | false=>cases xs <;> (simp only [lcL,z] at q; exact (hbad q).elim)
  refine ⟨fun i m H=>m=ys.length - i∧i ≤ ys.length∧Pv i H,⟨ys.length,(Nat.sub_zero _).symm,Nat.zero_le _,ρb,Sb,acc0,xs0,st,List.prefix_refl _,fun a o h _ q=>⟨h,q⟩,fun _ _ _ q=>q,d0,a0,ev,ev',by rw [List.drop_zero]; exact p⟩,fun i m H2 ⟨em,hi,ρ2,S2,acc,xs,st2,pr2,k2,f2,d2,a2,ev2,ev2',q2⟩=>?_⟩
  subst em
  have hk:=okOf q2
  have gG:=(sv Z' ρ2 S2 H2 st2 (mvOf st2 k2) pr2 f2 hk).1
  rcases Nat.lt_or_ge i ys.length with hlt | hge
  case inr =>
    obtain rfl:i=ys.length:=by omega
    rw [List.drop_length] at q2
    simp only [lcL,hk,if_true] at q2
    have q2:Pq (k (acc++[]) S2):=q2
    rw [List.append_nil] at q2
    exact .inl ⟨w.stops H2 gG,fin ρ2 S2 H2 acc xs st2 pr2 k2 f2 d2 a2 ev2' q2⟩
  case inl =>
    refine .inr ⟨w.goes i H2 hlt gG,Pv (i + 1),fun H' p'=>⟨ys.length - (i + 1),by omega,rfl,hlt,p'⟩,fun x H3 hy=>?_⟩
    obtain ⟨kk,y,e3,a⟩:=(sv Z' ρ2 S2 H2 st2 (mvOf st2 k2) pr2 f2 hk).2 i x H3 (w.yields i H2 x H3 hlt gG hy)
    have st3:=st2.grow kk
    have m23:Mv (Wn Z' ρ2) H2 (Wn Z' ρ2) H3:=Z26 kk
    have ev3:=ev2.mv m23 (List.prefix_refl _)
    have ev3':=ev2'.mv m23 (List.prefix_refl _)
    rw [Z5u e3] at q2
    simp only [lcL,hk,if_true] at q2
    cases q4:t.asg S2 y (W6 e vs) with
    | none=>rw [q4] at q2; exact (hbad q2).elim
    | some e4 =>
      rw [q4] at q2
      refine ⟨Z',ρ2,W6 e vs,S2,y,e4,st3,ev3,a,q4,fun σ5 ev5 w5=>⟨?_,?_⟩⟩
      · rw [w5 vs hs,Z5i]
      have q2:Pq (((mt e4 S2).ne.bind fun b S1=>if b then (me e4 S1).ne.bind fun y S2=>(match y with
          | .d d=>(lcL t l mt me (W6 e vs) (ys.drop (i + 1)) S2).bind fun ds S3 => .ok (d :: ds) S3
          | .r _ => .bad) else lcL t l mt me (W6 e vs) (ys.drop (i + 1)) S1).bind fun ds S'=>k (acc++ds) S'):=q2
      cases q5:(mt e4 S2).ne with
      | err _ _ _=>cases q6:mt e4 S2 <;> rw [q6] at q5 <;> cases q5
      | bad=>rw [q5] at q2; exact (hbad q2).elim
      | ok b S6 =>
        rw [q5] at q2
        refine Z4l (rel:=relB) st3 ev5 q5 fun ρ6 H6 v st6 g6 ev6 r6=>?_
        cases (show b=v from r6)
        have nD:D0 ∉ ρ2:=(st2.z D0 (.inr rfl)).1
        obtain ⟨nD6,d6⟩:=g6.keep D0 _ nD (kk _ _ d2)
        have k6:∀ a o,a ∉ ρb→a ≠ D0→Hb a=some o→a ∉ ρ6∧H6 a=some o:=fun a o h1 h2 h3=>by
          obtain ⟨h4,h5⟩:=k2 a o h1 h2 h3
          exact g6.keep a o h4 (kk _ _ h5)
        have f6:∀ a ob u,Hb a=some (.frz ob u)→H6 a=some (.frz ob u):=fun a ob u q=>g6.fz a ob u (kk _ _ (f2 a ob u q))
        have m36:=g6.mv st3
        have evA:=ev3.mv m36 g6.pre
        have evB:=ev3'.mv m36 g6.pre
        have a6:=(a2.mv m23).mv m36
        cases b with
        | false =>
          rw [if_neg Bool.false_ne_true]
          exact ⟨ρ6,S6,acc,xs,st6,pr2.trans g6.pre,k6,f6,d6,a6,evA,evB,q2⟩
        | true =>
          rw [if_pos rfl]
          have q2:Pq (((me e4 S6).ne.bind fun y S2=>(match y with
            | .d d=>(lcL t l mt me (W6 e vs) (ys.drop (i + 1)) S2).bind fun ds S3 => .ok (d :: ds) S3
            | .r _ => .bad)).bind fun ds S'=>k (acc++ds) S'):=q2
          cases q7:(me e4 S6).ne with
          | err _ _ _=>cases q6:me e4 S6 <;> rw [q6] at q7 <;> cases q7
          | bad=>rw [q7] at q2; exact (hbad q2).elim
          | ok z S7 =>
            rw [q7] at q2
            refine Z4l (rel:=AX K) st6 ev6 q7 fun ρ7 H7 v st7 g7 ev7 r7=>?_
            cases z with
            | r _=>exact (hbad q2).elim
            | d d =>
              have q2:Pq (((lcL t l mt me (W6 e vs) (ys.drop (i + 1)) S7).bind fun ds S3 => .ok (d :: ds) S3).bind fun ds S'=>k (acc++ds) S'):=q2
              rw [R.bind_assoc] at q2
              obtain ⟨nD7,d7⟩:=g7.keep D0 _ nD6 d6
              have m67:=g7.mv st6
              have a7:=a6.mv m67
              have k7:∀ a o,a ∉ ρb→a ≠ D0→Hb a=some o→a ∉ ρ7∧H7 a=some o:=fun a o h1 h2 h3=>by
                obtain ⟨h4,h5⟩:=k6 a o h1 h2 h3
                exact g7.keep a o h4 h5
              have fzD:∀ ob u,Hb D0 ≠ some (.frz ob u):=fun ob u z=>by rw [d0] at z; cases z
              cases r7 with
              | d r7 =>
                have hacc:acc.length < sizeLine:=by
                  cases q8:lcL t l mt me (W6 e vs) (ys.drop (i + 1)) S7 with
                  | bad=>rw [q8] at q2; exact (hbad q2).elim
                  | err C fs S8=>exact absurd q8 Z83
                  | ok ds S8 =>
                    rw [q8] at q2
                    have hl:=hlen _ _ (show Pq (k (acc++(d :: ds)) S8) from q2)
                    rw [List.length_append,List.length_cons] at hl
                    omega
                have wD:Wn Z' ρ7 D0 := .inl (.inr rfl)
                have m8:Mv (Wn Z' ρ7) H7 (Wn Z' ρ7) (upd H7 D0 (.lst (xs++[v]))):=fun a o hn hq=>⟨hn,by rw [upd_ne (fun z=>hn (by rw [z]; exact wD))]; exact hq⟩
                have neD:∀ b,b ∈ ρ7→b ≠ D0:=fun b hb z=>nD7 (by rw [← z]; exact hb)
                refine ⟨xs,d7,by rw [← a7.length]; exact hacc,ρ7,S7,acc++[d],xs++[v],⟨st7.nd,fun a z=>⟨(st7.z a z).1,?_⟩,st7.len,fun n o a e1 e2=>AO.mv m8 (List.prefix_refl _) (fun u q=>by rw [upd_ne (neD a (List.mem_of_getElem? e2))]; exact q) (st7.ob n o a e1 e2)⟩,(pr2.trans g6.pre).trans g7.pre,fun a o h1 h2 h3=>?_,fun a ob u q=>by rw [upd_ne (fun z=>fzD ob u (by rw [← z]; exact q))]; exact g7.fz a ob u (f6 a ob u q),upd_same,(a7.append (.cons r7 .nil)).mv m8,(evA.mv m67 g7.pre).mv m8 (List.prefix_refl _),(evB.mv m67 g7.pre).mv m8 (List.prefix_refl _),?_⟩
                · by_cases hz:a=D0
                  · exact ⟨_,by rw [hz]; exact upd_same⟩
                  · obtain ⟨o,q⟩:=(st7.z a z).2
                    exact ⟨o,by rw [upd_ne hz]; exact q⟩
                · obtain ⟨h4,h5⟩:=k7 a o h1 h2 h3
                  exact ⟨h4,by rw [upd_ne h2]; exact h5⟩
                · have e9:(fun (ds:List D) (S':Sto)=>k (acc++[d]++ds) S')=fun ds S'=>k (acc++(d :: ds)) S':=by
                    funext ds S'
                    rw [List.append_assoc]; rfl
                  show Pq ((lcL t l mt me (W6 e vs) (ys.drop (i + 1)) S7).bind fun ds S'=>k (acc++[d]++ds) S')
                  rw [e9]
                  exact q2
end Bv
namespace Bv
open PySem PySem.Spec L2
open PyProof.Rows hiding St
variable [HasW]
def Z8b (t:Tg) (l:Lk) (mt:MG Bool) (t1:Tg) (mi1:MIt) (mt1:MG Bool) (me:M) (e:Ev) (vs1:List Nat):List Bv.X→Sto→R (List D)
  | [],S=>if l.ok S then .ok [] S else .bad
  | x :: xs,S=>if l.ok S then (match t.asg S x e with
    | some e1=>(mt e1 S).ne.bind fun b S1=>if b then (mi1 e1 S1).ne.bind fun p S2=>(lcL t1 p.2 mt1 me (W6 e1 vs1) p.1 S2).bind fun ds S3=>(Z8b t l mt t1 mi1 mt1 me e vs1 xs S3).bind fun ds2 S4 => .ok (ds++ds2) S4 else Z8b t l mt t1 mi1 mt1 me e vs1 xs S1
    | none => .bad) else .bad
def Y3p (t:Tg) (mi:MIt) (mt:MG Bool) (t1:Tg) (mi1:MIt) (mt1:MG Bool) (me:M) (vs vs1:List Nat):M:=fun e S=>(mi e S).bind fun p S1=>(Z8b t p.2 mt t1 mi1 mt1 me (W6 e vs) vs1 p.1 S1).bind Z5v
theorem X67 {α:Type} {r:R α} {C fs S}:r.ne ≠ .err C fs S:=fun h=>by cases r <;> cases h
theorem Z93 {α β:Type} {r:R α} {f:α→Sto→R β} {C fs S} (h:r.bind f = .err C fs S):r = .err C fs S ∨ ∃ a S1,f a S1 = .err C fs S:=by
  cases r with
  | ok a S1=>exact .inr ⟨a,S1,h⟩
  | err _ _ _=>cases h; exact .inl rfl
  | bad=>cases h
section
variable {t t1:Tg} {l:Lk} {mt mt1:MG Bool} {mi1:MIt} {me:M} {e:Ev} {vs1:List Nat}
theorem Y3m:∀ {xs:List Bv.X} {S:Sto} {C fs S'},Z8b t l mt t1 mi1 mt1 me e vs1 xs S ≠ .err C fs S'
  | [],S,C,fs,S',h=>by
    simp only [Z8b] at h
    split at h <;> cases h
  | x :: xs,S,C,fs,S',h=>by
    simp only [Z8b] at h
    split at h
    · split at h
      · rcases Z93 h with h | ⟨b,S1,h⟩
        · exact X67 h
        · split at h
          · rcases Z93 h with h | ⟨p,S2,h⟩
            · exact X67 h
            · rcases Z93 h with h | ⟨ds,S3,h⟩
              · exact Z83 h
              · rcases Z93 h with h | ⟨ds2,S4,h⟩
                · exact Y3m h
                · cases h
          · exact Y3m h
      · cases h
    · cases h
end
section
variable {X:Cx} {Wx:WX} {pos:Pos} {tg iter tg1 iter1 elt c:Expr} {ifs ifs1:List Expr} {mi mi1:MIt} {mt mt1:MG Bool} {me:M} {t t1:Tg} {vs vs1:List Nat}
theorem X2i (hs:∀ i ∈ t.slots,i ∈ vs) (hs1:∀ i ∈ t1.slots,i ∈ vs1) {σ:L2.St} {H:Hp} {Q:VK} (h:RE X.K Wx (Y3p t mi mt t1 mi1 mt1 me vs vs1) σ H Q):tLc2 (RG (Srv X.K) X.K Wx mi) (TGt X.K t) (RB X.K WX0 mt) (RG (Srv X.K) X.K WX0 mi1) (TGt X.K t1) (RB X.K WX0 mt1) (RE X.K WX0 me) vs vs1 σ H Q:=by
  obtain ⟨Z,ρ,e,S,st,ev,p⟩:=h
  refine X5 (rel:=Srv X.K) st ev p fun ρ1 H1 J p0 S1 st1 g1 ev1 srv p1=>?_
  obtain ⟨ys,l⟩:=p0
  obtain ⟨G,Y,w,sv⟩:=srv
  intro D0 hD
  have p1:Z23 X.K Z ρ1 H1 Wx σ Q ((Z8b t l mt t1 mi1 mt1 me (W6 e vs) vs1 ys S1).bind Z5v):=p1
  have sv:∀ (Z2:Wd) (ρ2:List Addr) (S2:Sto) (H2:Hp),Sta X.K Z2 ρ2 S2 H2→Mv (Wn Z ρ1) H1 (Wn Z2 ρ2) H2→ρ1 <+: ρ2→(∀ a ob u,H1 a=some (.frz ob u)→H2 a=some (.frz ob u))→l.ok S2=true→G H2 ∧
    ∀ i x H3,Y i H2 x H3→Same H2 H3∧∃ y,ys[i]?=some y∧AX X.K (Wn Z2 ρ2) ρ2 H3 y x:=sv
  have w:Walk J ys.length G Y:=w
  have evw:=ev1.wipe vs
  let Z':Wd:=fun a=>Z a ∨ a=D0
  let Pv:Nat→Hp→Prop:=fun i H=>∃ (ρ:List Addr) (S:Sto) (acc:List D) (xs:List V),Sta X.K Z' ρ S H∧ρ1 <+: ρ∧(∀ a o,a ∉ ρ1→H1 a=some o→a ∉ ρ∧H a=some o)∧(∀ a ob u,H1 a=some (.frz ob u)→H a=some (.frz ob u))∧H D0=some (.lst xs)∧AVs X.K (Wn Z' ρ) H acc xs ∧
    EvOk X.K (Wn Z' ρ) ρ H (W6 e vs) (wipe σ vs)∧Z23 X.K Z ρ1 H1 Wx σ Q ((Z8b t l mt t1 mi1 mt1 me (W6 e vs) vs1 (ys.drop i) S).bind fun ds S'=>Z5v (acc++ds) S')
  have mvOf:∀ {ρ:List Addr} {S:Sto} {H:Hp},Sta X.K Z' ρ S H→(∀ a o,a ∉ ρ1→H1 a=some o→a ∉ ρ∧H a=some o)→Mv (Wn Z ρ1) H1 (Wn Z' ρ) H:=fun {ρ S H} s kp a o hn hq=>by
    obtain ⟨h2,h3⟩:=kp a o (fun z=>hn (.inr z)) hq
    refine ⟨fun z=>?_,h3⟩
    rcases z with (z | z) | z
    · exact hn (.inl z)
    · rw [z,hD] at hq; cases hq
    · exact h2 z
  have okOf:∀ {xs:List Bv.X} {S:Sto} {acc:List D},Z23 X.K Z ρ1 H1 Wx σ Q ((Z8b t l mt t1 mi1 mt1 me (W6 e vs) vs1 xs S).bind fun ds S'=>Z5v (acc++ds) S')→l.ok S=true:=fun {xs S acc} q=>by
    cases z:l.ok S with
    | true=>rfl
    | false=>cases xs <;> (simp only [Z8b,z] at q; exact q.elim)
  have start:Pv 0 (upd H1 D0 (.lst [])):=by
    have k:=V9 (o := .lst []) hD
    have hnw:¬ Wn Z ρ1 D0:=st1.fresh hD
    have m0:Mv (Wn Z ρ1) H1 (Wn Z' ρ1) (upd H1 D0 (.lst [])):=fun a o hn hq=>⟨fun z=>by
      rcases z with (z | z) | z
      · exact hn (.inl z)
      · rw [z,hD] at hq; cases hq
      · exact hn (.inr z),k a o hq⟩
    refine ⟨ρ1,S1,[],[],⟨st1.nd,fun a z=>?_,st1.len,fun n o a e1 e2=>AO.mv m0 (List.prefix_refl _) (fun u q=>k _ _ q) (st1.ob n o a e1 e2)⟩,List.prefix_refl _,fun a o hn hq=>⟨hn,k a o hq⟩,fun a _ _ q=>k a _ q,upd_same, .nil,evw.mv m0 (List.prefix_refl _),?_⟩
    · rcases z with z | z
      · exact ⟨(st1.z a z).1,let ⟨o,q⟩:=(st1.z a z).2; ⟨o,k a o q⟩⟩
      · exact ⟨fun z2=>hnw (.inr (by rw [← z]; exact z2)),⟨_,by rw [z]; exact upd_same⟩⟩
    · rw [List.drop_zero]
      exact p1
  refine ⟨fun i m H=>m=ys.length - i∧i ≤ ys.length∧Pv i H,⟨ys.length,(Nat.sub_zero _).symm,Nat.zero_le _,start⟩,fun i m H2 ⟨em,hi,ρ2,S2,acc,xs,st2,pr2,k2,f2,d2,a2,ev2,q2⟩=>?_⟩
  subst em
  have hk:=okOf q2
  have gG:=(sv Z' ρ2 S2 H2 st2 (mvOf st2 k2) pr2 f2 hk).1
  rcases Nat.lt_or_ge i ys.length with hlt | hge
  case inr =>
    obtain rfl:i=ys.length:=by omega
    rw [List.drop_length] at q2
    simp only [Z8b,hk,if_true] at q2
    have q2:Z23 X.K Z ρ1 H1 Wx σ Q (Z5v (acc++[]) S2):=q2
    rw [List.append_nil] at q2
    have q2:Z23 X.K Z ρ1 H1 Wx σ Q (if acc.length ≤ sizeLine then .ok (.d (.lst acc)) S2 else .bad):=q2
    refine .inl ⟨w.stops H2 gG,?_⟩
    by_cases hl:acc.length ≤ sizeLine
    · rw [if_pos hl] at q2
      have m:Mv (Wn Z' ρ2) H2 (Wn Z ρ2) H2:=fun a o hn hq=>⟨fun z=>hn (z.elim (fun z => .inl (.inl z)) .inr),hq⟩
      refine q2 ρ2 H2 (.ref D0) ⟨st2.nd,fun a z=>st2.z a (.inl z),st2.len,fun n o a e1 e2=>AO.mv m (List.prefix_refl _) (fun u q=>q) (st2.ob n o a e1 e2)⟩ ⟨pr2,k2,f2⟩ (.d (.lst (fun z=>?_) d2 (a2.mv m)))
      rcases z with z | z
      · exact st1.fresh hD (.inl z)
      · exact (st2.z D0 (.inr rfl)).1 z
    · rw [if_neg hl] at q2; exact q2.elim
  case inl =>
    refine .inr ⟨w.goes i H2 hlt gG,Pv (i + 1),fun H' p'=>⟨ys.length - (i + 1),by omega,rfl,hlt,p'⟩,fun x H3 hy=>?_⟩
    obtain ⟨kk,y,e3,a⟩:=(sv Z' ρ2 S2 H2 st2 (mvOf st2 k2) pr2 f2 hk).2 i x H3 (w.yields i H2 x H3 hlt gG hy)
    have st3:=st2.grow kk
    have m23:Mv (Wn Z' ρ2) H2 (Wn Z' ρ2) H3:=Z26 kk
    have ev3:=ev2.mv m23 (List.prefix_refl _)
    rw [Z5u e3] at q2
    simp only [Z8b,hk,if_true] at q2
    cases q4:t.asg S2 y (W6 e vs) with
    | none=>rw [q4] at q2; exact q2.elim
    | some e4 =>
      rw [q4] at q2
      refine ⟨Z',ρ2,W6 e vs,S2,y,e4,st3,ev3,a,q4,fun σ5 ev5 w5=>⟨?_,?_⟩⟩
      · rw [w5 vs hs,Z5i]
      have q2:Z23 X.K Z ρ1 H1 Wx σ Q (((mt e4 S2).ne.bind fun b S1=>if b then (mi1 e4 S1).ne.bind fun p S2=>(lcL t1 p.2 mt1 me (W6 e4 vs1) p.1 S2).bind fun ds S3=>(Z8b t l mt t1 mi1 mt1 me (W6 e vs) vs1 (ys.drop (i + 1)) S3).bind fun ds2 S4 => .ok (ds++ds2) S4 else Z8b t l mt t1 mi1 mt1 me (W6 e vs) vs1 (ys.drop (i + 1)) S1).bind fun ds S'=>Z5v (acc++ds) S'):=q2
      cases q5:(mt e4 S2).ne with
      | err _ _ _=>cases q6:mt e4 S2 <;> rw [q6] at q5 <;> cases q5
      | bad=>rw [q5] at q2; exact q2.elim
      | ok b S6 =>
        rw [q5] at q2
        refine Z4l (rel:=relB) st3 ev5 q5 fun ρ6 H6 v st6 g6 ev6 r6=>?_
        cases (show b=v from r6)
        have nD:D0 ∉ ρ2:=(st2.z D0 (.inr rfl)).1
        obtain ⟨nD6,d6⟩:=g6.keep D0 _ nD (kk _ _ d2)
        have k6:∀ a o,a ∉ ρ1→H1 a=some o→a ∉ ρ6∧H6 a=some o:=fun a o h1 h2=>by
          obtain ⟨h3,h4⟩:=k2 a o h1 h2
          exact g6.keep a o h3 (kk _ _ h4)
        have f6:∀ a ob u,H1 a=some (.frz ob u)→H6 a=some (.frz ob u):=fun a ob u q=>g6.fz a ob u (kk _ _ (f2 a ob u q))
        have m36:=g6.mv st3
        have evA:EvOk X.K (Wn Z' ρ6) ρ6 H6 (W6 e vs) (wipe σ vs):=ev3.mv m36 g6.pre
        have a6:=(a2.mv m23).mv m36
        cases b with
        | false =>
          rw [if_neg Bool.false_ne_true]
          exact ⟨ρ6,S6,acc,xs,st6,pr2.trans g6.pre,k6,f6,d6,a6,evA,q2⟩
        | true =>
          rw [if_pos rfl]
          have q2:Z23 X.K Z ρ1 H1 Wx σ Q (((mi1 e4 S6).ne.bind fun p S2=>(lcL t1 p.2 mt1 me (W6 e4 vs1) p.1 S2).bind fun ds S3=>(Z8b t l mt t1 mi1 mt1 me (W6 e vs) vs1 (ys.drop (i + 1)) S3).bind fun ds2 S4 => .ok (ds++ds2) S4).bind fun ds S'=>Z5v (acc++ds) S'):=q2
          cases q7:(mi1 e4 S6).ne with
          | err _ _ _=>cases q6:mi1 e4 S6 <;> rw [q6] at q7 <;> cases q7
          | bad=>rw [q7] at q2; exact q2.elim
          | ok pp S7 =>
            rw [q7] at q2
            refine Z4l (rel:=Srv X.K) st6 ev6 q7 fun ρ7 H7 J1 st7 g7 ev7 srv7=>?_
            obtain ⟨ys1,l1⟩:=pp
            obtain ⟨G1,Y1,w1,sv1⟩:=srv7
            have q2:Z23 X.K Z ρ1 H1 Wx σ Q (((lcL t1 l1 mt1 me (W6 e4 vs1) ys1 S7).bind fun ds S3=>(Z8b t l mt t1 mi1 mt1 me (W6 e vs) vs1 (ys.drop (i + 1)) S3).bind fun ds2 S4 => .ok (ds++ds2) S4).bind fun ds S'=>Z5v (acc++ds) S'):=q2
            rw [R.bind_assoc] at q2
            obtain ⟨nD7,d7⟩:=g7.keep D0 _ nD6 d6
            have m67:=g7.mv st6
            have a7:=a6.mv m67
            have evB:=evA.mv m67 g7.pre
            have ev7w:=ev7.wipe vs1
            let k:List D→Sto→R Bv.X:=fun ds S3=>(Z8b t l mt t1 mi1 mt1 me (W6 e vs) vs1 (ys.drop (i + 1)) S3).bind fun ds2 S4=>Z5v (ds++ds2) S4
            have q3:Z23 X.K Z ρ1 H1 Wx σ Q ((lcL t1 l1 mt1 me (W6 e4 vs1) ys1 S7).bind fun ds S'=>k (acc++ds) S'):=by
              have e9:(fun (ds:List D) (S3:Sto)=>((Z8b t l mt t1 mi1 mt1 me (W6 e vs) vs1 (ys.drop (i + 1)) S3).bind fun ds2 S4=>R.ok (ds++ds2) S4).bind fun ds S'=>Z5v (acc++ds) S')=fun ds S'=>k (acc++ds) S':=by
                funext ds S3
                rw [R.bind_assoc]
                show (Z8b t l mt t1 mi1 mt1 me (W6 e vs) vs1 (ys.drop (i + 1)) S3).bind (fun ds2 S4=>Z5v (acc++(ds++ds2)) S4)=(Z8b t l mt t1 mi1 mt1 me (W6 e vs) vs1 (ys.drop (i + 1)) S3).bind fun ds2 S4=>Z5v (acc++ds++ds2) S4
                congr 1
                funext ds2 S4
                rw [List.append_assoc]
              rw [e9] at q2
              exact q2
            have hlen:∀ acc S,Z23 X.K Z ρ1 H1 Wx σ Q (k acc S)→acc.length ≤ sizeLine:=fun acc S q=>by
              have q:Z23 X.K Z ρ1 H1 Wx σ Q ((Z8b t l mt t1 mi1 mt1 me (W6 e vs) vs1 (ys.drop (i + 1)) S).bind fun ds2 S4=>Z5v (acc++ds2) S4):=q
              cases q8:Z8b t l mt t1 mi1 mt1 me (W6 e vs) vs1 (ys.drop (i + 1)) S with
              | bad=>rw [q8] at q; exact q.elim
              | err C fs S8=>exact absurd q8 Y3m
              | ok ds S8 =>
                rw [q8] at q
                have q:Z23 X.K Z ρ1 H1 Wx σ Q (if (acc++ds).length ≤ sizeLine then .ok (.d (.lst (acc++ds))) S8 else .bad):=q
                by_cases hl:(acc++ds).length ≤ sizeLine
                · rw [List.length_append] at hl; omega
                · rw [if_neg hl] at q; exact q.elim
            exact W41 (Pq:=Z23 X.K Z ρ1 H1 Wx σ Q) (k:=k) (Nx:=Pv (i + 1)) (Z:=Z) (D0:=D0) (e:=e4) (e':=W6 e vs) (σ':=wipe σ vs) (acc0:=acc) (xs0:=xs) hs1 w1 sv1 (fun z=>z) hlen st7 d7 a7 ev7w evB q3 fun ρ8 S8 H8 acc8 xs8 st8 pr8 k8 f8 d8 a8 ev8 q8 =>
              ⟨ρ8,S8,acc8,xs8,st8,((pr2.trans g6.pre).trans g7.pre).trans pr8,fun a o h1 h2=>by
                obtain ⟨h3,h4⟩:=k6 a o h1 h2
                obtain ⟨h5,h6⟩:=g7.keep a o h3 h4
                exact k8 a o h5 (fun z=>by rw [z,hD] at h2; cases h2) h6,fun a ob u q=>f8 a ob u (g7.fz a ob u (f6 a ob u q)),d8,a8,ev8,q8⟩
theorem W2s {scope:Scope} {own:List (Str × Nat)} (hc:X.calm=true) (hN:X.N.Nodup) (hi:MI X Wx tg iter mi) (ok:BlkOk X.N X.env.scope scope own) (hv:∀ i ∈ vs1,i ∈ own.map (·.2)) (hsl:∀ i ∈ t.slots,i ∈ own.map (·.2)) (hsl1:∀ i ∈ t1.slots,i ∈ vs1)
    (hg:∀ (s:Shared) (H:Hp) (C:Addr) (cl:List (Str × Addr)) (fp:List Addr),PG (X.blk s H scope (compEnvC scope cl C X.env) fp) tg (TGt X.K t)) (ht:∀ (s:Shared) (H:Hp) (C:Addr) (cl:List (Str × Addr)) (fp:List Addr),MTs (X.blk s H scope (compEnvC scope cl C X.env) fp) WX0 ifs mt)
    (hi1:∀ (s:Shared) (H:Hp) (C:Addr) (cl:List (Str × Addr)) (fp:List Addr),MI (X.blk s H scope (compEnvC scope cl C X.env) fp) WX0 tg1 iter1 mi1)
    (hg1:∀ (s:Shared) (H:Hp) (C:Addr) (cl:List (Str × Addr)) (fp:List Addr),PG (X.blk s H scope (compEnvC scope cl C X.env) fp) tg1 (TGt X.K t1)) (ht1:∀ (s:Shared) (H:Hp) (C:Addr) (cl:List (Str × Addr)) (fp:List Addr),MTs (X.blk s H scope (compEnvC scope cl C X.env) fp) WX0 ifs1 mt1)
    (he:∀ (s:Shared) (H:Hp) (C:Addr) (cl:List (Str × Addr)) (fp:List Addr),ME (X.blk s H scope (compEnvC scope cl C X.env) fp) WX0 elt me) (hs:∀ x,foldedSetIterable iter X.env x=pure x:=by intro _; rfl) (hs1:∀ env x,foldedSetIterable iter1 env x=pure x:=by intro _ _; rfl) :
    ME X Wx (.ListComp elt [⟨tg,iter,ifs,0⟩,⟨tg1,iter1,ifs1,0⟩] scope pos) (Y3p t mi mt t1 mi1 mt1 me (own.map (·.2)) vs1):=PE.of (pe_lc2 hc hN hi ok hv hg ht hi1 hg1 ht1 he hs hs1) fun _ _ _ h=>X2i hsl hsl1 h
theorem Y5l {i:Nat} {y:Str} {py spos:Pos} {scope:Scope} {own:List (Str × Nat)} (hc:X.calm=true) (hN:X.N.Nodup) (hy:X.N[i]?=some y) (hyl:X.env.scope.names.lookup y=some .local)
    (hsw:swapsWith (.ListComp elt [⟨tg,iter,ifs,0⟩,⟨tg1,iter1,ifs1,0⟩] scope pos) (some (.Name y py)) spos.line X.env=pure true) (hi:MI X Wx tg iter mi) (ok:BlkOk X.N X.env.scope scope own) (hv:∀ i ∈ vs1,i ∈ own.map (·.2)) (hsl:∀ i ∈ t.slots,i ∈ own.map (·.2)) (hsl1:∀ i ∈ t1.slots,i ∈ vs1)
    (hg:∀ (s:Shared) (H:Hp) (C:Addr) (cl:List (Str × Addr)) (fp:List Addr),PG (X.blk s H scope (compEnvC scope cl C X.env) fp) tg (TGt X.K t)) (ht:∀ (s:Shared) (H:Hp) (C:Addr) (cl:List (Str × Addr)) (fp:List Addr),MTs (X.blk s H scope (compEnvC scope cl C X.env) fp) WX0 ifs mt)
    (hi1:∀ (s:Shared) (H:Hp) (C:Addr) (cl:List (Str × Addr)) (fp:List Addr),MI (X.blk s H scope (compEnvC scope cl C X.env) fp) WX0 tg1 iter1 mi1)
    (hg1:∀ (s:Shared) (H:Hp) (C:Addr) (cl:List (Str × Addr)) (fp:List Addr),PG (X.blk s H scope (compEnvC scope cl C X.env) fp) tg1 (TGt X.K t1)) (ht1:∀ (s:Shared) (H:Hp) (C:Addr) (cl:List (Str × Addr)) (fp:List Addr),MTs (X.blk s H scope (compEnvC scope cl C X.env) fp) WX0 ifs1 mt1)
    (he:∀ (s:Shared) (H:Hp) (C:Addr) (cl:List (Str × Addr)) (fp:List Addr),ME (X.blk s H scope (compEnvC scope cl C X.env) fp) WX0 elt me) (hs:∀ x,foldedSetIterable iter X.env x=pure x:=by intro _; rfl) (hs1:∀ env x,foldedSetIterable iter1 env x=pure x:=by intro _ _; rfl) :
    MP X Wx (.Assign [.Name y py] (.ListComp elt [⟨tg,iter,ifs,0⟩,⟨tg1,iter1,ifs1,0⟩] scope pos) spos) (W3 i (Y3p t mi mt t1 mi1 mt1 me (own.map (·.2)) vs1)):=PS.of (ps_setLc2 hc hN hy hyl hsw hi ok hv hg ht hi1 hg1 ht1 he hs hs1) fun D σ H ⟨Z,ρ,e,S,st,ev,p⟩=>by
  refine X2i (mt:=mt) (me:=me) (t:=t) (t1:=t1) (mi1:=mi1) (mt1:=mt1) (Q:=fun v H1=>gName i v σ H1 D.nx) hsl hsl1 ?_
  exact Z0h (rel:=AX X.K) st ev p fun ρ1 H1 v x S1 st1 g1 ev1 a1 p1=>p1.next st1 (ev1.set a1)
end
end Bv
namespace Bv
open PySem PySem.Spec L2
open PyProof.Rows hiding St
variable [HasW]
def leS (a b:Str):Bool := !ltCps b.cps.toList a.cps.toList
def X8c (x:Str):List Str→List Str
  | []=>[x]
  | y :: r=>if leS x y then x :: y :: r else y :: X8c x r
def Z6f (l:List Str):List Str:=l.foldr X8c []
theorem Y7h {a b:Str}:leS a b=true ↔ a.cps.toList ≤ b.cps.toList:=by
  unfold leS
  rw [ltCps_eq]
  simp only [Bool.not_eq_true',decide_eq_false_iff_not]
  exact List.not_lt
theorem X2o {a b:Str} (h:¬ leS a b=true):leS b a=true:=by
  rw [Y7h] at h ⊢
  rcases List.le_total a.cps.toList b.cps.toList with z | z
  · exact (h z).elim
  · exact z
theorem Y5h {a b c:Str} (h:leS a b=true) (h2:leS b c=true):leS a c=true:=by
  rw [Y7h] at h h2 ⊢
  exact List.le_trans h h2
theorem W0t {a b:Str} (h:a.cps.toList=b.cps.toList):a=b:=by
  cases a; cases b
  simp only [Str.mk.injEq]
  exact Array.toList_inj.mp h
theorem X45 {a b:Str} (h:leS a b=true) (h2:leS b a=true):a=b:=by
  rw [Y7h] at h h2
  exact W0t (List.le_antisymm h h2)
theorem Y08 (x:Str):∀ l,(X8c x l).Perm (x :: l)
  | [] => .refl _
  | y :: r=>by
    unfold X8c; split
    · exact .refl _
    · exact ((Y08 x r).cons y).trans (.swap _ _ _)
theorem Z5g:∀ l,(Z6f l).Perm l
  | [] => .refl _
  | x :: r=>(Y08 x _).trans ((Z5g r).cons x)
theorem Y2t (x:Str):∀ l:List Str,l.Pairwise (fun a b=>leS a b=true)→(X8c x l).Pairwise (fun a b=>leS a b=true)
  | [],_=>by simp [X8c]
  | y :: r,h=>by
    obtain ⟨h1,h2⟩:=List.pairwise_cons.mp h
    unfold X8c; split
    · rename_i c
      refine List.pairwise_cons.mpr ⟨fun z hz=>?_,h⟩
      rcases List.mem_cons.mp hz with rfl | hz
      · exact c
      · exact Y5h c (h1 z hz)
    · rename_i c
      refine List.pairwise_cons.mpr ⟨fun z hz=>?_,Y2t x r h2⟩
      rcases List.mem_cons.mp ((Y08 x r).mem_iff.mp hz) with rfl | hz
      · exact X2o c
      · exact h1 z hz
theorem Y1n:∀ l,(Z6f l).Pairwise (fun a b=>leS a b=true)
  | [] => .nil
  | x :: r=>Y2t x _ (Y1n r)
theorem Z9w:∀ {l:List Str} {p:Str},risingS p l=true→(p :: l).Pairwise (fun a b=>leS a b=true)
  | [],p,_=>by simp
  | x :: r,p,h=>by
    have h:(!ltCps x.cps.toList p.cps.toList && risingS x r)=true:=h
    obtain ⟨h1,h2⟩:=Bool.and_eq_true_iff.mp h
    have q:=Z9w h2
    refine List.pairwise_cons.mpr ⟨fun z hz=>?_,q⟩
    rcases List.mem_cons.mp hz with rfl | hz
    · exact h1
    · exact Y5h h1 ((List.pairwise_cons.mp q).1 z hz)
theorem Y6s {l:List Str} (h:sortedS l=true):l.Pairwise (fun a b=>leS a b=true):=by
  cases l with
  | nil=>exact .nil
  | cons x r=>exact Z9w h
theorem Y8w {l l':List Str} (hp:l'.Perm l) (hs:sortedS l'=true):l'=Z6f l :=
  List.Perm.eq_of_pairwise (fun _ _ _ _ a b=>X45 a b) (Y6s hs) (Y1n l) (hp.trans (Z5g l).symm)
def Z6z:List Bv.X→Sto→R Bv.X
  | [x],S=>if Z0l S x then (match items S x with
    | some ys=>(match ints? ys with
      | some l => .ok (.d (.lst ((PySem.W.sortI l).map .int))) S
      | none=>(match strs? ys with
        | some l=>if decide (l.length < 64) then .ok (.d (.lst ((Z6f l).map .str))) S else .bad
        | none => .bad))
    | none => .bad) else .bad
  | _,_ => .bad
theorem X1e {K:PySem.W.Frag} {W:Wd} {H:Hp}:∀ {l:List Int},AVs K W H (l.map D.int) (l.map V.int)
  | [] => .nil
  | z :: r => .cons (.int z) X1e
theorem Y3c {K:PySem.W.Frag} {W:Wd} {H:Hp}:∀ {l:List Str},(∀ z ∈ l,PyData.strOk z=true)→AVs K W H (l.map D.str) (l.map V.str)
  | [],_ => .nil
  | z :: r,h => .cons (.str (h z (List.Mem.head _))) (Y3c fun y hy=>h y (List.Mem.tail _ hy))
section
variable {K:PySem.W.Frag}
theorem Y8m:Y93 K (fun xs H Q=>rSortedI K xs H Q ∨ rSortedS K xs H Q) Z6z:=fun Z ρ S H Wx σ xs vs Q st a h=>by
  unfold Z6z at h
  split at h
  · rename_i x
    split at h
    · rename_i hl
      cases a with
      | cons ha t =>
        cases t
        cases q:items S x with
        | none=>rw [q] at h; exact h.elim
        | some ys =>
          rw [q] at h
          obtain ⟨b,us,rfl,hq,hp⟩:=ha.itemsL st q hl
          have h:X6 (AX K) K Z ρ H Wx σ Q (match ints? ys with
            | some l => .ok (.d (.lst ((PySem.W.sortI l).map .int))) S
            | none=>(match strs? ys with
              | some l=>if decide (l.length < 64) then .ok (.d (.lst ((Z6f l).map .str))) S else .bad
              | none => .bad)):=h
          cases q2:ints? ys with
          | some l =>
            rw [q2] at h
            rw [Z94 hp q2] at hq
            refine .inl ⟨b,l,rfl, .inl (.inl hq),fun ns' p hp' hs' hn=>?_⟩
            rw [PySem.W.eq_sortI hp' hs']
            exact X6.ret h st (V9 hn) (.d (Z54 (fun z hz=>st.thereW hz) hn X1e))
          | none =>
            rw [q2] at h
            cases q3:strs? ys with
            | none=>rw [q3] at h; exact h.elim
            | some l =>
              rw [q3] at h
              obtain ⟨e1,e2⟩:=Y0a hp q3
              rw [e1] at hq
              have h:X6 (AX K) K Z ρ H Wx σ Q (if decide (l.length < 64) then .ok (.d (.lst ((Z6f l).map .str))) S else .bad):=h
              by_cases c:l.length < 64
              · rw [if_pos (decide_eq_true c)] at h
                refine .inr ⟨b,l,rfl, .inl (.inl hq),c,fun ns' p hp' hs' hn=>?_⟩
                rw [Y8w hp' hs']
                exact X6.ret h st (V9 hn) (.d (Z54 (fun z hz=>st.thereW hz) hn (Y3c fun z hz=>e2 z ((Z5g l).mem_iff.mp hz))))
              · rw [if_neg (by simpa using c)] at h; exact h.elim
    · exact h.elim
  · exact h.elim
end
def Z4v (a:Str) (y:Bv.X) (S:Sto):R Bv.X:=match y with
  | .d (.str b)=>if !(b.length == 0) && decide (a.length ≤ sizeLine) && Z4m [(Txt.partition a b).1,(Txt.partition a b).2.1,(Txt.partition a b).2.2] then .ok (.d (.tup [.str (Txt.partition a b).1, .str (Txt.partition a b).2.1, .str (Txt.partition a b).2.2])) S else .bad
  | _ => .bad
section
variable {X:Cx} {Wx:WX} {pos apos:Pos} {o e:Expr} {mo m:M}
theorem X2y (ho:ME X Wx o mo) (he:ME X Wx e m) (hs:starEach [e] X.env=[(false,eval e X.env)]:=by rfl) (hbase:attributeBase o "partition" X.env (eval o X.env)=eval o X.env:=by rfl) (hline:(apos.endLine == pos.line)=true:=by rfl) :
    ME X Wx (.Call (.Attribute o "partition" apos) [e] [] pos) (Z5z Z4v mo m):=PE.of (pe_partition ho he hs hbase hline) fun σ H Q ⟨Z,ρ,e,S,st,ev,p⟩=>X5 st ev p fun ρ1 H1 v x S1 s1 g1 ev1 a1 p1=>by
  cases a1 with
  | r _=>exact p1.elim
  | d a =>
    cases a with
    | str hz =>
      rename_i z
      refine ⟨⟨z,rfl⟩,X5 s1 ev1 (show X6 (AX X.K) X.K Z ρ1 H1 Wx σ Q ((m e S1).bind fun y S2=>Z4v z y S2) from p1) fun ρ2 H2 u y S2 s2 g2 ev2 a2 p2=>?_⟩
      unfold Z4v at p2
      split at p2
      · rename_i b
        split at p2
        · rename_i hc
          rw [Bool.and_eq_true,Bool.and_eq_true] at hc
          obtain ⟨⟨c1,c2⟩,c3⟩:=hc
          cases a2 with
          | d a2 =>
            cases a2 with
            | str hb =>
              refine ⟨z,b,rfl,rfl,by simpa using c1,of_decide_eq_true c2,fun q hq=>?_⟩
              have av:AVs X.K (Wn Z ρ2) H2 [.str (Txt.partition z b).1, .str (Txt.partition z b).2.1, .str (Txt.partition z b).2.2] [.str (Txt.partition z b).1, .str (Txt.partition z b).2.1, .str (Txt.partition z b).2.2]:=Y0e c3
              exact X6.ret p2 s2 (V9 hq) (.d (Z9b (fun z hz=>s2.thereW hz) hq av))
        · exact p2.elim
      · exact p2.elim
    | _=>exact p1.elim
end
end Bv
namespace Bv
open PySem PySem.Spec L2
open PyProof.Rows hiding St
variable [HasW]
def X3h:Bv.X→Option (D × D)
  | .d (.tup [k,v])=>if k.key?.isSome then some (k,v) else none
  | _=>none
def Y2z:List Bv.X→Option (List (D × D))
  | []=>some []
  | x :: r=>match X3h x,Y2z r with
    | some p,some l=>some (p :: l)
    | _,_=>none
def X20 (kvs more:List (D × D)):List (D × D):=more.foldl (fun acc p=>Z98 acc p.1 p.2) kvs
theorem KVR.merge {R:D→V→Prop}:∀ {more:List (D × D)} {ms:List (Key × V)} {kvs:List (D × D)} {ks:List (Key × V)},KVR R more ms→KVR R kvs ks→KVR R (X20 kvs more) (mergeK ks ms)
  | _,_,_,_, .nil,q=>q
  | (k,d) :: r,(q,v) :: s,kvs,ks, .cons h t,z=>KVR.merge (more:=r) (ms:=s) (kvs:=Z98 kvs k d) (ks:=putK ks q v) t (KVR.put h.1 h.2 z)
theorem X3i {K:PySem.W.Frag} {W:Wd} {ρ:List Addr} {H:Hp} {x:Bv.X} {u:V} {p:D × D} (a:AX K W ρ H x u) (h:X3h x=some p):∃ b q v,u = .ref b∧p.1.key?=some q∧SqT K H b [kV q,v]∧AV K W H p.2 v:=by
  unfold X3h at h
  split at h
  · rename_i k v
    split at h
    · rename_i c
      cases h
      obtain ⟨q,hq⟩:=Option.isSome_iff_exists.mp c
      cases a with
      | d a =>
        cases a with
        | tup tp as =>
          cases as with
          | cons a1 as =>
            cases as with
            | cons a2 as =>
              cases as
              obtain rfl:=Y9a hq a1
              exact ⟨_,q,_,rfl,hq,tp.sq,a2⟩
    · cases h
  · cases h
theorem Y20 {K:PySem.W.Frag} {W:Wd} {ρ:List Addr} {H:Hp}:∀ {xs:List Bv.X} {us:List V} {l:List (D × D)},AXs K W ρ H xs us→Y2z xs=some l→∃ (ps:List Addr) (kvs:List (Key × V)),us=ps.map V.ref∧Paired (fun p kv=>SqT K H p [kV kv.1,kv.2]) ps kvs∧KVR (AV K W H) l kvs
  | _,_,_, .nil,h=>by cases h; exact ⟨[],[],rfl, .nil, .nil⟩
  | x :: r,u :: us,_, .cons a as,h=>by
    have h:(match X3h x,Y2z r with
      | some p,some l=>some (p :: l)
      | _,_=>none)=some _:=h
    cases h1:X3h x with
    | none=>rw [h1] at h; cases h
    | some p =>
      cases h2:Y2z r with
      | none=>rw [h1,h2] at h; cases h
      | some l2 =>
        rw [h1,h2] at h
        cases h
        obtain ⟨b,q,v,rfl,hk,sq,av⟩:=X3i a h1
        obtain ⟨ps,kvs,rfl,pr,kv⟩:=Y20 as h2
        exact ⟨b :: ps,(q,v) :: kvs,rfl, .cons sq pr, .cons ⟨hk,av⟩ kv⟩
def kvD:List (D × Bv.X)→Option (List (D × D))
  | []=>some []
  | (k, .d v) :: r=>(kvD r).map fun l=>(k,v) :: l
  | (_, .r _) :: _=>none
theorem X2d {K:PySem.W.Frag} {W:Wd} {ρ:List Addr} {H:Hp}:∀ {xs:List (D × Bv.X)} {ks:List (Key × V)} {l:List (D × D)},KVR (AX K W ρ H) xs ks→kvD xs=some l→KVR (AV K W H) l ks
  | _,_,_, .nil,h=>by cases h; exact .nil
  | (k, .d v) :: r,(q,u) :: ks,_, .cons a as,h=>by
    obtain ⟨l2,h1,rfl⟩:=Option.map_eq_some_iff.mp (show (kvD r).map (fun l=>(k,v) :: l)=some _ from h)
    cases a.2 with
    | d av=>exact .cons ⟨a.1,av⟩ (X2d as h1)
  | (_, .r _) :: _,_,_,_,h=>by cases h
def dictOf (S:Sto) (x:Bv.X):Option (List (D × D)):=match Z63 S x with
  | some kvs=>kvD kvs
  | none=>if Z0l S x then ((items S x).bind Y2z).map (X20 []) else none
def Y5d:List Bv.X→Sto→R Bv.X
  | [x],S=>(match dictOf S x with
    | some kvs => .ok (.d (.dic kvs)) S
    | none => .bad)
  | _,_ => .bad
abbrev W0h (K:PySem.W.Frag):List V→Hp→VK→Prop:=fun xs H Q=>(∃ (a:Addr) (kvs:List (Key × V)),xs=[.ref a]∧Rd H a (.dK kvs)∧∀ p,H p=none→Q (.ref p) (upd H p (.dK kvs))) ∨
  ∃ (a:Addr) (ps:List Addr) (kvs:List (Key × V)),xs=[.ref a]∧SqL K H a (ps.map V.ref)∧Paired (fun p kv=>SqT K H p [kV kv.1,kv.2]) ps kvs∧∀ p,H p=none→Q (.ref p) (upd H p (.dK (mergeK [] kvs)))
theorem W1z {X:Cx} (hc:X.calm=true):CallR X (.type "dict") (W0h X.K):=CallR.or call_dictD (call_dictP hc)
section
variable {K:PySem.W.Frag}
theorem Y99 {Z:Wd} {ρ:List Addr} {S:Sto} {H:Hp} {x:Bv.X} {v:V} {l:List (D × D)} {Q:VK} (st:Sta K Z ρ S H) (a:AX K (Wn Z ρ) ρ H x v) (h:dictOf S x=some l)
    (q:∀ ks:List (Key × V),KVR (AV K (Wn Z ρ) H) l ks→∀ p,H p=none→Q (.ref p) (upd H p (.dK ks))):W0h K [v] H Q:=by
  unfold dictOf at h
  cases hd:Z63 S x with
  | some kvs =>
    rw [hd] at h
    obtain ⟨p,ks,rfl,r,kv⟩:=Z6m st a hd
    exact .inl ⟨p,ks,rfl,r,q ks (X2d kv h)⟩
  | none =>
    rw [hd] at h
    have h:(if Z0l S x then ((items S x).bind Y2z).map (X20 []) else none)=some l:=h
    split at h
    · rename_i hl
      obtain ⟨more,h1,rfl⟩:=Option.map_eq_some_iff.mp h
      obtain ⟨ys,h2,h3⟩:=Option.bind_eq_some_iff.mp h1
      obtain ⟨b,us,rfl,hq,hp⟩:=a.itemsL st h2 hl
      obtain ⟨ps,kvs,rfl,pr,kv⟩:=Y20 hp h3
      exact .inr ⟨b,ps,kvs,rfl, .inl (.inl hq),pr,q _ (KVR.merge kv .nil)⟩
    · cases h
theorem W1v:∀ (Z:Wd) (ρ:List Addr) (S:Sto) (H:Hp) (Wx:WX) (σ:L2.St) (xs:List Bv.X) (vs:List V) (Q:VK),Sta K Z ρ S H→AXs K (Wn Z ρ) ρ H xs vs→X6 (AX K) K Z ρ H Wx σ Q (Y5d xs S)→W0h K vs H (fun v H1=>Q v H1 ∨ ∃ a u,H1 a=some u∧Mut (some u)∧∀ od,Q v (upd H1 a (.frz od u))):=fun Z ρ S H Wx σ xs vs Q st a h=>by
  unfold Y5d at h
  split at h
  · rename_i x
    cases a with
    | cons ha t =>
      cases t
      cases q:dictOf S x with
      | none=>rw [q] at h; exact h.elim
      | some l =>
        rw [q] at h
        refine Y99 st ha q fun ks kv p hp => .inr ⟨p,_,upd_same,trivial,fun od=>?_⟩
        have k:∀ b o,H b=some o→upd (upd H p (.dK ks)) p (.frz od (.dK ks)) b=some o:=fun b o z=>by rw [upd_ne (ne_of_none z hp),upd_ne (ne_of_none z hp)]; exact z
        have m:Mv (Wn Z ρ) H (Wn Z ρ) (upd (upd H p (.dK ks)) p (.frz od (.dK ks))):=fun b o w z=>⟨w,k b o z⟩
        exact h ρ _ _ (st.grow k) (Go.grow k) (.d (.dic (st.fresh hp) upd_same (KVR.avk (Paired.mapP kv fun _ _ z=>⟨z.1,z.2.mv m⟩))))
  · exact h.elim
end
section
variable {X:Cx} {Wx:WX} {pos p:Pos} {x:Str} {e:Expr} {es:List Expr} {ms:MG (List Bv.X)}
theorem X2u (hcm:X.calm=true) (hg:Gl X x) (hm:X.mg x=none) (ha:MA X Wx (e :: es) ms) (hv:bootBuiltins x=some (.type "dict"):=by rfl) (hn:x ≠ "__name__" := by decide) (hdb:(x == ("__debug__" : Str))=false:=by decide)
    (he:starEach (e :: es) X.env=(false,eval e X.env) :: starEach es X.env:=by rfl) (hpl:(backTo pos (starEach es X.env)).any (·.1)=false:=by rfl):ME X Wx (.Call (.Name x p) (e :: es) [] pos) (Z8 Y5d ms):=PE.of (X5v (pe_callTy (W1z hcm) hg hm hv ha hn hdb he hpl)) fun σ H Q ⟨Z,ρ,e,S,st,ev,q⟩ =>
  X5 st ev q fun ρ1 H1 v xs S1 s1 g1 ev1 a1 p1=>W1v Z ρ1 S1 H1 Wx σ xs v Q s1 a1 p1
end
end Bv
namespace Bv
open PySem PySem.Spec L2
open PyProof.Rows hiding St
variable [HasW]
section
variable {X:Cx} {Wx:WX} {pos p1 p2 p3:Pos} {o e:Expr} {mo m:M} {n:Nat}
end
section
variable {X:Cx} {Wx:WX} {k j:Nat} {C f:Str} {fa:Addr} {fd:FuncData} {ps:List Str} {sp:Sp} {e:Expr} {pos:Pos} {g:List D→PR} {mo:M}
end
end Bv
namespace Bv
open PySem PySem.Spec L2
open PyProof.Rows hiding St
variable [HasW]
section
variable {X:Cx} {Wx:WX} {k:Nat}
end
section
variable {X:Cx} {Wx:WX} {pos p:Pos} {x:Str} {C:Str} {g:List Bv.X→Sto→R Bv.X}
end
end Bv
namespace Bv
open PySem PySem.Spec L2
open PyProof.Rows hiding St
variable [HasW]
section
variable {X:Cx} {Wx:WX} {pos:Pos} {a b c:Expr} {ms:MG (List Bv.X)}
end
end Bv
namespace Bv
open PySem PySem.Spec L2
open PyProof.Rows hiding St
variable [HasW]
def X11:List Bv.X→Sto→R Bv.X
  | [.d (.str a)],S=>if decide (a.length ≤ 640) then (match PySem.intText? a with
    | some n => .ok (.d (.int n)) S
    | none => .bad) else .bad
  | _,_ => .bad
theorem W1w {K:PySem.W.Frag}:Y93 K (fun xs H Q=>∃ a n,xs=[.str a]∧PySem.intText? a=some n∧a.length ≤ 640∧Q (.int n) H) X11:=fun Z ρ S H Wx σ xs vs Q st a h=>by
  unfold X11 at h
  split at h
  · rename_i z
    split at h
    · rename_i hl
      obtain ⟨v,rfl,b⟩:=Y56 a
      have e:v = .str z:=by cases b; rfl
      cases q:PySem.intText? z with
      | none=>rw [q] at h; exact h.elim
      | some n =>
        rw [q] at h
        exact ⟨z,n,by rw [e],q,of_decide_eq_true hl,X6.ret0 h st (.d (.int _))⟩
    · exact h.elim
  · exact h.elim
end Bv
namespace Bv
open PySem PySem.Spec L2
open PyProof.Rows hiding St
variable [HasW]
def lfV:Leaf→V→Prop
  | .none,v=>v = .non
  | .num i,v=>v = .int i ∨ ∃ b,v = .bl b∧(if b=true then (1:Int) else 0)=i
  | .text x,v=>v = .str x
theorem W42 {k:Leaf} {v:V} {u:Value} (h:lfV k v) (r:RelV v u):Leaf.isOf k u=true:=by
  cases k with
  | none =>
    have h:v = .non:=h
    subst h
    cases (show u=Value.none from r)
    rfl
  | num i =>
    rcases (show v = .int i ∨ ∃ b,v = .bl b∧(if b=true then (1:Int) else 0)=i from h) with h | ⟨b,h,e⟩
    · subst h
      obtain ⟨t,rfl⟩:=(show ∃ t,u=Value.int i t from r)
      exact decide_eq_true rfl
    · subst h
      cases (show u=Value.bool b from r)
      exact decide_eq_true e
  | text x =>
    have h:v = .str x:=h
    subst h
    obtain ⟨t,rfl⟩:=(show ∃ t,u=Value.str x t from r)
    show (x == x)=true
    simp
abbrev LVs:List Leaf→List V→Prop:=Paired lfV
theorem Y89 {P:Program} {w:World}:∀ {ks:List Leaf} {vs:List V} {us:List Value},LVs ks vs→Vals vs us→ItemsAre (leafKind P w) ks us
  | _,_,_, .nil,r=>by cases r; exact .nil
  | _,_,_, .cons h t,r=>by
    cases r with
    | cons a b=>exact .cons (W42 h a) (Y89 t b)
def Y8i (K:PySem.W.Frag) (H:Hp) (b:Addr) (ks:List Leaf):Prop:=∃ vs,SqT K H b vs∧LVs ks vs
abbrev TX:=List Leaf × Addr × V
structure DTat (K:PySem.W.Frag) (H:Hp) (a:Addr) (xs:List TX):Prop where
  at_:Rd H a (TDo a xs)
  keys:∀ q ∈ xs,Y8i K H q.2.1 q.1
abbrev KTx:List TX→List (List Leaf × Addr × Value)→Prop:=Paired fun p q=>p.1=q.1∧p.2.1=q.2.1∧RelV p.2.2 q.2.2
def atT (xs:List TX) (k:List Leaf):Option V:=(xs.find? fun x=>decide (x.1=k)).map (·.2.2)
def Y58 (xs:List TX) (k:List Leaf) (b:Addr) (v:V):List TX:=if (xs.any fun x=>decide (x.1=k))=true then xs.map (fun x=>if x.1=k then (x.1,x.2.1,v) else x) else xs++[(k,b,v)]
theorem KTx.val {xs:List TX} {ys:List (List Leaf × Addr × Value)} (r:KTx xs ys) (k:List Leaf):RelO (atT xs k) ((atKey ys k).map (·.2)):=by
  induction r with
  | nil=>exact True.intro
  | @cons p q ps qs h t ih =>
    obtain ⟨h1,_,h2⟩:=h
    by_cases e:p.1=k
    · have e':q.1=k:=h1.symm.trans e
      have b:atKey (q :: qs) k=some q.2:=by simp [atKey,List.find?_cons,e']
      have a:atT (p :: ps) k=some p.2.2:=by simp [atT,List.find?_cons,e]
      rw [a,b]; exact h2
    · have e':¬ q.1=k:=fun z=>e (h1.trans z)
      have b:atKey (q :: qs) k=atKey qs k:=by simp [atKey,List.find?_cons,e']
      have a:atT (p :: ps) k=atT ps k:=by simp [atT,List.find?_cons,e]
      rw [a,b]; exact ih
theorem KTx.any {xs:List TX} {ys:List (List Leaf × Addr × Value)} (r:KTx xs ys) (k:List Leaf):(xs.any fun x=>decide (x.1=k))=(atKey ys k).isSome:=by
  induction r with
  | nil=>rfl
  | @cons p q ps qs h t ih =>
    obtain ⟨h1,_,h2⟩:=h
    rw [List.any_cons,ih]
    by_cases e:p.1=k
    · have e':q.1=k:=h1.symm.trans e
      have b:atKey (q :: qs) k=some q.2:=by simp [atKey,List.find?_cons,e']
      rw [b,decide_eq_true e]; rfl
    · have e':¬ q.1=k:=fun z=>e (h1.trans z)
      have b:atKey (q :: qs) k=atKey qs k:=by simp [atKey,List.find?_cons,e']
      rw [b,decide_eq_false e]; rfl
theorem KTx.put {xs:List TX} {ys:List (List Leaf × Addr × Value)} (r:KTx xs ys) (k:List Leaf) (b:Addr) {v:V} {u:Value} (ru:RelV v u):KTx (Y58 xs k b v) (storedH ys k b u):=by
  unfold Y58 storedH
  rw [r.any k]
  split
  · have g:∀ {xs:List TX} {ys:List (List Leaf × Addr × Value)},KTx xs ys→KTx (xs.map fun x=>if x.1=k then (x.1,x.2.1,v) else x) (ys.map (putAt k u)):=by
      intro xs ys r
      induction r with
      | nil=>exact .nil
      | @cons p q ps qs h t ih =>
        obtain ⟨h1,h2,h3⟩:=h
        rw [List.map_cons,List.map_cons]
        refine .cons ?_ ih
        unfold putAt
        by_cases e:p.1=k
        · rw [if_pos e,if_pos (h1.symm.trans e)]; exact ⟨h1,h2,ru⟩
        · rw [if_neg e,if_neg (fun z=>e (h1.trans z))]; exact ⟨h1,h2,h3⟩
    exact g r
  · exact Paired.append r (.cons ⟨rfl,rfl,ru⟩ .nil)
theorem Y8v {P:Program} {w:World} (hw:w=HasW.w) (x:List Leaf × Addr × Value):entryOfKey (tupleKind (leafKind P w)) x=(⟨X82 x.1, .ref x.2.1,x.2.2⟩:DictEntry):=by
  subst hw
  rfl
section
variable {X:Cx} {pins:List (Addr × Obj)} {σ:L2.St} {H:Hp} {s:Shared} {a b:Addr} {y v:V} {u r:Value} {A:Around} {E:Value→Shared→Prop} {xs:List TX} {k:List Leaf}
theorem Y4q (I:Inv X pins σ H s) (t:Y8i X.K H b k):(tupleKind (leafKind X.prog X.w)).is s.heap k b:=by
  obtain ⟨vs,q,l⟩:=t
  obtain ⟨its,rv,⟨o,ho,hc,n,hd⟩,_⟩:=I.tuple q
  exact ⟨o,its.toArray,n,ho,hc,hd,by simpa using Y89 l rv⟩
theorem X1o (hw:X.w=HasW.w) (I:Inv X pins σ H s) (d:DTat X.K H a xs):(a == sysModules)=false∧∃ ys,KTx xs ys∧s.heap.DictOfH (tupleKind (leafKind X.prog X.w)) a ys:=by
  have ok:ObjOk X.prog X.w H s.heap a (TDo a xs):=d.at_.ok I.hok
  obtain ⟨⟨hd,ys,rel,o,es,ep,h1,h2,h3,h4,h5⟩,_⟩:=ok
  refine ⟨hd,ys,rel,o,es,ep,h1,h2,h3,?_,fun x hx=>?_,h5⟩
  · rw [h4]
    exact List.map_congr_left fun x _=>(Y8v hw x).symm
  · have all:∀ {l:List TX} {m:List (List Leaf × Addr × Value)},KTx l m→(∀ q ∈ l,Y8i X.K H q.2.1 q.1)→∀ x ∈ m,(tupleKind (leafKind X.prog X.w)).is s.heap x.1 x.2.1:=by
      intro l m q
      induction q with
      | nil=>intro _ x hx; exact nomatch hx
      | @cons p q ps qs hq t ih =>
        intro hk x hx
        rcases List.mem_cons.mp hx with e | hx
        · subst e
          rw [← hq.1,← hq.2.1]
          exact Y4q I (hk p (List.mem_cons_self ..))
        · exact ih (fun z hz=>hk z (List.mem_cons_of_mem _ hz)) x hx
    exact all rel d.keys x hx
theorem W0w {Q:Value→Shared→Prop} (hw:X.w=HasW.w) (hu:A.units + 1 < cLine) (I:Inv X pins σ H s) (d:DTat X.K H a xs) (t:Y8i X.K H b k) (h:∀ s',Inv X pins σ H s'→Q (.bool (!(atT xs k).isSome)) s') :
    wpAny (model X.prog X.w) A (compareOp .NotIn (.ref b) (.ref a)) Q E s:=by
  obtain ⟨hd,ys,rel,dd⟩:=X1o hw I d
  refine wpAny_notIn_heap (tupleKind_room_in1 hu) (Y4q I t) hd dd ?_
  have q:=(rel.val k).isSome_eq
  rw [Option.isSome_map] at q
  rw [← q]
  exact h _ (I.tok _)
theorem X39 {H':Hp} {h':Heap} {ys:List (List Leaf × Addr × Value)} (hw:X.w=HasW.w) (hd:(a == sysModules)=false) (rel:KTx xs ys) (dd:h'.DictOfH (tupleKind (leafKind X.prog X.w)) a ys):ObjOk X.prog X.w H' h' a (TDo a xs):=by
  obtain ⟨o,es,ep,h1,h2,h3,h4,_,h5⟩:=dd
  have e4:es.toList=ys.map (fun x=>(⟨X82 x.1, .ref x.2.1,x.2.2⟩:DictEntry)):=by
    rw [h4]
    exact List.map_congr_left fun x _=>Y8v hw x
  exact ⟨⟨hd,ys,rel,o,es,ep,h1,h2,h3,e4,h5⟩,⟨o,h1⟩,fun g1 g2 ⟨hd,ys,rel,o,es,ep,h1,h2,h3,h4,h5⟩ st=>⟨hd,ys,rel,o,es,ep,st o h1,h2,h3,h4,h5⟩⟩
theorem X36 {Q:Unit→Shared→Prop} (hw:X.w=HasW.w) (hu:A.units + 1 < cLine) (I:Inv X pins σ H s) (e:H a=some (TDo a xs)) (hk:∀ q ∈ xs,Y8i X.K H q.2.1 q.1) (t:Y8i X.K H b k) (hl:xs.length < sizeLine) (rv:RelV v r)
    (h:∀ s',Inv X pins σ (upd H a (TDo a (Y58 xs k b v))) s'→Q () s'):wpAny (model X.prog X.w) A (setItem (.ref a) (.ref b) r) Q E s:=by
  obtain ⟨hd,ys,rel,dd⟩:=X1o hw I ⟨.inl e,hk⟩
  have hz:ys.length ≤ sizeLine:=by rw [← Paired.length rel]; omega
  refine wpAny_setItem_heap (hsz:=hz) (tupleKind_room_in1 hu) (Y4q I t) dd fun h' dd' hs=>h _ ?_
  have he:∃ q,h'.get? a=some q:=let ⟨q,_,_,hq,_⟩:=dd'; ⟨q,hq⟩
  exact d_write I (by rw [e]; exact True.intro) hs he (X39 hw hd (rel.put k b rv) dd')
end
def W7m (K:PySem.W.Frag) (neg:Bool) (ty td:TE):TE:=fun σ H Q=>ty σ H fun y H1=>td σ H1 fun x H2=>∃ a b xs k,x = .ref a∧y = .ref b∧DTat K H2 a xs∧Y8i K H2 b k∧Q (.bl ((atT xs k).isSome ^^ neg)) H2
def W6a (K:PySem.W.Frag) (td ty tv:TE):TS:=fun D σ H=>tv σ H fun v H1=>td σ H1 fun x H2=>ty σ H2 fun y H3=>∃ a b xs k,x = .ref a∧y = .ref b∧H3 a=some (TDo a xs)∧(∀ q ∈ xs,Y8i K H3 q.2.1 q.1)∧Y8i K H3 b k∧xs.length < sizeLine∧D.nx σ (upd H3 a (TDo a (Y58 xs k b v)))
def W6h (K:PySem.W.Frag) (tk tv:TE):TE:=fun σ H Q=>∀ p,H p=none→tk σ (upd H p (TDo p [])) fun y H1=>tv σ H1 fun v H2=>∃ b k,y = .ref b∧H2 p=some (TDo p [])∧Y8i K H2 b k∧Q (.ref p) (upd H2 p (TDo p [(k,b,v)]))
section
variable {X:Cx} {o i e f value:Expr} {pos pos' tpos apos cpos:Pos} {td ty tv tx:TE}
theorem X3l (hw:X.w=HasW.w) (hu:X.A.units + 1 < cLine) (hi:PE X i ty) (ho:PE X o td):PC X .NotIn i o (W7m X.K true ty td):=by
  refine ⟨fun pins s σ H Q I h=>?_⟩
  refine thn (hi.run pins s σ H _ I h) fun iv s1 ⟨y,H1,I1,ry,q1⟩=>thn (ho.run pins s1 σ H1 _ I1 q1) fun u s2 ⟨x,H2,I2,rx,a,b,xs,k,ex,ey,d,t,q2⟩=>?_
  subst ex ey
  obtain rfl:u=Value.ref a:=rx
  obtain rfl:iv=Value.ref b:=ry
  rw [Bool.xor_true] at q2
  exact W0w hw hu I2 d t fun s3 I3=>⟨.bl _,H2,I3,rfl,q2⟩
theorem W0f (hw:X.w=HasW.w) (hu:X.A.units + 1 < cLine) (ho:PE X o td) (hi:PE X i ty) (hv:PE X value tv) (hs:swapsWith value (some (.Subscript o i pos')) pos.line X.env=pure false) :
    PS X (.Assign [.Subscript o i pos'] value pos) (W6a X.K td ty tv):=by
  refine ⟨fun pins s σ H D I h=>?_⟩
  refine wpAny_Assign_Subscript (thn (hv.run pins s σ H _ I h) fun r s1 ⟨v,H1,I1,rv,q1⟩=>thn (ho.run pins s1 σ H1 _ I1 q1) fun u s2 ⟨x,H2,I2,rx,q2⟩=>thn (hi.run pins s2 σ H2 _ I2 q2) fun iv s3 ⟨y,H3,I3,ry,a,b,xs,k,ex,ey,ea,hk,t,hl,q3⟩=>?_) hs
  subst ex ey
  obtain rfl:u=Value.ref a:=rx
  obtain rfl:iv=Value.ref b:=ry
  exact X36 hw hu I3 ea hk t hl rv fun s4 I4=>⟨σ,_,I4,q3⟩
theorem X38 {H:Hp} {P:Program} {w:World} (h:Heap) (hb:sysModules < h.objs.size):ObjOk P w H (h.push { cls := .type "dict",data := .dict #[] }) h.objs.size (TDo h.objs.size []) :=
  ⟨⟨beq_eq_false_iff_ne.mpr (Ne.symm (Nat.ne_of_lt hb)),[], .nil,_,#[],0,Heap.get?_push_size _ rfl,⟨rfl,rfl,rfl⟩,rfl,rfl,List.nodup_nil⟩,⟨_,Heap.get?_push_size _ rfl⟩,fun g1 g2 ⟨hd,ys,rel,o,es,ep,h1,h2,h3,h4,h5⟩ st=>⟨hd,ys,rel,o,es,ep,st o h1,h2,h3,h4,h5⟩⟩
theorem X94 {kx:Expr} {tk:TE} (hw:X.w=HasW.w) (hu:X.A.units + 1 < cLine) (hk:PE X kx tk) (hv:PE X value tv):PE X (.Dict [some kx] [value] pos) (W6h X.K tk tv):=by
  refine ⟨fun pins s σ H Q I q=>?_⟩
  have hn:=I.hok.fresh (Nat.le_refl s.heap.objs.size)
  have I1:=I.laid (a:=s.heap.objs.size) (o:=TDo s.heap.objs.size []) (h':=s.heap.push { cls := .type "dict",data := .dict #[] }) (t':=s.toks) (fun _ _ q=>Heap.get?_push_of_some _ q) (Nat.le_refl _) (X38 s.heap I.big)
  refine wpAny_Dict_any rfl rfl (by simp) (by simp) (pairTrees_cons_walk (thn (hk.run pins _ σ _ _ I1 (q _ hn)) fun u s1 ⟨y,H1,J1,ry,q1⟩=>thn (hv.run pins s1 σ H1 _ J1 q1) fun w2 s2 ⟨v,H2,I2,rv,b,k,ey,e,t,q2⟩=>pairTrees_nil_walk ?_))
  subst ey
  obtain rfl:u=Value.ref b:=ry
  obtain ⟨hd,ys,rel,dd⟩:=X1o hw I2 ⟨.inl e,fun _ h=>nomatch h⟩
  cases rel
  unfold storeAll
  rw [List.forIn_cons]
  refine wpAny_bind (wpAny_bind (wpAny_dictSet_heap (hsz:=Nat.zero_le _) (knd:=tupleKind (leafKind X.prog X.w)) (show X.A.units < cLine by omega) (Y4q I2 t) dd fun h' dd' hs=>wpAny_pure ?_))
  dsimp only
  rw [List.forIn_nil]
  refine wpAny_pure ⟨.ref s.heap.objs.size,_,?_,rfl,q2⟩
  have he:∃ q,h'.get? s.heap.objs.size=some q:=let ⟨q,_,_,hq,_⟩:=dd'; ⟨q,hq⟩
  exact d_write I2 (by rw [e]; exact True.intro) hs he (X39 hw hd (.cons ⟨rfl,rfl,rv⟩ .nil) dd')
end
end Bv
namespace Bv
open PySem PySem.Spec L2
open PyProof.Rows hiding St
variable [HasW]
section
variable {α:Type}
def X0d (kvs:List (D × α)) (q:List Leaf):Option α:=(kvs.find? fun p=>decide (p.1.tkey?=some q)).map (·.2)
def W1f (kvs:List (D × α)) (k:D) (q:List Leaf) (v:α):List (D × α):=if (kvs.any fun p=>decide (p.1.tkey?=some q))=true then kvs.map (fun p=>if p.1.tkey?=some q then (p.1,v) else p) else kvs++[(k,v)]
end
def tdX (S:Sto):X→Option (List (D × X))
  | .d _=>none
  | .r n=>match S[n]? with
    | some (.tdc kvs)=>some kvs
    | some (.tfc kvs)=>some kvs
    | _=>none
def tkX (S:Sto) (x y:X):Option (List (D × X) × D × List Leaf):=(tdX S x).bind fun kvs=>match y with
  | .d k=>(k.tkey?).map fun q=>(kvs,k,q)
  | .r _=>none
def tdW (S:Sto):X→Option (List (D × X))
  | .d _=>none
  | .r n=>match S[n]? with
    | some (.tdc kvs)=>some kvs
    | _=>none
def tkW (S:Sto) (x y:X):Option (List (D × X) × D × List Leaf):=(tdW S x).bind fun kvs=>match y with
  | .d k=>(k.tkey?).map fun q=>(kvs,k,q)
  | .r _=>none
abbrev KVT (K:PySem.W.Frag) (W:Wd) (ρ:List Addr) (H:Hp):List (D × X)→List TX→Prop:=Paired fun (p:D × X) (q:TX)=>p.1.tkey?=some q.1∧AV K W H p.1 (.ref q.2.1)∧AX K W ρ H p.2 q.2.2
theorem X6z {K:PySem.W.Frag} {W:Wd} {H:Hp}:∀ {ds:List D} {vs:List V} {ks:List Leaf},AVs K W H ds vs→leafs? ds=some ks→LVs ks vs
  | _,_,_, .nil,e=>by cases e; exact .nil
  | d :: ds,v :: vs,ks, .cons h t,e=>by
    have e:(match d.leaf?,leafs? ds with
      | some k,some l=>some (k :: l)
      | _,_=>none)=some ks:=e
    cases q:d.leaf? with
    | none=>rw [q] at e; cases e
    | some k =>
      cases q2:leafs? ds with
      | none=>rw [q,q2] at e; cases e
      | some l =>
        rw [q,q2] at e
        cases e
        refine .cons ?_ (X6z t q2)
        cases h with
        | non=>cases q; rfl
        | bl b=>cases q; exact .inr ⟨b,rfl,rfl⟩
        | int i=>cases q; exact .inl rfl
        | str _=>cases q; rfl
        | _=>cases q
theorem Y4p {K:PySem.W.Frag} {W:Wd} {H:Hp} {k:D} {q:List Leaf} {v:V} (h:k.tkey?=some q) (a:AV K W H k v):∃ b,v = .ref b∧Y8i K H b q:=by
  cases k with
  | tup ds =>
    cases a with
    | tup t hs=>exact ⟨_,rfl,_,t.sq,X6z hs h⟩
  | _=>cases h
section
variable {K:PySem.W.Frag} {W W':Wd} {ρ ρ':List Addr} {H H':Hp} {kvs:List (D × X)} {xs:List TX} {q:List Leaf}
theorem KVT.mv (m:Mv W H W' H') (p:ρ <+: ρ') (h:KVT K W ρ H kvs xs):KVT K W' ρ' H' kvs xs:=Paired.mapP h fun _ _ z=>⟨z.1,z.2.1.mv m,z.2.2.mv m p⟩
theorem KVT.keys (h:KVT K W ρ H kvs xs):∀ t ∈ xs,Y8i K H t.2.1 t.1:=by
  induction h with
  | nil=>intro t ht; exact nomatch ht
  | @cons p x ps ys h1 _ ih =>
    intro t ht
    rcases List.mem_cons.mp ht with e | ht
    · subst e
      obtain ⟨b,e,tk⟩:=Y4p h1.1 h1.2.1
      cases e
      exact tk
    · exact ih t ht
theorem X4a {p:D × X} {x:TX} (h:p.1.tkey?=some x.1):decide (p.1.tkey?=some q)=decide (x.1=q):=by
  rw [h]
  by_cases e:x.1=q
  · rw [decide_eq_true e,decide_eq_true (by rw [e])]
  · rw [decide_eq_false e,decide_eq_false fun z=>e (Option.some.inj z)]
theorem KVT.look (h:KVT K W ρ H kvs xs) (q:List Leaf):(∃ d v,X0d kvs q=some d∧atT xs q=some v∧AX K W ρ H d v) ∨ (X0d kvs q=none∧atT xs q=none):=by
  induction h with
  | nil=>exact .inr ⟨rfl,rfl⟩
  | @cons p x ps ys h1 _ ih =>
    have e:=X4a (q:=q) h1.1
    unfold X0d atT at *
    rw [List.find?_cons,List.find?_cons,e]
    cases c:decide (x.1=q) with
    | true=>exact .inl ⟨_,_,rfl,rfl,h1.2.2⟩
    | false=>exact ih
theorem KVT.put {k:D} {b:Addr} {d:X} {v:V} (h:KVT K W ρ H kvs xs) (hk:k.tkey?=some q) (ak:AV K W H k (.ref b)) (av:AX K W ρ H d v):KVT K W ρ H (W1f kvs k q d) (Y58 xs q b v):=by
  have ha:(kvs.any fun p=>decide (p.1.tkey?=some q))=(xs.any fun x=>decide (x.1=q)):=by
    induction h with
    | nil=>rfl
    | @cons p x ps ys h1 _ ih=>rw [List.any_cons,List.any_cons,ih,X4a h1.1]
  unfold W1f Y58
  rw [ha]
  split
  · have g:∀ {kvs:List (D × X)} {xs:List TX},KVT K W ρ H kvs xs→KVT K W ρ H (kvs.map fun p=>if p.1.tkey?=some q then (p.1,d) else p) (xs.map fun x=>if x.1=q then (x.1,x.2.1,v) else x):=by
      intro kvs xs h
      induction h with
      | nil=>exact .nil
      | @cons p x ps ys h1 _ ih =>
        rw [List.map_cons,List.map_cons]
        refine .cons ?_ ih
        have e:=X4a (q:=q) h1.1
        by_cases c:x.1=q
        · rw [if_pos c,if_pos (of_decide_eq_true (e.trans (decide_eq_true c)))]; exact ⟨h1.1,h1.2.1,av⟩
        · rw [if_neg c,if_neg (of_decide_eq_false (e.trans (decide_eq_false c)))]; exact h1
    exact g h
  · exact Paired.append h (.cons ⟨hk,ak,av⟩ .nil)
end
theorem W01 {S:Sto} {x y:X} {p:List (D × X) × D × List Leaf} (h:tkX S x y=some p):∃ n,x = .r n∧(S[n]?=some (.tdc p.1) ∨ S[n]?=some (.tfc p.1))∧y = .d p.2.1∧p.2.1.tkey?=some p.2.2:=by
  obtain ⟨kvs,h1,h2⟩:=Option.bind_eq_some_iff.mp h
  cases y with
  | r _=>cases h2
  | d k =>
    obtain ⟨q,hq,e⟩:=Option.map_eq_some_iff.mp (show (k.tkey?).map (fun q=>(kvs,k,q))=some p from h2)
    subst e
    cases x with
    | d _=>cases h1
    | r n =>
      refine ⟨n,rfl,?_,rfl,hq⟩
      unfold tdX at h1
      cases q2:S[n]? with
      | none=>simp only [q2] at h1; cases h1
      | some o =>
        simp only [q2] at h1
        cases o with
        | tdc kvs'=>cases h1; exact .inl rfl
        | tfc kvs'=>cases h1; exact .inr rfl
        | _=>cases h1
theorem W6k {K:PySem.W.Frag} {Z:Wd} {ρ:List Addr} {S:Sto} {H:Hp} {x y:Bv.X} {v u:V} {p:List (D × Bv.X) × D × List Leaf} (st:Sta K Z ρ S H) (a:AX K (Wn Z ρ) ρ H x v) (b:AX K (Wn Z ρ) ρ H y u) (h:tkX S x y=some p) :
    ∃ n c d xs,x = .r n∧ρ[n]?=some c∧(S[n]?=some (.tdc p.1) ∨ S[n]?=some (.tfc p.1))∧v = .ref c∧u = .ref d∧Rd H c (TDo c xs)∧KVT K (Wn Z ρ) ρ H p.1 xs∧Y8i K H d p.2.2∧AV K (Wn Z ρ) H p.2.1 (.ref d)∧p.2.1.tkey?=some p.2.2:=by
  obtain ⟨n,rfl,hS,rfl,hq⟩:=W01 h
  cases a with
  | r e =>
    rename_i c
    cases b with
    | d b =>
      obtain ⟨d,rfl,tk⟩:=Y4p hq b
      rcases hS with hS | hS
      · obtain ⟨xs,h1,kv⟩:=st.ob n _ _ hS e
        exact ⟨n,c,d,xs,rfl,e, .inl hS,rfl,rfl, .inl h1,kv,tk,b,hq⟩
      · obtain ⟨ob,xs,h1,kv⟩:=st.ob n _ _ hS e
        exact ⟨n,c,d,xs,rfl,e, .inr hS,rfl,rfl, .inr ⟨ob,h1⟩,kv,tk,b,hq⟩
theorem W00 {S:Sto} {x y:X} {p:List (D × X) × D × List Leaf} (h:tkW S x y=some p):∃ n,x = .r n∧S[n]?=some (.tdc p.1)∧y = .d p.2.1∧p.2.1.tkey?=some p.2.2:=by
  obtain ⟨kvs,h1,h2⟩:=Option.bind_eq_some_iff.mp h
  cases y with
  | r _=>cases h2
  | d k =>
    obtain ⟨q,hq,e⟩:=Option.map_eq_some_iff.mp (show (k.tkey?).map (fun q=>(kvs,k,q))=some p from h2)
    subst e
    cases x with
    | d _=>cases h1
    | r n =>
      refine ⟨n,rfl,?_,rfl,hq⟩
      unfold tdW at h1
      cases q2:S[n]? with
      | none=>simp only [q2] at h1; cases h1
      | some o =>
        simp only [q2] at h1
        cases o with
        | tdc kvs'=>cases h1; rfl
        | _=>cases h1
theorem W34 {K:PySem.W.Frag} {Z:Wd} {ρ:List Addr} {S:Sto} {H:Hp} {x y:Bv.X} {v u:V} {p:List (D × Bv.X) × D × List Leaf} (st:Sta K Z ρ S H) (a:AX K (Wn Z ρ) ρ H x v) (b:AX K (Wn Z ρ) ρ H y u) (h:tkW S x y=some p) :
    ∃ n c d xs,x = .r n∧ρ[n]?=some c∧S[n]?=some (.tdc p.1)∧v = .ref c∧u = .ref d∧H c=some (TDo c xs)∧KVT K (Wn Z ρ) ρ H p.1 xs∧Y8i K H d p.2.2∧AV K (Wn Z ρ) H p.2.1 (.ref d)∧p.2.1.tkey?=some p.2.2:=by
  obtain ⟨n,rfl,hS,rfl,hq⟩:=W00 h
  cases a with
  | r e =>
    rename_i c
    obtain ⟨xs,h1,kv⟩:=st.ob n _ _ hS e
    cases b with
    | d b =>
      obtain ⟨d,rfl,tk⟩:=Y4p hq b
      exact ⟨n,c,d,xs,rfl,e,hS,rfl,rfl,h1,kv,tk,b,hq⟩
def X48 (neg:Bool) (mi mo:M):M:=fun e S=>(mi e S).bind fun y S1=>(mo e S1).bind fun x S2=>Z4r ((tkX S2 x y).map fun p => .d (.bl ((X0d p.1 p.2.2).isSome ^^ neg))) S2
def W4d (y v:X) (S:Sto):R X:=match y with
  | .d k=>if k.tkey?.isSome then .ok (.r S.length) (S++[.tdc [(k,v)]]) else .bad
  | .r _ => .bad
def X2t (mk mv:M):M:=fun e S=>(mk e S).ne.bind fun y S1=>(mv e S1).ne.bind fun v S2=>W4d y v S2
def W03 (S:Sto) (x y:X):Option (Nat × List (D × X) × D × List Leaf):=match x with
  | .r n=>(tkW S x y).bind fun p=>if decide (p.1.length < sizeLine) then some (n,p) else none
  | .d _=>none
def X7h (mo mi mv:M):MS:=fun e S=>(mv e S).so e fun z S1=>(mo e S1).so e fun x S2=>(mi e S2).so e fun y S3=>match W03 S3 x y with
  | some p => .go (.nx e) (S3.set p.1 (.tdc (W1f p.2.1 p.2.2.1 p.2.2.2 z)))
  | none => .bad
section
variable {X:Cx} {Wx:WX} {pos pos' apos cpos:Pos} {o i e f value kx:Expr} {mo mi mx mv mk:M}
theorem W0z {neg:Bool} {σ:L2.St} {H:Hp} {Q:VK} (h:RE X.K Wx (X48 neg mi mo) σ H Q):W7m X.K neg (RE X.K Wx mi) (RE X.K Wx mo) σ H Q:=by
  obtain ⟨Z,ρ,e,S,st,ev,p⟩:=h
  refine X5 (rel:=AX X.K) st ev p fun ρ1 H1 u y S1 st1 g1 ev1 a1 p1=>X5 (rel:=AX X.K) st1 ev1 p1 fun ρ2 H2 v x S2 st2 g2 ev2 a2 p2=>?_
  have ay:=a1.mv (g2.mv st1) g2.pre
  obtain ⟨d,hl,p3⟩:=(show Z23 X.K Z ρ2 H2 Wx σ Q (Z4r ((tkX S2 x y).map fun p => .d (.bl ((X0d p.1 p.2.2).isSome ^^ neg))) S2) from p2).opt
  obtain ⟨p,h1,rfl⟩:=Option.map_eq_some_iff.mp hl
  obtain ⟨n,c,b,xs,rfl,_,_,rfl,rfl,hc,kv,tk,_,_⟩:=W6k st2 a2 ay h1
  have e:(X0d p.1 p.2.2).isSome=(atT xs p.2.2).isSome:=by rcases kv.look p.2.2 with ⟨d2,w,e1,e2,_⟩ | ⟨e1,e2⟩ <;> rw [e1,e2] <;> rfl
  rw [e] at p3
  exact ⟨c,b,xs,p.2.2,rfl,rfl,⟨hc,kv.keys⟩,tk,X6.ret0 p3 st2 (.d (.bl _))⟩
theorem X5t (hw:X.w=HasW.w) (hu:X.A.units + 1 < cLine) (hi:ME X Wx i mi) (ho:ME X Wx o mo):PC X .NotIn i o (RE X.K Wx (X48 true mi mo)):=⟨fun pins s σ H Q I h=>(X3l hw hu hi ho).run pins s σ H Q I (W0z h)⟩
theorem X9l (hw:X.w=HasW.w) (hu:X.A.units + 1 < cLine) (hi:ME X Wx i mi) (ho:ME X Wx o mo) (hb:behindInMarks .NotIn o=false:=by rfl):MT X Wx (.Compare i [.NotIn] [o] pos) (U4 (X48 true mi mo)):=X9k (X5t hw hu hi ho) hb
theorem X9h (hw:X.w=HasW.w) (hu:X.A.units + 1 < cLine) (ho:ME X Wx o mo) (hi:ME X Wx i mi) (hv:ME X Wx value mv) (hs:swapsWith value (some (.Subscript o i pos')) pos.line X.env=pure false:=by rfl):MP X Wx (.Assign [.Subscript o i pos'] value pos) (X7h mo mi mv) :=
  PS.of (W0f hw hu ho hi hv hs) fun D σ H ⟨Z,ρ,e,S,st,ev,q⟩=>by
    refine Z0h (rel:=AX X.K) st ev q fun ρ1 H1 w z S1 s1 g1 ev1 a1 q1=>Z0h (rel:=AX X.K) s1 ev1 q1 fun ρ2 H2 v x S2 s2 g2 ev2 a2 q2=>Z0h (rel:=AX X.K) s2 ev2 q2 fun ρ3 H3 u y S3 s3 g3 ev3 a3 q3=>?_
    have az:=(a1.mv (g2.mv s1) g2.pre).mv (g3.mv s2) g3.pre
    have ax:=a2.mv (g3.mv s2) g3.pre
    have q3:Z1n X.K Z ρ3 H3 Wx D (match W03 S3 x y with
      | some p => .go (.nx e) (S3.set p.1 (.tdc (W1f p.2.1 p.2.2.1 p.2.2.2 z)))
      | none => .bad):=q3
    cases h:W03 S3 x y with
    | none=>rw [h] at q3; exact q3.elim
    | some p =>
      rw [h] at q3
      have q9:Z1n X.K Z ρ3 H3 Wx D (.go (.nx e) (S3.set p.1 (.tdc (W1f p.2.1 p.2.2.1 p.2.2.2 z)))):=q3
      cases x with
      | d _=>cases h
      | r n =>
        obtain ⟨p2,h1,h2⟩:=Option.bind_eq_some_iff.mp (show (tkW S3 (.r n) y).bind (fun p=>if decide (p.1.length < sizeLine) then some (n,p) else none)=some p from h)
        obtain ⟨h3,h4⟩:=Z37 h2
        cases h4
        obtain ⟨n',c,b,xs,e0,ha,hS,rfl,rfl,hc,kv,tk,ak,hk⟩:=W34 s3 ax a3 h1
        cases e0
        have kv2:=kv.put hk ak az
        have inρ:c ∈ ρ3:=List.mem_of_getElem? ha
        have m:Mv (Wn Z ρ3) H3 (Wn Z ρ3) (upd H3 c (TDo c (Y58 xs p2.2.2 b w))):=fun b o hb z=>⟨hb,by rw [upd_ne (fun y=>hb (.inr (by rw [y]; exact inρ)))]; exact z⟩
        obtain ⟨s4,g4⟩:=s3.put (o' := .tdc (W1f p2.1 p2.2.1 p2.2.2 z)) (u:=TDo c (Y58 xs p2.2.2 b w)) ha (fun _ _ z=>by rw [hc] at z; cases z) ⟨_,upd_same,KVT.mv m (List.prefix_refl _) kv2⟩
        exact ⟨c,b,xs,p2.2.2,rfl,rfl,hc,kv.keys,tk,by rw [← Paired.length kv]; exact of_decide_eq_true h3,q9 ρ3 _ _ s4 g4 (ev3.mv (g4.mv s3) (List.prefix_refl _))⟩
theorem X5d (hw:X.w=HasW.w) (hu:X.A.units + 1 < cLine) (hk:ME X Wx kx mk) (hv:ME X Wx value mv):ME X Wx (.Dict [some kx] [value] pos) (X2t mk mv) :=
  PE.of (X94 hw hu hk hv) fun σ H Q ⟨Z,ρ,e,S,st,ev,p⟩=>fun a ha=>by
    have na:¬ Wn Z ρ a:=st.fresh ha
    have m0:Mv (Wn Z ρ) H (Wn (fun c=>Z c ∨ c=a) ρ) (upd H a (TDo a [])):=fun c o hc q=>by
      have ne:c ≠ a:=fun z=>by rw [z,ha] at q; cases q
      exact ⟨fun z=>z.elim (fun z=>z.elim (fun z=>hc (.inl z)) ne) fun z=>hc (.inr z),by rw [upd_ne ne]; exact q⟩
    have k0:=V9 (o:=TDo a []) ha
    have st0:Sta X.K (fun c=>Z c ∨ c=a) ρ S (upd H a (TDo a [])):=⟨st.nd,fun c hc=>by
      rcases hc with hc | rfl
      · obtain ⟨h1,o,h2⟩:=st.z c hc
        exact ⟨h1,o,k0 c o h2⟩
      · exact ⟨fun z=>na (.inr z),_,upd_same⟩,st.len,fun n o c e1 e2=>AO.mv m0 (List.prefix_refl _) (k0 c) (st.ob n o c e1 e2)⟩
    refine ⟨_,ρ,e,S,st0,ev.mv m0 (List.prefix_refl _),?_⟩
    have p:Z23 X.K Z ρ H Wx σ Q ((mk e S).ne.bind fun y S1=>(mv e S1).ne.bind fun v S2=>W4d y v S2):=p
    cases hm:mk e S with
    | err C fs S1=>rw [hm] at p; exact p.elim
    | bad=>rw [hm] at p; exact p.elim
    | ok y S1 =>
      rw [hm] at p
      have p:Z23 X.K Z ρ H Wx σ Q ((mv e S1).ne.bind fun v S2=>W4d y v S2):=p
      intro ρ1 H1 yv s1 g1 a1
      obtain ⟨n1,h1a⟩:=g1.keep a _ (fun z=>na (.inr z)) upd_same
      refine ⟨_,ρ1,e,S1,s1,(ev.mv m0 (List.prefix_refl _)).mv (g1.mv st0) g1.pre,?_⟩
      cases hm2:mv e S1 with
      | err C fs S2=>rw [hm2] at p; exact p.elim
      | bad=>rw [hm2] at p; exact p.elim
      | ok v S2 =>
        rw [hm2] at p
        have p:Z23 X.K Z ρ H Wx σ Q (W4d y v S2):=p
        intro ρ2 H2 w s2 g2 a2
        obtain ⟨n2,h2a⟩:=g2.keep a _ n1 h1a
        cases y with
        | r _=>exact p.elim
        | d k =>
          have p:Z23 X.K Z ρ H Wx σ Q (if k.tkey?.isSome then .ok (.r S2.length) (S2++[.tdc [(k,v)]]) else .bad):=p
          by_cases c:k.tkey?.isSome=true
          case neg=>rw [if_neg c] at p; exact p.elim
          rw [if_pos c] at p
          obtain ⟨q,hq⟩:=Option.isSome_iff_exists.mp c
          have a1':=a1.mv (g2.mv s1) g2.pre
          cases a1' with
          | d ak =>
            obtain ⟨b,rfl,tk⟩:=Y4p hq ak
            refine ⟨b,q,rfl,h2a,tk,?_⟩
            have nZ:∀ c,Z c→c ≠ a:=fun c hc z=>by
              obtain ⟨_,o,h2⟩:=st.z c hc
              rw [z,ha] at h2; cases h2
            have m2:Mv (Wn (fun c=>Z c ∨ c=a) ρ2) H2 (Wn Z (ρ2++[a])) (upd H2 a (TDo a [(q,b,w)])):=fun c o hc z=>by
              have ne:c ≠ a:=fun y=>hc (.inl (.inr y))
              refine ⟨fun y=>y.elim (fun y=>hc (.inl (.inl y))) fun y=>?_,by rw [upd_ne ne]; exact z⟩
              rcases List.mem_append.mp y with y | y
              · exact hc (.inr y)
              · exact ne (by simpa using y)
            have sN:Sta X.K Z (ρ2++[a]) (S2++[.tdc [(k,v)]]) (upd H2 a (TDo a [(q,b,w)])):=by
              refine ⟨?_,fun c hc=>⟨fun z=>?_,?_⟩,by rw [List.length_append,List.length_append,s2.len]; rfl,fun n o c e1 e2=>?_⟩
              · rw [List.nodup_append]
                exact ⟨s2.nd,by simp,fun x hx y hy z=>by
                  have:y=a:=by simpa using hy
                  subst this; subst z; exact n2 hx⟩
              · rcases List.mem_append.mp z with z | z
                · exact (s2.z c (.inl hc)).1 z
                · exact nZ c hc (by simpa using z)
              · obtain ⟨o,h2⟩:=(s2.z c (.inl hc)).2
                exact ⟨o,by rw [upd_ne (nZ c hc)]; exact h2⟩
              · by_cases hn:n < ρ2.length
                · rw [List.getElem?_append_left hn] at e2
                  rw [List.getElem?_append_left (by rw [s2.len]; exact hn)] at e1
                  have ne:c ≠ a:=fun z=>n2 (by rw [← z]; exact List.mem_of_getElem? e2)
                  exact AO.mv m2 (List.prefix_append _ _) (fun u z=>by rw [upd_ne ne]; exact z) (s2.ob n o c e1 e2)
                · rw [List.getElem?_append_right (by omega)] at e2
                  rw [List.getElem?_append_right (by rw [s2.len]; omega)] at e1
                  have hz:n - ρ2.length=0:=by
                    have:=(List.getElem?_eq_some_iff.mp e2).1
                    simp at this; omega
                  rw [hz] at e2
                  rw [s2.len,hz] at e1
                  cases e1; cases e2
                  exact ⟨_,upd_same, .cons ⟨hq,ak.mv m2,a2.mv m2 (List.prefix_append _ _)⟩ .nil⟩
            have gN:Go ρ H (ρ2++[a]) (upd H2 a (TDo a [(q,b,w)])):=by
              refine ⟨(g1.pre.trans g2.pre).trans (List.prefix_append _ _),fun c o hc z=>?_,fun c ob u z=>?_⟩
              · have ne:c ≠ a:=fun y=>by rw [y,ha] at z; cases z
                obtain ⟨h3,h4⟩:=g1.keep c o hc (k0 c o z)
                obtain ⟨h5,h6⟩:=g2.keep c o h3 h4
                exact ⟨fun y=>by
                  rcases List.mem_append.mp y with y | y
                  · exact h5 y
                  · exact ne (by simpa using y),by rw [upd_ne ne]; exact h6⟩
              · have ne:c ≠ a:=fun y=>by rw [y,ha] at z; cases z
                rw [upd_ne ne]
                exact g2.fz c ob u (g1.fz c ob u (k0 c _ z))
            exact p _ _ _ sN gN (.r (by rw [s2.len]; simp))
end
end Bv
namespace Bv
open PySem PySem.Spec L2
open PyProof.Rows hiding St
variable [HasW]
theorem Y1j {α β:Type} {R:α→β→Prop} {l l':List α} (p:l'.Perm l):∀ {ks:List β},Paired R l ks→∃ ks',ks'.Perm ks∧Paired R l' ks':=by
  induction p with
  | nil=>intro ks h; cases h; exact ⟨[], .nil, .nil⟩
  | cons a _ ih =>
    intro ks h
    cases h with
    | cons h t =>
      obtain ⟨ks',p,q⟩:=ih t
      exact ⟨_,p.cons _, .cons h q⟩
  | swap a b l =>
    intro ks h
    cases h with
    | cons h t =>
      cases t with
      | cons h2 t=>exact ⟨_,List.Perm.swap _ _ _, .cons h2 (.cons h t)⟩
  | trans _ _ ih1 ih2 =>
    intro ks h
    obtain ⟨k1,p1,q1⟩:=ih2 h
    obtain ⟨k2,p2,q2⟩:=ih1 q1
    exact ⟨k2,p2.trans p1,q2⟩
section
variable {P:Program} {w:World} {κ:Type} [DecidableEq κ] {knd:PySem.KeyKind P w κ} {A:Around} {E:Value→Shared→Prop} {s:Shared} {a:Addr} {xs:List κ} {k:κ} {x:Value}
def X1b (knd:PySem.KeyKind P w κ) (e:Int × Value) (k:κ):Prop:=knd.is k e.2=true∧e.1=knd.hash k∧e.2.scannable=true
structure TabOk (knd:PySem.KeyKind P w κ) (es:Array (Int × Value)) (t:SetTable) (ks xs:List κ):Prop where
  good:Paired (X1b knd) es.toList ks
  perm:ks.Perm xs
  nd:xs.Nodup
  few:es.size < scanBound
  fits:t.fits es.size=true
  ris:Ris t.place.toList
  led:w.params.followText "set-order" = true ∨ t.led=true
def X4f (knd:PySem.KeyKind P w κ) (h:Heap) (a:Addr) (xs:List κ):Prop:=∃ o es ep t ks,h.get? a=some o∧o.ExactSet∧o.data = .set es ep t∧TabOk knd es t ks xs
theorem X14:∀ {l:List (Int × Value)} {ks:List κ},Paired (X1b knd) l ks→ElemsOf knd l
  | _,_, .nil=>fun _ h=>nomatch h
  | _,_, .cons h t=>fun e he=>by
    rcases List.mem_cons.mp he with z | z
    · subst z; exact ⟨⟨_,h.1,h.2.1⟩,h.2.2⟩
    · exact X14 t e z
theorem Y7b:∀ {l:List (Int × Value)} {ks:List κ},Paired (X1b knd) l ks→∀ j,(∃ e ∈ l,knd.is j e.2=true) ↔ j ∈ ks
  | _,_, .nil=>fun j=>⟨fun ⟨_,h,_⟩=>(nomatch h),fun h=>(nomatch h)⟩
  | e0 :: l,k0 :: ks, .cons h t=>fun j=>by
    rw [List.mem_cons,← Y7b t j]
    constructor
    · rintro ⟨e,he,q⟩
      rcases List.mem_cons.mp he with z | z
      · subst z; exact .inl (knd.inj _ _ _ q h.1)
      · exact .inr ⟨e,z,q⟩
    · rintro (z | ⟨e,he,q⟩)
      · subst z; exact ⟨e0,List.mem_cons_self ..,h.1⟩
      · exact ⟨e,List.mem_cons_of_mem _ he,q⟩
theorem X4f.at_ {h h':Heap} (R:X4f knd h a xs) (st:∀ o,h.get? a=some o→h'.get? a=some o):X4f knd h' a xs:=let ⟨o,es,ep,t,ks,ho,r⟩:=R; ⟨o,es,ep,t,ks,st o ho,r⟩
theorem X0z {h:Heap}:X4f knd (h.push { cls := .type "set",dict:=none,data := .set #[] 0 (.fresh 0 0 (!w.params.followText "set-order")) }) h.objs.size []:=by
  refine ⟨_,#[],0,_,[],Heap.get?_push_size _ rfl,⟨rfl,rfl,rfl⟩,rfl, .nil, .nil, .nil,by decide,by rfl, .nil,?_⟩
  show _ ∨ (!w.params.followText "set-order")=true
  cases w.params.followText "set-order" with
  | true=>exact .inl rfl
  | false=>exact .inr rfl
theorem X7c {o:Obj} {h:Heap} {es es':Array (Int × Value)} {ep:Nat} {t t':SetTable} (ho:h.get? a=some o) (hd:o.data = .set es ep t):(h.update a (Obj.putSet es' t')).get? a=some { o with data := .set es' (ep + 1) t' }:=by
  have z:=Heap.get?_update_self (Obj.putSet es' t') ho (by rw [putSet_of es' t' hd]; rfl)
  rwa [putSet_of es' t' hd] at z
theorem Y6p {g:Bool→Sem Unit} (hg:∀ (b:Bool) (s₁:Shared) (Q':Unit→Shared→Prop),Q' () s₁→wpAny (model P w) A (g b) Q' E s₁) {o:Obj} {es es1:Array (Int × Value)} {ep:Nat} {t t2:SetTable} {ks ys:List κ} {wasDummy:Bool} {R:Option Bool→Shared→Prop}
    (ho:s.heap.get? a=some o) (hex:o.ExactSet) (hd:o.data = .set es ep t) (T:TabOk knd es1 t2 ks ys) (hR:∀ h',Heap.SameBut a s.heap h'→X4f knd h' a ys→R (some true) { s with heap:=h' }) :
    wpAny (model P w) A (do
        storeSet a es1 t2
        if (!wasDummy && t2.tooFull)=true then do
            g (relayAll t2 es1 (SetTable.grown es1.size)).2.2
            storeSet a (relayAll t2 es1 (SetTable.grown es1.size)).1 (relayAll t2 es1 (SetTable.grown es1.size)).2.1
            pure (some true)
          else pure (some true)) R E s:=by
  have o1:=X7c (es':=es1) (t':=t2) ho hd
  have b1:=Heap.SameBut.update s.heap a (Obj.putSet es1 t2)
  refine wpAny_bind (wpAny_storeSet_of ho hd ?_ (fits_of_scanBound T.few))
  by_cases full:(!wasDummy && t2.tooFull)=true
  · rw [if_pos full]
    have p2:=relayAll_perm t2 es1 (SetTable.grown es1.size)
    have f2:=relayAll_fits t2 es1 (SetTable.grown es1.size)
    have r2:=relayAll_ris t2 es1 (SetTable.grown es1.size)
    have l2:=relayAll_led t2 es1 (SetTable.grown es1.size)
    generalize relayAll t2 es1 (SetTable.grown es1.size)=Z at p2 f2 r2 l2 ⊢
    obtain ⟨es2,t3,gv⟩:=Z
    dsimp only at p2 f2 r2 l2 ⊢
    have sz:es2.size=es1.size:=by rw [← Array.length_toList,p2.length_eq,Array.length_toList]
    obtain ⟨ks2,pk,gd⟩:=Y1j p2 T.good
    have few2:es2.size < scanBound:=by rw [sz]; exact T.few
    refine wpAny_bind (hg _ _ _ (wpAny_bind (wpAny_storeSet_of o1 rfl ?_ (fits_of_scanBound few2))))
    exact wpAny_pure (hR _ (b1.trans (Heap.SameBut.update _ a _)) ⟨_,es2,_,t3,ks2,X7c (es':=es2) (t':=t3) o1 rfl,hex,rfl,gd,pk.trans T.perm,T.nd,few2,f2,r2,T.led.imp id fun z=>by rw [l2]; exact z⟩)
  · rw [if_neg full]
    exact wpAny_pure (hR _ b1 ⟨_,es1,_,t2,ks,o1,hex,rfl,T⟩)
theorem X56 {Q:Bool→Shared→Prop} (hk:knd.is k x=true) (hsc:x.scannable=true) (R:X4f knd s.heap a xs) (room:xs.length + 1 < scanBound)
    (hQ:∀ h' b,Heap.SameBut a s.heap h'→X4f knd h' a (if k ∈ xs then xs else xs++[k])→Q b { s with heap:=h' }):wpAny (model P w) A (setAddHashed a x (knd.hash k)) Q E s:=by
  obtain ⟨o,es,ep,t,ks,ho,hex,hd,T⟩:=R
  have el:=X14 T.good
  have sz:es.size=xs.length:=by rw [← Array.length_toList,Paired.length T.good,T.perm.length_eq]
  unfold setAddHashed setAddHashedIn
  refine wpAny_holding (wpAny_bind (wpAny_setState_of ho hd T.fits ?_))
  dsimp only
  rw [byScan_of hsc T.few el]
  simp only [↓reduceIte]
  unfold setAddByScan
  refine wpAny_bind (wpAny_bind (wpAny_rule (wpAny_bind (wpAny_setScan_of hk ho hd T.fits el ?_))))
  cases fi:List.findIdx? (fun e=>knd.is k e.2) es.toList with
  | some j =>
    dsimp only
    obtain ⟨hj,pj,_⟩:=List.findIdx?_eq_some_iff_getElem.mp fi
    have inx:k ∈ xs:=T.perm.mem_iff.mp ((Y7b T.good k).mp ⟨_,List.getElem_mem hj,pj⟩)
    have z:=hQ s.heap false (Heap.SameBut.refl a s.heap) ⟨o,es,ep,t,ks,ho,hex,hd,by rw [if_pos inx]; exact T⟩
    exact wpAny_pure (wpAny_pure z)
  | none =>
    dsimp only
    have out:k ∉ ks:=fun z=>by
      obtain ⟨e,he,q⟩:=(Y7b T.good k).mpr z
      have c:=List.findIdx?_eq_none_iff.mp fi e he
      rw [q] at c
      cases c
    have outx:k ∉ xs:=fun z=>out (T.perm.mem_iff.mpr z)
    have pm:=layNew_perm t es (knd.hash k) x
    have f1:=layNew_fits t es (knd.hash k) x
    have r1:=layNew_ris t es (knd.hash k) x T.ris
    have l1:=layNew_led t es (knd.hash k) x
    generalize layNew t es (knd.hash k) x=Z at pm f1 r1 l1 ⊢
    obtain ⟨es1,t1,wd,gave⟩:=Z
    dsimp only at pm f1 r1 l1 ⊢
    rw [Array.toList_push] at pm
    obtain ⟨ks1,pk,gd⟩:=Y1j pm (Paired.append T.good (.cons (show X1b knd (knd.hash k,x) k from ⟨hk,rfl,hsc⟩) .nil))
    have px:ks1.Perm (xs++[k]):=pk.trans (T.perm.append_right [k])
    have nx:(xs++[k]).Nodup:=(List.perm_append_singleton k xs).nodup_iff.mpr (List.nodup_cons.mpr ⟨outx,T.nd⟩)
    have few1:es1.size < scanBound:=by
      rw [← Array.length_toList,Paired.length gd,px.length_eq,List.length_append]
      exact room
    have led1:w.params.followText "set-order" = true ∨ t1.led=true:=T.led.imp id fun z=>by rw [l1]; exact z
    have fin:∀ h',Heap.SameBut a s.heap h'→X4f knd h' a (xs++[k])→Q true { s with heap:=h' }:=fun h' sb r=>hQ h' true sb (by rw [if_neg outx]; exact r)
    have gw:∀ (b:Bool) {s₁:Shared} {Q':Unit→Shared→Prop},Q' () s₁→wpAny (model P w) A (match b with | true=>rule "set.scan.the-table-gave-way" | false=>pure ()) Q' E s₁:=fun b s₁ Q' q=>by
      cases b with
      | true=>exact wpAny_rule q
      | false=>exact wpAny_pure q
    refine wpAny_bind (gw _ ?_)
    split
    · refine wpAny_bind ?_
      rw [hashByValue_scannable 8 hsc]
      refine wpAny_pure ?_
      refine Y6p (ks:=ks1) (ys:=xs++[k]) ?_ ho hex hd ⟨gd,px,nx,few1,?_,?_,?_⟩ ?_
      · intro b s₁ Q' q
        cases b <;> first | exact wpAny_pure q | exact wpAny_rule q
      · first | (split <;> first | exact f1 | exact SetTable.fits_plain_off f1) | exact f1
      · first | (split <;> exact r1) | exact r1
      · first | (split <;> exact led1) | exact led1
      · intro h' sb r; dsimp only; exact wpAny_pure (fin h' sb r)
    · refine wpAny_bind (wpAny_pure ?_)
      simp only [↓reduceIte]
      refine Y6p (ks:=ks1) (ys:=xs++[k]) ?_ ho hex hd ⟨gd,px,nx,few1,f1,r1,led1⟩ ?_
      · intro b s₁ Q' q
        cases b <;> first | exact wpAny_pure q | exact wpAny_rule q
      · intro h' sb r; dsimp only; exact wpAny_pure (fin h' sb r)
end
abbrev W08 (P:Program) (w:World) (h:Heap) (a:Addr) (xs:List Str):Prop:=X4f (PySem.strKind P w) h a xs
theorem X54 (xs:List Str) (k:Str):(if k ∈ xs then xs else xs++[k])=Z1q xs k:=by
  unfold Z1q
  by_cases c:k ∈ xs
  · rw [if_pos c,if_pos (List.contains_iff_mem.mpr c)]
  · rw [if_neg c,if_neg (fun z=>c (List.contains_iff_mem.mp z))]
section
variable {P:Program} {w:World} {A:Around} {E:Value→Shared→Prop} {s:Shared} {a:Addr} {xs:List Str}
theorem X57 {x:Str} {tk:Tok} {Q:Value→Shared→Prop} (R:W08 P w s.heap a xs) (room:xs.length + 1 < scanBound) (hQ:∀ h',Heap.SameBut a s.heap h'→W08 P w h' a (Z1q xs x)→Q .none { s with heap:=h',toks:=s.toks + 1 }) :
    wpAny (model P w) A (call (.builtin "set.add") [.ref a, .str x tk]) Q E s:=by
  have ty:s.TypeIs (.ref a) "set" := by
    obtain ⟨o,es,ep,t,ks,ho,hex,_⟩:=R
    exact ⟨o,ho,hex.1⟩
  refine wpAny_call_entry PySem.F.slot_set_add ty PySem.F.entry_set_add ?_ (PySem.F.args_set_add_2 _ _)
  unfold Builtin.«set.add» Builtin.Frozenset.oneOther
  simp only [List.isEmpty_nil,bind_assoc]
  unfold Builtin.Frozenset.addrOf setAdd
  refine wpAny_bind (wpAny_pure ?_)
  try dsimp only
  refine wpAny_bind (wpAny_pure ?_)
  try dsimp only
  refine wpAny_bind (wpAny_holding (wpAny_bind ((PySem.strKind P w).pyHash (k:=x) (strKind_is _ _ _ _) ?_)))
  refine X56 (knd:=PySem.strKind P w) (s:={ s with toks:=s.toks + 1 }) (strKind_is _ _ _ _) rfl R room fun h' b sb r=>?_
  rw [X54] at r
  show wpAny _ _ (ret Value.none) _ _ _
  exact wpAny_pure ⟨_,rfl,hQ h' sb r⟩
theorem Y5f:∀ {l:List (Int × Value)} {ks:List Str},Paired (X1b (PySem.strKind P w)) l ks→StrsAre (l.map (·.2)) ks
  | _,_, .nil => .nil
  | e :: l,k :: ks, .cons h t=>by
    obtain ⟨tk,q⟩:=Value.isStrOf_shape (show Value.isStrOf k e.2=true from h.1)
    rw [List.map_cons,q]
    exact .cons k tk (Y5f t)
theorem X33 {us vs:List Value} (p:us.Perm vs):∀ {ss:List Str},StrsAre vs ss→∃ ss',ss'.Perm ss∧StrsAre us ss':=by
  induction p with
  | nil=>intro ss h; cases h; exact ⟨[], .nil, .nil⟩
  | cons a _ ih =>
    intro ss h
    cases h with
    | cons x t h =>
      obtain ⟨ss',p,q⟩:=ih h
      exact ⟨_,p.cons _, .cons x t q⟩
  | swap a b l =>
    intro ss h
    cases h with
    | cons x t h =>
      cases h with
      | cons y t2 h=>exact ⟨_,List.Perm.swap _ _ _, .cons y t2 (.cons x t h)⟩
  | trans _ _ ih1 ih2 =>
    intro ss h
    obtain ⟨k1,p1,q1⟩:=ih2 h
    obtain ⟨k2,p2,q2⟩:=ih1 q1
    exact ⟨k2,p2.trans p1,q2⟩
theorem Y8a {Q:Value→Shared→Prop} (R:W08 P w s.heap a xs) (hh:A.handled=none)
    (hQ:∀ s' p (out:Array Value) (c:Nat) (ss:List Str),(∀ b o,s.heap.get? b=some o→s'.heap.get? b=some o)→s'.gens=s.gens→s'.os=s.os→s.heap.objs.size ≤ p →
      s'.heap.get? p=some (seqObj "list" out c)→StrsAre out.toList ss→ss.Perm xs→sortedS ss=true→Q (.ref p) s') :
    wpAny (model P w) A (call (.builtin "sorted") [.ref a]) Q E s:=by
  obtain ⟨o,es,ep,t,ks,ho,hex,hd,T⟩:=R
  have few:=T.few
  unfold scanBound at few
  refine Calls.call_function_entry PyProof.Rows.kind_sorted PyProof.Rows.plain_sorted PyProof.Rows.entry_sorted (PyProof.Rows.args_sorted1 _) ?_
  unfold Builtin.«sorted»
  refine wpAny_bind (m:=checkCount "sorted" 1 1 _) (wpAny_pure ?_)
  refine wpAny_bind (collect_set (A:=A.in1) hh ⟨o,ho,hex.1,hd⟩ T.fits T.few T.ris T.led fun s1 vs k1 hz g1 o1 pm=>?_)
  obtain ⟨ss,ps,sa⟩:=X33 pm (Y5f T.good)
  have vl:vs.length ≤ sizeLine:=by rw [pm.length_eq,List.length_map,Array.length_toList,sizeLine_eq]; omega
  refine wpAny_bind (wpAny_newList ?_ vl)
  have oL:(s1.heap.push (seqObj "list" vs.toArray 0)).get? s1.heap.objs.size=some (seqObj "list" vs.toArray 0):=Heap.get?_push_size _ rfl
  refine wpAny_bind (wpAny_holding (wpAny_call_entry PyProof.Rows.slot_list_sort ⟨_,oL,rfl⟩ PyProof.Rows.entry_list_sort (PyProof.Rows.list_sort_treeKAny PyProof.Rows.strKind_oneLt oL sa.keysOf (fun v₁ v₂ rest e=>PyProof.Rows.keyKind_strs (by rw [← e]; exact sa)) vl fun st' hp hs=>⟨_,rfl,?_⟩) (PyProof.Rows.args_list_sort _)))
  obtain ⟨ss',h1,h2,h3⟩:=PyProof.Rows.sorted_out_str sa hp hs
  obtain ⟨c,hc⟩:=PyProof.Rows.sortedHeap_at (vs:=vs) (out:=(PyProof.Rows.arrOf st').map (·.2)) oL
  refine wpAny_pure ⟨_,rfl,hQ _ s1.heap.objs.size _ c ss' (fun b u e=>?_) g1 o1 hz hc h1 (h2.trans (ps.trans T.perm)) h3⟩
  have q:=k1 b u e
  have lt:=Heap.lt_size q
  show (PyProof.Rows.sortedHeap (s1.heap.push (seqObj "list" vs.toArray 0)) s1.heap.objs.size vs _).get? b=some u
  rw [PyProof.Rows.sortedHeap_old (Nat.ne_of_lt lt) (by rw [PyProof.Rows.size_push']; exact Nat.lt_succ_of_lt lt)]
  exact Heap.get?_push_of_some _ q
end
end Bv
namespace Bv
open PySem PySem.Spec L2
open PyProof.Rows hiding St
variable [HasW]
def Z5q (P:Program) (w:World) (a:Addr) (xs:List Str):HO := .ext fun h=>W08 P w h a xs
theorem Y6r {P:Program} {w:World} {H:Hp} {h:Heap} {a:Addr} {xs:List Str} (R:W08 P w h a xs):ObjOk P w H h a (Z5q P w a xs) :=
  ⟨R,let ⟨o,_,_,_,_,ho,_⟩:=R; ⟨o,ho⟩,fun _ _ p k=>X4f.at_ p k⟩
section
variable {X:Cx}
theorem Y6q {pins:List (Addr × Obj)} {σ:L2.St} {H:Hp} {s:Shared} {a:Addr} {xs:List Str} (I:Inv X pins σ H s) (ha:H a=some (Z5q X.prog X.w a xs)):W08 X.prog X.w s.heap a xs:=(I.hok a _ ha).1
def Y6a (P:Program) (w:World):List V→Hp→VK→Prop:=fun vs H Q=>∃ (a:Addr) (xs:List Str),vs=[V.ref a]∧H a=some (Z5q P w a xs)∧∀ p,H p=none→Q (.ref p) (upd H p (.lst ((Z6f xs).map V.str)))
theorem Y65 (hc:X.calm=true):CallR X (.builtin "sorted") (Y6a X.prog X.w):=by
  intro pins s σ H vs us Q I r h
  obtain ⟨a,xs,rfl,ha,q⟩:=h
  have R:=Y6q I ha
  rw [Vals.ref1 r]
  refine Y8a R (I.ok.hd hc) fun s' p out c ss k g ho hp hg hi pm hs=>?_
  rw [Y8w pm hs] at hi
  have hlen:((Z6f xs).map V.str).length ≤ sizeLine:=by
    rw [List.length_map,(Z5g xs).length_eq,sizeLine_eq]
    obtain ⟨o,es,ep,t,ks,_,_,_,T⟩:=R
    have few:=T.few
    unfold scanBound at few
    have e:es.size=xs.length:=by rw [← Array.length_toList,Paired.length T.good,T.perm.length_eq]
    omega
  have J:Inv X pins σ (upd H p (.lst ((Z6f xs).map V.str))) { s with heap:=s'.heap,gens:=s'.gens,drawn:=s'.drawn,toks:=s'.toks } :=
    I.call (ch:=[]) (Un.laid k hp (I.hok.fresh hp)) (I.hok.laid k hp ⟨hlen,out.toList,c,vals_of_strs hi,hg⟩) (by rw [g]; exact I.bare) (fun _ z=>nomatch z)
  have e:s'={ s with heap:=s'.heap,gens:=s'.gens,drawn:=s'.drawn,toks:=s'.toks }:=by
    obtain ⟨h1,h2,h3,h4,h5⟩:=s'
    obtain rfl:h5=s.os:=ho
    rfl
  rw [e]
  exact ⟨.ref p,_,J,rfl,q p (I.hok.fresh hp)⟩
end
end Bv
namespace Bv
open PySem PySem.Spec L2
open PyProof.Rows hiding St
variable [HasW]
def W7l (P:Program) (w:World) (wi:TI) (g:TG) (tt:TT) (te:TE) (vs:List Nat):TE:=fun σ H Q=>wi σ H fun J H1=>∀ D,H1 D=none→∃ W:Nat→Nat→Hp→Prop,(∃ m,W 0 m (upd H1 D (Z5q P w D [])))∧∀ i m H,W i m H →
  (J.stop i H∧Q (.ref D) H) ∨ (J.go i H∧∃ Nx:Hp→Prop,(∀ H',Nx H'→∃ m',m' < m∧W (i + 1) m' H')∧∀ x H',J.yld i H x H'→g x (wipe σ vs) H' fun σ2 H2=>wipe σ2 vs=wipe σ vs∧tt σ2 H2 fun b H3 =>
    if b=true then te σ2 H3 fun y H4=>∃ (c:Str) (xs:List Str),y = .str c∧H4 D=some (Z5q P w D xs)∧xs.length + 1 < scanBound∧Nx (upd H4 D (Z5q P w D (Z1q xs c))) else Nx H3)
section
variable {X:Cx}
theorem X7r {pins:List (Addr × Obj)} {σ:L2.St} {H:Hp} {s:Shared} {E:Value→Shared→Prop} {D:Addr} {xs:List Str} {c:Str} {tk:Tok} {Q:Value→Shared→Prop} (I:Inv X pins σ H s) (hD:H D=some (Z5q X.prog X.w D xs)) (room:xs.length + 1 < scanBound)
    (h:∀ s',Inv X pins σ (upd H D (Z5q X.prog X.w D (Z1q xs c))) s'→Q .none s'):wpAny (model X.prog X.w) X.A (call (.builtin "set.add") [.ref D, .str c tk]) Q E s :=
  X57 (Y6q I hD) room fun h' sb new=>h _ (I.write (e:=D) (t':=s.toks + 1) (by rw [hD]; exact True.intro) (.inl rfl) (fun b u hb hu=>(sb.2 b hb).trans hu) (let ⟨o,_,_,_,_,ho,_⟩:=new; ⟨o,ho⟩) (Y6r new))
theorem W3c {elt tg iter:Expr} {ifs:List Expr} {scope:Scope} {own:List (Str × Nat)} {pos:Pos} {wi:TI} {g:TG} {tt:TT} {te:TE} (hc:X.calm=true) (hN:X.N.Nodup) (hi:PI X tg iter wi) (ok:BlkOk X.N X.env.scope scope own)
    (hg:∀ (s:Shared) (H:Hp) (C:Addr) (cl:List (Str × Addr)) (fp:List Addr),PG (X.blk s H scope (compEnvC scope cl C X.env) fp) tg g) (ht:∀ (s:Shared) (H:Hp) (C:Addr) (cl:List (Str × Addr)) (fp:List Addr),PTs (X.blk s H scope (compEnvC scope cl C X.env) fp) ifs tt)
    (he:∀ (s:Shared) (H:Hp) (C:Addr) (cl:List (Str × Addr)) (fp:List Addr),PE (X.blk s H scope (compEnvC scope cl C X.env) fp) elt te) (hs:∀ x,foldedSetIterable iter X.env x=pure x:=by intro _; rfl) :
    PE X (.SetComp elt [⟨tg,iter,ifs,0⟩] scope pos) (W7l X.prog X.w wi g tt te (own.map (·.2))):=by
  refine ⟨fun pins s σ H Q I h=>?_⟩
  rw [PpSet.eval_SetComp]
  have free:∀ y ∈ scope.names,y.2 = .free→∃ c,X.env.cells.lookup y.1=some c:=fun y hy e=>(ok.free y hy e).elim (fun k=>I.ok.has _ (.inl k)) fun k=>I.ok.has _ (.inr k)
  refine wpAny_comprehension_free (use:=none) rfl hs (closure_ok free) ok.kind (fun y hy e=>by rw [ok.uniq y hy,e]) (thn (hi.run pins s σ H _ I h) fun xv sa hx=>thn hx fun itv sb ⟨it,fp,tn,J,Hb,e,Ib,T,stb,fb,q⟩=>?_)
  subst e
  refine PpSet.newSet_ok (newEnv_comp ?_)
  generalize hD:sb.heap.objs.size=D
  obtain ⟨W,⟨m0,w0⟩,turn⟩:=q D (Ib.hok.fresh (Nat.le_of_eq hD))
  generalize hsc:({ sb with heap:=sb.heap.push { cls := .type "set",dict:=none,data := .set #[] 0 (.fresh 0 0 (!X.w.params.followText "set-order")) } }:Shared)=sc
  have hcp:sc.heap=sb.heap.push { cls := .type "set",dict:=none,data := .set #[] 0 (.fresh 0 0 (!X.w.params.followText "set-order")) }:=by rw [← hsc]
  have up:∀ b o,sb.heap.get? b=some o→sc.heap.get? b=some o:=fun b o e=>by rw [hcp]; exact Heap.get?_push_of_some _ e
  generalize hHc:upd Hb D (Z5q X.prog X.w D [])=Hc at w0
  have Ic:Inv X pins σ Hc sc:=by
    rw [← hHc,← hsc]
    refine Ib.laid (t':=sb.toks) (fun b o e=>Heap.get?_push_of_some _ e) (Nat.le_of_eq hD) ?_
    rw [← hD]
    exact Y6r (X0z (knd:=PySem.strKind X.prog X.w))
  have fc:∀ b ∈ fp,FpOk X pins Hc b∧b < sc.heap.objs.size:=fun b hb=>by
    obtain ⟨o,e,_⟩:=T.obj _ _ stb b hb
    have lt:=Heap.lt_size e
    refine ⟨⟨?_,(fb b hb).2⟩,by rw [hcp,Heap.size_push]; exact Nat.lt_succ_of_lt lt⟩
    rw [← hHc,upd_ne (by rw [← hD]; exact Nat.ne_of_lt lt)]
    exact (fb b hb).1
  have stc:tn 0 sc.heap:=T.keep _ _ _ stb fun b _ o e=>up b o e
  have Id:=block_start Ic ok hN fc
  have pg:=hg sc Hc sc.heap.objs.size (cellsFrom (sc.heap.objs.size + 1) scope.names (cloFrom X.env.cells scope.names [])) fp
  have pt:=ht sc Hc sc.heap.objs.size (cellsFrom (sc.heap.objs.size + 1) scope.names (cloFrom X.env.cells scope.names [])) fp
  have pe:=he sc Hc sc.heap.objs.size (cellsFrom (sc.heap.objs.size + 1) scope.names (cloFrom X.env.cells scope.names [])) fp
  generalize hce:compEnvC scope (cellsFrom (sc.heap.objs.size + 1) scope.names (cloFrom X.env.cells scope.names [])) sc.heap.objs.size X.env=ce at Id pg pt pe
  have cL:ce.locals=sc.heap.objs.size:=by subst hce; rfl
  generalize hsd:({ sc with heap:=pushCells (sc.heap.push { cls := .type "dict",data := .dict #[] }) scope.names }:Shared)=sd at Id
  have std:tn 0 sd.heap:=T.keep _ _ _ stc fun b _ o e=>by rw [← hsd]; exact pushCells_keeps _ _ _ _ (Heap.get?_push_of_some _ e)
  have stat:∀ {τ:L2.St} {G:Hp} {r:Shared},Inv (X.blk sc Hc scope ce fp) [] τ G r→(∀ b ∈ fp,G b=none)→∀ b ∈ fp,FpOk (X.blk sc Hc scope ce fp) [] G b:=fun {τ G r} J2 hn b hb =>
    ⟨hn b hb,(J2.ok.exf b hb).1,J2.ok.exfs b hb, .inl hb,fun x c e=>(J2.ok.exf b hb).2 x c e,fun p hp=>nomatch (show p ∈ ([]:List (Addr × Obj)) from hp)⟩
  have loop:codeAny (model X.prog X.w) X.A (.compLoop (.SetComp elt [⟨tg,iter,ifs,0⟩] scope pos) 0 (.ref it) (.ref D) ce) (compPost (model X.prog X.w) X.A X.xe none (EP X pins σ Q) (.ref D) sc.heap.objs.size) sd:=by
    refine PpSet.compLoopS_any (fun n r=>∃ i G,Inv (X.blk sc Hc scope ce fp) [] (wipe σ (own.map (·.2))) G r∧tn i r.heap∧(∀ b ∈ fp,G b=none)∧W i n G) ?_ m0 ⟨0,Hc,Id,std,fun b hb=>(fc b hb).1.1,w0⟩
    rintro n s5 ⟨i,H5,I5,st5,n5,w5⟩
    rcases turn i n H5 w5 with ⟨stop,qq⟩ | ⟨go,Nx,hNx,step⟩
    · refine thnF (T.done (X.blk sc Hc scope ce fp) rfl rfl rfl hc i [] s5 _ H5 (fun _ _=>False) I5 (stat I5 n5) st5 stop) fun r s6 ⟨hr,I6⟩=>?_
      subst hr
      have I7:Inv X pins σ H5 s6:=Ic.call' (ch:=fp) I6.os I6.base I6.hok I6.bare fun b hb=>⟨(fc b hb).1.2.2.2.1,(fc b hb).1.2.1,(fc b hb).1.2.2.2.2.1,(fc b hb).1.2.2.2.2.2⟩
      have nC:H5 sc.heap.objs.size=none:=by
        have z:H5 ce.locals=none:=I6.free
        rwa [cL] at z
      obtain ⟨m,hn,_⟩:=I6.loc
      have hn:s6.heap.Ns ce.locals m:=hn
      rw [cL] at hn
      obtain ⟨f0,f1,f2,f3,f4,f5⟩:=Ic.fpOk (Nat.le_refl _) nC
      exact ⟨m,hn,fun h'' sb'=>⟨.ref D,H5,I7.turned (t':=s6.toks) (fun b o hb e=>(sb'.2 b hb).trans e) f0 f1 f3 f4 f5,rfl,qq⟩⟩
    · refine thnF (T.item (X.blk sc Hc scope ce fp) rfl rfl rfl hc i [] s5 _ H5 (fun _ _=>False) I5 (stat I5 n5) st5 go) fun r s6 ⟨u,hr,h6⟩=>?_
      subst hr
      refine thnF h6 fun _ s7 ⟨x,H7,I7,r7,y7,st7,n7⟩=>?_
      refine thnF (pg.run _ s7 _ H7 x u _ (I7.pinned (stat I7 n7) (T.obj _ _ st7)) r7 (step x H7 y7)) fun _ s8 ⟨σ8,H8,I8,hw8,q8⟩=>thnF (pt.run _ s8 σ8 H8 _ I8 q8) fun b s9 ⟨H9,I9,q9⟩=>?_
      have fin:∀ {r:Shared} {G:Hp},Inv (X.blk sc Hc scope ce fp) ([]++pinsAt fp s7.heap) σ8 G r→Nx G→∃ m,m < n∧∃ i G,Inv (X.blk sc Hc scope ce fp) [] (wipe σ (own.map (·.2))) G r∧tn i r.heap∧(∀ b ∈ fp,G b=none)∧W i m G:=fun {r G} J2 nx=>by
        obtain ⟨m',hm,w'⟩:=hNx G nx
        have pin:∀ b ∈ fp,∀ o,s7.heap.get? b=some o→r.heap.get? b=some o∧G b=none:=fun b hb o e =>
          have z:=J2.pin (b,o) (List.mem_append_right _ (List.mem_append_right _ (mem_pinsAt hb e)))
          ⟨z.1,z.2.1⟩
        refine ⟨m',hm,i + 1,G,(J2.unpinned (pins:=[])).weak (by rw [← hw8,wipe_length]) (fun j v e=>?_),T.keep _ _ _ st7 fun b hb o e=>(pin b hb o e).1,fun b hb=>?_,w'⟩
        · rw [← hw8] at e
          exact (wipe_some e).1
        · obtain ⟨o,e,_⟩:=T.obj _ _ st7 b hb
          exact (pin b hb o e).2
      cases b with
      | false =>
        simp only [Bool.false_eq_true,if_false] at q9 ⊢
        exact fin I9 q9
      | true =>
        simp only [if_true] at q9 ⊢
        refine thnF (pe.run _ s9 σ8 H9 _ I9 q9) fun z s10 ⟨yv,H10,I10,r10,c,xs,ey,hD10,room,nx⟩=>?_
        subst ey
        obtain ⟨tk,rfl⟩:=(show ∃ t,z=Value.str c t from r10)
        exact X7r (X:=X.blk sc Hc scope ce fp) I10 hD10 room fun s11 I11=>fin I11 nx
  have fini:=PpSet.codeAny_compStart_set loop (T.self X.A 0 _ _ _ std loop)
  rw [← hce] at fini
  exact fini
end
end Bv
namespace Bv
open PySem PySem.Spec L2
open PyProof.Rows hiding St
variable [HasW]
def strsD?:List D→Option (List Str)
  | []=>some []
  | .str z :: r=>(strsD? r).map (z :: ·)
  | _ :: _=>none
theorem Y6u:∀ {ds:List D} {zs:List Str},strsD? ds=some zs→ds=zs.map D.str
  | [],_,h=>by cases h; rfl
  | d :: r,zs,h=>by
    cases d with
    | str z =>
      obtain ⟨l,hl,rfl⟩:=Option.map_eq_some_iff.mp (show (strsD? r).map (z :: ·)=some zs from h)
      rw [List.map_cons,Y6u hl]
    | _=>cases h
theorem Y6v:∀ zs:List Str,strsD? (zs.map D.str)=some zs
  | []=>rfl
  | z :: r=>by
    show (strsD? (r.map D.str)).map (z :: ·)=_
    rw [Y6v r]
    rfl
def Y83 (ds:List D) (S:Sto):R X:=match strsD? ds with
  | some zs=>if decide (zs.length + 1 < scanBound) then .ok (.d (.lst ((Z6f (Z4a zs)).map .str))) S else .bad
  | none => .bad
def Y3q (t:Tg) (mi:MIt) (mt:MG Bool) (me:M) (vs:List Nat):M:=fun e S=>(mi e S).bind fun p S1=>(lcL t p.2 mt me (W6 e vs) p.1 S1).bind Y83
theorem Y9t:∀ {xs acc:List Str} {z:Str},z ∈ xs.foldl Z1q acc→z ∈ acc ∨ z ∈ xs
  | [],acc,z,h => .inl h
  | x :: r,acc,z,h=>by
    rcases Y9t (xs:=r) (acc:=Z1q acc x) h with h | h
    · unfold Z1q at h
      split at h
      · exact .inl h
      · rcases List.mem_append.mp h with h | h
        · exact .inl h
        · exact .inr (by rw [List.mem_singleton.mp h]; exact List.mem_cons_self ..)
    · exact .inr (List.mem_cons_of_mem _ h)
theorem W6b {P:Program} {w0:World} {J:It} {n:Nat} {G:Hp→Prop} {Y:Nat→Hp→V→Hp→Prop} (w:Walk J n G Y) {g:TG} {tt:TT} {te:TE} {vs:List Nat} {σ:L2.St} {H1:Hp} {D:Addr} {Qd:Hp→Prop} (Pv:Nat→Hp→Prop) (h0:Pv 0 (upd H1 D (Z5q P w0 D []))) (hG:∀ i H,i ≤ n→Pv i H→G H)
    (hs:∀ i x H H',i < n→Pv i H→Y i H x H'→g x (wipe σ vs) H' fun σ2 H2=>wipe σ2 vs=wipe σ vs∧tt σ2 H2 fun b H3 =>
      if b=true then te σ2 H3 fun y H4=>∃ (c:Str) (xs:List Str),y = .str c∧H4 D=some (Z5q P w0 D xs)∧xs.length + 1 < scanBound∧Pv (i + 1) (upd H4 D (Z5q P w0 D (Z1q xs c))) else Pv (i + 1) H3) (hd:∀ H,Pv n H→Qd H) :
    ∃ W:Nat→Nat→Hp→Prop,(∃ m,W 0 m (upd H1 D (Z5q P w0 D [])))∧∀ i m H,W i m H →
      (J.stop i H∧Qd H) ∨ (J.go i H∧∃ Nx:Hp→Prop,(∀ H',Nx H'→∃ m',m' < m∧W (i + 1) m' H')∧∀ x H',J.yld i H x H'→g x (wipe σ vs) H' fun σ2 H2=>wipe σ2 vs=wipe σ vs∧tt σ2 H2 fun b H3 =>
        if b=true then te σ2 H3 fun y H4=>∃ (c:Str) (xs:List Str),y = .str c∧H4 D=some (Z5q P w0 D xs)∧xs.length + 1 < scanBound∧Nx (upd H4 D (Z5q P w0 D (Z1q xs c))) else Nx H3):=by
  refine ⟨fun i m H=>i + m=n∧Pv i H,⟨n,Nat.zero_add n,h0⟩,fun i m H ⟨e,p⟩=>?_⟩
  have q:=hG i H (by omega) p
  cases m with
  | zero =>
    obtain rfl:i=n:=e
    exact .inl ⟨w.stops H q,hd H p⟩
  | succ m=>exact .inr ⟨w.goes i H (by omega) q,Pv (i + 1),fun H' p'=>⟨m,Nat.lt_succ_self m,by omega,p'⟩,fun x H' y=>hs i x H H' (by omega) p (w.yields i H x H' (by omega) q y)⟩
section
variable {X:Cx} {Wx:WX} {pos p:Pos} {tg iter elt c:Expr} {ifs:List Expr} {mi:MIt} {mt:MG Bool} {me:M} {t:Tg} {vs:List Nat}
theorem W3p (hs:∀ i ∈ t.slots,i ∈ vs) {σ:L2.St} {H:Hp} {Q:VK} (h:RE X.K Wx (Y3q t mi mt me vs) σ H Q):W7l X.prog X.w (RG (Srv X.K) X.K Wx mi) (TGt X.K t) (RB X.K WX0 mt) (RE X.K WX0 me) vs σ H fun v H1=>Y6a X.prog X.w [v] H1 Q:=by
  obtain ⟨Z,ρ,e,S,st,ev,p⟩:=h
  refine X5 (rel:=Srv X.K) st ev p fun ρ1 H1 J p0 S1 st1 g1 ev1 srv p1=>?_
  obtain ⟨ys,l⟩:=p0
  obtain ⟨G,Y,w,sv⟩:=srv
  intro D0 hD
  have p1:Z23 X.K Z ρ1 H1 Wx σ Q ((lcL t l mt me (W6 e vs) ys S1).bind Y83):=p1
  have sv:∀ (Z2:Wd) (ρ2:List Addr) (S2:Sto) (H2:Hp),Sta X.K Z2 ρ2 S2 H2→Mv (Wn Z ρ1) H1 (Wn Z2 ρ2) H2→ρ1 <+: ρ2→(∀ a ob u,H1 a=some (.frz ob u)→H2 a=some (.frz ob u))→l.ok S2=true→G H2 ∧
    ∀ i x H3,Y i H2 x H3→Same H2 H3∧∃ y,ys[i]?=some y∧AX X.K (Wn Z2 ρ2) ρ2 H3 y x:=sv
  have w:Walk J ys.length G Y:=w
  have evw:=ev1.wipe vs
  let Z':Wd:=fun a=>Z a ∨ a=D0
  let Pv:Nat→Hp→Prop:=fun i H=>∃ (ρ:List Addr) (S:Sto) (acc:List Str),Sta X.K Z' ρ S H∧ρ1 <+: ρ∧(∀ a o,a ∉ ρ1→H1 a=some o→a ∉ ρ∧H a=some o)∧(∀ a ob u,H1 a=some (.frz ob u)→H a=some (.frz ob u))∧H D0=some (Z5q X.prog X.w D0 (Z4a acc))∧(∀ z ∈ acc,PyData.strOk z=true) ∧
    EvOk X.K (Wn Z' ρ) ρ H (W6 e vs) (wipe σ vs)∧Z23 X.K Z ρ1 H1 Wx σ Q ((lcL t l mt me (W6 e vs) (ys.drop i) S).bind fun ds S'=>Y83 (acc.map D.str++ds) S')
  have mvOf:∀ {ρ:List Addr} {S:Sto} {H:Hp},Sta X.K Z' ρ S H→(∀ a o,a ∉ ρ1→H1 a=some o→a ∉ ρ∧H a=some o)→Mv (Wn Z ρ1) H1 (Wn Z' ρ) H:=fun {ρ S H} s k a o hn hq=>by
    have h1:a ∉ ρ1:=fun z=>hn (.inr z)
    obtain ⟨h2,h3⟩:=k a o h1 hq
    refine ⟨fun z=>?_,h3⟩
    rcases z with (z | z) | z
    · exact hn (.inl z)
    · rw [z,hD] at hq; cases hq
    · exact h2 z
  have okOf:∀ {xs:List Bv.X} {S:Sto} {acc:List Str},Z23 X.K Z ρ1 H1 Wx σ Q ((lcL t l mt me (W6 e vs) xs S).bind fun ds S'=>Y83 (acc.map D.str++ds) S')→l.ok S=true:=fun {xs S acc} q=>by
    cases z:l.ok S with
    | true=>rfl
    | false=>cases xs <;> (simp only [lcL,z] at q; exact q.elim)
  refine W6b w Pv ?_ ?_ ?_ ?_
  ·
    have k:=V9 (o:=Z5q X.prog X.w D0 []) hD
    have s0:=st1.grow k
    have hnw:¬ Wn Z ρ1 D0:=st1.fresh hD
    have m0:Mv (Wn Z ρ1) H1 (Wn Z' ρ1) (upd H1 D0 (Z5q X.prog X.w D0 [])):=fun a o hn hq=>⟨fun z=>by
      rcases z with (z | z) | z
      · exact hn (.inl z)
      · rw [z,hD] at hq; cases hq
      · exact hn (.inr z),k a o hq⟩
    refine ⟨ρ1,S1,[],⟨st1.nd,fun a z=>?_,st1.len,fun n o a e1 e2=>AO.mv m0 (List.prefix_refl _) (fun u q=>k _ _ q) (st1.ob n o a e1 e2)⟩,List.prefix_refl _,fun a o hn hq=>⟨hn,k a o hq⟩,fun a _ _ q=>k a _ q,upd_same,(fun _ h=>nomatch h),evw.mv m0 (List.prefix_refl _),?_⟩
    · rcases z with z | z
      · exact ⟨(st1.z a z).1,let ⟨o,q⟩:=(st1.z a z).2; ⟨o,k a o q⟩⟩
      · exact ⟨fun z2=>hnw (.inr (by rw [← z]; exact z2)),⟨_,by rw [z]; exact upd_same⟩⟩
    · rw [List.drop_zero]
      exact p1
  · rintro i H2 _ ⟨ρ2,S2,acc,st2,pr2,k2,f2,d2,a2,ev2,q2⟩
    exact (sv Z' ρ2 S2 H2 st2 (mvOf st2 k2) pr2 f2 (okOf q2)).1
  · rintro i x H2 H3 hi ⟨ρ2,S2,acc,st2,pr2,k2,f2,d2,a2,ev2,q2⟩ hy
    have hk:=okOf q2
    obtain ⟨k,y,e3,a⟩:=(sv Z' ρ2 S2 H2 st2 (mvOf st2 k2) pr2 f2 hk).2 i x H3 hy
    have st3:=st2.grow k
    have m23:Mv (Wn Z' ρ2) H2 (Wn Z' ρ2) H3:=Z26 k
    have ev3:=ev2.mv m23 (List.prefix_refl _)
    rw [Z5u e3] at q2
    simp only [lcL,hk,if_true] at q2
    cases q4:t.asg S2 y (W6 e vs) with
    | none=>rw [q4] at q2; exact q2.elim
    | some e4 =>
      rw [q4] at q2
      refine ⟨Z',ρ2,W6 e vs,S2,y,e4,st3,ev3,a,q4,fun σ5 ev5 w5=>⟨?_,?_⟩⟩
      · rw [w5 vs hs,Z5i]
      have q2:Z23 X.K Z ρ1 H1 Wx σ Q (((mt e4 S2).ne.bind fun b S1=>if b then (me e4 S1).ne.bind fun y S2=>(match y with
          | .d d=>(lcL t l mt me (W6 e vs) (ys.drop (i + 1)) S2).bind fun ds S3 => .ok (d :: ds) S3
          | .r _ => .bad) else lcL t l mt me (W6 e vs) (ys.drop (i + 1)) S1).bind fun ds S'=>Y83 (acc.map D.str++ds) S'):=q2
      cases q5:(mt e4 S2).ne with
      | err _ _ _=>cases q6:mt e4 S2 <;> rw [q6] at q5 <;> cases q5
      | bad=>rw [q5] at q2; exact q2.elim
      | ok b S6 =>
        rw [q5] at q2
        refine Z4l (rel:=relB) st3 ev5 q5 fun ρ6 H6 v st6 g6 ev6 r6=>?_
        cases (show b=v from r6)
        have pr6:ρ1 <+: ρ6:=pr2.trans g6.pre
        have nD:D0 ∉ ρ2:=(st2.z D0 (.inr rfl)).1
        obtain ⟨nD6,d6⟩:=g6.keep D0 _ nD (k _ _ d2)
        have k6:∀ a o,a ∉ ρ1→H1 a=some o→a ∉ ρ6∧H6 a=some o:=fun a o h1 h2=>by
          obtain ⟨h3,h4⟩:=k2 a o h1 h2
          exact g6.keep a o h3 (k _ _ h4)
        have m36:=g6.mv st3
        have ev6':EvOk X.K (Wn Z' ρ6) ρ6 H6 (W6 e vs) (wipe σ vs):=ev3.mv m36 g6.pre
        cases b with
        | false =>
          rw [if_neg Bool.false_ne_true]
          exact ⟨ρ6,S6,acc,st6,pr6,k6,fun a ob u q=>g6.fz a ob u (k _ _ (f2 a ob u q)),d6,a2,ev6',q2⟩
        | true =>
          rw [if_pos rfl]
          have q2:Z23 X.K Z ρ1 H1 Wx σ Q (((me e4 S6).ne.bind fun y S2=>(match y with
            | .d d=>(lcL t l mt me (W6 e vs) (ys.drop (i + 1)) S2).bind fun ds S3 => .ok (d :: ds) S3
            | .r _ => .bad)).bind fun ds S'=>Y83 (acc.map D.str++ds) S'):=q2
          cases q7:(me e4 S6).ne with
          | err _ _ _=>cases q6:me e4 S6 <;> rw [q6] at q7 <;> cases q7
          | bad=>rw [q7] at q2; exact q2.elim
          | ok z S7 =>
            rw [q7] at q2
            refine Z4l (rel:=AX X.K) st6 ev6 q7 fun ρ7 H7 v st7 g7 ev7 r7=>?_
            cases z with
            | r _=>exact q2.elim
            | d d =>
              have q2:Z23 X.K Z ρ1 H1 Wx σ Q (((lcL t l mt me (W6 e vs) (ys.drop (i + 1)) S7).bind fun ds S3 => .ok (d :: ds) S3).bind fun ds S'=>Y83 (acc.map D.str++ds) S'):=q2
              rw [R.bind_assoc] at q2
              have nD6':D0 ∉ ρ6:=nD6
              obtain ⟨nD7,d7⟩:=g7.keep D0 _ nD6' d6
              have m67:=g7.mv st6
              have k7:∀ a o,a ∉ ρ1→H1 a=some o→a ∉ ρ7∧H7 a=some o:=fun a o h1 h2=>by
                obtain ⟨h3,h4⟩:=k6 a o h1 h2
                exact g7.keep a o h3 h4
              cases r7 with
              | d r7 =>
                obtain ⟨c,rfl,few⟩:∃ c,d = .str c∧(Z4a acc).length + 1 < scanBound:=by
                  cases q8:lcL t l mt me (W6 e vs) (ys.drop (i + 1)) S7 with
                  | bad=>rw [q8] at q2; exact q2.elim
                  | err C fs S8=>exact absurd q8 Z83
                  | ok ds S8 =>
                    rw [q8] at q2
                    have q2:Z23 X.K Z ρ1 H1 Wx σ Q (Y83 (acc.map D.str++d :: ds) S8):=q2
                    unfold Y83 at q2
                    cases q9:strsD? (acc.map D.str++d :: ds) with
                    | none=>rw [q9] at q2; exact q2.elim
                    | some zs =>
                      rw [q9] at q2
                      have q2:Z23 X.K Z ρ1 H1 Wx σ Q (if decide (zs.length + 1 < scanBound) then .ok (.d (.lst ((Z6f (Z4a zs)).map .str))) S8 else .bad):=q2
                      by_cases hl:zs.length + 1 < scanBound
                      · have e0:=Y6u q9
                        have e1:=congrArg List.length e0
                        rw [List.length_append,List.length_map,List.length_map,List.length_cons] at e1
                        have le:=Y4d acc []
                        simp only [List.length_nil,Nat.zero_add] at le
                        have e2:=congrArg (fun l=>l[acc.length]?) e0
                        simp only [List.getElem?_map] at e2
                        rw [List.getElem?_append_right (by simp)] at e2
                        simp only [List.length_map,Nat.sub_self,List.getElem?_cons_zero] at e2
                        cases e3:zs[acc.length]? with
                        | none=>rw [e3] at e2; cases e2
                        | some c =>
                          rw [e3] at e2
                          exact ⟨c,Option.some.inj e2,by unfold Z4a; omega⟩
                      · rw [if_neg (by simpa using hl)] at q2; exact q2.elim
                have hv:v = .str c:=by cases r7; rfl
                have hz:PyData.strOk c=true:=by cases r7; assumption
                have wD:Wn Z' ρ7 D0 := .inl (.inr rfl)
                have m8:Mv (Wn Z' ρ7) H7 (Wn Z' ρ7) (upd H7 D0 (Z5q X.prog X.w D0 (Z1q (Z4a acc) c))):=fun a o hn hq=>⟨hn,by rw [upd_ne (fun z=>hn (by rw [z]; exact wD))]; exact hq⟩
                have neD:∀ b,b ∈ ρ7→b ≠ D0:=fun b hb z=>nD7 (by rw [← z]; exact hb)
                have es:Z4a (acc++[c])=Z1q (Z4a acc) c:=by unfold Z4a; rw [List.foldl_append]; rfl
                refine ⟨c,Z4a acc,hv,d7,few,ρ7,S7,acc++[c],⟨st7.nd,fun a z=>⟨(st7.z a z).1,?_⟩,st7.len,fun n o a e1 e2=>AO.mv m8 (List.prefix_refl _) (fun u q=>by rw [upd_ne (neD a (List.mem_of_getElem? e2))]; exact q) (st7.ob n o a e1 e2)⟩,pr6.trans g7.pre,fun a o h1 h2=>?_,fun a ob u q=>by rw [upd_ne (fun z=>by rw [z,hD] at q; cases q)]; exact g7.fz a ob u (g6.fz a ob u (k _ _ (f2 a ob u q))),by rw [es]; exact upd_same,fun z hm=>(List.mem_append.mp hm).elim (a2 z) fun hm=>by rw [List.mem_singleton.mp hm]; exact hz,(ev6'.mv m67 g7.pre).mv m8 (List.prefix_refl _),?_⟩
                · by_cases hz:a=D0
                  · exact ⟨_,by rw [hz]; exact upd_same⟩
                  · obtain ⟨o,q⟩:=(st7.z a z).2
                    exact ⟨o,by rw [upd_ne hz]; exact q⟩
                · obtain ⟨h3,h4⟩:=k7 a o h1 h2
                  exact ⟨h3,by rw [upd_ne (fun z=>by rw [z,hD] at h2; cases h2)]; exact h4⟩
                · have e9:(fun (ds:List D) (S':Sto)=>Y83 ((acc++[c]).map D.str++ds) S')=fun ds S'=>Y83 (acc.map D.str++(D.str c :: ds)) S':=by
                    funext ds S'
                    rw [List.map_append,List.append_assoc]; rfl
                  show Z23 X.K Z ρ1 H1 Wx σ Q ((lcL t l mt me (W6 e vs) (ys.drop (i + 1)) S7).bind fun ds S'=>Y83 ((acc++[c]).map D.str++ds) S')
                  rw [e9]
                  exact q2
  · rintro H2 ⟨ρ2,S2,acc,st2,pr2,k2,f2,d2,a2,ev2,q2⟩
    have hk:=okOf q2
    rw [List.drop_length] at q2
    simp only [lcL,hk,if_true] at q2
    have q2:Z23 X.K Z ρ1 H1 Wx σ Q (Y83 (acc.map D.str++[]) S2):=q2
    rw [List.append_nil] at q2
    unfold Y83 at q2
    rw [Y6v] at q2
    have q2:Z23 X.K Z ρ1 H1 Wx σ Q (if decide (acc.length + 1 < scanBound) then .ok (.d (.lst ((Z6f (Z4a acc)).map .str))) S2 else .bad):=q2
    by_cases hl:acc.length + 1 < scanBound
    · rw [if_pos (by simpa using hl)] at q2
      have m:Mv (Wn Z' ρ2) H2 (Wn Z ρ2) H2:=fun a o hn hq=>⟨fun z=>hn (z.elim (fun z => .inl (.inl z)) .inr),hq⟩
      have stf:Sta X.K Z ρ2 S2 H2:=⟨st2.nd,fun a z=>st2.z a (.inl z),st2.len,fun n o a e1 e2=>AO.mv m (List.prefix_refl _) (fun u q=>q) (st2.ob n o a e1 e2)⟩
      refine ⟨D0,Z4a acc,rfl,d2,fun p hp=>?_⟩
      have kp:=V9 (o:=HO.lst ((Z6f (Z4a acc)).map V.str)) hp
      exact q2 ρ2 _ (.ref p) (stf.grow kp) (Go.trans ⟨pr2,k2,f2⟩ (Go.grow kp)) (.d (Z54 (fun z hz=>stf.thereW hz) hp (Y3c fun z hz=>by
        rcases Y9t ((Z5g _).mem_iff.mp hz) with h | h
        · exact nomatch h
        · exact a2 z h)))
    · rw [if_neg (by simpa using hl)] at q2; exact q2.elim
theorem X2z {scope:Scope} {own:List (Str × Nat)} {pos2:Pos} (hc:X.calm=true) (hN:X.N.Nodup) (hgl:Gl X "sorted") (hm:X.mg "sorted" = none) (hi:MI X Wx tg iter mi) (ok:BlkOk X.N X.env.scope scope own) (hsl:∀ i ∈ t.slots,i ∈ own.map (·.2))
    (hg:∀ (s:Shared) (H:Hp) (C:Addr) (cl:List (Str × Addr)) (fp:List Addr),PG (X.blk s H scope (compEnvC scope cl C X.env) fp) tg (TGt X.K t)) (ht:∀ (s:Shared) (H:Hp) (C:Addr) (cl:List (Str × Addr)) (fp:List Addr),MTs (X.blk s H scope (compEnvC scope cl C X.env) fp) WX0 ifs mt)
    (he:∀ (s:Shared) (H:Hp) (C:Addr) (cl:List (Str × Addr)) (fp:List Addr),ME (X.blk s H scope (compEnvC scope cl C X.env) fp) WX0 elt me) (hs:∀ x,foldedSetIterable iter X.env x=pure x:=by intro _; rfl)
    (nb:starEach [.SetComp elt [⟨tg,iter,ifs,0⟩] scope pos] X.env=(false,eval (.SetComp elt [⟨tg,iter,ifs,0⟩] scope pos) X.env) :: starEach [] X.env:=by rfl) :
    ME X Wx (.Call (.Name "sorted" p) [.SetComp elt [⟨tg,iter,ifs,0⟩] scope pos] [] pos2) (Y3q t mi mt me (own.map (·.2))) :=
  PE.of (pe_callB (Y65 hc) hgl hm (by rfl) (pa_cons (W3c hc hN hi ok hg ht he hs) pa_nil nb) (by decide) (by decide) nb (by rfl)) fun _ _ _ h=>W3p hsl h
end
end Bv
namespace Bv
open PySem PySem.Spec L2
open PyProof.Rows hiding St
section
variable [HasW] {X:Cx} {Wx:WX} {k j n:Nat} {f:Addr} {dxs:List D}
theorem Here.callED {g:List Bv.X→Sto→R Bv.X} (h:Here X Wx k) (c:KeptD X.prog X.w X.K X.mg X.base j f (spE X.K (n + dxs.length) g) dxs) (hj:j ≤ k:=by decide):Y8h X Wx (.ref f) n (W1 dxs g):=by
  obtain ⟨fd,ps,dvs,ds,F,b,d⟩:=c.ex
  have e:=AVs.len_d d
  have q:=W10 h.tk h.gu F (h.room.mono hj) b d (by rw [e]; omega)
  rw [e,Nat.add_sub_cancel] at q
  exact q
end
end Bv
namespace Bv
open PySem PySem.Spec L2
open PyProof.Rows hiding St
variable [HasW]
end Bv
namespace Bv
open PySem PySem.Spec L2
open PyProof.Rows hiding St
variable [HasW]
def X7g (ts:List Tg) (ms:MG (List Bv.X)):MS:=fun e S=>(ms e S).so e fun xs S1=>if xs.length ≤ sizeLine then (match Tg.asgs S1 ts xs e with
  | some e1 => .go (.nx e1) S1
  | none => .bad) else .bad
section
variable {X:Cx} {Wx:WX} {pos pt p2:Pos} {es tgs:List Expr} {k1 k2} {ms:MG (List Bv.X)} {ts:List Tg}
theorem X9f (hc:X.calm=true) (ha:MA X Wx es ms) (hg:PGs X tgs (W1q X.K ts)) (hn:(assignEach tgs X.env).length=ts.length:=by rfl) (hst:(assignEach tgs X.env).findIdx? (·.1)=none:=by rfl)
    (hs:swapsWithSole [.Tuple tgs k1 pt] (.Tuple es k2 p2) pos.line X.env=pure false:=by rfl) (hw:swappedStores [.Tuple tgs k1 pt] (.Tuple es k2 p2) X.env=pure none:=by rfl)
    (h1:(assignEach [.Tuple tgs k1 pt] X.env).map (·.2)=[assign (.Tuple tgs k1 pt) X.env]:=by rfl) :
    MP X Wx (.Assign [.Tuple tgs k1 pt] (.Tuple es k2 p2) pos) (X7g ts ms):=PS.of (ps_asg (pe_tup ha) (pg_tup hc hg hn hst) hs hw h1) fun D σ H ⟨Z,ρ,e,S,st,ev,p⟩ =>
  Z0h (rel:=AXs X.K) st ev p fun ρ1 H1 vs xs S1 s1 g1 ev1 a1 q1=>by
    have q1:Z1n X.K Z ρ1 H1 Wx D (if xs.length ≤ sizeLine then (match Tg.asgs S1 ts xs e with
      | some e1 => .go (.nx e1) S1
      | none => .bad) else .bad):=q1
    by_cases hl:xs.length ≤ sizeLine
    · rw [if_pos hl] at q1
      cases q:Tg.asgs S1 ts xs e with
      | none=>rw [q] at q1; exact q1.elim
      | some e1 =>
        rw [q] at q1
        refine ⟨by rw [← Paired.length a1]; exact hl,fun l hp=>?_⟩
        have k:=V9 (o:=HO.tup vs) hp
        exact ⟨l,vs,rfl, .inl (.inl upd_same),by rw [← Paired.length a1]; exact Z92 q,Z,ρ1,e,S1,xs,e1,s1.grow k,ev1.mv (Z26 k) (List.prefix_refl _),AXs.mv (Z26 k) (List.prefix_refl _) a1,q,fun σ' ev' _=>q1 ρ1 _ σ' (s1.grow k) (Go.grow k) ev'⟩
    · rw [if_neg hl] at q1; exact q1.elim
end
end Bv
namespace Bv
open PySem PySem.Spec L2
open PyProof.Rows hiding St
variable [HasW]
theorem Sta.fill {K:PySem.W.Frag} {Z:Wd} {ρ ρ2:List Addr} {S S2:Sto} {H H2:Hp} {a:Addr} {u0 u:HO} {o':O} (st:Sta K Z ρ S H) (ha:H a=none) (g:Go ρ (upd H a u0) ρ2 H2) (s2:Sta K (fun c=>Z c ∨ c=a) ρ2 S2 H2)
    (new:Mv (Wn (fun c=>Z c ∨ c=a) ρ2) H2 (Wn Z (ρ2++[a])) (upd H2 a u)→AO K (Wn Z (ρ2++[a])) (ρ2++[a]) (upd H2 a u) o' a):Sta K Z (ρ2++[a]) (S2++[o']) (upd H2 a u)∧Go ρ H (ρ2++[a]) (upd H2 a u):=by
  have n2:a ∉ ρ2:=(s2.z a (.inr rfl)).1
  have k0:=V9 (o:=u0) ha
  have nZ:∀ c,Z c→c ≠ a:=fun c hc z=>by
    obtain ⟨_,o,h2⟩:=st.z c hc
    rw [z,ha] at h2; cases h2
  have m2:Mv (Wn (fun c=>Z c ∨ c=a) ρ2) H2 (Wn Z (ρ2++[a])) (upd H2 a u):=fun c o hc z=>by
    have ne:c ≠ a:=fun y=>hc (.inl (.inr y))
    refine ⟨fun y=>y.elim (fun y=>hc (.inl (.inl y))) fun y=>?_,by rw [upd_ne ne]; exact z⟩
    rcases List.mem_append.mp y with y | y
    · exact hc (.inr y)
    · exact ne (by simpa using y)
  refine ⟨⟨?_,fun c hc=>⟨fun z=>?_,?_⟩,by rw [List.length_append,List.length_append,s2.len]; rfl,fun n o c e1 e2=>?_⟩,(g.pre).trans (List.prefix_append _ _),fun c o hc z=>?_,fun c ob w z=>?_⟩
  · rw [List.nodup_append]
    exact ⟨s2.nd,by simp,fun x hx y hy z=>by
      have:y=a:=by simpa using hy
      subst this; subst z; exact n2 hx⟩
  · rcases List.mem_append.mp z with z | z
    · exact (s2.z c (.inl hc)).1 z
    · exact nZ c hc (by simpa using z)
  · obtain ⟨o,h2⟩:=(s2.z c (.inl hc)).2
    exact ⟨o,by rw [upd_ne (nZ c hc)]; exact h2⟩
  · by_cases hn:n < ρ2.length
    · rw [List.getElem?_append_left hn] at e2
      rw [List.getElem?_append_left (by rw [s2.len]; exact hn)] at e1
      have ne:c ≠ a:=fun z=>n2 (by rw [← z]; exact List.mem_of_getElem? e2)
      exact AO.mv m2 (List.prefix_append _ _) (fun u z=>by rw [upd_ne ne]; exact z) (s2.ob n o c e1 e2)
    · rw [List.getElem?_append_right (by omega)] at e2
      rw [List.getElem?_append_right (by rw [s2.len]; omega)] at e1
      have hz:n - ρ2.length=0:=by
        have:=(List.getElem?_eq_some_iff.mp e2).1
        simp at this; omega
      rw [hz] at e2
      rw [s2.len,hz] at e1
      cases e1; cases e2
      exact new m2
  · have ne:c ≠ a:=fun y=>by rw [y,ha] at z; cases z
    obtain ⟨h5,h6⟩:=g.keep c o hc (k0 c o z)
    exact ⟨fun y=>by
      rcases List.mem_append.mp y with y | y
      · exact h5 y
      · exact ne (by simpa using y),by rw [upd_ne ne]; exact h6⟩
  · have ne:c ≠ a:=fun y=>by rw [y,ha] at z; cases z
    rw [upd_ne ne]
    exact g.fz c ob w (k0 c _ z)
theorem Sta.ahead {K:PySem.W.Frag} {Z:Wd} {ρ:List Addr} {S:Sto} {H:Hp} {a:Addr} {u0:HO} (st:Sta K Z ρ S H) (ha:H a=none):Sta K (fun c=>Z c ∨ c=a) ρ S (upd H a u0)∧Mv (Wn Z ρ) H (Wn (fun c=>Z c ∨ c=a) ρ) (upd H a u0):=by
  have na:¬ Wn Z ρ a:=st.fresh ha
  have m0:Mv (Wn Z ρ) H (Wn (fun c=>Z c ∨ c=a) ρ) (upd H a u0):=fun c o hc q=>by
    have ne:c ≠ a:=fun z=>by rw [z,ha] at q; cases q
    exact ⟨fun z=>z.elim (fun z=>z.elim (fun z=>hc (.inl z)) ne) fun z=>hc (.inr z),by rw [upd_ne ne]; exact q⟩
  have k0:=V9 (o:=u0) ha
  exact ⟨⟨st.nd,fun c hc=>by
    rcases hc with hc | rfl
    · obtain ⟨h1,o,h2⟩:=st.z c hc
      exact ⟨h1,o,k0 c o h2⟩
    · exact ⟨fun z=>na (.inr z),_,upd_same⟩,st.len,fun n o c e1 e2=>AO.mv m0 (List.prefix_refl _) (k0 c) (st.ob n o c e1 e2)⟩,m0⟩
section
variable {X:Cx} {Wx:WX} {pos p1 p2:Pos} {n1 n2:Nat} {k1 k2:Str} {v1 v2:Expr} {m1 m2:M}
end
end Bv
namespace Bv
open PySem PySem.Spec L2
open PyProof.Rows hiding St
section
open Builtin Builtin.Int
end
section
variable {prog:Program} {w:World} {A:Around} {E:Value→Shared→Prop} {s:Shared} {t:Tok}
end
variable [HasW]
section
variable {X:Cx} {Wx:WX} {e:Expr} {te:TE} {pos p1 p2:Pos} {n:Nat} {m:M}
inductive MJ (X:Cx) (Wx:WX):List Expr→List M→Prop where
  | nil:MJ X Wx [] []
  | cons {e:Expr} {m:M} {es:List Expr} {ms:List M} (h:ME X Wx e m) (r:MJ X Wx es ms):MJ X Wx (e :: es) (m :: ms)
end
end Bv
namespace Bv
open PySem PySem.Spec L2
open PyProof.Rows hiding St
variable [HasW]
section
variable {K:PySem.W.Frag}
end
section
variable {K:PySem.W.Frag}
end
section
variable {X:Cx} {Wx:WX} {apos cpos tpos pos p1 p2 p3 p:Pos} {e tg:Expr} {m:M} {n:Nat}
end
end Bv
namespace Bv
open PySem PySem.Spec L2
open PyProof.Rows hiding St
variable [HasW]
section
variable {X:Cx} {Wx:WX} {tg a b c:Expr} {p pos:Pos} {ms:MG (List Bv.X)}
end
end Bv
namespace Bv
open PySem PySem.Spec L2
open PyProof.Rows hiding St
variable [HasW]
end Bv
namespace Bv
open PySem PySem.Spec L2
open PyProof.Rows hiding St
variable [HasW]
section
variable {X:Cx} {Wx:WX} {pos pt:Pos} {k1:Nat} {a:Expr} {tgs:List Expr} {ts:List Tg} {ma:M}
end
end Bv
namespace Bv
open PySem PySem.Spec L2
open PyProof.Rows hiding St
variable [HasW]
end Bv
namespace Bv
open PySem PySem.Spec L2
open PyProof.Rows hiding St
variable [HasW]
section
variable {X:Cx} {Wx:WX} {pos p1 p2 p3 p4:Pos} {e:Expr} {m:M} {n n2:Nat}
end
end Bv
namespace L2
open PySem PySem.Spec PyProof.Rows
theorem thnT {α:Type} {t:Sem α} {Q Q':α→Shared→Prop} {M:Model} {A:Around} {E:Value→Shared→Prop} {s:Shared} {n:Nat} (hn:n ≤ s.toks) (h:wpAny M A t Q E s) (hQ:∀ a s',n ≤ s'.toks→Q a s'→Q' a s'):wpAny M A t Q' E s:=wpAny_mono (PySem.wpAny_toks_of hn h) (fun a s' x=>hQ a s' x.1 x.2) fun _ _ z=>z.2
theorem thnFT {α:Type} {t:Sem α} {Q Q':α→Shared→Prop} {M:Model} {A:Around} {E:Value→Shared→Prop} {s:Shared} {n:Nat} (hn:n ≤ s.toks) (h:wpAny M A t Q (fun _ _=>False) s) (hQ:∀ a s',n ≤ s'.toks→Q a s'→Q' a s'):wpAny M A t Q' E s:=wpAny_mono (PySem.wpAny_toks_of hn h) (fun a s' x=>hQ a s' x.1 x.2) fun _ _ z=>z.2.elim
section
variable {X:Cx}
theorem lc_coreT {pins:List (Addr × Obj)} {s:Shared} {σ:St} {H:Hp} {Q:VK} {elt tg iter:Expr} {ifs:List Expr} {scope:Scope} {own:List (Str × Nat)} {pos pos':Pos} {wi:TI} {g:TG} {tt:TT} {te:TE} {use:Option (Value→Sem Unit)} {Qf:Value→Shared→Prop}
    (hc:X.calm=true) (hN:X.N.Nodup) (h0:1 ≤ s.toks) (I:Inv X pins σ H s) (hi:PI X tg iter wi) (ok:BlkOk X.N X.env.scope scope own)
    (hg:∀ (s:Shared) (H:Hp) (C:Addr) (cl:List (Str × Addr)) (fp:List Addr),PG (X.blk s H scope (compEnvC scope cl C X.env) fp) tg g) (ht:∀ (s:Shared) (H:Hp) (C:Addr) (cl:List (Str × Addr)) (fp:List Addr),PTs (X.blk s H scope (compEnvC scope cl C X.env) fp) ifs tt)
    (he:∀ (s:Shared) (H:Hp) (C:Addr) (cl:List (Str × Addr)) (fp:List Addr),PET (X.blk s H scope (compEnvC scope cl C X.env) fp) elt te) (hs:∀ x,foldedSetIterable iter X.env x=pure x)
    (h:tLc wi g tt te (own.map (·.2)) σ H Q)
    (hRR:∀ D C s' m H',Inv X pins σ H' s'→Q (.ref D) H'→s'.heap.Ns C m→FpOk X pins H' C→compPost (model X.prog X.w) X.A X.xe use Qf (.ref D) C (.ok .next) s') :
    wpAny (model X.prog X.w) X.A (comprehension (.ListComp elt [⟨tg,iter,ifs,0⟩] scope pos) scope X.env pos' (newList []) false (eval iter X.env) use) Qf X.xe s:=by
  have hfree:∀ y ∈ scope.names,y.2 = .free→∃ c,X.env.cells.lookup y.1=some c:=fun y hy e=>by
    rcases ok.free y hy e with k | k
    · exact I.ok.has _ (.inl k)
    · exact I.ok.has _ (.inr k)
  refine wpAny_comprehension_free (use:=use) rfl hs (closure_ok hfree) ok.kind (fun y hy e=>by rw [ok.uniq y hy,e])
    (thnT h0 (hi.run pins s σ H _ I h) fun xv s1 h01 hx=>thnT h01 hx fun itv s2 h02 h2=>?_)
  obtain ⟨it,fp,tn,J,H2,e,I2,T,st2,f2,q⟩:=h2
  subst e
  refine wpAny_newObj_type (newEnv_comp ?_) (by show 0 ≤ sizeLine; decide)
  generalize hD:s2.heap.objs.size=D
  have hDn:H2 D=none:=I2.hok.fresh (Nat.le_of_eq hD)
  obtain ⟨W,⟨m0,w0⟩,turn⟩:=q D hDn
  generalize hs3:({ s2 with heap:=s2.heap.push { cls := .type "list",data := .seq ([]:List Value).toArray } }:Shared)=s3
  have I3:Inv X pins σ (upd H2 D (.lst [])) s3:=by
    rw [← hs3]
    refine I2.laid (t':=s2.toks) (fun b o e=>Heap.get?_push_of_some _ e) (Nat.le_of_eq hD) ⟨Nat.zero_le _,[],0, .nil,?_⟩
    rw [← hD]
    exact Heap.get?_push_size _ rfl
  have k3:1 ≤ s3.toks:=by rw [← hs3]; exact h02
  have h3:s3.heap=s2.heap.push { cls := .type "list",data := .seq ([]:List Value).toArray }:=by rw [← hs3]
  have sz:∀ b ∈ fp,b < s2.heap.objs.size:=fun b hb=>by
    obtain ⟨o,e,_⟩:=T.obj _ _ st2 b hb
    exact Heap.lt_size e
  have f3:∀ b ∈ fp,FpOk X pins (upd H2 D (.lst [])) b∧b < s3.heap.objs.size:=fun b hb=>by
    have hlt:=sz b hb
    refine ⟨⟨?_,(f2 b hb).2⟩,by rw [h3,Heap.size_push]; exact Nat.lt_succ_of_lt hlt⟩
    rw [upd_ne (by rw [← hD]; exact Nat.ne_of_lt hlt)]
    exact (f2 b hb).1
  have st3:tn 0 s3.heap:=T.keep _ _ _ st2 fun b _ o e=>by rw [h3]; exact Heap.get?_push_of_some _ e
  have I4:=block_start I3 ok hN f3
  have pg:=hg s3 (upd H2 D (.lst [])) s3.heap.objs.size (cellsFrom (s3.heap.objs.size + 1) scope.names (cloFrom X.env.cells scope.names [])) fp
  have pt:=ht s3 (upd H2 D (.lst [])) s3.heap.objs.size (cellsFrom (s3.heap.objs.size + 1) scope.names (cloFrom X.env.cells scope.names [])) fp
  have pe:=he s3 (upd H2 D (.lst [])) s3.heap.objs.size (cellsFrom (s3.heap.objs.size + 1) scope.names (cloFrom X.env.cells scope.names [])) fp
  show codeAny _ _ (.compStart (.ListComp elt [⟨tg,iter,ifs,0⟩] scope pos) 0 (.ref it) (.ref D) (compEnvC scope (cellsFrom (s3.heap.objs.size + 1) scope.names (cloFrom X.env.cells scope.names [])) s3.heap.objs.size X.env)) (compPost (model X.prog X.w) X.A X.xe use Qf (.ref D) s3.heap.objs.size) { s3 with heap:=pushCells (s3.heap.push { cls := .type "dict",data := .dict #[] }) scope.names }
  have nfp:∀ b ∈ fp,(upd H2 D (.lst [])) b=none:=fun b hb=>(f3 b hb).1.1
  generalize hce:compEnvC scope (cellsFrom (s3.heap.objs.size + 1) scope.names (cloFrom X.env.cells scope.names [])) s3.heap.objs.size X.env=ce at I4 pg pt pe ⊢
  have cL:ce.locals=s3.heap.objs.size:=by subst hce; rfl
  generalize hH3:upd H2 D (.lst [])=H3 at I3 I4 pg pt pe w0 nfp f3
  generalize hs4:({ s3 with heap:=pushCells (s3.heap.push { cls := .type "dict",data := .dict #[] }) scope.names }:Shared)=s4 at I4 ⊢
  have k4:1 ≤ s4.toks:=by rw [← hs4]; exact k3
  have st4:tn 0 s4.heap:=T.keep _ _ _ st3 fun b _ o e=>by rw [← hs4]; exact pushCells_keeps _ _ _ _ (Heap.get?_push_of_some _ e)
  have stat:∀ {σ':St} {H':Hp} {s':Shared},Inv (X.blk s3 H3 scope ce fp) [] σ' H' s'→(∀ b ∈ fp,H' b=none)→∀ b ∈ fp,FpOk (X.blk s3 H3 scope ce fp) [] H' b:=fun {σ' H' s'} I' hn b hb =>
    ⟨hn b hb,(I'.ok.exf b hb).1,I'.ok.exfs b hb, .inl hb,fun x c e=>(I'.ok.exf b hb).2 x c e,fun p hp=>absurd (show p ∈ ([]:List (Addr × Obj))++[] from hp) (by simp)⟩
  have loop:codeAny (model X.prog X.w) X.A (.compLoop (.ListComp elt [⟨tg,iter,ifs,0⟩] scope pos) 0 (.ref it) (.ref D) ce) (compPost (model X.prog X.w) X.A X.xe use Qf (.ref D) s3.heap.objs.size) s4:=by
    refine compLoop_any (fun n s'=>∃ i H',1 ≤ s'.toks∧Inv (X.blk s3 H3 scope ce fp) [] (wipe σ (own.map (·.2))) H' s'∧tn i s'.heap∧(∀ b ∈ fp,H' b=none)∧W i n H') ?_ m0 ⟨0,H3,k4,I4,st4,nfp,w0⟩
    rintro n s5 ⟨i,H5,k5,I5,st5,n5,w5⟩
    rcases turn i n H5 w5 with ⟨stop,qq⟩ | ⟨go,Nx,hNx,step⟩
    · have td:=T.done (X.blk s3 H3 scope ce fp) rfl rfl rfl hc i [] s5 _ H5 (fun _ _=>False) I5 (stat I5 n5) st5 stop
      refine thnF td fun r s6 ⟨hr,I6⟩=>?_
      subst hr
      have I7:Inv X pins σ H5 s6:=I3.call' (ch:=fp) I6.os I6.base I6.hok I6.bare fun b hb=>⟨(f3 b hb).1.2.2.2.1,(f3 b hb).1.2.1,(f3 b hb).1.2.2.2.2.1,(f3 b hb).1.2.2.2.2.2⟩
      have nC:H5 s3.heap.objs.size=none:=by
        have z:H5 ce.locals=none:=I6.free
        rw [cL] at z
        exact z
      obtain ⟨m,hn,_⟩:=I6.loc
      have hn:s6.heap.Ns ce.locals m:=hn
      rw [cL] at hn
      exact hRR D s3.heap.objs.size s6 m H5 I7 qq hn (I3.fpOk (Nat.le_refl _) nC)
    · have ti:=T.item (X.blk s3 H3 scope ce fp) rfl rfl rfl hc i [] s5 _ H5 (fun _ _=>False) I5 (stat I5 n5) st5 go
      refine thnFT k5 ti fun r s6 k6 ⟨u,hr,h6⟩=>?_
      subst hr
      refine thnFT k6 h6 fun _ s7 k7 ⟨x,H7,I7,r7,y7,st7,n7⟩=>?_
      have I7':=I7.pinned (stat I7 n7) (T.obj _ _ st7)
      refine thnFT k7 (pg.run _ s7 _ H7 x u _ I7' r7 (step x H7 y7)) fun _ s8 k8 ⟨σ8,H8,I8,hw8,q8⟩=>?_
      refine thnFT k8 (pt.run _ s8 σ8 H8 _ I8 q8) fun b s9 k9 ⟨H9,I9,q9⟩=>?_
      have fin:∀ {s':Shared} {H':Hp},1 ≤ s'.toks→Inv (X.blk s3 H3 scope ce fp) ([]++pinsAt fp s7.heap) σ8 H' s'→Nx H'→∃ m,m < n∧∃ i H',1 ≤ s'.toks∧Inv (X.blk s3 H3 scope ce fp) [] (wipe σ (own.map (·.2))) H' s'∧tn i s'.heap∧(∀ b ∈ fp,H' b=none)∧W i m H':=fun {s' H'} kk I' nx=>by
        obtain ⟨m',hm,w'⟩:=hNx H' nx
        have pin':∀ b ∈ fp,∀ o,s7.heap.get? b=some o→s'.heap.get? b=some o∧H' b=none:=fun b hb o e =>
          let z:=I'.pin (b,o) (List.mem_append_right _ (List.mem_append_right _ (mem_pinsAt hb e)))
          ⟨z.1,z.2.1⟩
        have hl:(wipe σ (own.map (·.2))).length=σ8.length:=by rw [← hw8,wipe_length]
        refine ⟨m',hm,i + 1,H',kk,(I'.unpinned (pins:=[])).weak hl (fun j v e=>?_),T.keep _ _ _ st7 fun b hb o e=>(pin' b hb o e).1,fun b hb=>?_,w'⟩
        · rw [← hw8] at e
          exact (wipe_some e).1
        · obtain ⟨o,e,_⟩:=T.obj _ _ st7 b hb
          exact (pin' b hb o e).2
      cases b with
      | false =>
        simp only [Bool.false_eq_true,if_false] at q9 ⊢
        exact fin k9 I9 q9
      | true =>
        simp only [if_true] at q9 ⊢
        refine thnFT k9 (pe _ s9 σ8 H9 _ k9 I9 q9) fun z s10 k10 ⟨yv,H10,I10,r10,acc,hD10,hz10,nx⟩=>?_
        exact thnT k10 (app_ok (X:=X.blk s3 H3 scope ce fp) (Q:=fun _ s11=>Inv (X.blk s3 H3 scope ce fp) ([]++pinsAt fp s7.heap) σ8 (upd H10 D (.lst (acc++[yv]))) s11) I10 hD10 hz10 r10 fun s11 I11=>I11) fun _ s11 k11 I11=>fin k11 I11 nx
  exact codeAny_compStart_list loop (T.self X.A 0 _ _ _ st4 loop)
theorem pss_lstT {i j:Nat} {x c:Str} {es:List Expr} {rest:List Stmt} {ta:TA} {u:TS} {cpos lpos pos' pos:Pos} (hN:X.N.Nodup) (hi:X.N[i]?=some x) (hx:Loc X.env.scope x) (h1:PA X es ta) (h2:PSsT X rest u)
    (hst:starEach (.Constant (.str c) j cpos :: es) X.env=(false,eval (.Constant (.str c) j cpos) X.env) :: starEach es X.env:=by rfl)
    (hs:swapsWith (.List (.Constant (.str c) j cpos :: es) lpos) (some (.Name x pos')) pos.line X.env=pure false:=by rfl) (hf:X.fn x=true ∨ X.env.scope.names.lookup x=some .local:=by first | exact .inl rfl | exact .inr rfl | assumption) :
    PSs X (.Assign [.Name x pos'] (.List (.Constant (.str c) j cpos :: es) lpos) pos :: rest) (tSeq (tAsg (tLst (tCons (tC (.str c)) ta)) (gName i)) u):=by
  refine ⟨fun pins s σ H D I hq=>?_⟩
  refine wpAny_execs_cons (wpAny_Assign_Name (wpAny_List_spliced ?_) hs)
  rw [hst]
  show wpAny _ _ (spliced ((false,eval (.Constant (.str c) j cpos) X.env) :: backTo lpos (starEach es X.env))) _ _ s
  refine Calls.spliced_cons (Calls.Constant_str ?_)
  have k1:1 ≤ ({ s with toks:=s.toks + 1 }:Shared).toks:=by show 1 ≤ s.toks + 1; omega
  refine thnT k1 (h1.run lpos pins _ σ H _ (I.tok (s.toks + 1)) hq) fun us s1 k2 ⟨xs,H1,I1,r,z,q⟩=>⟨?_,?_⟩
  · show (us.length + 1) ≤ _
    rw [← r.length]; exact z
  have hf1:H1 s1.heap.objs.size=none:=I1.hok.fresh (Nat.le_refl _)
  have I2:=I1.laid (t':=s1.toks) (s:=s1) (a:=s1.heap.objs.size) (h':=s1.heap.push { cls := .type "list",data := .seq (Value.str c s.toks :: us).toArray }) (o := .lst (V.str c :: xs)) (fun b u e=>Heap.get?_push_of_some _ e) (Nat.le_refl _) ⟨z,_,0, .cons ⟨s.toks,rfl⟩ r,Heap.get?_push_size _ rfl⟩
  refine thnT (n:=1) (by exact k2) (store_ok (v:=V.ref s1.heap.objs.size) (Q:=fun _ s2=>∃ H2,Inv X pins (σ.set i (some (V.ref s1.heap.objs.size))) H2 s2∧u D (σ.set i (some (V.ref s1.heap.objs.size))) H2) I2 hN hi hx rfl (fun s2 I3=>⟨_,I3,q _ hf1⟩) hf) fun _ s2 k3 ⟨H2,I3,q3⟩=>?_
  exact h2 pins s2 _ H2 D k3 I3 q3
end
end L2
namespace Bv
open PySem PySem.Spec L2
open PyProof.Rows hiding St
variable [HasW]
abbrev MET (X:Cx) (Wx:WX) (e:Expr) (m:M):Prop:=PET X e (RE X.K Wx m)
abbrev MPT (X:Cx) (Wx:WX) (st:Stmt) (m:MS):Prop:=PST X st (RS X.K Wx m)
abbrev W1n (X:Cx) (Wx:WX) (sts:List Stmt) (m:MS):Prop:=PSsT X sts (RS X.K Wx m)
section
variable {X:Cx} {Wx:WX} {o e elt tg iter a:Expr} {ifs:List Expr} {st:Stmt} {rest:List Stmt} {mo m me:M} {mi:MIt} {mt:MG Bool} {t:Tg} {m1 m2:MS} {pos apos c0 c1:Pos} {y z:Str} {j k:Nat}
theorem X62 (h:ME X Wx e m):MET X Wx e m:=CwR.PET.of h
theorem Y9i (h:MP X Wx st m1):MPT X Wx st m1:=PST.of h
theorem Y7n (h:MPs X Wx rest m1):W1n X Wx rest m1:=PSsT.of h
theorem X3t {σ:L2.St} {H:Hp} {D:Ends} (h:RS X.K Wx (Z9 m1 m2) D σ H):tSeq (RS X.K Wx m1) (RS X.K Wx m2) D σ H:=by
  obtain ⟨Z,ρ,e,S,st,ev,p⟩:=h
  refine ⟨Z,ρ,e,S,st,ev,?_⟩
  have p:Z1n X.K Z ρ H Wx D ((m1 e S).then m2):=p
  cases q:m1 e S with
  | go o S1 =>
    rw [q] at p
    cases o with
    | nx e1=>exact fun ρ' H' σ' st' go ev'=>⟨Z,ρ',e1,S1,st',ev',Z1n.shift go st' p⟩
    | _=>exact p
  | err C fs e1 S1=>rw [q] at p; exact p
  | bad=>rw [q] at p; exact p
theorem Z4i (h1:MPT X Wx st m1) (h2:W1n X Wx rest m2):W1n X Wx (st :: rest) (Z9 m1 m2):=fun pins s σ H D h0 I h=>psst_cons h1 h2 pins s σ H D h0 I (X3t h)
theorem X87 {ms:MG (List Bv.X)} {σ:L2.St} {H:Hp} {Q:VK} (h:RE X.K Wx (Z2h ms) σ H Q):tLst (RA X.K Wx ms) σ H Q:=by
  obtain ⟨Z,ρ,e,S,st,ev,p⟩:=h
  refine X5 st ev p fun ρ1 H1 vs xs S1 st1 g1 ev1 a1 p1=>?_
  unfold Y02 at p1
  cases q:ds? xs with
  | none=>rw [q] at p1; exact p1.elim
  | some ds =>
    rw [q] at p1
    have p1:Z23 X.K Z ρ1 H1 Wx σ Q (if ds.length ≤ sizeLine then .ok (.d (.lst ds)) S1 else .bad):=p1
    by_cases hl:ds.length ≤ sizeLine
    · rw [if_pos hl] at p1
      have av:=AXs.ds a1 q
      exact ⟨by rw [← av.length]; exact hl,fun p hp=>X6.ret p1 st1 (V9 hp) (.d (Z54 (fun _ h=>st1.thereW h) hp av))⟩
    · rw [if_neg hl] at p1; exact p1.elim
theorem X4z {c:Str} (hc:PyData.strOk c=true) {ms:MG (List Bv.X)} {σ:L2.St} {H:Hp} {Q:List V→Hp→Prop} (h:RA X.K Wx (Z3 (m_c (.str c)) ms) σ H Q):tCons (tC (.str c)) (RA X.K Wx ms) σ H Q:=by
  obtain ⟨Z,ρ,e,S,st,ev,p⟩:=h
  have p:X6 (AXs X.K) X.K Z ρ H Wx σ Q ((ms e S).bind fun xs S2 => .ok (.d (.str c) :: xs) S2):=p
  refine X5 st ev p fun ρ2 H2 vs xs S2 st2 g2 ev2 a2 p2=>?_
  exact X6.ret0 p2 st2 (.cons (.d (.str hc)) a2)
theorem X5g {ms:MG (List Bv.X)} {es:List Expr} {i:Nat} {x c:Str} {lpos pos':Pos} (hN:X.N.Nodup) (hi:X.N[i]?=some x) (hx:Loc X.env.scope x) (h1:MA X Wx es ms) (h2:W1n X Wx rest m2) (hc:PyData.strOk c=true:=by decide +kernel)
    (hst:starEach (.Constant (.str c) j c0 :: es) X.env=(false,eval (.Constant (.str c) j c0) X.env) :: starEach es X.env:=by rfl)
    (hs:swapsWith (.List (.Constant (.str c) j c0 :: es) lpos) (some (.Name x pos')) pos.line X.env=pure false:=by rfl) (hf:X.fn x=true ∨ X.env.scope.names.lookup x=some .local:=by first | exact .inl rfl | exact .inr rfl | assumption) :
    MPs X Wx (.Assign [.Name x pos'] (.List (.Constant (.str c) j c0 :: es) lpos) pos :: rest) (Z9 (W3 i (Z2h (Z3 (m_c (.str c)) ms))) m2):=PSs.of (pss_lstT hN hi hx h1 h2 hst hs hf) fun D σ H h=>by
  obtain ⟨Z,ρ,e,S,st,ev,p⟩:=X3t h
  have hR:RE X.K Wx (Z2h (Z3 (m_c (.str c)) ms)) σ H (fun x H1=>RS X.K Wx m2 D (σ.set i (some x)) H1) :=
    Z0h st ev p fun ρ1 H1 v x S1 st1 g1 ev1 a1 p1=>p1.next st1 (ev1.set a1)
  exact X4z hc (X87 hR)
end
end Bv
namespace ZlL
open PySem PySem.Calls PySem.Spec PyProof.Rows PySem.W
section
variable {prog:Program} {w:World} {A:Around} {E:Value→Shared→Prop} {s:Shared} {z TI TO i1 i2 l1 l2 S:Addr} {xs ys:Array Value} {i:Nat}
end
structure ZG (xs ys:Array Value) (lo:Addr) (h:Heap) (as:List Addr):Prop where
  rise:as.Pairwise (· < ·)
  above:∀ a ∈ as,lo < a
  pairs:∀ (j:Nat) (a:Addr),as[j]?=some a→∃ x y,xs[j]?=some x∧ys[j]?=some y∧IsPair h a x y
section
variable {prog:Program} {w:World} {A:Around} {s:Shared} {R:Result→Shared→Prop} {z TI TO i1 i2 l1 l2 S:Addr} {xs ys:Array Value}
end
section
variable {prog:Program} {w:World} {A:Around} {E:Value→Shared→Prop} {s:Shared} {z TI TO i1 i2 l1 l2 S:Addr} {xs ys:Array Value}
end
end ZlL
namespace ZlL
open PySem PySem.Spec PyProof.Rows L2 LiI
section
variable {X:Cx} {e e2:Expr} {ta:TA} {p p2 pz pos:Pos}
end
end ZlL
namespace Bv
open PySem PySem.Spec L2
open PyProof.Rows hiding St
variable [HasW]
end Bv
namespace Bv
open PySem PySem.Spec L2
open PyProof.Rows hiding St
variable [HasW]
section
variable {X:Cx} {Wx:WX} {pos:Pos} {tg iter elt c:Expr} {ifs:List Expr} {mi:MIt} {mt:MG Bool} {me:M} {t:Tg} {vs:List Nat}
end
end Bv
namespace Bv
open PySem PySem.Spec L2
open PyProof.Rows hiding St
variable [HasW]
end Bv
namespace Bv
open PySem PySem.Spec L2
open PyProof.Rows hiding St
variable [HasW]
section
variable {X:Cx} {Wx:WX} {o i a b:Expr} {mo mi:M} {ms:MG (List Bv.X)} {pos p1 p2 pt pt2:Pos} {kt k2:Nat} {j:Nat} {y:Str}
end
end Bv
namespace Bv
open PySem PySem.Spec L2
open PyProof.Rows hiding St
variable [HasW]
end Bv
namespace Bv
open PySem PySem.Spec L2
open PyProof.Rows hiding St
variable [HasW]
section
variable {K:PySem.W.Frag} {W:Wd} {H:Hp}
end
end Bv
namespace Bv
open PySem PySem.Spec L2
open PyProof.Rows hiding St
variable [HasW]
section
variable {X:Cx} {pins:List (Addr × Obj)} {σ:L2.St} {H:Hp} {s:Shared} {d:Addr} {o:Obj}
end
end Bv
namespace Bv
open PySem PySem.Spec L2
open PyProof.Rows hiding St
variable [HasW]
end Bv
namespace Bv
open PySem PySem.Spec L2
open PyProof.Rows hiding St
variable [HasW]
section
variable {prog:Program} {w:World} {A:Around} {R:Result→Shared→Prop} {it:Addr} {fp wr:List Addr} {G:Array GenState→Array GenState→Prop} {n:Nat} {P:Nat→Value→Prop} {St:Nat→Shared→Prop}
end
section
variable {prog:Program} {w:World} {A:Around} {E:Value→Shared→Prop} {s:Shared}
end
section
variable {prog:Program} {w:World} {A:Around} {E:Value→Shared→Prop} {s:Shared}
end
section
variable {X:Cx}
end
section
variable {X:Cx} {Wx:WX} {p p2 q pos:Pos} {a:Expr} {m:M}
end
end Bv
namespace Bv
open PySem PySem.Spec L2
open PyProof.Rows hiding St
variable [HasW]
section
variable {X:Cx} {Wx:WX} {pos:Pos} {a b:Expr} {ma mb:M}
end
end Bv
namespace Bv
open PySem PySem.Spec L2
open PyProof.Rows hiding St
variable [HasW]
section
variable {X:Cx} {Wx:WX} {st1 st2:Stmt} {rest:List Stmt} {m1 m2 m3:MS}
end
end Bv
namespace Bv
open PySem PySem.Spec L2
open PyProof.Rows hiding St
variable [HasW]
section
variable {X:Cx} {Wx:WX} {pos p1 p2 p3 p4:Pos} {n1 n2 n3 n4:Nat} {k1 k2 k3 k4:Str} {v1 v2 v3 v4:Expr} {m1 m2 m3 m4:M}
end
end Bv
namespace Bv
open PySem PySem.Spec L2
open PyProof.Rows hiding St
variable [HasW]
section
variable {X:Cx} {Wx:WX} {pos pt p2 q1 q2:Pos} {es:List Expr} {o1 i1 o2 i2:Expr} {k1 k2} {ms:MG (List Bv.X)} {mo1 mi1 mo2 mi2:M}
end
end Bv
namespace Bv
open PySem PySem.Spec L2
open PyProof.Rows hiding St
variable [HasW]
section
variable {X:Cx} {Wx:WX} {pos p apos cpos:Pos} {a o e:Expr} {m mo mi:M}
end
section
variable {K:PySem.W.Frag}
end
end Bv
namespace L2
open PySem PySem.Spec PyProof.Rows
section
variable {X:Cx} {e:Expr} {td:TE} {p apos cpos pos:Pos}
end
end L2
namespace Bv
open PySem PySem.Spec L2
open PyProof.Rows hiding St
variable [HasW]
section
variable {X:Cx} {Wx:WX} {p apos cpos pos:Pos} {e o:Expr} {es:List Expr} {m mo:M} {ms:MG (List Bv.X)}
variable {id:String} {name:Str} {r:V→List V→Hp→VK→Prop} {g:Bv.X→List Bv.X→Sto→R Bv.X}
end
section
variable {K:PySem.W.Frag}
end
end Bv
namespace Bv
open PySem PySem.Spec L2
open PyProof.Rows hiding St
variable [HasW]
section
variable {X:Cx} {Wx:WX} {pos pt:Pos} {k1:Nat} {a:Expr} {tgs:List Expr} {ts:List Tg} {ma:M}
end
section
variable {X:Cx} {Wx:WX} {pos pt p2 q1 q2:Pos} {es:List Expr} {o1 i1 o2 i2:Expr} {k1 k2} {ms:MG (List Bv.X)} {mo1 mi1 mo2 mi2:M}
end
end Bv
namespace Bv
open PySem PySem.Spec L2
open PyProof.Rows hiding St
variable [HasW]
section
variable {X:Cx} {Wx:WX} {st1:Stmt} {m1:MS}
end
section
variable {P:Program} {w:World} {K:PySem.W.Frag} {mg:Str→Option Value} {base:Heap} {x qual:Str} {pa:Arguments} {bd:List Stmt} {sc:Scope} {dl:List V} {kw:List (Str × V)} {f:Addr} {fd:FuncData} {N ps:List Str} {k:Nat} {mb:MS}
end
end Bv
namespace L2
open PySem PySem.Spec PyProof.Rows
section
variable {X:Cx}
theorem pst_forT {tg iter:Expr} {body:List Stmt} {wi:TI} {g:TG} {tb:TS} {pos:Pos} (hp:PassesOwn (model X.prog X.w) X.A X.env X.xe) (hc:X.calm=true) (hi:PI X tg iter wi) (hg:PG X tg g) (hb:PSsT X body tb)
    (hs:∀ x,foldedSetIterable iter X.env x=pure x:=by intro _; rfl):PST X (.For tg iter body [] pos) (tFor wi g tb):=by
  intro pins s σ H D h0 I h
  refine wpAny_For (thnT h0 (hi.run pins s σ H _ I h) fun v s1 k1 h1=>thnT k1 h1 fun itv s2 k2 h2=>?_) hs
  obtain ⟨it,fp,tn,J,H2,e,I2,T,st2,f2,W,⟨m0,w0⟩,turn⟩:=h2
  subst e
  have stat:∀ {H':Hp},(∀ b ∈ fp,H' b=none)→∀ b ∈ fp,FpOk X pins H' b:=fun hn b hb=>⟨hn b hb,(f2 b hb).2⟩
  refine codeAny_forLoop_any (fun n s'=>∃ i σ' H',1 ≤ s'.toks∧Inv X pins σ' H' s'∧tn i s'.heap∧(∀ b ∈ fp,H' b=none)∧W i n σ' H') ?_ m0 ⟨0,σ,H2,k2,I2,st2,fun b hb=>(f2 b hb).1,w0⟩
  rintro n s3 ⟨i,σ3,H3,k3,I3,st3,fr3,w3⟩
  rcases turn i n σ3 H3 w3 with ⟨stop,qn⟩ | ⟨go,N,hN,step⟩
  · refine wpAny_passesOwn hp (thn (T.done X rfl rfl rfl hc i pins s3 σ3 H3 X.xe I3 (stat fr3) st3 stop) fun r s4 ⟨hr,I4⟩=>?_)
    subst hr
    exact wpAny_execs_nil ⟨σ3,H3,I4,qn⟩
  · refine wpAny_passesOwn hp (thnT k3 (T.item X rfl rfl rfl hc i pins s3 σ3 H3 X.xe I3 (stat fr3) st3 go) fun r s4 k4 ⟨u,hr,h4⟩=>?_)
    subst hr
    refine wpAny_passesOwn hp (thnT k4 h4 fun _ s5 k5 ⟨x,H5,I5,r5,y5,st5,fr5⟩=>?_)
    have I5':=I5.pinned (stat fr5) (T.obj _ _ st5)
    refine wpAny_passesOwn hp (thnT k5 (hg.run _ s5 σ3 H5 x u _ I5' r5 (step x H5 y5)) fun _ s6 k6 ⟨σ6,H6,I6,q6⟩=>?_)
    refine wpAny_passesOwn hp (thnT k6 (hb _ s6 σ6 H6 _ k6 I6 q6) fun f s7 k7 q7=>?_)
    have again:∀ {σ7:St} {H7:Hp},Inv X (pins++pinsAt fp s5.heap) σ7 H7 s7→N σ7 H7→∃ m,m < n∧∃ i σ' H',1 ≤ s7.toks∧Inv X pins σ' H' s7∧tn i s7.heap∧(∀ b ∈ fp,H' b=none)∧W i m σ' H':=fun {σ7 H7} I7 n7=>by
      obtain ⟨m',hm,w7⟩:=hN σ7 H7 n7
      refine ⟨m',hm,i + 1,σ7,H7,k7,I7.unpinned,T.keep _ _ _ st5 fun b hb o e=>(I7.pin (b,o) (List.mem_append_right _ (List.mem_append_right _ (mem_pinsAt hb e)))).1,fun b hb=>?_,w7⟩
      obtain ⟨o,e,d⟩:=T.obj _ _ st5 b hb
      exact (I7.pin (b,o) (List.mem_append_right _ (List.mem_append_right _ (mem_pinsAt hb e)))).2.1
    cases f with
    | next=>obtain ⟨σ7,H7,I7,n7⟩:=q7; exact again I7 n7
    | cont=>obtain ⟨σ7,H7,I7,n7⟩:=q7; exact again I7 n7
    | brk=>obtain ⟨σ7,H7,I7,q7⟩:=q7; exact ⟨σ7,H7,I7.unpinned,q7⟩
    | ret v=>obtain ⟨x7,σ7,H7,I7,r7,q7⟩:=q7; exact ⟨x7,σ7,H7,I7.unpinned,r7,q7⟩
theorem pst_setT {i:Nat} {x:Str} {e:Expr} {te:TE} {pos' pos:Pos} (hN:X.N.Nodup) (hi:X.N[i]?=some x) (hx:Loc X.env.scope x) (he:PET X e te) (hs:swapsWith e (some (.Name x pos')) pos.line X.env=pure false:=by rfl) (hf:X.fn x=true ∨ X.env.scope.names.lookup x=some .local:=by first | exact .inl rfl | exact .inr rfl | assumption) :
    PST X (.Assign [.Name x pos'] e pos) (tAsg te (gName i)):=by
  intro pins s σ H D h0 I h
  refine wpAny_Assign_Name (thn (he pins s σ H _ h0 I h) fun v s1 ⟨y,H1,I1,r1,q1⟩=>?_) hs
  exact store_ok I1 hN hi hx r1 (fun s2 I2=>⟨_,H1,I2,q1⟩) hf
theorem PAT.of {es:List Expr} {ta:TA} (h:PA X es ta):PAT X es ta:=fun pos pins s σ H Q _ I q=>h.run pos pins s σ H Q I q
theorem pet_lcT {elt tg iter:Expr} {ifs:List Expr} {scope:Scope} {own:List (Str × Nat)} {pos:Pos} {wi:TI} {g:TG} {tt:TT} {te:TE} (hc:X.calm=true) (hN:X.N.Nodup) (hi:PI X tg iter wi) (ok:BlkOk X.N X.env.scope scope own)
    (hg:∀ (s:Shared) (H:Hp) (C:Addr) (cl:List (Str × Addr)) (fp:List Addr),PG (X.blk s H scope (compEnvC scope cl C X.env) fp) tg g) (ht:∀ (s:Shared) (H:Hp) (C:Addr) (cl:List (Str × Addr)) (fp:List Addr),PTs (X.blk s H scope (compEnvC scope cl C X.env) fp) ifs tt)
    (he:∀ (s:Shared) (H:Hp) (C:Addr) (cl:List (Str × Addr)) (fp:List Addr),PET (X.blk s H scope (compEnvC scope cl C X.env) fp) elt te) (hs:∀ x,foldedSetIterable iter X.env x=pure x:=by intro _; rfl) :
    PET X (.ListComp elt [⟨tg,iter,ifs,0⟩] scope pos) (tLc wi g tt te (own.map (·.2))):=by
  intro pins s σ H Q h0 I h
  rw [eval_ListComp]
  refine lc_coreT hc hN h0 I hi ok hg ht he hs h fun D C s' m H' I' q hn f=>⟨m,hn,fun h'' sb=>?_⟩
  obtain ⟨f0,f1,f2,f3,f4,f5⟩:=f
  exact ⟨.ref D,H',I'.turned (t':=s'.toks) (fun b o hb e=>(sb.2 b hb).trans e) f0 f1 f3 f4 f5,rfl,q⟩
def tReplS (to:TE) (y:Str) (ta:TA):TE:=fun σ H Q=>to σ H fun v H1=>∃ x,v = .str x∧ta σ H1 fun vs H2=>∃ k:Int,vs=[.int k]∧k.natAbs.log2 < 1920∧(y == ((toString k:String):Str))=false ∧
  x.length + (x.length + 1) * ((toString k:String):Str).length ≤ 16777216∧Q (.str (Txt.replace x y ((toString k:String):Str))) H2
theorem pet_replS {o a:Expr} {to:TE} {ta:TA} {y:Str} {j:Nat} {c0 apos pos p2 p3:Pos} (ho:PET X o to) (ha:PA X [a] ta) (hgl:Gl X "str") (hm:X.mg "str" = none)
    (hst:starEach [.Constant (.str y) j c0, .Call (.Name "str" p2) [a] [] p3] X.env=[(false,eval (.Constant (.str y) j c0) X.env),(false,eval (.Call (.Name "str" p2) [a] [] p3) X.env)]:=by rfl)
    (hbase:attributeBase o "replace" X.env (eval o X.env)=eval o X.env:=by rfl) (hline:(apos.endLine == pos.line)=true:=by rfl)
    (hea:starEach [a] X.env=(false,eval a X.env) :: starEach [] X.env:=by rfl) (hpl:(backTo p3 (starEach [] X.env)).any (·.1)=false:=by rfl) :
    PET X (.Call (.Attribute o "replace" apos) [.Constant (.str y) j c0, .Call (.Name "str" p2) [a] [] p3] [] pos) (tReplS to y ta):=by
  intro pins s σ H Q h0 I h
  refine PySem.Call_method2 hbase hst hline (wpAny_mono (PySem.wpAny_toks (ho pins s σ H _ h0 I h)) (fun v s1 q=>?_) fun _ _ z=>z.2)
  obtain ⟨hk,v',H1,I1,r1,x,e1,q⟩:=q
  subst e1
  obtain ⟨tx,e2⟩:=r1
  subst e2
  refine ⟨"str",_,PySem.F.plainAttrs_str,PySem.F.slot_str_replace,PySem.F.type_str_replace,typeIs_str _ _ _,(fun _ e=>nomatch e),Calls.callWith_builtin rfl (Calls.evalArgs_plain (Calls.spliced_cons ?_))⟩
  refine Calls.Constant_str (Calls.spliced_cons ?_)
  refine wpAny_Call_Name_kw (ld_blt (I1.tok (s1.toks + 1)) hgl hm (show bootBuiltins "str" = some (.type "str") from rfl) ?_ (by decide) (by decide))
  refine PyProof.Rows.callWith_type1 (thnT (n:=s1.toks + 1) (Nat.le_refl _) (ha.run p3 pins _ σ H1 _ (I1.tok (s1.toks + 1)) q) fun us s2 k2 ⟨vs,H2,I2,r2,k,e3,hl,hne,hb,q2⟩=>?_) hea hpl
  subst e3
  obtain ⟨u,rfl,t,rfl⟩:=vals1 r2
  refine PySem.P.str_of_int hl (Calls.spliced_nil ?_)
  exact PySem.SC.replace (by show s1.toks ≠ 0; omega) (by show s2.toks ≠ 0; omega) (by show s1.toks ≠ s2.toks; omega) hne hb fun t' k'=>⟨.str _,H2,I2.tok k',⟨t',rfl⟩,q2⟩
end
end L2
namespace Bv
open PySem PySem.Spec L2
open PyProof.Rows hiding St
variable [HasW]
abbrev MAT (X:Cx) (Wx:WX) (es:List Expr) (m:MG (List Bv.X)):Prop:=PAT X es (RA X.K Wx m)
def Y3j (y a:Str):List Bv.X→Sto→R Bv.X
  | [.d (.int k)],S=>if decide (k.natAbs.log2 < 1920) && !(y == ((toString k:String):Str)) && decide (a.length + (a.length + 1) * ((toString k:String):Str).length ≤ 16777216) && PyData.strOk (Txt.replace a y ((toString k:String):Str)) then .ok (.d (.str (Txt.replace a y ((toString k:String):Str)))) S else .bad
  | _,_ => .bad
def Z7u (y:Str) (mo:M) (ms:MG (List Bv.X)):M:=fun e S=>(mo e S).bind fun x S1=>match x with
  | .d (.str a)=>(ms e S1).bind fun ys S2=>Y3j y a ys S2
  | _ => .bad
section
variable {X:Cx} {Wx:WX} {o a elt tg iter e:Expr} {es ifs:List Expr} {body rest:List Stmt} {mo m me ma:M} {ms:MG (List Bv.X)} {mi:MIt} {mt:MG Bool} {t:Tg} {mb m1 m2:MS} {pos apos c0 p2 p3:Pos} {y:Str} {j:Nat}
theorem X60 (h:MA X Wx es ms):MAT X Wx es ms:=PAT.of h
theorem Y3r (h:MET X Wx a ma) (h2:MAT X Wx es ms) (hs:starEach (a :: es) X.env=(false,eval a X.env) :: starEach es X.env:=by rfl):MAT X Wx (a :: es) (Z3 ma ms):=fun pos pins s σ H Q h0 I ⟨Z,ρ,e,S,st,ev,p⟩=>pat_cons h h2 hs pos pins s σ H Q h0 I (by
  refine X5 st ev p fun ρ1 H1 v x S1 st1 g1 ev1 a1 p1=>?_
  refine X5 st1 ev1 p1 fun ρ2 H2 vs xs S2 st2 g2 ev2 a2 p2=>?_
  exact X6.ret0 p2 st2 (.cons (a1.mv (g2.mv st1) g2.pre) a2))
theorem X9i {i:Nat} {x:Str} {pos':Pos} (hN:X.N.Nodup) (hi:X.N[i]?=some x) (hx:Loc X.env.scope x) (he:MET X Wx a ma) (hs:swapsWith a (some (.Name x pos')) pos.line X.env=pure false:=by rfl) (hf:X.fn x=true ∨ X.env.scope.names.lookup x=some .local:=by first | exact .inl rfl | exact .inr rfl | assumption) :
    MPT X Wx (.Assign [.Name x pos'] a pos) (W3 i ma):=fun pins s σ H D h0 I ⟨Z,ρ,e,S,st,ev,p⟩=>pst_setT hN hi hx he hs hf pins s σ H D h0 I (Z0h st ev p fun ρ1 H1 v x S1 st1 g1 ev1 a1 p1=>p1.next st1 (ev1.set a1))
theorem W2u {scope:Scope} {own:List (Str × Nat)} (hc:X.calm=true) (hN:X.N.Nodup) (hi:MI X Wx tg iter mi) (ok:BlkOk X.N X.env.scope scope own) (hsl:∀ i ∈ t.slots,i ∈ own.map (·.2))
    (hg:∀ (s:Shared) (H:Hp) (C:Addr) (cl:List (Str × Addr)) (fp:List Addr),PG (X.blk s H scope (compEnvC scope cl C X.env) fp) tg (TGt X.K t)) (ht:∀ (s:Shared) (H:Hp) (C:Addr) (cl:List (Str × Addr)) (fp:List Addr),MTs (X.blk s H scope (compEnvC scope cl C X.env) fp) WX0 ifs mt)
    (he:∀ (s:Shared) (H:Hp) (C:Addr) (cl:List (Str × Addr)) (fp:List Addr),MET (X.blk s H scope (compEnvC scope cl C X.env) fp) WX0 elt me) (hs:∀ x,foldedSetIterable iter X.env x=pure x:=by intro _; rfl) :
    MET X Wx (.ListComp elt [⟨tg,iter,ifs,0⟩] scope pos) (Z3r t mi mt me (own.map (·.2))):=fun pins s σ H Q h0 I h=>pet_lcT hc hN hi ok hg ht he hs pins s σ H Q h0 I (X2k hsl h)
theorem Y9h {n:Nat} {f:Addr} {x:Str} {p:Pos} {g:List Bv.X→Sto→R Bv.X} (c:Y8h X Wx (.ref f) n g) (hg:Gl X x) (hm:X.mg x=some (.ref f)) (hk:PySem.W.keepIn X.K (.ref f)=true) (ha:MAT X Wx (e :: es) ms) (hdb:(x == ("__debug__" : Str))=false:=by decide)
    (he:starEach (e :: es) X.env=(false,eval e X.env) :: starEach es X.env:=by rfl) (hpl:(backTo pos (starEach es X.env)).any (·.1)=false:=by rfl):MET X Wx (.Call (.Name x p) (e :: es) [] pos) (Z8 (X9 n g) ms):=fun pins s σ H Q h0 I ⟨Z,ρ,e,S,st,ev,q⟩=>by
  refine wpAny_Call_Name_kw (ld_glob I hg hm ?_ hdb)
  refine PySem.W.callWith_K (h₀:=X.base) I.ok.mod.kin hk (thn (ha pos pins s σ H _ h0 I (X5 (R':=fun vs H1=>∃ (ρ1:List Addr) (xs:List Bv.X) (S1:Sto),Sta X.K Z ρ1 S1 H1∧AXs X.K (Wn Z ρ1) ρ1 H1 xs vs∧X6 (AX X.K) X.K Z ρ1 H1 Wx σ Q (X9 n g xs S1)) st ev q fun ρ1 H1 v xs S1 s1 g1 ev1 a1 p1=>⟨ρ1,xs,S1,s1,a1,p1⟩))
    fun us s1 ⟨vs,H1,I1,r,ρ1,xs,S1,st1,a1,p1⟩=>⟨I1.kIn,?_⟩) he hpl
  obtain ⟨hl,p2⟩:=ari (rel:=X6 (AX X.K) X.K Z ρ1 H1 Wx σ Q) (fun z=>z) p1
  exact wpAny_call (c pins s1 σ H1 Q us vs Z ρ1 xs S1 I1 r st1 a1 (by rw [← Paired.length a1]; exact hl) p2)
theorem Y5k (ho:MET X Wx o mo) (ha:MA X Wx [a] ms) (hgl:Gl X "str") (hm:X.mg "str" = none)
    (hst:starEach [.Constant (.str y) j c0, .Call (.Name "str" p2) [a] [] p3] X.env=[(false,eval (.Constant (.str y) j c0) X.env),(false,eval (.Call (.Name "str" p2) [a] [] p3) X.env)]:=by rfl)
    (hbase:attributeBase o "replace" X.env (eval o X.env)=eval o X.env:=by rfl) (hline:(apos.endLine == pos.line)=true:=by rfl)
    (hea:starEach [a] X.env=(false,eval a X.env) :: starEach [] X.env:=by rfl) (hpl:(backTo p3 (starEach [] X.env)).any (·.1)=false:=by rfl) :
    MET X Wx (.Call (.Attribute o "replace" apos) [.Constant (.str y) j c0, .Call (.Name "str" p2) [a] [] p3] [] pos) (Z7u y mo ms):=fun pins s σ H Q h0 I ⟨Z,ρ,e,S,st,ev,p⟩=>pet_replS ho ha hgl hm hst hbase hline hea hpl pins s σ H Q h0 I (X5 st ev p fun ρ1 H1 v x S1 s1 g1 ev1 a1 p1=>by
  cases a1 with
  | r _=>exact p1.elim
  | d a =>
    cases a with
    | str hz =>
      rename_i b
      have p1:X6 (AX X.K) X.K Z ρ1 H1 Wx σ Q ((ms e S1).bind fun ys S2=>Y3j y b ys S2):=p1
      refine ⟨b,rfl,X5 s1 ev1 p1 fun ρ2 H2 vs ys S2 st2 g2 ev2 a2 p2=>?_⟩
      have p2:X6 (AX X.K) X.K Z ρ2 H2 Wx σ Q (Y3j y b ys S2):=p2
      unfold Y3j at p2
      split at p2
      · rename_i k _
        obtain ⟨v,rfl,b2⟩:=Y56 a2
        have e3:v = .int k:=by cases b2; rfl
        subst e3
        split at p2
        · rename_i hc
          obtain ⟨h1,c4⟩:=Bool.and_eq_true_iff.mp hc
          obtain ⟨h1,c3⟩:=Bool.and_eq_true_iff.mp h1
          obtain ⟨c1,c2⟩:=Bool.and_eq_true_iff.mp h1
          refine ⟨k,rfl,of_decide_eq_true c1,by simpa using c2,of_decide_eq_true c3,X6.ret0 p2 st2 (.d (.str c4))⟩
        · exact p2.elim
      · exact p2.elim
    | _=>exact p1.elim)
theorem X8a {mi:MIt} {σ:L2.St} {H:Hp} {D:Ends} (h:RS X.K Wx (Z2y t mi mb) D σ H):tFor (RG (Srv X.K) X.K Wx mi) (TGt X.K t) (RS X.K Wx mb) D σ H:=by
  obtain ⟨Z,ρ,e,S,st,ev,p⟩:=h
  exact Z0h (rel:=Srv X.K) st ev p fun ρ1 H1 J p0 S1 st1 g1 ev1 srv p1=>by
    obtain ⟨ys,l⟩:=p0
    obtain ⟨G,Y,w,sv⟩:=srv
    have p1:Z1n X.K Z ρ1 H1 Wx D (Z36 t l mb ys e S1):=p1
    have sv:∀ (Z2:Wd) (ρ2:List Addr) (S2:Sto) (H2:Hp),Sta X.K Z2 ρ2 S2 H2→Mv (Wn Z ρ1) H1 (Wn Z2 ρ2) H2→ρ1 <+: ρ2→(∀ a ob u,H1 a=some (.frz ob u)→H2 a=some (.frz ob u))→l.ok S2=true→G H2 ∧
      ∀ i x H3,Y i H2 x H3→Same H2 H3∧∃ y,ys[i]?=some y∧AX X.K (Wn Z2 ρ2) ρ2 H3 y x:=sv
    have w:Walk J ys.length G Y:=w
    let Pv:Nat→L2.St→Hp→Prop:=fun i σ H=>∃ (ρ:List Addr) (e:Ev) (S:Sto),Sta X.K Z ρ S H∧Go ρ1 H1 ρ H∧EvOk X.K (Wn Z ρ) ρ H e σ∧Z1n X.K Z ρ H Wx D (Z36 t l mb (ys.drop i) e S)
    have okOf:∀ {xs:List Bv.X} {e:Ev} {S:Sto} {ρ:List Addr} {H:Hp},Z1n X.K Z ρ H Wx D (Z36 t l mb xs e S)→l.ok S=true:=fun {xs e S ρ H} q=>by
      cases z:l.ok S with
      | true=>rfl
      | false=>cases xs <;> (simp only [Z36,z] at q; exact q.elim)
    refine for_it w Pv ⟨ρ1,e,S1,st1,Go.refl _ _,ev1,by rw [List.drop_zero]; exact p1⟩ ?_ ?_ ?_
    · rintro i σ2 H2 _ ⟨ρ2,e2,S2,st2,g2,ev2,q2⟩
      exact (sv Z ρ2 S2 H2 st2 (g2.mv st1) g2.pre g2.fz (okOf q2)).1
    · rintro i x σ2 H2 H3 hi ⟨ρ2,e2,S2,st2,g2,ev2,q2⟩ hy
      have hk:=okOf q2
      obtain ⟨k,y,e3,a⟩:=(sv Z ρ2 S2 H2 st2 (g2.mv st1) g2.pre g2.fz hk).2 i x H3 hy
      have st3:=st2.grow k
      have g3:Go ρ2 H2 ρ2 H3:=Go.grow k
      have ev3:=ev2.mv (g3.mv st2) g3.pre
      have q3:=Z1n.shift g3 st3 q2
      rw [Z5u e3] at q3
      simp only [Z36,hk,if_true] at q3
      cases q4:t.asg S2 y e2 with
      | none=>rw [q4] at q3; exact q3.elim
      | some e4 =>
        rw [q4] at q3
        refine ⟨Z,ρ2,e2,S2,y,e4,st3,ev3,a,q4,fun σ5 ev5 _=>⟨Z,ρ2,e4,S2,st3,ev5,?_⟩⟩
        have q3:Z1n X.K Z ρ2 H3 Wx D (match mb e4 S2 with
          | .go (.nx e2) S2=>Z36 t l mb (ys.drop (i + 1)) e2 S2
          | .go (.ct e2) S2=>Z36 t l mb (ys.drop (i + 1)) e2 S2
          | .go (.bk e2) S2 => .go (.nx e2) S2
          | r=>r):=q3
        cases q5:mb e4 S2 with
        | bad=>rw [q5] at q3; exact q3
        | err C fs e6 S6=>rw [q5] at q3; exact q3
        | go o S6 =>
          rw [q5] at q3
          cases o with
          | nx e6=>exact fun ρ7 H7 σ7 st7 g7 ev7=>⟨ρ7,e6,S6,st7,g2.trans (g3.trans g7),ev7,Z1n.shift g7 st7 q3⟩
          | ct e6=>exact fun ρ7 H7 σ7 st7 g7 ev7=>⟨ρ7,e6,S6,st7,g2.trans (g3.trans g7),ev7,Z1n.shift g7 st7 q3⟩
          | bk e6=>exact q3
          | rt x6=>exact q3
          | rp d6=>exact q3
          | rq d6=>exact q3
    · rintro σ2 H2 ⟨ρ2,e2,S2,st2,g2,ev2,q2⟩
      have hk:=okOf q2
      rw [List.drop_length] at q2
      simp only [Z36,hk,if_true] at q2
      exact q2.next st2 ev2
theorem X25 (hp:PassesOwn (model X.prog X.w) X.A X.env X.xe) (hc:X.calm=true) (hi:MI X Wx tg iter mi) (hg:PG X tg (TGt X.K t)) (hb:W1n X Wx body mb)
    (hs:∀ x,foldedSetIterable iter X.env x=pure x:=by intro _; rfl):MPT X Wx (.For tg iter body [] pos) (Z2y t mi mb):=fun pins s σ H D h0 I h=>pst_forT hp hc hi hg hb hs pins s σ H D h0 I (X8a h)
end
end Bv
namespace Bv
open PySem PySem.Spec L2
open PyProof.Rows hiding St
variable [HasW]
mutual
inductive NV (K:PySem.W.Frag) (H:Hp):NestedKey→V→Prop
  | none:NV K H .none .non
  | bl {b:Bool} {i:Int}:i=(if b=true then 1 else 0)→NV K H (.num i) (.bl b)
  | int (i:Int):NV K H (.num i) (.int i)
  | str (x:Str):NV K H (.text x) (.str x)
  | tup {b:Addr} {vs:List V} {ks:List NestedKey}:SqT K H b vs→NVs K H ks vs→NV K H (.tup ks) (.ref b)
inductive NVs (K:PySem.W.Frag) (H:Hp):List NestedKey→List V→Prop
  | nil:NVs K H [] []
  | cons {k:NestedKey} {v:V} {ks:List NestedKey} {vs:List V}:NV K H k v→NVs K H ks vs→NVs K H (k :: ks) (v :: vs)
end
section
variable {X:Cx} {pins:List (Addr × Obj)} {σ:L2.St} {H:Hp} {s:Shared}
mutual
theorem W5m (I:Inv X pins σ H s):∀ {k:NestedKey} {v:V} {u:Value},NV X.K H k v→RelV v u→NestedIs s.heap k u
  | _,_,_, .none,r=>by cases (show _=Value.none from r); exact .none
  | _,_,_, .bl e,r=>by cases (show _=Value.bool _ from r); exact .bool e
  | _,_,_, .int i,r=>by obtain ⟨t,rfl⟩:=(show ∃ t,_=Value.int i t from r); exact .int i t
  | _,_,_, .str x,r=>by obtain ⟨t,rfl⟩:=(show ∃ t,_=Value.str x t from r); exact .text x t
  | _,_,_, .tup q l,r=>by
    cases (show _=Value.ref _ from r)
    obtain ⟨its,rv,⟨o,ho,hc,n,hd⟩,_⟩:=I.tuple q
    exact .tup ho hc hd (by simpa using X69 I l rv)
theorem X69 (I:Inv X pins σ H s):∀ {ks:List NestedKey} {vs:List V} {us:List Value},NVs X.K H ks vs→Vals vs us→NestedAll s.heap ks us
  | _,_,_, .nil,r=>by cases r; exact .nil
  | _,_,_, .cons h t,r=>by
    cases r with
    | cons a b=>exact .cons (W5m I h a) (X69 I t b)
end
end
def W4e (K:PySem.W.Frag) (H:Hp) (b:Addr) (k:NestedKey):Prop:=NV K H k (.ref b)∧k.depth ≤ 8
abbrev NTX:=NestedKey × Addr × V
structure NDTat (K:PySem.W.Frag) (H:Hp) (a:Addr) (xs:List NTX):Prop where
  at_:Rd H a (NDo a xs)
  keys:∀ q ∈ xs,W4e K H q.2.1 q.1
section
variable {X:Cx} {pins:List (Addr × Obj)} {σ:L2.St} {H:Hp} {s:Shared} {a b:Addr} {y v:V} {u r:Value} {A:Around} {E:Value→Shared→Prop} {xs:List NTX} {k:NestedKey}
end
section
variable {X:Cx} {o i e f value:Expr} {pos pos' tpos apos cpos:Pos} {td ty tv tx:TE}
end
section
variable {α:Type}
end
section
variable {K:PySem.W.Frag} {W W':Wd} {ρ ρ':List Addr} {H H':Hp} {kvs:List (D × X)} {xs:List NTX} {q:NestedKey}
end
section
variable {X:Cx} {Wx:WX} {pos pos' apos cpos:Pos} {o i e f value kx:Expr} {mo mi mx mv mk:M}
end
end Bv
namespace Bv
open PySem PySem.Spec L2
open PyProof.Rows hiding St
variable [HasW]
abbrev LKV:List (Leaf × V)→List (Leaf × Value)→Prop:=Paired fun p q=>p.1=q.1∧RelV p.2 q.2
def Y9b (xs:List (Leaf × V)) (k:Leaf):Option V:=(xs.find? fun x=>decide (x.1=k)).map (·.2)
theorem LKV.val {xs:List (Leaf × V)} {ys:List (Leaf × Value)} (r:LKV xs ys) (k:Leaf):RelO (Y9b xs k) (valueAt ys k):=by
  induction r with
  | nil=>exact True.intro
  | @cons p q ps qs h t ih =>
    obtain ⟨h1,h2⟩:=h
    by_cases e:p.1=k
    · have e':q.1=k:=h1.symm.trans e
      have b:valueAt (q :: qs) k=some q.2:=by simp [valueAt,List.find?_cons,e']
      have a:Y9b (p :: ps) k=some p.2:=by simp [Y9b,List.find?_cons,e]
      rw [a,b]; exact h2
    · have e':¬ q.1=k:=fun z=>e (h1.trans z)
      have b:valueAt (q :: qs) k=valueAt qs k:=by simp [valueAt,List.find?_cons,e']
      have a:Y9b (p :: ps) k=Y9b ps k:=by simp [Y9b,List.find?_cons,e]
      rw [a,b]; exact ih
def lV:Leaf→V
  | .none => .non
  | .num i => .int i
  | .text x => .str x
theorem W2k {P:Program} {w:World} {k:Leaf} {u:Value} (r:RelV (lV k) u):(leafKind P w).is k u=true:=by
  show Leaf.isOf k u=true
  cases k with
  | none=>cases (show u=Value.none from r); rfl
  | num i=>obtain ⟨t,e⟩:=(show ∃ t,u=Value.int i t from r); subst e; simp [Leaf.isOf]
  | text x=>obtain ⟨t,e⟩:=(show ∃ t,u=Value.str x t from r); subst e; simp [Leaf.isOf,Value.isStrOf]
theorem X3j {P P':Program} {w:World} {es:List DictEntry} {ys:List (Leaf × Value)} (h:Pairs (leafKind P w) es ys):Pairs (leafKind P' w) es ys:=by
  induction h with
  | nil=>exact .nil
  | cons a b _ ih=>exact .cons a b ih
theorem X1k {P P':Program} {w:World} {h:Heap} {a:Addr} {ys:List (Leaf × Value)} (x:h.DictOf (leafKind P w) a ys):h.DictOf (leafKind P' w) a ys:=by
  obtain ⟨o,es,ep,h1,h2,h3,h4,h5,h6⟩:=x
  exact ⟨o,es,ep,h1,h2,h3,fun e he=>h4 e he,X3j h5,h6⟩
section
variable {X:Cx} {pins:List (Addr × Obj)} {σ:L2.St} {H:Hp} {s:Shared} {a:Addr} {v:V} {A:Around} {E:Value→Shared→Prop} {xs:List (Leaf × V)} {k:Leaf}
theorem X2n (hw:X.w=HasW.w) (I:Inv X pins σ H s) (d:H a=some (LDo a xs)):(a == sysModules)=false∧∃ ys,LKV xs ys∧s.heap.DictOf (leafKind X.prog X.w) a ys:=by
  have ok:ObjOk X.prog X.w H s.heap a (LDo a xs):=I.hok a _ d
  obtain ⟨⟨hd,ys,rel,dd⟩,_⟩:=ok
  exact ⟨hd,ys,rel,by rw [hw]; exact dd X.prog⟩
theorem X2m {P:Program} {w:World} {H':Hp} {h':Heap} {ys:List (Leaf × Value)} (hw:w=HasW.w) (hd:(a == sysModules)=false) (rel:LKV xs ys) (dd:h'.DictOf (leafKind P w) a ys):ObjOk P w H' h' a (LDo a xs):=by
  subst hw
  have he:∃ q,h'.get? a=some q:=let ⟨q,_,_,hq,_⟩:=dd; ⟨q,hq⟩
  refine ⟨⟨hd,ys,rel,fun P'=>X1k dd⟩,he,fun g1 g2 ⟨hd,ys,rel,dd⟩ st=>⟨hd,ys,rel,fun P'=>?_⟩⟩
  obtain ⟨o,es,ep,h1,r⟩:=dd P'
  exact ⟨o,es,ep,st o h1,r⟩
theorem X2l {P:Program} {w:World} {H:Hp} (hw:w=HasW.w) (h:Heap) (hb:sysModules < h.objs.size):ObjOk P w H (h.push { cls := .type "dict",data := .dict #[] }) h.objs.size (LDo h.objs.size []) :=
  X2m hw (beq_eq_false_iff_ne.mpr (Ne.symm (Nat.ne_of_lt hb))) .nil (Heap.DictOf.new h)
theorem X2f {u:Value} {Q:Value→Shared→Prop} (hw:X.w=HasW.w) (I:Inv X pins σ H s) (d:H a=some (LDo a xs)) (ru:RelV (lV k) u) (l:Y9b xs k=some v) (h:∀ w' s',Inv X pins σ H s'→RelV v w'→Q w' s') :
    wpAny (model X.prog X.w) A (getItem (.ref a) u) Q E s:=by
  obtain ⟨hd,ys,rel,dd⟩:=X2n hw I d
  obtain ⟨w',hw',rw'⟩:=RelO.some_of (v:=v) (o:=valueAt ys k) (by rw [← l]; exact rel.val k)
  exact wpAny_getItem_of (W2k ru) dd.mapOf hw' (h w' _ (I.tok _) rw')
end
theorem X0g {more kvs:List (Leaf × Value)} (h:((kvs++more).map (·.1)).Nodup):merged kvs more=kvs++more:=by
  induction more generalizing kvs with
  | nil=>simp [merged]
  | cons p more ih =>
    have hk:p.1 ∉ kvs.map (·.1):=fun z=>by
      rw [List.map_append,List.nodup_append] at h
      exact h.2.2 _ z _ (by simp) rfl
    have e:stored kvs p.1 p.2=kvs++[p]:=by
      unfold stored
      rw [if_neg]
      rw [List.any_eq_true]
      rintro ⟨q,hq,he⟩
      exact hk (List.mem_map.mpr ⟨q,hq,of_decide_eq_true he⟩)
    show merged (stored kvs p.1 p.2) more=_
    rw [e,ih (by simpa using h)]
    simp
theorem Y0q {P:Program} {w:World}:∀ {kvs:List (Leaf × V)} {ws:List (Value × Value)},VV (kvs.map fun kv=>(lV kv.1,kv.2)) ws→∃ rs,Carries (leafKind P w) ws rs∧LKV kvs rs
  | [],_,r=>by rw [List.map_nil] at r; cases r; exact ⟨[],True.intro, .nil⟩
  | p :: kvs,_,r=>by
    rw [List.map_cons] at r
    cases r with
    | @cons a b as bs h t =>
      obtain ⟨rs,c,q⟩:=Y0q (P:=P) (w:=w) t
      obtain ⟨b1,b2⟩:=b
      exact ⟨(p.1,b2) :: rs,⟨W2k h.1,rfl,c⟩, .cons ⟨rfl,h.2⟩ q⟩
theorem LKV.keys {xs:List (Leaf × V)} {ys:List (Leaf × Value)} (r:LKV xs ys):ys.map (·.1)=xs.map (·.1):=by
  induction r with
  | nil=>rfl
  | cons h _ ih=>rw [List.map_cons,List.map_cons,ih,h.1]
def W30 (trs:List (TE × TE)):TE:=fun σ H Q=>∀ p,H p=none→tPairs trs σ (upd H p (LDo p [])) fun ps H2=>H2 p=some (LDo p [])∧∃ kvs:List (Leaf × V),ps=kvs.map (fun kv=>(lV kv.1,kv.2))∧(kvs.map (·.1)).Nodup∧Q (.ref p) (upd H2 p (LDo p kvs))
theorem X5u {X:Cx} {pos:Pos} {keys:List (Option Expr)} {values:List Expr} {trs:List (TE × TE)} (hw:X.w=HasW.w) (h:PPs X pos keys values trs) (hall:keys.all (·.isSome)=true) (hl:keys.length=values.length) (h0:keys ≠ [])
    (h15:keys.length ≤ 15):PE X (.Dict keys values pos) (W30 trs):=by
  refine ⟨fun pins s σ H Q I q=>?_⟩
  have hn:=I.hok.fresh (Nat.le_refl s.heap.objs.size)
  have I1:=I.laid (a:=s.heap.objs.size) (o:=LDo s.heap.objs.size []) (h':=s.heap.push { cls := .type "dict",data := .dict #[] }) (t':=s.toks) (fun _ _ q=>Heap.get?_push_of_some _ q) (Nat.le_refl _) (X2l hw s.heap I.big)
  refine wpAny_Dict_walk (knd:=leafKind X.prog X.w) hall hl h0 h15 (thn (h.run pins _ σ _ _ I1 (q _ hn)) fun ws s2 ⟨ps,H2,I2,rel,e,kvs,ep,nd,q2⟩=>?_)
  subst ep
  obtain ⟨rs,c,rk⟩:=Y0q (P:=X.prog) (w:=X.w) rel
  obtain ⟨hd,vs0,r0,dd⟩:=X2n hw I2 e
  cases r0
  refine ⟨rs,c,dd,fun h' dd' hs=>⟨.ref s.heap.objs.size,_,?_,rfl,q2⟩⟩
  have em:merged [] rs=rs:=by rw [X0g (by rw [List.nil_append,rk.keys]; exact nd)]; rfl
  rw [em] at dd'
  have he:∃ q,h'.get? s.heap.objs.size=some q:=let ⟨q,_,_,hq,_⟩:=dd'; ⟨q,hq⟩
  exact d_write I2 (by rw [e]; exact True.intro) hs he (X2m hw hd rk dd')
def W6g (td ty:TE):TE:=fun σ H Q=>td σ H fun x H1=>ty σ H1 fun y H2=>∃ a xs k v,x = .ref a∧y=lV k∧H2 a=some (LDo a xs)∧Y9b xs k=some v∧Q v H2
theorem X93 {X:Cx} {o i:Expr} {pos:Pos} {td ty:TE} (hw:X.w=HasW.w) (ho:PE X o td) (hi:PE X i ty) (hs:NoSl i):PE X (.Subscript o i pos) (W6g td ty):=by
  refine ⟨fun pins s σ H Q I h=>?_⟩
  refine subD_of PySem.F.slot_dict_getitem.lookup hs (thn (ho.run pins s σ H _ I h) fun u s1 ⟨x,H1,I1,rx,q1⟩=>thn (hi.run pins s1 σ H1 _ I1 q1) fun iv s2 ⟨y,H2,I2,ry,a,xs,k,v,ex,ey,d,l,q2⟩=>?_)
  subst ex ey
  obtain rfl:u=Value.ref a:=rx
  obtain ⟨_,ys,rel,dd⟩:=X2n hw I2 d
  exact ⟨dd.typeIs,X2f hw I2 d ry l fun w' s3 I3 rw'=>⟨v,H2,I3,rw',q2⟩⟩
def D.leafS?:D→Option Leaf
  | .non=>some .none
  | .int i=>some (.num i)
  | .str x=>some (.text x)
  | _=>none
theorem Z84 {d:D} {k:Leaf} (h:d.leafS?=some k):d.leaf?=some k:=by cases d <;> first | exact h | cases h
theorem Z95 {K:PySem.W.Frag} {W:Wd} {H:Hp} {d:D} {k:Leaf} {v:V} (h:d.leafS?=some k) (a:AV K W H d v):v=lV k:=by
  cases a <;> simp only [D.leafS?,Option.some.injEq,reduceCtorEq] at h <;> (subst h; rfl)
def Z4x (kvs:List (D × X)) (q:Leaf):Option X:=(kvs.find? fun p=>decide (p.1.leaf?=some q)).map (·.2)
abbrev LKX (K:PySem.W.Frag) (W:Wd) (ρ:List Addr) (H:Hp):List (D × X)→List (Leaf × V)→Prop:=Paired fun (p:D × X) (q:Leaf × V)=>p.1.leaf?=some q.1∧AX K W ρ H p.2 q.2
theorem LKX.look {K:PySem.W.Frag} {W:Wd} {ρ:List Addr} {H:Hp} {kvs:List (D × X)} {xs:List (Leaf × V)} (h:LKX K W ρ H kvs xs) {q:Leaf} {x:X} (hl:Z4x kvs q=some x):∃ v,Y9b xs q=some v∧AX K W ρ H x v:=by
  induction h with
  | nil=>cases hl
  | @cons p y ps ys hp t ih =>
    by_cases e:y.1=q
    · have a:Y9b (y :: ys) q=some y.2:=by simp [Y9b,List.find?_cons,e]
      have b:Z4x (p :: ps) q=some p.2:=by simp [Z4x,List.find?_cons,hp.1,e]
      rw [b] at hl; cases hl
      exact ⟨_,a,hp.2⟩
    · have a:Y9b (y :: ys) q=Y9b ys q:=by simp [Y9b,List.find?_cons,e]
      have b:Z4x (p :: ps) q=Z4x ps q:=by simp [Z4x,List.find?_cons,hp.1,e]
      rw [b] at hl; rw [a]
      exact ih hl
def X2e (S:Sto) (x y:X):Option X:=match x,y with
  | .r n, .d k=>match S[n]?,k.leafS? with
    | some (.ldc kvs),some q=>Z4x kvs q
    | _,_=>none
  | _,_=>none
def Z7a (mo mi:M):M:=fun e S=>(mo e S).bind fun x S1=>(mi e S1).bind fun y S2=>Z4r (X2e S2 x y) S2
section
variable {X:Cx} {Wx:WX} {pos p1 p2 p3:Pos} {o i q1 q2 q3 v1 v2 v3:Expr} {mo mi m1 m2 m3:M} {d1 d2 d3:D} {k1 k2 k3:Leaf}
theorem Y7l (hw:X.w=HasW.w) (ho:ME X Wx o mo) (hi:ME X Wx i mi) (hs:NoSl i:=by intro _ _; rfl):ME X Wx (.Subscript o i pos) (Z7a mo mi) :=
  PE.of (X93 hw ho hi hs) fun σ H Q ⟨Z,ρ,e,S,st,ev,p⟩=>X5 (rel:=AX X.K) st ev p fun ρ1 H1 v x S1 st1 g1 ev1 a1 p1=>X5 (rel:=AX X.K) st1 ev1 p1 fun ρ2 H2 u y S2 st2 g2 ev2 a2 p2=>by
    have ax:=a1.mv (g2.mv st1) g2.pre
    obtain ⟨d,hl,p3⟩:=(show Z23 X.K Z ρ2 H2 Wx σ Q (Z4r (X2e S2 x y) S2) from p2).opt
    unfold X2e at hl
    cases x with
    | d _=>cases hl
    | r n =>
      cases y with
      | r _=>cases hl
      | d k =>
        have hl:(match S2[n]?,k.leafS? with
          | some (.ldc kvs),some q=>Z4x kvs q
          | _,_=>none)=some d:=hl
        cases z:S2[n]? with
        | none=>rw [z] at hl; cases hl
        | some ob =>
          rw [z] at hl
          cases ob with
          | ldc kvs =>
            cases zq:k.leafS? with
            | none=>rw [zq] at hl; cases hl
            | some q =>
              rw [zq] at hl
              cases ax with
              | r ea =>
                rename_i c
                obtain ⟨xs,hc,kv⟩:=st2.ob n _ _ z ea
                obtain ⟨w,e2,aw⟩:=LKX.look kv hl
                cases a2 with
                | d a2=>exact ⟨c,xs,q,w,rfl,Z95 zq a2,hc,e2,X6.ret0 p3 st2 aw⟩
          | _=>cases hl
def Y3o (d1 d2 d3:D) (m1 m2 m3:M):M:=fun e S=>(m1 e S).ne.bind fun x1 S1=>(m2 e S1).ne.bind fun x2 S2=>(m3 e S2).ne.bind fun x3 S3 => .ok (.r S3.length) (S3++[.ldc [(d1,x1),(d2,x2),(d3,x3)]])
theorem X2v (hw:X.w=HasW.w) (w1:ME X Wx q1 (m_c d1)) (w2:ME X Wx q2 (m_c d2)) (w3:ME X Wx q3 (m_c d3)) (h1:ME X Wx v1 m1) (h2:ME X Wx v2 m2) (h3:ME X Wx v3 m3) (e1:d1.leafS?=some k1) (e2:d2.leafS?=some k2) (e3:d3.leafS?=some k3) (nd:[k1,k2,k3].Nodup) :
    ME X Wx (.Dict [some q1,some q2,some q3] [v1,v2,v3] pos) (Y3o d1 d2 d3 m1 m2 m3) :=
  PE.of (X5u hw (pps_cons w1 h1 (pps_cons w2 h2 (pps_cons w3 h3 pps_nil))) rfl rfl (by simp) (by simp)) fun σ H Q ⟨Z,ρ,e,S,st,ev,p⟩=>fun a ha=>by
    obtain ⟨st0,m0⟩:=st.ahead (u0:=LDo a []) ha
    have ev0:=ev.mv m0 (List.prefix_refl _)
    refine ⟨_,ρ,e,S,st0,ev0,?_⟩
    intro ρ1k H1k kv1 s1k g1k ak1
    have kv1e:kv1=lV k1:=by cases ak1 with | d z=>exact Z95 e1 z
    have ev1k:=ev0.mv (g1k.mv st0) g1k.pre
    refine ⟨_,ρ1k,e,S,s1k,ev1k,?_⟩
    have p:Z23 X.K Z ρ H Wx σ Q ((m1 e S).ne.bind fun x1 S1=>(m2 e S1).ne.bind fun x2 S2=>(m3 e S2).ne.bind fun x3 S3 => .ok (.r S3.length) (S3++[.ldc [(d1,x1),(d2,x2),(d3,x3)]])):=p
    cases hm1:m1 e S with
    | err C fs S1=>rw [hm1] at p; exact p.elim
    | bad=>rw [hm1] at p; exact p.elim
    | ok x1 S1 =>
      rw [hm1] at p
      intro ρ1 H1 xv1 s1 g1 a1
      have ev1:=ev1k.mv (g1.mv s1k) g1.pre
      refine ⟨_,ρ1,e,S1,s1,ev1,?_⟩
      intro ρ2k H2k kv2 s2k g2k ak2
      have kv2e:kv2=lV k2:=by cases ak2 with | d z=>exact Z95 e2 z
      have ev2k:=ev1.mv (g2k.mv s1) g2k.pre
      refine ⟨_,ρ2k,e,S1,s2k,ev2k,?_⟩
      have p:Z23 X.K Z ρ H Wx σ Q ((m2 e S1).ne.bind fun x2 S2=>(m3 e S2).ne.bind fun x3 S3 => .ok (.r S3.length) (S3++[.ldc [(d1,x1),(d2,x2),(d3,x3)]])):=p
      cases hm2:m2 e S1 with
      | err C fs S1=>rw [hm2] at p; exact p.elim
      | bad=>rw [hm2] at p; exact p.elim
      | ok x2 S2 =>
        rw [hm2] at p
        intro ρ2 H2 xv2 s2 g2 a2
        have ev2:=ev2k.mv (g2.mv s2k) g2.pre
        refine ⟨_,ρ2,e,S2,s2,ev2,?_⟩
        intro ρ3k H3k kv3 s3k g3k ak3
        have kv3e:kv3=lV k3:=by cases ak3 with | d z=>exact Z95 e3 z
        have ev3k:=ev2.mv (g3k.mv s2) g3k.pre
        refine ⟨_,ρ3k,e,S2,s3k,ev3k,?_⟩
        have p:Z23 X.K Z ρ H Wx σ Q ((m3 e S2).ne.bind fun x3 S3 => .ok (.r S3.length) (S3++[.ldc [(d1,x1),(d2,x2),(d3,x3)]])):=p
        cases hm3:m3 e S2 with
        | err C fs S1=>rw [hm3] at p; exact p.elim
        | bad=>rw [hm3] at p; exact p.elim
        | ok x3 S3 =>
          rw [hm3] at p
          intro ρ3 H3 xv3 s3 g3 a3
          have p:Z23 X.K Z ρ H Wx σ Q (.ok (.r S3.length) (S3++[.ldc [(d1,x1),(d2,x2),(d3,x3)]])):=p
          have gg:=(((((g1k).trans g1).trans g2k).trans g2).trans g3k).trans g3
          have na:a ∉ ρ:=fun z=>st.fresh ha (.inr z)
          have hH:H3 a=some (LDo a []):=(gg.keep a _ na upd_same).2
          refine ⟨hH,[(k1,xv1),(k2,xv2),(k3,xv3)],by rw [kv1e,kv2e,kv3e]; rfl,nd,?_⟩
          have b1:=(((a1).mv (g2k.mv s1) g2k.pre).mv (g2.mv s2k) g2.pre).mv (g3k.mv s2) g3k.pre |>.mv (g3.mv s3k) g3.pre
          have b2:=((a2).mv (g3k.mv s2) g3k.pre).mv (g3.mv s3k) g3.pre
          have b3:=a3
          have kv:LKX X.K (Wn (fun c=>Z c ∨ c=a) ρ3) ρ3 H3 [(d1,x1),(d2,x2),(d3,x3)] [(k1,xv1),(k2,xv2),(k3,xv3)] := .cons ⟨Z84 e1,b1⟩ (.cons ⟨Z84 e2,b2⟩ (.cons ⟨Z84 e3,b3⟩ .nil))
          obtain ⟨sN,gN⟩:=st.fill (u:=LDo a [(k1,xv1),(k2,xv2),(k3,xv3)]) (o' := .ldc [(d1,x1),(d2,x2),(d3,x3)]) ha gg s3 fun m2=>⟨_,upd_same,Paired.mapP kv fun _ _ z=>⟨z.1,z.2.mv m2 (List.prefix_append _ _)⟩⟩
          exact p _ _ _ sN gN (.r (by rw [s3.len]; simp))
end
end Bv
namespace Lw
open PySem PySem.Spec L2 Bv
open PyProof.Rows hiding St
structure Facts (K:PySem.W.Frag) (mg:Str→Option Value):Prop where
  v_HEADS:Z9i "HEADS" ["marks", "shown", "asked"] K=true
  g_HEADS:mg "HEADS" = some (.ref (He.ga K "HEADS"))
  f_enumerate:mg "enumerate" = none
  f_len:mg "len" = none
  g_InvalidText:mg "InvalidText" = some (.ref (He.ga K "InvalidText"))
  f_isinstance:mg "isinstance" = none
  is_str:IsT K (.type "str") (Y1q "str") [("Row",false),("Tool",false),("Story",false)]
  f_str:mg "str" = none
  v_BARRED:Z9i "BARRED" ["any", "same", "take", "keep", "to"] K=true
  g_BARRED:mg "BARRED" = some (.ref (He.ga K "BARRED"))
  i_MOST_LETTERS:∃ t,mg "MOST_LETTERS" = some (.int 5 t)
  s_LETTERS:∃ t,mg "LETTERS" = some (.str "abcdefghijklmnopqrstuvwxyz" t)
  f_all:mg "all" = none
  g_is_name:mg "is_name" = some (.ref (He.ga K "is_name"))
  g_names_in:mg "names_in" = some (.ref (He.ga K "names_in"))
  catch_InvalidText:X4m K (.ref (He.ga K "InvalidText")) [("InvalidRow",false),("InvalidTool",false),("InvalidText",true),("InvalidEvent",false)]
  rs_InvalidText:W1p K [("InvalidRow",false),("InvalidTool",false),("InvalidText",true),("InvalidEvent",false)]
  v_TAKINGS:Z9i "TAKINGS" ["keep", "take"] K=true
  g_TAKINGS:mg "TAKINGS" = some (.ref (He.ga K "TAKINGS"))
  catch_InvalidRow:X4m K (.ref (He.ga K "InvalidRow")) [("InvalidRow",true),("InvalidTool",false),("InvalidText",false),("InvalidEvent",false)]
  rs_InvalidRow:W1p K [("InvalidRow",true),("InvalidTool",false),("InvalidText",false),("InvalidEvent",false)]
  v_HAPPENINGS:Z9i "HAPPENINGS" ["give", "carry", "drop", "back", "right", "wrong"] K=true
  g_HAPPENINGS:mg "HAPPENINGS" = some (.ref (He.ga K "HAPPENINGS"))
  g_is_word:mg "is_word" = some (.ref (He.ga K "is_word"))
  g_InvalidRow:mg "InvalidRow" = some (.ref (He.ga K "InvalidRow"))
  is_bool:IsT K (.type "bool") (Y1q "bool") [("Row",false),("Tool",false),("Story",false)]
  f_bool:mg "bool" = none
  at_Row_word:Z1m K ["Row"] "word"
  at_Row_old:Z1m K ["Row"] "old"
  at_Row_then:Z1m K ["Row"] "then"
  at_Row_take:Z1m K ["Row"] "take"
  M_Row:Mk K (He.ga K "Row") (He.ma K (He.ga K "Row") "__init__")
  g_Row:mg "Row" = some (.ref (He.ga K "Row"))
  cm_Row_read:ClsM K "Row" "read"
  iss_list_tuple:IsTs K [.type "list", .type "tuple"] (X37 ["list", "tuple"]) [("Row",false),("Tool",false),("Story",false)]
  f_list:mg "list" = none
  f_tuple:mg "tuple" = none
  g_is_sequence:mg "is_sequence" = some (.ref (He.ga K "is_sequence"))
  f_set:mg "set" = none
  g_are_unlike:mg "are_unlike" = some (.ref (He.ga K "are_unlike"))
  g_are_names:mg "are_names" = some (.ref (He.ga K "are_names"))
  g_InvalidTool:mg "InvalidTool" = some (.ref (He.ga K "InvalidTool"))
  is_Row:IsT K (.ref (He.ga K "Row")) Y8f [("Row",true),("Tool",false),("Story",false)]
  f_any:mg "any" = none
  at_Tool_marks:Z1m K ["Tool"] "marks"
  at_Tool_shown:Z1m K ["Tool"] "shown"
  at_Tool_asked:Z1m K ["Tool"] "asked"
  at_Tool_rows:Z1m K ["Tool"] "rows"
  at_Tool_blank:Z1m K ["Tool"] "blank"
  M_Tool:Mk K (He.ga K "Tool") (He.ma K (He.ga K "Tool") "__init__")
  g_Tool:mg "Tool" = some (.ref (He.ga K "Tool"))
  cm_Tool_read:ClsM K "Tool" "read"
  f_min:mg "min" = none
  f_max:mg "max" = none
  f_range:mg "range" = none
  f_abs:mg "abs" = none
  f_int:mg "int" = none
  g__law_seed:mg "_law_seed" = some (.ref (He.ga K "_law_seed"))
  g__law_choose:mg "_law_choose" = some (.ref (He.ga K "_law_choose"))
  g__law_cases:mg "_law_cases" = some (.ref (He.ga K "_law_cases"))
  at_Book_maker:Z1m K ["Book"] "maker"
  at_Book_entries:Z1m K ["Book"] "entries"
  at_Book_editions:Z1m K ["Book"] "editions"
  at_Book_held:Z1m K ["Book"] "held"
  M_Book:Mk K (He.ga K "Book") (He.ma K (He.ga K "Book") "__init__")
  g_Book:mg "Book" = some (.ref (He.ga K "Book"))
  at_Story_moves:Z1m K ["Story"] "moves"
  f_dict:mg "dict" = none
  at_Entry_mark:Z1m K ["Entry"] "mark"
  at_Entry_text:Z1m K ["Entry"] "text"
  M_Entry:Mk K (He.ga K "Entry") (He.ma K (He.ga K "Entry") "__init__")
  g_Entry:mg "Entry" = some (.ref (He.ga K "Entry"))
  c_Book:Cls K (He.ga K "Book")
  m_Book_entry:Meth K (He.ga K "Book") "entry" (He.ma K (He.ga K "Book") "entry")
  c_Row:Cls K (He.ga K "Row")
  m_Row_fits:Meth K (He.ga K "Row") "fits" (He.ma K (He.ga K "Row") "fits")
  c_Tool:Cls K (He.ga K "Tool")
  m_Tool_row_for:Meth K (He.ga K "Tool") "row_for" (He.ma K (He.ga K "Tool") "row_for")
  m_Tool_becomes:Meth K (He.ga K "Tool") "becomes" (He.ma K (He.ga K "Tool") "becomes")
  m_Book_put:Meth K (He.ga K "Book") "put" (He.ma K (He.ga K "Book") "put")
  m_Book_happen:Meth K (He.ga K "Book") "happen" (He.ma K (He.ga K "Book") "happen")
  m_Book_source_of:Meth K (He.ga K "Book") "source_of" (He.ma K (He.ga K "Book") "source_of")
  m_Book_come:Meth K (He.ga K "Book") "come" (He.ma K (He.ga K "Book") "come")
  at_Story_Book_editions:Z1m K ["Story", "Book"] "editions"
  m_Book_edit:Meth K (He.ga K "Book") "edit" (He.ma K (He.ga K "Book") "edit")
  m_Book_do:Meth K (He.ga K "Book") "do" (He.ma K (He.ga K "Book") "do")
  g_is_lost:mg "is_lost" = some (.ref (He.ga K "is_lost"))
  c_Entry:Cls K (He.ga K "Entry")
  m_Entry_told:Meth K (He.ga K "Entry") "told" (He.ma K (He.ga K "Entry") "told")
  g_ways_from:mg "ways_from" = some (.ref (He.ga K "ways_from"))
  g_is_stuck:mg "is_stuck" = some (.ref (He.ga K "is_stuck"))
  g_faults_of:mg "faults_of" = some (.ref (He.ga K "faults_of"))
  v_FAULTS:Z9i "FAULTS" ["again", "fallen", "lost", "strange", "stuck", "vain"] K=true
  g_FAULTS:mg "FAULTS" = some (.ref (He.ga K "FAULTS"))
  f_sorted:mg "sorted" = none
  at_Played_book:Z1m K ["Played"] "book"
  m_Book_shows_for:Meth K (He.ga K "Book") "shows_for" (He.ma K (He.ga K "Book") "shows_for")
  at_Played_shows:Z1m K ["Played"] "shows"
  at_Played_asks:Z1m K ["Played"] "asks"
  at_Played_now:Z1m K ["Played"] "now"
  at_Played_met:Z1m K ["Played"] "met"
  M_Played:Mk K (He.ga K "Played") (He.ma K (He.ga K "Played") "__init__")
  g_Played:mg "Played" = some (.ref (He.ga K "Played"))
  g_InvalidEvent:mg "InvalidEvent" = some (.ref (He.ga K "InvalidEvent"))
  s_DIGITS:∃ t,mg "DIGITS" = some (.str "0123456789" t)
  g_number_in:mg "number_in" = some (.ref (He.ga K "number_in"))
  g_is_key:mg "is_key" = some (.ref (He.ga K "is_key"))
  g_place_in:mg "place_in" = some (.ref (He.ga K "place_in"))
  g_places_in:mg "places_in" = some (.ref (He.ga K "places_in"))
  g_move_in:mg "move_in" = some (.ref (He.ga K "move_in"))
  g_keys_of:mg "keys_of" = some (.ref (He.ga K "keys_of"))
  g_is_possible:mg "is_possible" = some (.ref (He.ga K "is_possible"))
  at_Story_events:Z1m K ["Story"] "events"
  at_Story_editions:Z1m K ["Story"] "editions"
  g_needs_of:mg "needs_of" = some (.ref (He.ga K "needs_of"))
  g_all_needs:mg "all_needs" = some (.ref (He.ga K "all_needs"))
  at_Story_asked_for:Z1m K ["Story"] "asked_for"
  M_Story:Mk K (He.ga K "Story") (He.ma K (He.ga K "Story") "__init__")
  g_Story:mg "Story" = some (.ref (He.ga K "Story"))
  g_play:mg "play" = some (.ref (He.ga K "play"))
  g_law:mg "law" = some (.ref (He.ga K "law"))
section
variable [HasW] {P:Program} {K:PySem.W.Frag} {mg:Str→Option Value} {base:Heap} {f:Addr} {fd:FuncData} {dl:List V} (Fx:Facts K mg)
def Z7y:List Str:=["value", "sign"]
theorem Z9a:Z7y.Nodup:=by decide +kernel
theorem X0u:FnScope Z7y ["value"] (defScope Z2r):=⟨rfl,rfl,rfl,Z9a,rfl,by decide +kernel,by decide +kernel⟩
def Y4z:MS:=Z9 (Z0r (Z2b (Q4 (W9 (Z86 (Y1q "str") [("Row",false),("Tool",false),("Story",false)] (Z4 0)))) (Z2b (U4 (Y5 inD (Z4 0) (m_c (.tup ((["any", "same", "take", "keep", "to"]:List Str).map D.str))))) (Q4 (U4 (Z16 leD leD (m_c (.int 1)) (Z8 Z3e (Z3 (Z4 0) (Z7))) (m_c (.int 5))))))) (V1 (m_c (.bl false))) (V4)) (V1 (Z8 (Y41 fun l=>l.all id) (Z3 (Z3r (.nm 1) (Z0c (Z4 0)) (W0) (Y5 inD (Z4 1) (m_c (.str "abcdefghijklmnopqrstuvwxyz"))) [1]) (Z7))))
def g_is_name:List D→PR:=Z6v 2 Y4z
include Fx in
theorem X0m  (F:FunD K "is_name" "is_name" (defArgs Z2r) (defBody Z2r) (defScope Z2r) dl [] f fd):FnG P HasW.w K mg base 1 f fd ["value"] (spP K 1 g_is_name):=fnP F X0u fun cdv A outer s H E gu room=>by
  have h:Here (cxB P HasW.w K mg base Z7y "is_name" (defScope Z2r) f cdv A outer s H E) (wxE E) 0:=V5 gu room
  unfold Y4z
  exact Z6 (Q9 (Z6a (Z47 (Z01 (V6 (Y1e rfl Fx.f_isinstance (Z0 0) (X7b rfl Fx.f_str) Fx.is_str (.ty _)))) (Z47 (W7 h.in_ (Z0 0) (Y03 rfl Fx.g_BARRED Fx.v_BARRED)) (Z3v (Z01 (X34 h.le h.le (Y8) (Q5 Z24 Z3c rfl Fx.f_len (Z1 (Z0 0) (Z5))) (W14 rfl Fx.i_MOST_LETTERS))))))) (Y2 (U0 (Z44))) (X8)) (Y2 (U0 (Q5 (cr_all rfl) Y3d rfl Fx.f_all (Z1 (Z4h (own:=[("sign",1)]) (t:=(.nm 1)) rfl Z9a (Z0i (Z0 0)) (blkOk_by (N:=Z7y) (sc:=defScope Z2r) (by decide +kernel)) (by decide) (fun _ _ _ _ _=>Y7 (i:=1) Z9a rfl (by first | exact Or.inl rfl | exact Or.inr rfl)) (fun _ _ _ _ _=>Z0a) (fun _ _ _ _ _=>Z4p (h.blk _ _ _ _ _).in_ (Z0 1) (X6p rfl Fx.s_LETTERS))) (Z5)))))
def Z6y:List Str:=["line", "head", "words", "one"]
theorem Z53:Z6y.Nodup:=by decide +kernel
theorem Y77:FnScope Z6y ["line", "head"] (defScope Z19):=⟨rfl,rfl,rfl,Z53,rfl,by decide +kernel,by decide +kernel⟩
def Y2g:MS:=Z9 (W3 2 (Z5z Z3d (Z4 0) (m_c (.str " ")))) (Z9 (Z0r (Z2b (U4 (Y5 neD (Z03 (Z4 2) (m_c (.int 0))) (Z4 1))) (Q4 (W9 (Z8 (Y41 fun l=>l.all id) (Z3 (Z3r (.nm 3) (Z0c (Z1j (Z4 2) (Z20 (m_c (.int 1))) (Y2v))) (W0) (Z8 (X9 1 (W1 [] (callP g_is_name))) (Z3 (Z4 3) (Z7))) [3]) (Z7)))))) (V1 (m_c .non)) (V4)) (V1 (Z6c (Q8 (U4 (Y5 eqD (Z4 1) (m_c (.str "marks")))) (U4 (Y5 eqD (Z8 Z3e (Z3 (Z4 2) (Z7))) (m_c (.int 1))))) (m_c .non) (Z1j (Z4 2) (Z20 (m_c (.int 1))) (Y2v)))))
def g_names_in:List D→PR:=Z6v 4 Y2g
include Fx in
theorem Y7z (K_is_name:Kept P HasW.w K mg base 1 (He.ga K "is_name") (spP K 1 g_is_name)) (F:FunD K "names_in" "names_in" (defArgs Z19) (defBody Z19) (defScope Z19) dl [] f fd):FnG P HasW.w K mg base 2 f fd ["line", "head"] (spP K 2 g_names_in):=fnP F Y77 fun cdv A outer s H E gu room=>by
  have h:Here (cxB P HasW.w K mg base Z6y "names_in" (defScope Z19) f cdv A outer s H E) (wxE E) 1:=V5 gu room
  unfold Y2g
  exact Z6 (V7 (i:=2) Z53 rfl (by first | exact Or.inl rfl | exact Or.inr rfl) (Z60 (Z0 0) (Y4))) (Z6 (Q9 (Z6a (Z47 (W7 h.ne (Z0g (Z0 2) (Y8)) (Z0 1)) (Z3v (Z01 (V6 (Q5 (cr_all rfl) Y3d rfl Fx.f_all (Z1 (Z4h (own:=[("one",3)]) (t:=(.nm 3)) rfl Z53 (Z0i (Z38 (Z0 2) (Z51 (Y8)) (Z50))) (blkOk_by (N:=Z6y) (sc:=defScope Z19) (by decide +kernel)) (by decide) (fun _ _ _ _ _=>Y7 (i:=3) Z53 rfl (by first | exact Or.inl rfl | exact Or.inr rfl)) (fun _ _ _ _ _=>Z0a) (fun _ _ _ _ _=>V8 ((h.blk _ _ _ _ _).callP K_is_name (by decide)) rfl Fx.g_is_name K_is_name.kp (Z1 (Z0 3) (Z5)))) (Z5)))))))) (Y2 (U0 (U5))) (X8)) (Y2 (U0 (Z45 (Z6a (Z1p (W7 h.eq (Z0 1) (Y4)) (Z1k (W7 h.eq (Q5 Z24 Z3c rfl Fx.f_len (Z1 (Z0 2) (Z5))) (Y8))))) (U5) (Z38 (Z0 2) (Z51 (Y8)) (Z50))))))
def Y0c:List Str:=["value", "words"]
theorem X0i:Y0c.Nodup:=by decide +kernel
theorem X0v:FnScope Y0c ["value", "words"] (defScope Z3b):=⟨rfl,rfl,rfl,X0i,rfl,by decide +kernel,by decide +kernel⟩
def Y40:MS:=V1 (Z4g (Z86 (Y1q "str") [("Row",false),("Tool",false),("Story",false)] (Z4 0)) (Y5 inD (Z4 0) (Z4 1)))
def g_is_word:List D→PR:=Z6v 2 Y40
include Fx in
theorem X0n  (F:FunD K "is_word" "is_word" (defArgs Z3b) (defBody Z3b) (defScope Z3b) dl [] f fd):FnG P HasW.w K mg base 1 f fd ["value", "words"] (spP K 2 g_is_word):=fnP F X0v fun cdv A outer s H E gu room=>by
  have h:Here (cxB P HasW.w K mg base Y0c "is_word" (defScope Z3b) f cdv A outer s H E) (wxE E) 0:=V5 gu room
  unfold Y40
  exact Y2 (U0 (Z7b (Y1e rfl Fx.f_isinstance (Z0 0) (X7b rfl Fx.f_str) Fx.is_str (.ty _)) (Z8e (Z4p h.in_ (Z0 0) (Z0 1)))))
def Z8o:List Str:=["self", "word", "old", "then", "take"]
theorem Y7r:Z8o.Nodup:=by decide +kernel
theorem Y74:FnScope Z8o ["self", "word", "old", "then", "take"] (defScope Z2m):=⟨rfl,rfl,rfl,Y7r,rfl,by decide +kernel,by decide +kernel⟩
def Y2d:MS:=Z9 (Z0r (Q4 (W9 (Z8 (X9 2 (W1 [] (callP g_is_word))) (Z3 (Z4 1) (Z3 (m_c (.tup ((["give", "carry", "drop", "back", "right", "wrong"]:List Str).map D.str))) (Z7)))))) (Z1l "InvalidRow" "word" (Z3 (m_c (.str "word")) (Z7))) (V4)) (Z9 (Z0r (Q8 (U4 (Y5 neD (Z4 2) (m_c (.str "any")))) (Q4 (W9 (Z8 (X9 1 (W1 [] (callP g_is_name))) (Z3 (Z4 2) (Z7)))))) (Z1l "InvalidRow" "word" (Z3 (m_c (.str "old")) (Z7))) (V4)) (Z9 (Z0r (Q8 (U4 (Y5 neD (Z4 3) (m_c (.str "same")))) (Q4 (W9 (Z8 (X9 1 (W1 [] (callP g_is_name))) (Z3 (Z4 3) (Z7)))))) (Z1l "InvalidRow" "word" (Z3 (m_c (.str "then")) (Z7))) (V4)) (Z9 (Z0r (Z2b (Q4 (W9 (Z86 (Y1q "bool") [("Row",false),("Tool",false),("Story",false)] (Z4 4)))) (Q8 (U4 (Y5 neD (Z4 1) (m_c (.str "give")))) (Q4 (W9 (Z4 4))))) (Z1l "InvalidRow" "word" (Z3 (m_c (.str "take")) (Z7))) (V4)) (Z9 (Z2d ["Row"] "word" (Z4 0) (Z4 1)) (Z9 (Z2d ["Row"] "old" (Z4 0) (Z4 2)) (Z9 (Z2d ["Row"] "then" (Z4 0) (Z4 3)) (Z2d ["Row"] "take" (Z4 0) (Z4 4))))))))
def Z81:List X→Sto→R X:=Y1k 5 Y2d
include Fx in
theorem Y7w (X_InvalidRow:Xe.ErrOk P K (He.ga K "InvalidRow") (Y7d "InvalidRow" K) "word") (K_is_word:Kept P HasW.w K mg base 1 (He.ga K "is_word") (spP K 2 g_is_word)) (K_is_name:Kept P HasW.w K mg base 1 (He.ga K "is_name") (spP K 1 g_is_name)) (F:FunD K "__init__" "Row.__init__" (defArgs Z2m) (defBody Z2m) (defScope Z2m) dl [] f fd):FnG P HasW.w K mg base 2 f fd ["self", "word", "old", "then", "take"] (spE K 5 Z81):=fnE F Y74 fun cdv A outer s H E gu room=>by
  have h:Here (cxB P HasW.w K mg base Z8o "Row.__init__" (defScope Z2m) f cdv A outer s H E) (wxE E) 1:=V5 gu room
  unfold Y2d
  exact Z6 (Q9 (Z01 (V6 (V8 (h.callP K_is_word (by decide)) rfl Fx.g_is_word K_is_word.kp (Z1 (Z0 1) (Z1 (Y03 rfl Fx.g_HAPPENINGS Fx.v_HAPPENINGS) (Z5)))))) (Y2 (Z1o rfl h X_InvalidRow Fx.g_InvalidRow rfl (Z1 (Y4) (Z5)))) (X8)) (Z6 (Q9 (Z6a (Z1p (W7 h.ne (Z0 2) (Y4)) (Z1k (Z01 (V6 (V8 (h.callP K_is_name (by decide)) rfl Fx.g_is_name K_is_name.kp (Z1 (Z0 2) (Z5)))))))) (Y2 (Z1o rfl h X_InvalidRow Fx.g_InvalidRow rfl (Z1 (Y4) (Z5)))) (X8)) (Z6 (Q9 (Z6a (Z1p (W7 h.ne (Z0 3) (Y4)) (Z1k (Z01 (V6 (V8 (h.callP K_is_name (by decide)) rfl Fx.g_is_name K_is_name.kp (Z1 (Z0 3) (Z5)))))))) (Y2 (Z1o rfl h X_InvalidRow Fx.g_InvalidRow rfl (Z1 (Y4) (Z5)))) (X8)) (Z6 (Q9 (Z6a (Z47 (Z01 (V6 (Y1e rfl Fx.f_isinstance (Z0 4) (X7b rfl Fx.f_bool) Fx.is_bool (.ty _)))) (Z3v (Z6a (Z1p (W7 h.ne (Z0 1) (Y4)) (Z1k (Z01 (V6 (Z0 4))))))))) (Y2 (Z1o rfl h X_InvalidRow Fx.g_InvalidRow rfl (Z1 (Y4) (Z5)))) (X8)) (Z6 (Z2c ["Row"] Fx.at_Row_word (Z0 0) (Z0 1)) (Z6 (Z2c ["Row"] Fx.at_Row_old (Z0 0) (Z0 2)) (Z6 (Z2c ["Row"] Fx.at_Row_then (Z0 0) (Z0 3)) (Y2 (Z2c ["Row"] Fx.at_Row_take (Z0 0) (Z0 4)))))))))
def Z8p:List Str:=["cls", "text", "words", "take", "error"]
theorem Z3p:Z8p.Nodup:=by decide +kernel
theorem Y75:FnScope Z8p ["cls", "text"] (defScope Z2n):=⟨rfl,rfl,rfl,Z3p,rfl,by decide +kernel,by decide +kernel⟩
def Y2e:MS:=Z9 (W3 2 (Z5z Z3d (Z4 1) (m_c (.str " ")))) (Z9 (W3 3 (m_c (.bl true))) (Z9 (Z0r (Q8 (U4 (Y5 eqD (Z03 (Z4 2) (m_c (.int 0))) (m_c (.str "give")))) (Q8 (U4 (Y5 eqD (Z8 Z3e (Z3 (Z4 2) (Z7))) (m_c (.int 5)))) (U4 (Y5 inD (Z03 (Z4 2) (m_c (.int 2))) (m_c (.tup ((["keep", "take"]:List Str).map D.str))))))) (Z9 (W3 3 (Y5 eqD (Z03 (Z4 2) (m_c (.int 2))) (m_c (.str "take")))) (W3 2 (Z2h (Z33 (Z1j (Z4 2) (Y2v) (Z20 (m_c (.int 2)))) (Z33 (Z1j (Z4 2) (Z20 (m_c (.int 3))) (Y2v)) (Z7)))))) (Z0r (U4 (Y5 eqD (Z03 (Z4 2) (m_c (.int 0))) (m_c (.str "give")))) (Z1l "InvalidText" "at" (Z3 (m_c (.int 0)) (Z7))) (V4))) (Z9 (Z0r (Z2b (U4 (Y5 neD (Z8 Z3e (Z3 (Z4 2) (Z7))) (m_c (.int 4)))) (U4 (Y5 neD (Z03 (Z4 2) (m_c (.int 2))) (m_c (.str "to"))))) (Z1l "InvalidText" "at" (Z3 (m_c (.int 0)) (Z7))) (V4)) (Y9s [("InvalidRow",true),("InvalidTool",false),("InvalidText",false),("InvalidEvent",false)] (V1 (Y7j 0 "Row" (X9 4 (W1 [] (made "Row" mkF Z81))) (Z3 (Z03 (Z4 2) (m_c (.int 0))) (Z3 (Z03 (Z4 2) (m_c (.int 1))) (Z3 (Z03 (Z4 2) (m_c (.int 3))) (Z3 (Z4 3) (Z7))))))) 4 "InvalidText" "at" (fun lv=>x_c (.int 0))))))
def Z82:List D→PR:=Z6v 5 Y2e
include Fx in
theorem Y7x (X_InvalidText:Xe.ErrOk P K (He.ga K "InvalidText") (Y7d "InvalidText" K) "at") (K_Row_init:Kept P HasW.w K mg base 2 (He.ma K (He.ga K "Row") "__init__") (spE K 5 Z81)) (F:FunD K "read" "Row.read" (defArgs Z2n) (defBody Z2n) (defScope Z2n) dl [] f fd):FnG P HasW.w K mg base 4 f fd ["cls", "text"] (spP K 2 Z82):=fnP F Y75 fun cdv A outer s H E gu room=>by
  have h:Here (cxB P HasW.w K mg base Z8p "Row.read" (defScope Z2n) f cdv A outer s H E) (wxE E) 3:=V5 gu room
  unfold Y2e
  exact Z6 (V7 (i:=2) Z3p rfl (by first | exact Or.inl rfl | exact Or.inr rfl) (Z60 (Z0 1) (Y4))) (Z6 (V7 (i:=3) Z3p rfl (by first | exact Or.inl rfl | exact Or.inr rfl) (Z44)) (Z6 (Q9 (Z6a (Z1p (W7 h.eq (Z0g (Z0 2) (Y8)) (Y4)) (Z1p (W7 h.eq (Q5 Z24 Z3c rfl Fx.f_len (Z1 (Z0 2) (Z5))) (Y8)) (Z1k (W7 h.in_ (Z0g (Z0 2) (Y8)) (Y03 rfl Fx.g_TAKINGS Fx.v_TAKINGS)))))) (Z6 (V7 (i:=3) Z3p rfl (by first | exact Or.inl rfl | exact Or.inr rfl) (Z4p h.eq (Z0g (Z0 2) (Y8)) (Y4))) (Y2 (V7 (i:=2) Z3p rfl (by first | exact Or.inl rfl | exact Or.inr rfl) (Z3k (Z87 (Z38 (Z0 2) (Z50) (Z51 (Y8))) (Z87 (Z38 (Z0 2) (Z51 (Y8)) (Z50)) (Z5))))))) (Y2 (Q9 (W7 h.eq (Z0g (Z0 2) (Y8)) (Y4)) (Y2 (Z1o rfl h X_InvalidText Fx.g_InvalidText rfl (Z1 (Y8) (Z5)))) (X8)))) (Z6 (Q9 (Z6a (Z47 (W7 h.ne (Q5 Z24 Z3c rfl Fx.f_len (Z1 (Z0 2) (Z5))) (Y8)) (Z3v (W7 h.ne (Z0g (Z0 2) (Y8)) (Y4))))) (Y2 (Z1o rfl h X_InvalidText Fx.g_InvalidText rfl (Z1 (Y8) (Z5)))) (X8)) (Y2 (X24 h rfl rfl Z3p rfl rfl ⟨rfl,by decide, .inl Fx.g_InvalidRow⟩ Fx.catch_InvalidRow Fx.rs_InvalidRow.at Y9n (fun W pn xe h=>Y2 (U0 (Y9g 0 (h.make Y1y (n:=4) Fx.M_Row K_Row_init (by decide)) Fx.M_Row.kp (Z1 (Z0g (Z0 2) (Y8)) (Z1 (Z0g (Z0 2) (Y8)) (Z1 (Z0g (Z0 2) (Y8)) (Z1 (Z0 3) (Z5)))))))) X_InvalidText Fx.g_InvalidText rfl (fun lv=>W3q))))))
def Z5o:List Str:=["value"]
theorem Y1z:Z5o.Nodup:=by decide +kernel
theorem Y18:FnScope Z5o ["value"] (defScope Z00):=⟨rfl,rfl,rfl,Y1z,rfl,by decide +kernel,by decide +kernel⟩
def Z73:MS:=V1 (Z86 (X37 ["list", "tuple"]) [("Row",false),("Tool",false),("Story",false)] (Z4 0))
def g_is_sequence:List D→PR:=Z6v 1 Z73
include Fx in
theorem Y13  (F:FunD K "is_sequence" "is_sequence" (defArgs Z00) (defBody Z00) (defScope Z00) dl [] f fd):FnG P HasW.w K mg base 1 f fd ["value"] (spP K 1 g_is_sequence):=fnP F Y18 fun cdv A outer s H E gu room=>by
  have h:Here (cxB P HasW.w K mg base Z5o "is_sequence" (defScope Z00) f cdv A outer s H E) (wxE E) 0:=V5 gu room
  unfold Z73
  exact Y2 (U0 (X9a rfl Fx.f_isinstance (Z0 0) (X7b rfl Fx.f_list) (X7b rfl Fx.f_tuple) Fx.iss_list_tuple (.ty _) (.ty _)))
def Z6k:List Str:=["values"]
theorem Y30:Z6k.Nodup:=by decide +kernel
theorem Y4j:FnScope Z6k ["values"] (defScope Z1g):=⟨rfl,rfl,rfl,Y30,rfl,by decide +kernel,by decide +kernel⟩
def Z9o:MS:=V1 (Y5 eqD (Z8d (Z4 0)) (Z8 Z3e (Z3 (Z4 0) (Z7))))
def g_are_unlike:List D→PR:=Z6v 1 Z9o
include Fx in
theorem Y39  (F:FunD K "are_unlike" "are_unlike" (defArgs Z1g) (defBody Z1g) (defScope Z1g) dl [] f fd):FnG P HasW.w K mg base 1 f fd ["values"] (spP K 1 g_are_unlike):=fnP F Y4j fun cdv A outer s H E gu room=>by
  have h:Here (cxB P HasW.w K mg base Z6k "are_unlike" (defScope Z1g) f cdv A outer s H E) (wxE E) 0:=V5 gu room
  unfold Z9o
  exact Y2 (U0 (Z4p h.eq (Y5j rfl rfl Fx.f_len rfl Fx.f_set (Z0 0)) (Q5 Z24 Z3c rfl Fx.f_len (Z1 (Z0 0) (Z5)))))
def Z5m:List Str:=["value", "one"]
theorem Z6r:Z5m.Nodup:=by decide +kernel
theorem Y6k:FnScope Z5m ["value"] (defScope Z1f):=⟨rfl,rfl,rfl,Z6r,rfl,by decide +kernel,by decide +kernel⟩
def Y0k:MS:=Z9 (Z0r (Z2b (Q4 (W9 (Z8 (X9 1 (W1 [] (callP g_is_sequence))) (Z3 (Z4 0) (Z7))))) (Q4 (W9 (Z8 (Y41 fun l=>l.all id) (Z3 (Z3r (.nm 1) (Z0c (Z4 0)) (W0) (Z8 (X9 1 (W1 [] (callP g_is_name))) (Z3 (Z4 1) (Z7))) [1]) (Z7)))))) (V1 (m_c (.bl false))) (V4)) (V1 (Z8 (X9 1 (W1 [] (callP g_are_unlike))) (Z3 (Z4 0) (Z7))))
def g_are_names:List D→PR:=Z6v 2 Y0k
include Fx in
theorem Y51 (K_is_sequence:Kept P HasW.w K mg base 1 (He.ga K "is_sequence") (spP K 1 g_is_sequence)) (K_is_name:Kept P HasW.w K mg base 1 (He.ga K "is_name") (spP K 1 g_is_name)) (K_are_unlike:Kept P HasW.w K mg base 1 (He.ga K "are_unlike") (spP K 1 g_are_unlike)) (F:FunD K "are_names" "are_names" (defArgs Z1f) (defBody Z1f) (defScope Z1f) dl [] f fd):FnG P HasW.w K mg base 2 f fd ["value"] (spP K 1 g_are_names):=fnP F Y6k fun cdv A outer s H E gu room=>by
  have h:Here (cxB P HasW.w K mg base Z5m "are_names" (defScope Z1f) f cdv A outer s H E) (wxE E) 1:=V5 gu room
  unfold Y0k
  exact Z6 (Q9 (Z6a (Z47 (Z01 (V6 (V8 (h.callP K_is_sequence (by decide)) rfl Fx.g_is_sequence K_is_sequence.kp (Z1 (Z0 0) (Z5))))) (Z3v (Z01 (V6 (Q5 (cr_all rfl) Y3d rfl Fx.f_all (Z1 (Z4h (own:=[("one",1)]) (t:=(.nm 1)) rfl Z6r (Z0i (Z0 0)) (blkOk_by (N:=Z5m) (sc:=defScope Z1f) (by decide +kernel)) (by decide) (fun _ _ _ _ _=>Y7 (i:=1) Z6r rfl (by first | exact Or.inl rfl | exact Or.inr rfl)) (fun _ _ _ _ _=>Z0a) (fun _ _ _ _ _=>V8 ((h.blk _ _ _ _ _).callP K_is_name (by decide)) rfl Fx.g_is_name K_is_name.kp (Z1 (Z0 1) (Z5)))) (Z5)))))))) (Y2 (U0 (Z44))) (X8)) (Y2 (U0 (V8 (h.callP K_are_unlike (by decide)) rfl Fx.g_are_unlike K_are_unlike.kp (Z1 (Z0 0) (Z5)))))
def Z1i:List Str:=["self", "marks", "shown", "asked", "rows", "row", "one"]
theorem Q6:Z1i.Nodup:=by decide +kernel
theorem Y6g:FnScope Z1i ["self", "marks", "shown", "asked", "rows"] (defScope Q7):=⟨rfl,rfl,rfl,Q6,rfl,by decide +kernel,by decide +kernel⟩
def Y0i:MS:=Z9 (Z0r (Z2b (Q4 (W9 (Z8 (X9 1 (W1 [] (callP g_are_names))) (Z3 (Z4 1) (Z7))))) (U4 (Y5 eqD (Z8 Z3e (Z3 (Z4 1) (Z7))) (m_c (.int 0))))) (Z1l "InvalidTool" "word" (Z3 (m_c (.str "marks")) (Z7))) (V4)) (Z9 (Z0r (Z2b (Q4 (W9 (Z8 (X9 1 (W1 [] (callP g_are_names))) (Z3 (Z4 2) (Z7))))) (Q4 (W9 (Z8 (Y41 fun l=>l.all id) (Z3 (Z3r (.nm 6) (Z0c (Z4 2)) (W0) (Y5 inD (Z4 6) (Z1j (Z4 1) (Z20 (m_c (.int 1))) (Y2v))) [6]) (Z7)))))) (Z1l "InvalidTool" "word" (Z3 (m_c (.str "shown")) (Z7))) (V4)) (Z9 (Z0r (Z2b (Q4 (W9 (Z8 (X9 1 (W1 [] (callP g_are_names))) (Z3 (Z4 3) (Z7))))) (Q4 (W9 (Z8 (Y41 fun l=>l.all id) (Z3 (Z3r (.nm 6) (Z0c (Z4 3)) (W0) (Y5 inD (Z4 6) (Z4 1)) [6]) (Z7)))))) (Z1l "InvalidTool" "word" (Z3 (m_c (.str "asked")) (Z7))) (V4)) (Z9 (Z0r (Z2b (Q4 (W9 (Z8 (X9 1 (W1 [] (callP g_is_sequence))) (Z3 (Z4 4) (Z7))))) (Q4 (W9 (Z8 (Y41 fun l=>l.all id) (Z3 (Z3r (.nm 5) (Z0c (Z4 4)) (W0) (Z86 Y8f [("Row",true),("Tool",false),("Story",false)] (Z4 5)) [5]) (Z7)))))) (Z1l "InvalidTool" "word" (Z3 (m_c (.str "rows")) (Z7))) (V4)) (Z9 (Z0r (Q4 (W9 (Z8 (Y41 fun l=>l.all id) (Z3 (Z3r (.nm 5) (Z0c (Z4 4)) (W0) (Z4g (Y5 inD (Y9 ["Row"] "old" (Z4 5)) (V3 (Z3 (m_c (.str "any")) (Z33 (Z4 1) (Z7))))) (Y5 inD (Y9 ["Row"] "then" (Z4 5)) (V3 (Z3 (m_c (.str "same")) (Z33 (Z4 1) (Z7)))))) [5]) (Z7))))) (Z1l "InvalidTool" "word" (Z3 (m_c (.str "mark")) (Z7))) (V4)) (Z9 (Z0r (W9 (Z8 (Y41 fun l=>l.any id) (Z3 (Z3r (.nm 5) (Z0c (Z4 4)) (W0) (Z4g (Y5 neD (Y9 ["Row"] "word" (Z4 5)) (m_c (.str "give"))) (Y5 eqD (Y9 ["Row"] "old" (Z4 5)) (Z03 (Z4 1) (m_c (.int 0))))) [5]) (Z7)))) (Z1l "InvalidTool" "word" (Z3 (m_c (.str "blank")) (Z7))) (V4)) (Z9 (Z2d ["Tool"] "marks" (Z4 0) (Z8 Z7e (Z3 (Z4 1) (Z7)))) (Z9 (Z2d ["Tool"] "shown" (Z4 0) (Z8 Z7e (Z3 (Z3r (.nm 6) (Z0c (Z4 1)) (U4 (Y5 inD (Z4 6) (Z4 2))) (Z4 6) [6]) (Z7)))) (Z9 (Z2d ["Tool"] "asked" (Z4 0) (Z8 Z7e (Z3 (Z3r (.nm 6) (Z0c (Z4 1)) (U4 (Y5 inD (Z4 6) (Z4 3))) (Z4 6) [6]) (Z7)))) (Z9 (Z2d ["Tool"] "rows" (Z4 0) (Z8 Z7e (Z3 (Z4 4) (Z7)))) (Z2d ["Tool"] "blank" (Z4 0) (Z03 (Z4 1) (m_c (.int 0)))))))))))))
def Z7t:List X→Sto→R X:=Y1k 7 Y0i
include Fx in
theorem Y5x (X_InvalidTool:Xe.ErrOk P K (He.ga K "InvalidTool") (Y7d "InvalidTool" K) "word") (K_are_names:Kept P HasW.w K mg base 2 (He.ga K "are_names") (spP K 1 g_are_names)) (K_is_sequence:Kept P HasW.w K mg base 1 (He.ga K "is_sequence") (spP K 1 g_is_sequence)) (F:FunD K "__init__" "Tool.__init__" (defArgs Q7) (defBody Q7) (defScope Q7) dl [] f fd):FnG P HasW.w K mg base 3 f fd ["self", "marks", "shown", "asked", "rows"] (spE K 5 Z7t):=fnE F Y6g fun cdv A outer s H E gu room=>by
  have h:Here (cxB P HasW.w K mg base Z1i "Tool.__init__" (defScope Q7) f cdv A outer s H E) (wxE E) 2:=V5 gu room
  unfold Y0i
  exact Z6 (Q9 (Z6a (Z47 (Z01 (V6 (V8 (h.callP K_are_names (by decide)) rfl Fx.g_are_names K_are_names.kp (Z1 (Z0 1) (Z5))))) (Z3v (W7 h.eq (Q5 Z24 Z3c rfl Fx.f_len (Z1 (Z0 1) (Z5))) (Y8))))) (Y2 (Z1o rfl h X_InvalidTool Fx.g_InvalidTool rfl (Z1 (Y4) (Z5)))) (X8)) (Z6 (Q9 (Z6a (Z47 (Z01 (V6 (V8 (h.callP K_are_names (by decide)) rfl Fx.g_are_names K_are_names.kp (Z1 (Z0 2) (Z5))))) (Z3v (Z01 (V6 (Q5 (cr_all rfl) Y3d rfl Fx.f_all (Z1 (Z4h (own:=[("one",6)]) (t:=(.nm 6)) rfl Q6 (Z0i (Z0 2)) (blkOk_by (N:=Z1i) (sc:=defScope Q7) (by decide +kernel)) (by decide) (fun _ _ _ _ _=>Y7 (i:=6) Q6 rfl (by first | exact Or.inl rfl | exact Or.inr rfl)) (fun _ _ _ _ _=>Z0a) (fun _ _ _ _ _=>Z4p (h.blk _ _ _ _ _).in_ (Z0 6) (Z38 (Z0 1) (Z51 (Y8)) (Z50)))) (Z5)))))))) (Y2 (Z1o rfl h X_InvalidTool Fx.g_InvalidTool rfl (Z1 (Y4) (Z5)))) (X8)) (Z6 (Q9 (Z6a (Z47 (Z01 (V6 (V8 (h.callP K_are_names (by decide)) rfl Fx.g_are_names K_are_names.kp (Z1 (Z0 3) (Z5))))) (Z3v (Z01 (V6 (Q5 (cr_all rfl) Y3d rfl Fx.f_all (Z1 (Z4h (own:=[("one",6)]) (t:=(.nm 6)) rfl Q6 (Z0i (Z0 3)) (blkOk_by (N:=Z1i) (sc:=defScope Q7) (by decide +kernel)) (by decide) (fun _ _ _ _ _=>Y7 (i:=6) Q6 rfl (by first | exact Or.inl rfl | exact Or.inr rfl)) (fun _ _ _ _ _=>Z0a) (fun _ _ _ _ _=>Z4p (h.blk _ _ _ _ _).in_ (Z0 6) (Z0 1))) (Z5)))))))) (Y2 (Z1o rfl h X_InvalidTool Fx.g_InvalidTool rfl (Z1 (Y4) (Z5)))) (X8)) (Z6 (Q9 (Z6a (Z47 (Z01 (V6 (V8 (h.callP K_is_sequence (by decide)) rfl Fx.g_is_sequence K_is_sequence.kp (Z1 (Z0 4) (Z5))))) (Z3v (Z01 (V6 (Q5 (cr_all rfl) Y3d rfl Fx.f_all (Z1 (Z4h (own:=[("row",5)]) (t:=(.nm 5)) rfl Q6 (Z0i (Z0 4)) (blkOk_by (N:=Z1i) (sc:=defScope Q7) (by decide +kernel)) (by decide) (fun _ _ _ _ _=>Y7 (i:=5) Q6 rfl (by first | exact Or.inl rfl | exact Or.inr rfl)) (fun _ _ _ _ _=>Z0a) (fun _ _ _ _ _=>Y1e rfl Fx.f_isinstance (Z0 5) (W5r rfl Fx.g_Row) Fx.is_Row (.own _))) (Z5)))))))) (Y2 (Z1o rfl h X_InvalidTool Fx.g_InvalidTool rfl (Z1 (Y4) (Z5)))) (X8)) (Z6 (Q9 (Z01 (V6 (Q5 (cr_all rfl) Y3d rfl Fx.f_all (Z1 (Z4h (own:=[("row",5)]) (t:=(.nm 5)) rfl Q6 (Z0i (Z0 4)) (blkOk_by (N:=Z1i) (sc:=defScope Q7) (by decide +kernel)) (by decide) (fun _ _ _ _ _=>Y7 (i:=5) Q6 rfl (by first | exact Or.inl rfl | exact Or.inr rfl)) (fun _ _ _ _ _=>Z0a) (fun _ _ _ _ _=>Z7b (Z4p (h.blk _ _ _ _ _).in_ (Y6 ["Row"] Fx.at_Row_old (Z0 5)) (W4 (Z1 (Y4) (Z87 (Z0 1) (Z5))))) (Z8e (Z4p (h.blk _ _ _ _ _).in_ (Y6 ["Row"] Fx.at_Row_then (Z0 5)) (W4 (Z1 (Y4) (Z87 (Z0 1) (Z5)))))))) (Z5))))) (Y2 (Z1o rfl h X_InvalidTool Fx.g_InvalidTool rfl (Z1 (Y4) (Z5)))) (X8)) (Z6 (Q9 (V6 (Q5 (cr_any rfl) W1u rfl Fx.f_any (Z1 (Z4h (own:=[("row",5)]) (t:=(.nm 5)) rfl Q6 (Z0i (Z0 4)) (blkOk_by (N:=Z1i) (sc:=defScope Q7) (by decide +kernel)) (by decide) (fun _ _ _ _ _=>Y7 (i:=5) Q6 rfl (by first | exact Or.inl rfl | exact Or.inr rfl)) (fun _ _ _ _ _=>Z0a) (fun _ _ _ _ _=>Z7b (Z4p (h.blk _ _ _ _ _).ne (Y6 ["Row"] Fx.at_Row_word (Z0 5)) (Y4)) (Z8e (Z4p (h.blk _ _ _ _ _).eq (Y6 ["Row"] Fx.at_Row_old (Z0 5)) (Z0g (Z0 1) (Y8)))))) (Z5)))) (Y2 (Z1o rfl h X_InvalidTool Fx.g_InvalidTool rfl (Z1 (Y4) (Z5)))) (X8)) (Z6 (Z2c ["Tool"] Fx.at_Tool_marks (Z0 0) (Z08 call_tuple_of Z62 rfl Fx.f_tuple (Z1 (Z0 1) (Z5)))) (Z6 (Z2c ["Tool"] Fx.at_Tool_shown (Z0 0) (Z08 call_tuple_of Z62 rfl Fx.f_tuple (Z1 (Z4h (own:=[("one",6)]) (t:=(.nm 6)) rfl Q6 (Z0i (Z0 1)) (blkOk_by (N:=Z1i) (sc:=defScope Q7) (by decide +kernel)) (by decide) (fun _ _ _ _ _=>Y7 (i:=6) Q6 rfl (by first | exact Or.inl rfl | exact Or.inr rfl)) (fun _ _ _ _ _=>Z46 (W7 (h.blk _ _ _ _ _).in_ (Z0 6) (Z0 2))) (fun _ _ _ _ _=>Z0 6)) (Z5)))) (Z6 (Z2c ["Tool"] Fx.at_Tool_asked (Z0 0) (Z08 call_tuple_of Z62 rfl Fx.f_tuple (Z1 (Z4h (own:=[("one",6)]) (t:=(.nm 6)) rfl Q6 (Z0i (Z0 1)) (blkOk_by (N:=Z1i) (sc:=defScope Q7) (by decide +kernel)) (by decide) (fun _ _ _ _ _=>Y7 (i:=6) Q6 rfl (by first | exact Or.inl rfl | exact Or.inr rfl)) (fun _ _ _ _ _=>Z46 (W7 (h.blk _ _ _ _ _).in_ (Z0 6) (Z0 3))) (fun _ _ _ _ _=>Z0 6)) (Z5)))) (Z6 (Z2c ["Tool"] Fx.at_Tool_rows (Z0 0) (Z08 call_tuple_of Z62 rfl Fx.f_tuple (Z1 (Z0 4) (Z5)))) (Y2 (Z2c ["Tool"] Fx.at_Tool_blank (Z0 0) (Z0g (Z0 1) (Y8)))))))))))))
def Z7h:List Str:=["cls", "text", "lines", "told", "at", "head", "rows", "line", "names", "error"]
theorem Z09:Z7h.Nodup:=by decide +kernel
theorem Y6h:FnScope Z7h ["cls", "text"] (defScope Z1x):=⟨rfl,rfl,rfl,Z09,rfl,by decide +kernel,by decide +kernel⟩
def Y0j:MS:=Z9 (Z6d 2 3 (Z3 (Z5z Z3d (Z4 1) (m_c (.str "\n"))) (Z3 (Z2a (Z7)) (Z7)))) (Z9 (Z2y (.tp [(.nm 4),(.nm 5)]) (Y2r (Z3 (m_c (.tup ((["marks", "shown", "asked"]:List Str).map D.str))) (Z7))) (Z9 (Z0r (U4 (Y5 geD (Z4 4) (Z8 Z3e (Z3 (Z4 2) (Z7))))) (Z1l "InvalidText" "at" (Z3 (Z4 4) (Z7))) (V4)) (Z9 (W3 8 (Z8 (X9 2 (W1 [] (callP g_names_in))) (Z3 (Z03 (Z4 2) (Z4 4)) (Z3 (Z4 5) (Z7))))) (Z9 (Z0r (U4 (Y5 isD (Z4 8) (m_c .non))) (Z1l "InvalidText" "at" (Z3 (Z4 4) (Z7))) (V4)) (U6 (Z4q Z0l V0 (Z4 3) (Z3 (Z4 8) (Z7)))))))) (Z9 (W3 6 (Z2a (Z7))) (Z9 (Z2y (.tp [(.nm 4),(.nm 7)]) (Y2r (Z3 (Z1j (Z4 2) (Z20 (Z8 Z3e (Z3 (m_c (.tup ((["marks", "shown", "asked"]:List Str).map D.str))) (Z7)))) (Y2v)) (Z7))) (Y9s [("InvalidRow",false),("InvalidTool",false),("InvalidText",true),("InvalidEvent",false)] (U6 (Z4q Z0l V0 (Z4 6) (Z3 (Z85 "Row" (X9 2 (W1 [] (callP Z82))) (m_c (.gl "Row")) (Z3 (Z4 7) (Z7))) (Z7)))) 9 "InvalidText" "at" (fun lv=>W6l Z8i (W07 lv 4) (W06 (x_c (.tup ((["marks", "shown", "asked"]:List Str).map D.str))))))) (V1 (Y7j 0 "Tool" (X9 4 (W1 [] (made "Tool" mkF Z7t))) (Z3 (Z03 (Z4 3) (m_c (.int 0))) (Z3 (Z03 (Z4 3) (m_c (.int 1))) (Z3 (Z03 (Z4 3) (m_c (.int 2))) (Z3 (Z4 6) (Z7))))))))))
def Z3n:List D→PR:=Z6v 10 Y0j
include Fx in
theorem Y5y (X_InvalidText:Xe.ErrOk P K (He.ga K "InvalidText") (Y7d "InvalidText" K) "at") (K_names_in:Kept P HasW.w K mg base 2 (He.ga K "names_in") (spP K 2 g_names_in)) (K_Row_read:Kept P HasW.w K mg base 4 (X4y "Row" "read" K) (spP K 2 Z82)) (K_Tool_init:Kept P HasW.w K mg base 3 (He.ma K (He.ga K "Tool") "__init__") (spE K 5 Z7t)) (F:FunD K "read" "Tool.read" (defArgs Z1x) (defBody Z1x) (defScope Z1x) dl [] f fd):FnG P HasW.w K mg base 5 f fd ["cls", "text"] (spP K 2 Z3n):=fnP F Y6h fun cdv A outer s H E gu room=>by
  have h:Here (cxB P HasW.w K mg base Z7h "Tool.read" (defScope Z1x) f cdv A outer s H E) (wxE E) 4:=V5 gu room
  unfold Y0j
  exact Z6 (Y2w rfl Z09 (i:=2) (j:=3) rfl rfl (by decide) rfl rfl (Z1 (Z60 (Z0 1) (Y4)) (Z1 (Z32 (Z5)) (Z5)))) (Z6 (Z5b Z34 rfl (Y3v rfl Fx.f_enumerate (Z1 (Y03 rfl Fx.g_HEADS Fx.v_HEADS) (Z5))) (Z1t rfl (X4 (Y7 (i:=4) Z09 rfl (by first | exact Or.inl rfl | exact Or.inr rfl)) (X4 (Y7 (i:=5) Z09 rfl (by first | exact Or.inl rfl | exact Or.inr rfl)) (Z0m)))) (Z6 (Q9 (W7 h.ge (Z0 4) (Q5 Z24 Z3c rfl Fx.f_len (Z1 (Z0 2) (Z5)))) (Y2 (Z1o rfl h X_InvalidText Fx.g_InvalidText rfl (Z1 (Z0 4) (Z5)))) (X8)) (Z6 (V7 (i:=8) Z09 rfl (by first | exact Or.inl rfl | exact Or.inr rfl) (V8 (h.callP K_names_in (by decide)) rfl Fx.g_names_in K_names_in.kp (Z1 (Z0g (Z0 2) (Z0 4)) (Z1 (Z0 5) (Z5))))) (Z6 (Q9 (W7 h.is_ (Z0 8) (U5)) (Y2 (Z1o rfl h X_InvalidText Fx.g_InvalidText rfl (Z1 (Z0 4) (Z5)))) (X8)) (Y2 (Q0 (Z3j PySem.F.slot_list_append PySem.F.type_list_append mt_append Q1 (Z0 3) (Z1 (Z0 8) (Z5))))))))) (Z6 (V7 (i:=6) Z09 rfl (by first | exact Or.inl rfl | exact Or.inr rfl) (Z32 (Z5))) (Z6 (Z5b Z34 rfl (Y3v rfl Fx.f_enumerate (Z1 (Z38 (Z0 2) (Z51 (Q5 Z24 Z3c rfl Fx.f_len (Z1 (Y03 rfl Fx.g_HEADS Fx.v_HEADS) (Z5)))) (Z50)) (Z5))) (Z1t rfl (X4 (Y7 (i:=4) Z09 rfl (by first | exact Or.inl rfl | exact Or.inr rfl)) (X4 (Y7 (i:=7) Z09 rfl (by first | exact Or.inl rfl | exact Or.inr rfl)) (Z0m)))) (Y2 (X24 h rfl rfl Z09 rfl rfl ⟨rfl,by decide, .inl Fx.g_InvalidText⟩ Fx.catch_InvalidText Fx.rs_InvalidText.at Y9n (fun W pn xe h=>Y2 (Q0 (Z3j PySem.F.slot_list_append PySem.F.type_list_append mt_append Q1 (Z0 6) (Z1 (X89 (h.callP K_Row_read (by decide)) Fx.cm_Row_read (X1p rfl Fx.g_Row) (Z1 (Z0 7) (Z5))) (Z5))))) X_InvalidText Fx.g_InvalidText rfl (fun lv=>W6c (fun _ _ _=>X3g) W27 (W3s (j:=4)) (W3r rfl Fx.f_len (W0l rfl Fx.g_HEADS Fx.v_HEADS)))))) (Y2 (U0 (Y9g 0 (h.make Y1y (n:=4) Fx.M_Tool K_Tool_init (by decide)) Fx.M_Tool.kp (Z1 (Z0g (Z0 3) (Y8)) (Z1 (Z0g (Z0 3) (Y8)) (Z1 (Z0g (Z0 3) (Y8)) (Z1 (Z0 6) (Z5)))))))))))
def Z7i:List Str:=["_law_script", "_law_k", "_law_cell", "_law_great"]
theorem Z3w:Z7i.Nodup:=by decide +kernel
theorem Y6i:FnScope Z7i ["_law_script", "_law_k"] (defScope Z1y):=⟨rfl,rfl,rfl,Z3w,rfl,by decide +kernel,by decide +kernel⟩
def Z4e:MS:=Z9 (W3 2 (Y5 Z8i (Y5 Y63 (m_c (.int 7411)) (Z4 1)) (m_c (.int 37)))) (Z9 (Z0r (U4 (Y5 ltD (Z4 1) (Z8 Z3e (Z3 (Z4 0) (Z7))))) (W3 2 (Z8 (Z5x X4o) (Z3 (Z03 (Z4 0) (Z4 1)) (Z7)))) (Z0r (U4 (Y5 gtD (Z8 Z3e (Z3 (Z4 0) (Z7))) (m_c (.int 0)))) (W3 2 (Y5 Z8i (Z4 2) (Y5 Y63 (Y5 X0h (Z8 Y62 (Z3 (Z8 (Z5x X4o) (Z3 (Z03 (Z4 0) (Y5 X0h (Z8 Y62 (Z3 (Z4 1) (Z7))) (Z8 Z3e (Z3 (Z4 0) (Z7))))) (Z7))) (Z7))) (m_c (.int 2147483629))) (m_c (.int 50021))))) (V4))) (Z9 (W3 3 (Z6c (U4 (Y5 geD (Z4 2) (Y5 W52 (m_c (.int 10)) (m_c (.int 18))))) (Z4 2) (m_c (.int 0)))) (Z6e (Z2a (Z3 (Z4 3) (Z3 (Y5 Z8i (Y5 X0h (Z8 Y62 (Z3 (Y5 Z8i (Y5 Y63 (Y5 X0h (Z8 Y62 (Z3 (Z4 2) (Z7))) (m_c (.int 2147483629))) (m_c (.int 48271))) (Y5 Y63 (m_c (.int 31013)) (Z4 1))) (Z7))) (m_c (.int 2147483629))) (m_c (.int 1))) (Z7)))))))
def g__law_seed:List X→Sto→R X:=W3m 4 Z4e
include Fx in
theorem Y5z  (F:FunD K "_law_seed" "_law_seed" (defArgs Z1y) (defBody Z1y) (defScope Z1y) dl [] f fd):FnG P HasW.w K mg base 1 f fd ["_law_script", "_law_k"] (spE K 2 g__law_seed):=fnR F Y6i fun cdv A outer s H E gu room=>by
  have h:Here (cxB P HasW.w K mg base Z7i "_law_seed" (defScope Z1y) f cdv A outer s H E) (wxE E) 0:=V5 gu room
  unfold Z4e
  exact Z6 (V7 (i:=2) Z3w rfl (by first | exact Or.inl rfl | exact Or.inr rfl) (Z64 h.add (Z64 h.mul (Y8) (Z0 1)) (Y8))) (Z6 (Q9 (W7 h.lt (Z0 1) (Q5 Z24 Z3c rfl Fx.f_len (Z1 (Z0 0) (Z5)))) (Y2 (V7 (i:=2) Z3w rfl (by first | exact Or.inl rfl | exact Or.inr rfl) (Q5 call_abs W1t rfl Fx.f_abs (Z1 (Z0g (Z0 0) (Z0 1)) (Z5))))) (Y2 (Q9 (W7 h.gt (Q5 Z24 Z3c rfl Fx.f_len (Z1 (Z0 0) (Z5))) (Y8)) (Y2 (V7 (i:=2) Z3w rfl (by first | exact Or.inl rfl | exact Or.inr rfl) (Z64 h.add (Z0 2) (Z64 h.mul (Z64 h.mod (Z08 call_int1 Y4x rfl Fx.f_int (Z1 (Q5 call_abs W1t rfl Fx.f_abs (Z1 (Z0g (Z0 0) (Z64 h.mod (Z08 call_int1 Y4x rfl Fx.f_int (Z1 (Z0 1) (Z5))) (Q5 Z24 Z3c rfl Fx.f_len (Z1 (Z0 0) (Z5))))) (Z5))) (Z5))) (Y8)) (Y8))))) (X8)))) (Z6 (V7 (i:=3) Z3w rfl (by first | exact Or.inl rfl | exact Or.inr rfl) (Z45 (W7 h.ge (Z0 2) (Z64 h.pow (Y8) (Y8))) (Z0 2) (Y8))) (Y2 (Z6p (Z32 (Z1 (Z0 3) (Z1 (Z64 h.add (Z64 h.mod (Z08 call_int1 Y4x rfl Fx.f_int (Z1 (Z64 h.add (Z64 h.mul (Z64 h.mod (Z08 call_int1 Y4x rfl Fx.f_int (Z1 (Z0 2) (Z5))) (Y8)) (Y8)) (Z64 h.mul (Y8) (Z0 1))) (Z5))) (Y8)) (Y8)) (Z5))))))))
def Z5k:List Str:=["_law_box", "_law_many", "_law_raw", "_law_digit"]
theorem Z48:Z5k.Nodup:=by decide +kernel
theorem Y16:FnScope Z5k ["_law_box", "_law_many"] (defScope Z0x):=⟨rfl,rfl,rfl,Z48,rfl,by decide +kernel,by decide +kernel⟩
def Z5s:MS:=Z9 (Z0r (U4 (Y5 gtD (Z03 (Z4 0) (m_c (.int 0))) (m_c (.int 0)))) (Z9 (W3 3 (Y5 X0h (Z8 Y62 (Z3 (Z03 (Z4 0) (m_c (.int 0))) (Z7))) (Z4 1))) (Z9 (Y4c (Z4 0) (m_c (.int 0)) (Y5 X1z (Z03 (Z4 0) (m_c (.int 0))) (Z4 1))) (Z6e (Z4 3)))) (V4)) (Z9 (W3 2 (Y5 X0h (Z8 Y62 (Z3 (Y5 Z8i (Y5 Y63 (Z03 (Z4 0) (m_c (.int 1))) (m_c (.int 40014))) (m_c (.int 31))) (Z7))) (m_c (.int 2147483563)))) (Z9 (Y4c (Z4 0) (m_c (.int 1)) (Y5 Z8i (Y5 X0h (Z8 Y62 (Z3 (Y5 Z8i (Y5 Y63 (Z4 2) (m_c (.int 40692))) (m_c (.int 2777))) (Z7))) (m_c (.int 2147483629))) (m_c (.int 1)))) (Z6e (Y5 X0h (Z8 Y62 (Z3 (Y5 X1z (Y5 Z8i (Y5 Y63 (Z4 2) (m_c (.int 2147483647))) (Z03 (Z4 0) (m_c (.int 1)))) (m_c (.int 8191))) (Z7))) (Z4 1)))))
def g__law_choose:List X→Sto→R X:=Y1k 4 Z5s
include Fx in
theorem Y11  (F:FunD K "_law_choose" "_law_choose" (defArgs Z0x) (defBody Z0x) (defScope Z0x) dl [] f fd):FnG P HasW.w K mg base 1 f fd ["_law_box", "_law_many"] (spE K 2 g__law_choose):=fnE F Y16 fun cdv A outer s H E gu room=>by
  have h:Here (cxB P HasW.w K mg base Z5k "_law_choose" (defScope Z0x) f cdv A outer s H E) (wxE E) 0:=V5 gu room
  unfold Z5s
  exact Z6 (Q9 (W7 h.gt (Z0g (Z0 0) (Y8)) (Y8)) (Z6 (V7 (i:=3) Z48 rfl (by first | exact Or.inl rfl | exact Or.inr rfl) (Z64 h.mod (Z08 call_int1 Y4x rfl Fx.f_int (Z1 (Z0g (Z0 0) (Y8)) (Z5))) (Z0 1))) (Z6 (X63 (Z0 0) (Y8) (Z64 h.fdiv (Z0g (Z0 0) (Y8)) (Z0 1))) (Y2 (Z6p (Z0 3))))) (X8)) (Z6 (V7 (i:=2) Z48 rfl (by first | exact Or.inl rfl | exact Or.inr rfl) (Z64 h.mod (Z08 call_int1 Y4x rfl Fx.f_int (Z1 (Z64 h.add (Z64 h.mul (Z0g (Z0 0) (Y8)) (Y8)) (Y8)) (Z5))) (Y8))) (Z6 (X63 (Z0 0) (Y8) (Z64 h.add (Z64 h.mod (Z08 call_int1 Y4x rfl Fx.f_int (Z1 (Z64 h.add (Z64 h.mul (Z0 2) (Y8)) (Y8)) (Z5))) (Y8)) (Y8))) (Y2 (Z6p (Z64 h.mod (Z08 call_int1 Y4x rfl Fx.f_int (Z1 (Z64 h.fdiv (Z64 h.add (Z64 h.mul (Z0 2) (Y8)) (Z0g (Z0 0) (Y8))) (Y8)) (Z5))) (Z0 1))))))
def Z6j:List Str:=["_law_found", "_law_last", "_law_both"]
theorem Z39:Z6j.Nodup:=by decide +kernel
theorem Y4i:FnScope Z6j [] (defScope Z1d):=⟨rfl,rfl,rfl,Z39,rfl,by decide +kernel,by decide +kernel⟩
def Z9n:MS:=Z9 (W3 0 (Z2a (Z3 (V3 (Z3 (Z2h (Z3 (m_c (.str "edition P:a Q:b")) (Z7))) (Z3 (V3 (Z3 (m_c .non) (Z3 (m_c .non) (Z7)))) (Z3 (V3 (Z7)) (Z3 (V3 (Z7)) (Z7)))))) (Z7)))) (Z9 (U6 (Z4q Z0l V0 (Z4 0) (Z3 (V3 (Z3 (Z2h (Z3 (m_c (.str "edition P:a Q:b")) (Z3 (m_c (.str "give P")) (Z3 (m_c (.str "check P")) (Z7))))) (Z3 (V3 (Z3 (m_c (.str "P")) (Z3 (m_c .non) (Z7)))) (Z3 (V3 (Z7)) (Z3 (V3 (Z7)) (Z7)))))) (Z7)))) (Z9 (U6 (Z4q Z0l V0 (Z4 0) (Z3 (V3 (Z3 (Z2h (Z3 (m_c (.str "edition P:a Q:b")) (Z3 (m_c (.str "give P")) (Z3 (m_c (.str "edition P:c Q:b")) (Z7))))) (Z3 (V3 (Z3 (m_c .non) (Z3 (m_c .non) (Z7)))) (Z3 (V3 (Z7)) (Z3 (V3 (Z7)) (Z7)))))) (Z7)))) (Z9 (U6 (Z4q Z0l V0 (Z4 0) (Z3 (V3 (Z3 (Z2h (Z3 (m_c (.str "edition P:a Q:b")) (Z3 (m_c (.str "give P")) (Z3 (m_c (.str "edition P:c Q:b")) (Z3 (m_c (.str "check P")) (Z7)))))) (Z3 (V3 (Z3 (m_c (.str "P")) (Z3 (m_c .non) (Z7)))) (Z3 (V3 (Z7)) (Z3 (V3 (Z7)) (Z7)))))) (Z7)))) (Z9 (U6 (Z4q Z0l V0 (Z4 0) (Z3 (V3 (Z3 (Z2h (Z3 (m_c (.str "edition P:a Q:b")) (Z3 (m_c (.str "give P")) (Z3 (m_c (.str "edition P:b Q:a")) (Z7))))) (Z3 (V3 (Z3 (m_c .non) (Z3 (m_c (.str "P")) (Z7)))) (Z3 (V3 (Z3 (m_c (.str "strange Q")) (Z7))) (Z3 (V3 (Z3 (m_c (.str "strange")) (Z7))) (Z7)))))) (Z7)))) (Z9 (W3 1 (Z2h (Z3 (m_c (.str "edition P:a Q:b")) (Z3 (m_c (.str "give P")) (Z3 (m_c (.str "edition P:b Q:a")) (Z3 (m_c (.str "check Q")) (Z7))))))) (Z9 (U6 (Z4q Z0l V0 (Z4 0) (Z3 (V3 (Z3 (Z4 1) (Z3 (V3 (Z3 (m_c .non) (Z3 (m_c .non) (Z7)))) (Z3 (V3 (Z7)) (Z3 (V3 (Z3 (m_c (.str "strange")) (Z7))) (Z7)))))) (Z7)))) (Z9 (U6 (Z4q Z0l V0 (Z4 0) (Z3 (V3 (Z3 (Z2h (Z3 (m_c (.str "edition P:a Q:a")) (Z3 (m_c (.str "give P")) (Z7)))) (Z3 (V3 (Z3 (m_c (.str "P")) (Z3 (m_c (.str "P")) (Z7)))) (Z3 (V3 (Z3 (m_c (.str "strange Q")) (Z7))) (Z3 (V3 (Z3 (m_c (.str "strange")) (Z7))) (Z7)))))) (Z7)))) (Z9 (W3 2 (Z2h (Z3 (m_c (.str "edition P:a Q:a")) (Z3 (m_c (.str "give P")) (Z3 (m_c (.str "give Q")) (Z7)))))) (Z9 (U6 (Z4q Z0l V0 (Z4 0) (Z3 (V3 (Z3 (Z4 2) (Z3 (V3 (Z3 (m_c (.str "Q")) (Z3 (m_c (.str "Q")) (Z7)))) (Z3 (V3 (Z3 (m_c (.str "fallen P")) (Z3 (m_c (.str "strange P")) (Z7)))) (Z3 (V3 (Z3 (m_c (.str "fallen")) (Z3 (m_c (.str "strange")) (Z7)))) (Z7)))))) (Z7)))) (Z9 (U6 (Z4q Z0l V0 (Z4 0) (Z3 (V3 (Z3 (Z2h (Z3 (m_c (.str "edition P:a Q:b")) (Z3 (m_c (.str "edition P:c Q:b")) (Z3 (m_c (.str "give P 0")) (Z7))))) (Z3 (V3 (Z3 (m_c .non) (Z3 (m_c .non) (Z7)))) (Z3 (V3 (Z7)) (Z3 (V3 (Z7)) (Z7)))))) (Z7)))) (Z9 (U6 (Z4q Z0l V0 (Z4 0) (Z3 (V3 (Z3 (Z2h (Z3 (m_c (.str "edition P:a Q:b")) (Z3 (m_c (.str "edition P:c Q:a")) (Z3 (m_c (.str "give P 0")) (Z7))))) (Z3 (V3 (Z3 (m_c .non) (Z3 (m_c (.str "P")) (Z7)))) (Z3 (V3 (Z3 (m_c (.str "strange Q")) (Z7))) (Z3 (V3 (Z3 (m_c (.str "strange")) (Z7))) (Z7)))))) (Z7)))) (Z9 (U6 (Z4q Z0l V0 (Z4 0) (Z3 (V3 (Z3 (Z2h (Z3 (m_c (.str "edition P:a Q:b")) (Z3 (m_c (.str "give P")) (Z3 (m_c (.str "edition P:c<b Q:b")) (Z7))))) (Z3 (V3 (Z3 (m_c .non) (Z3 (m_c .non) (Z7)))) (Z3 (V3 (Z3 (m_c (.str "lost P")) (Z7))) (Z3 (V3 (Z3 (m_c (.str "lost")) (Z7))) (Z7)))))) (Z7)))) (Z9 (U6 (Z4q Z0l V0 (Z4 0) (Z3 (V3 (Z3 (Z2h (Z3 (m_c (.str "edition P:a Q:a")) (Z3 (m_c (.str "give P")) (Z3 (m_c (.str "check Q")) (Z7))))) (Z3 (V3 (Z3 (m_c .non) (Z3 (m_c .non) (Z7)))) (Z3 (V3 (Z3 (m_c (.str "fallen P")) (Z7))) (Z3 (V3 (Z3 (m_c (.str "fallen")) (Z3 (m_c (.str "strange")) (Z7)))) (Z7)))))) (Z7)))) (V1 (Z4 0)))))))))))))))
def g__law_cases:List D→PR:=Z6v 3 Z9n
include Fx in
theorem Y38  (F:FunD K "_law_cases" "_law_cases" (defArgs Z1d) (defBody Z1d) (defScope Z1d) dl [] f fd):FnG P HasW.w K mg base 1 f fd [] (spP K 0 g__law_cases):=fnP F Y4i fun cdv A outer s H E gu room=>by
  have h:Here (cxB P HasW.w K mg base Z6j "_law_cases" (defScope Z1d) f cdv A outer s H E) (wxE E) 0:=V5 gu room
  unfold Z9n
  exact Z6 (V7 (i:=0) Z39 rfl (by first | exact Or.inl rfl | exact Or.inr rfl) (Z32 (Z1 (W4 (Z1 (Z3k (Z1 (Y4) (Z5))) (Z1 (W4 (Z1 (U5) (Z1 (U5) (Z5)))) (Z1 (W4 (Z5)) (Z1 (W4 (Z5)) (Z5)))))) (Z5)))) (Z6 (Q0 (Z3j PySem.F.slot_list_append PySem.F.type_list_append mt_append Q1 (Z0 0) (Z1 (W4 (Z1 (Z3k (Z1 (Y4) (Z1 (Y4) (Z1 (Y4) (Z5))))) (Z1 (W4 (Z1 (Y4) (Z1 (U5) (Z5)))) (Z1 (W4 (Z5)) (Z1 (W4 (Z5)) (Z5)))))) (Z5)))) (Z6 (Q0 (Z3j PySem.F.slot_list_append PySem.F.type_list_append mt_append Q1 (Z0 0) (Z1 (W4 (Z1 (Z3k (Z1 (Y4) (Z1 (Y4) (Z1 (Y4) (Z5))))) (Z1 (W4 (Z1 (U5) (Z1 (U5) (Z5)))) (Z1 (W4 (Z5)) (Z1 (W4 (Z5)) (Z5)))))) (Z5)))) (Z6 (Q0 (Z3j PySem.F.slot_list_append PySem.F.type_list_append mt_append Q1 (Z0 0) (Z1 (W4 (Z1 (Z3k (Z1 (Y4) (Z1 (Y4) (Z1 (Y4) (Z1 (Y4) (Z5)))))) (Z1 (W4 (Z1 (Y4) (Z1 (U5) (Z5)))) (Z1 (W4 (Z5)) (Z1 (W4 (Z5)) (Z5)))))) (Z5)))) (Z6 (Q0 (Z3j PySem.F.slot_list_append PySem.F.type_list_append mt_append Q1 (Z0 0) (Z1 (W4 (Z1 (Z3k (Z1 (Y4) (Z1 (Y4) (Z1 (Y4) (Z5))))) (Z1 (W4 (Z1 (U5) (Z1 (Y4) (Z5)))) (Z1 (W4 (Z1 (Y4) (Z5))) (Z1 (W4 (Z1 (Y4) (Z5))) (Z5)))))) (Z5)))) (Z6 (V7 (i:=1) Z39 rfl (by first | exact Or.inl rfl | exact Or.inr rfl) (Z3k (Z1 (Y4) (Z1 (Y4) (Z1 (Y4) (Z1 (Y4) (Z5))))))) (Z6 (Q0 (Z3j PySem.F.slot_list_append PySem.F.type_list_append mt_append Q1 (Z0 0) (Z1 (W4 (Z1 (Z0 1) (Z1 (W4 (Z1 (U5) (Z1 (U5) (Z5)))) (Z1 (W4 (Z5)) (Z1 (W4 (Z1 (Y4) (Z5))) (Z5)))))) (Z5)))) (Z6 (Q0 (Z3j PySem.F.slot_list_append PySem.F.type_list_append mt_append Q1 (Z0 0) (Z1 (W4 (Z1 (Z3k (Z1 (Y4) (Z1 (Y4) (Z5)))) (Z1 (W4 (Z1 (Y4) (Z1 (Y4) (Z5)))) (Z1 (W4 (Z1 (Y4) (Z5))) (Z1 (W4 (Z1 (Y4) (Z5))) (Z5)))))) (Z5)))) (Z6 (V7 (i:=2) Z39 rfl (by first | exact Or.inl rfl | exact Or.inr rfl) (Z3k (Z1 (Y4) (Z1 (Y4) (Z1 (Y4) (Z5)))))) (Z6 (Q0 (Z3j PySem.F.slot_list_append PySem.F.type_list_append mt_append Q1 (Z0 0) (Z1 (W4 (Z1 (Z0 2) (Z1 (W4 (Z1 (Y4) (Z1 (Y4) (Z5)))) (Z1 (W4 (Z1 (Y4) (Z1 (Y4) (Z5)))) (Z1 (W4 (Z1 (Y4) (Z1 (Y4) (Z5)))) (Z5)))))) (Z5)))) (Z6 (Q0 (Z3j PySem.F.slot_list_append PySem.F.type_list_append mt_append Q1 (Z0 0) (Z1 (W4 (Z1 (Z3k (Z1 (Y4) (Z1 (Y4) (Z1 (Y4) (Z5))))) (Z1 (W4 (Z1 (U5) (Z1 (U5) (Z5)))) (Z1 (W4 (Z5)) (Z1 (W4 (Z5)) (Z5)))))) (Z5)))) (Z6 (Q0 (Z3j PySem.F.slot_list_append PySem.F.type_list_append mt_append Q1 (Z0 0) (Z1 (W4 (Z1 (Z3k (Z1 (Y4) (Z1 (Y4) (Z1 (Y4) (Z5))))) (Z1 (W4 (Z1 (U5) (Z1 (Y4) (Z5)))) (Z1 (W4 (Z1 (Y4) (Z5))) (Z1 (W4 (Z1 (Y4) (Z5))) (Z5)))))) (Z5)))) (Z6 (Q0 (Z3j PySem.F.slot_list_append PySem.F.type_list_append mt_append Q1 (Z0 0) (Z1 (W4 (Z1 (Z3k (Z1 (Y4) (Z1 (Y4) (Z1 (Y4) (Z5))))) (Z1 (W4 (Z1 (U5) (Z1 (U5) (Z5)))) (Z1 (W4 (Z1 (Y4) (Z5))) (Z1 (W4 (Z1 (Y4) (Z5))) (Z5)))))) (Z5)))) (Z6 (Q0 (Z3j PySem.F.slot_list_append PySem.F.type_list_append mt_append Q1 (Z0 0) (Z1 (W4 (Z1 (Z3k (Z1 (Y4) (Z1 (Y4) (Z1 (Y4) (Z5))))) (Z1 (W4 (Z1 (U5) (Z1 (U5) (Z5)))) (Z1 (W4 (Z1 (Y4) (Z5))) (Z1 (W4 (Z1 (Y4) (Z1 (Y4) (Z5)))) (Z5)))))) (Z5)))) (Y2 (U0 (Z0 0))))))))))))))))
def Z7g:List Str:=["self", "tool"]
theorem Y5m:Z7g.Nodup:=by decide +kernel
theorem Y6f:FnScope Z7g ["self", "tool"] (defScope Z1w):=⟨rfl,rfl,rfl,Y5m,rfl,by decide +kernel,by decide +kernel⟩
def Y0h:MS:=Z9 (Z2d ["Book"] "maker" (Z4 0) (Z4 1)) (Z9 (Z2d ["Book"] "entries" (Z4 0) (Y1d)) (Z9 (Z2d ["Book"] "editions" (Z4 0) (Z2a (Z7))) (Z2d ["Book"] "held" (Z4 0) (Y9f))))
def Z7s:List X→Sto→R X:=Y1k 2 Y0h
include Fx in
theorem Y5w  (F:FunD K "__init__" "Book.__init__" (defArgs Z1w) (defBody Z1w) (defScope Z1w) dl [] f fd):FnG P HasW.w K mg base 1 f fd ["self", "tool"] (spE K 2 Z7s):=fnE F Y6f fun cdv A outer s H E gu room=>by
  have h:Here (cxB P HasW.w K mg base Z7g "Book.__init__" (defScope Z1w) f cdv A outer s H E) (wxE E) 0:=V5 gu room
  unfold Y0h
  exact Z6 (Z2c ["Book"] Fx.at_Book_maker (Z0 0) (Z0 1)) (Z6 (Z2c ["Book"] Fx.at_Book_entries (Z0 0) (Y3s)) (Z6 (Z2c ["Book"] Fx.at_Book_editions (Z0 0) (Z32 (Z5))) (Y2 (Z2c ["Book"] Fx.at_Book_held (Z0 0) (X2w)))))
def Z6h:List Str:=["self", "mark", "text"]
theorem Y3y:Z6h.Nodup:=by decide +kernel
theorem Y4f:FnScope Z6h ["self", "mark", "text"] (defScope Z1b):=⟨rfl,rfl,rfl,Y3y,rfl,by decide +kernel,by decide +kernel⟩
def Z9l:MS:=Z9 (Z2d ["Entry"] "mark" (Z4 0) (Z4 1)) (Z2d ["Entry"] "text" (Z4 0) (Z4 2))
def Z06:List X→Sto→R X:=Y1k 3 Z9l
include Fx in
theorem Y35  (F:FunD K "__init__" "Entry.__init__" (defArgs Z1b) (defBody Z1b) (defScope Z1b) dl [] f fd):FnG P HasW.w K mg base 1 f fd ["self", "mark", "text"] (spE K 3 Z06):=fnE F Y4f fun cdv A outer s H E gu room=>by
  have h:Here (cxB P HasW.w K mg base Z6h "Entry.__init__" (defScope Z1b) f cdv A outer s H E) (wxE E) 0:=V5 gu room
  unfold Z9l
  exact Z6 (Z2c ["Entry"] Fx.at_Entry_mark (Z0 0) (Z0 1)) (Y2 (Z2c ["Entry"] Fx.at_Entry_text (Z0 0) (Z0 2)))
def Z6g:List Str:=["self", "key"]
theorem Y3x:Z6g.Nodup:=by decide +kernel
theorem Y4e:FnScope Z6g ["self", "key"] (defScope Z1a):=⟨rfl,rfl,rfl,Y3x,rfl,by decide +kernel,by decide +kernel⟩
def Z9k:MS:=Z6e (Y1c (Y9 ["Book"] "entries" (Z4 0)) (Z4 1) (Z8 (X9 2 (W1 [] (made "Entry" mkF Z06))) (Z3 (Y9 ["Tool"] "blank" (Y9 ["Book"] "maker" (Z4 0))) (Z3 (m_c .non) (Z7)))))
def Q3:List X→Sto→R X:=Y1k 2 Z9k
include Fx in
theorem Y34 (K_Entry_init:Kept P HasW.w K mg base 1 (He.ma K (He.ga K "Entry") "__init__") (spE K 3 Z06)) (F:FunD K "entry" "Book.entry" (defArgs Z1a) (defBody Z1a) (defScope Z1a) dl [] f fd):FnG P HasW.w K mg base 3 f fd ["self", "key"] (spE K 2 Q3):=fnE F Y4e fun cdv A outer s H E gu room=>by
  have h:Here (cxB P HasW.w K mg base Z6g "Book.entry" (defScope Z1a) f cdv A outer s H E) (wxE E) 2:=V5 gu room
  unfold Z9k
  exact Y2 (Z6p (Z97 h.u1 (Y6 ["Book"] Fx.at_Book_entries (Z0 0)) (Z0 1) (V8 (h.make Y1y (n:=2) Fx.M_Entry K_Entry_init (by decide)) rfl Fx.g_Entry Fx.M_Entry.kp (Z1 (Y6 ["Tool"] Fx.at_Tool_blank (Y6 ["Book"] Fx.at_Book_maker (Z0 0))) (Z1 (U5) (Z5))))))
def Z8n:List Str:=["self", "word", "mark"]
theorem Y7q:Z8n.Nodup:=by decide +kernel
theorem Y73:FnScope Z8n ["self", "word", "mark"] (defScope Z2l):=⟨rfl,rfl,rfl,Y7q,rfl,by decide +kernel,by decide +kernel⟩
def Y2c:MS:=V1 (Z4g (Y5 eqD (Y9 ["Row"] "word" (Z4 0)) (Z4 1)) (Y5 inD (Y9 ["Row"] "old" (Z4 0)) (V3 (Z3 (m_c (.str "any")) (Z3 (Z4 2) (Z7))))))
def Z80:List D→PR:=Z6v 3 Y2c
include Fx in
theorem Y7v  (F:FunD K "fits" "Row.fits" (defArgs Z2l) (defBody Z2l) (defScope Z2l) dl [] f fd):FnG P HasW.w K mg base 1 f fd ["self", "word", "mark"] (spP K 3 Z80):=fnP F Y73 fun cdv A outer s H E gu room=>by
  have h:Here (cxB P HasW.w K mg base Z8n "Row.fits" (defScope Z2l) f cdv A outer s H E) (wxE E) 0:=V5 gu room
  unfold Y2c
  exact Y2 (U0 (Z7b (Z4p h.eq (Y6 ["Row"] Fx.at_Row_word (Z0 0)) (Z0 1)) (Z8e (Z4p h.in_ (Y6 ["Row"] Fx.at_Row_old (Z0 0)) (W4 (Z1 (Y4) (Z1 (Z0 2) (Z5))))))))
def Z41:List Str:=["self", "word", "mark", "at", "row"]
theorem Z4j:Z41.Nodup:=by decide +kernel
theorem Y1m:FnScope Z41 ["self", "word", "mark"] (defScope Z0p):=⟨rfl,rfl,rfl,Z4j,rfl,by decide +kernel,by decide +kernel⟩
def Z66:MS:=Z9 (Z0r (Q8 (U4 (Y5 eqD (Z4 2) (Y9 ["Tool"] "blank" (Z4 0)))) (U4 (Y5 neD (Z4 1) (m_c (.str "give"))))) (V1 (m_c .non)) (V4)) (Z9 (Z2y (.tp [(.nm 3),(.nm 4)]) (Y2r (Z3 (Y9 ["Tool"] "rows" (Z4 0)) (Z7))) (Z0r (W9 (Z07 "Row" "fits" (X9 3 (W1 [] (callP Z80))) (Z4 4) (Z3 (Z4 1) (Z3 (Z4 2) (Z7))))) (V1 (Z4 3)) (V4))) (V1 (m_c .non)))
def Z43:List D→PR:=Z6v 5 Z66
include Fx in
theorem Y1i (K_Row_fits:Kept P HasW.w K mg base 1 (He.ma K (He.ga K "Row") "fits") (spP K 3 Z80)) (F:FunD K "row_for" "Tool.row_for" (defArgs Z0p) (defBody Z0p) (defScope Z0p) dl [] f fd):FnG P HasW.w K mg base 2 f fd ["self", "word", "mark"] (spP K 3 Z43):=fnP F Y1m fun cdv A outer s H E gu room=>by
  have h:Here (cxB P HasW.w K mg base Z41 "Tool.row_for" (defScope Z0p) f cdv A outer s H E) (wxE E) 1:=V5 gu room
  unfold Z66
  exact Z6 (Q9 (Z6a (Z1p (W7 h.eq (Z0 2) (Y6 ["Tool"] Fx.at_Tool_blank (Z0 0))) (Z1k (W7 h.ne (Z0 1) (Y4))))) (Y2 (U0 (U5))) (X8)) (Z6 (Z5b Z34 rfl (Y3v rfl Fx.f_enumerate (Z1 (Y6 ["Tool"] Fx.at_Tool_rows (Z0 0)) (Z5))) (Z1t rfl (X4 (Y7 (i:=3) Z4j rfl (by first | exact Or.inl rfl | exact Or.inr rfl)) (X4 (Y7 (i:=4) Z4j rfl (by first | exact Or.inl rfl | exact Or.inr rfl)) (Z0m)))) (Y2 (Q9 (V6 (Z0s (h.callP K_Row_fits (by decide)) Fx.c_Row Fx.m_Row_fits (Z0 4) (Z1 (Z0 1) (Z1 (Z0 2) (Z5))))) (Y2 (U0 (Z0 3))) (X8)))) (Y2 (U0 (U5))))
def Z40:List Str:=["self", "word", "mark", "at", "row", "then"]
theorem Z3f:Z40.Nodup:=by decide +kernel
theorem Y1l:FnScope Z40 ["self", "word", "mark"] (defScope Z0o):=⟨rfl,rfl,rfl,Z3f,rfl,by decide +kernel,by decide +kernel⟩
def Z65:MS:=Z9 (Z0r (Z2b (Q4 (W9 (Z86 (Y1q "str") [("Row",false),("Tool",false),("Story",false)] (Z4 2)))) (U4 (Y5 W4c (Z4 2) (Y9 ["Tool"] "marks" (Z4 0))))) (W3n) (V4)) (Z9 (W3 3 (Z07 "Tool" "row_for" (X9 3 (W1 [] (callP Z43))) (Z4 0) (Z3 (Z4 1) (Z3 (Z4 2) (Z7))))) (Z9 (Z0r (U4 (Y5 isD (Z4 3) (m_c .non))) (Z3h (Z3 (Z6c (U4 (Y5 eqD (Z4 1) (m_c (.str "carry")))) (Y9 ["Tool"] "blank" (Z4 0)) (Z4 2)) (Z3 (m_c (.bl false)) (Z7)))) (V4)) (Z9 (W3 4 (Z03 (Y9 ["Tool"] "rows" (Z4 0)) (Z4 3))) (Z9 (Z0r (Q8 (U4 (Y5 eqD (Z4 2) (Y9 ["Tool"] "blank" (Z4 0)))) (Q4 (W9 (Y9 ["Row"] "take" (Z4 4))))) (Z3h (Z3 (Z4 2) (Z3 (m_c (.bl false)) (Z7)))) (V4)) (Z9 (W3 5 (Z6c (U4 (Y5 eqD (Y9 ["Row"] "then" (Z4 4)) (m_c (.str "same")))) (Z4 2) (Y9 ["Row"] "then" (Z4 4)))) (Z3h (Z3 (Z4 5) (Z3 (Z4g (Y5 eqD (Z4 1) (m_c (.str "give"))) (Z4g (Y9 ["Row"] "take" (Z4 4)) (Y5 neD (Z4 5) (Y9 ["Tool"] "blank" (Z4 0))))) (Z7)))))))))
def Z0v:List D→PR:=Z6v 6 Z65
include Fx in
theorem Y1h (K_Tool_row_for:Kept P HasW.w K mg base 2 (He.ma K (He.ga K "Tool") "row_for") (spP K 3 Z43)) (F:FunD K "becomes" "Tool.becomes" (defArgs Z0o) (defBody Z0o) (defScope Z0o) dl [] f fd):FnG P HasW.w K mg base 3 f fd ["self", "word", "mark"] (spP K 3 Z0v):=fnP F Y1l fun cdv A outer s H E gu room=>by
  have h:Here (cxB P HasW.w K mg base Z40 "Tool.becomes" (defScope Z0o) f cdv A outer s H E) (wxE E) 2:=V5 gu room
  unfold Z65
  exact Z6 (Q9 (Z6a (Z47 (Z01 (V6 (Y1e rfl Fx.f_isinstance (Z0 2) (X7b rfl Fx.f_str) Fx.is_str (.ty _)))) (Z3v (W7 h.nin (Z0 2) (Y6 ["Tool"] Fx.at_Tool_marks (Z0 0)))))) (Y2 (W2w)) (X8)) (Z6 (V7 (i:=3) Z3f rfl (by first | exact Or.inl rfl | exact Or.inr rfl) (Z0s (h.callP K_Tool_row_for (by decide)) Fx.c_Tool Fx.m_Tool_row_for (Z0 0) (Z1 (Z0 1) (Z1 (Z0 2) (Z5))))) (Z6 (Q9 (W7 h.is_ (Z0 3) (U5)) (Y2 (Z7v (Z1 (Z45 (W7 h.eq (Z0 1) (Y4)) (Y6 ["Tool"] Fx.at_Tool_blank (Z0 0)) (Z0 2)) (Z1 (Z44) (Z5))))) (X8)) (Z6 (V7 (i:=4) Z3f rfl (by first | exact Or.inl rfl | exact Or.inr rfl) (Z0g (Y6 ["Tool"] Fx.at_Tool_rows (Z0 0)) (Z0 3))) (Z6 (Q9 (Z6a (Z1p (W7 h.eq (Z0 2) (Y6 ["Tool"] Fx.at_Tool_blank (Z0 0))) (Z1k (Z01 (V6 (Y6 ["Row"] Fx.at_Row_take (Z0 4))))))) (Y2 (Z7v (Z1 (Z0 2) (Z1 (Z44) (Z5))))) (X8)) (Z6 (V7 (i:=5) Z3f rfl (by first | exact Or.inl rfl | exact Or.inr rfl) (Z45 (W7 h.eq (Y6 ["Row"] Fx.at_Row_then (Z0 4)) (Y4)) (Z0 2) (Y6 ["Row"] Fx.at_Row_then (Z0 4)))) (Y2 (Z7v (Z1 (Z0 5) (Z1 (Z7b (Z4p h.eq (Z0 1) (Y4)) (Z7b (Y6 ["Row"] Fx.at_Row_take (Z0 4)) (Z8e (Z4p h.ne (Z0 5) (Y6 ["Tool"] Fx.at_Tool_blank (Z0 0)))))) (Z5))))))))))
def Z8m:List Str:=["self", "key", "mark", "text"]
theorem Y7p:Z8m.Nodup:=by decide +kernel
theorem Y72:FnScope Z8m ["self", "key", "mark", "text"] (defScope Z2k):=⟨rfl,rfl,rfl,Y7p,rfl,by decide +kernel,by decide +kernel⟩
def Y2b:MS:=Z8h (Y9 ["Book"] "entries" (Z4 0)) (Z4 1) (Z8 (X9 2 (W1 [] (made "Entry" mkF Z06))) (Z3 (Z4 2) (Z3 (Z6c (U4 (Y5 eqD (Z4 2) (Y9 ["Tool"] "blank" (Y9 ["Book"] "maker" (Z4 0))))) (m_c .non) (Z4 3)) (Z7))))
def Z5a:List X→Sto→R X:=Y1k 4 Y2b
include Fx in
theorem Y7u (K_Entry_init:Kept P HasW.w K mg base 1 (He.ma K (He.ga K "Entry") "__init__") (spE K 3 Z06)) (F:FunD K "put" "Book.put" (defArgs Z2k) (defBody Z2k) (defScope Z2k) dl [] f fd):FnG P HasW.w K mg base 3 f fd ["self", "key", "mark", "text"] (spE K 4 Z5a):=fnE F Y72 fun cdv A outer s H E gu room=>by
  have h:Here (cxB P HasW.w K mg base Z8m "Book.put" (defScope Z2k) f cdv A outer s H E) (wxE E) 2:=V5 gu room
  unfold Y2b
  exact Y2 (Y3w h.u1 (Y6 ["Book"] Fx.at_Book_entries (Z0 0)) (Z0 1) (V8 (h.make Y1y (n:=2) Fx.M_Entry K_Entry_init (by decide)) rfl Fx.g_Entry Fx.M_Entry.kp (Z1 (Z0 2) (Z1 (Z45 (W7 h.eq (Z0 2) (Y6 ["Tool"] Fx.at_Tool_blank (Y6 ["Book"] Fx.at_Book_maker (Z0 0)))) (U5) (Z0 3)) (Z5)))))
def Z5j:List Str:=["self", "key", "word", "text", "entry", "mark", "took"]
theorem Z3s:Z5j.Nodup:=by decide +kernel
theorem Y14:FnScope Z5j ["self", "key", "word", "text"] (defScope Z0w):=⟨rfl,rfl,rfl,Z3s,rfl,by decide +kernel,by decide +kernel⟩
def Z71:MS:=Z9 (W3 4 (Z07 "Book" "entry" (X9 2 (W1 [] Q3)) (Z4 0) (Z3 (Z4 1) (Z7)))) (Z9 (Z55 (.tp [(.nm 5),(.nm 6)]) (Z07 "Tool" "becomes" (X9 3 (W1 [] (callP Z0v))) (Y9 ["Book"] "maker" (Z4 0)) (Z3 (Z4 2) (Z3 (Y9 ["Entry"] "mark" (Z4 4)) (Z7))))) (U6 (Z07 "Book" "put" (X9 4 (W1 [] Z5a)) (Z4 0) (Z3 (Z4 1) (Z3 (Z4 5) (Z3 (Z6c (W9 (Z4 6)) (Z4 3) (Y9 ["Entry"] "text" (Z4 4))) (Z7)))))))
def Z0j:List X→Sto→R X:=Y1k 7 Z71
include Fx in
theorem Z7d (K_Book_entry:Kept P HasW.w K mg base 3 (He.ma K (He.ga K "Book") "entry") (spE K 2 Q3)) (K_Tool_becomes:Kept P HasW.w K mg base 3 (He.ma K (He.ga K "Tool") "becomes") (spP K 3 Z0v)) (K_Book_put:Kept P HasW.w K mg base 3 (He.ma K (He.ga K "Book") "put") (spE K 4 Z5a)) (F:FunD K "happen" "Book.happen" (defArgs Z0w) (defBody Z0w) (defScope Z0w) dl [] f fd):FnG P HasW.w K mg base 4 f fd ["self", "key", "word", "text"] (spE K 4 Z0j):=fnE F Y14 fun cdv A outer s H E gu room=>by
  have h:Here (cxB P HasW.w K mg base Z5j "Book.happen" (defScope Z0w) f cdv A outer s H E) (wxE E) 3:=V5 gu room
  unfold Z71
  exact Z6 (V7 (i:=4) Z3s rfl (by first | exact Or.inl rfl | exact Or.inr rfl) (Z0s (h.callE K_Book_entry (by decide)) Fx.c_Book Fx.m_Book_entry (Z0 0) (Z1 (Z0 1) (Z5)))) (Z6 (Z9v (Z0s (h.callP K_Tool_becomes (by decide)) Fx.c_Tool Fx.m_Tool_becomes (Y6 ["Book"] Fx.at_Book_maker (Z0 0)) (Z1 (Z0 2) (Z1 (Y6 ["Entry"] Fx.at_Entry_mark (Z0 4)) (Z5)))) (Z1t rfl (X4 (Y7 (i:=5) Z3s rfl (by first | exact Or.inl rfl | exact Or.inr rfl)) (X4 (Y7 (i:=6) Z3s rfl (by first | exact Or.inl rfl | exact Or.inr rfl)) (Z0m))))) (Y2 (Q0 (Z0s (h.callE K_Book_put (by decide)) Fx.c_Book Fx.m_Book_put (Z0 0) (Z1 (Z0 1) (Z1 (Z0 5) (Z1 (Z45 (V6 (Z0 6)) (Z0 3) (Y6 ["Entry"] Fx.at_Entry_text (Z0 4))) (Z5))))))))
def Z02:List Str:=["self", "key", "places", "comers", "told", "elder", "place", "one", "source"]
theorem U1:Z02.Nodup:=by decide +kernel
theorem Z9g:FnScope Z02 ["self", "key", "places"] (defScope U2):=⟨rfl,rfl,rfl,U1,rfl,by decide +kernel,by decide +kernel⟩
def Z57:MS:=Z9 (W3 3 (Z3r (.tp [(.nm 6),(.nm 7),(.nm 8)]) (Z0c (Z4 2)) (U4 (Y5 eqD (Z4 7) (Z4 1))) (V3 (Z3 (Z4 6) (Z3 (Z4 8) (Z7)))) [6,7,8])) (Z9 (W3 4 (Z3r (.tp [(.nm 6),(.nm 8)]) (Z0c (Z4 3)) (U4 (Y5 X6w (Z4 8) (m_c .non))) (Z4 8) [6,8])) (Z9 (Z0r (U4 (Y5 gtD (Z8 Z3e (Z3 (Z4 4) (Z7))) (m_c (.int 0)))) (Z6e (Z03 (Z4 4) (m_c (.int 0)))) (V4)) (Z9 (W3 5 (Z3r (.tp [(.nm 6),(.nm 8)]) (Z0c (Z4 3)) (U4 (Z8c false (Z4 6) (Y9 ["Book"] "held" (Z4 0)))) (Z2g (Y9 ["Book"] "held" (Z4 0)) (Z4 6)) [6,8])) (Z6e (Z6c (U4 (Y5 gtD (Z8 Z3e (Z3 (Z4 5) (Z7))) (m_c (.int 0)))) (Z03 (Z4 5) (m_c (.int 0))) (m_c .non))))))
def Z31:List X→Sto→R X:=Y1k 9 Z57
include Fx in
theorem Z9d  (F:FunD K "source_of" "Book.source_of" (defArgs U2) (defBody U2) (defScope U2) dl [] f fd):FnG P HasW.w K mg base 1 f fd ["self", "key", "places"] (spE K 3 Z31):=fnE F Z9g fun cdv A outer s H E gu room=>by
  have h:Here (cxB P HasW.w K mg base Z02 "Book.source_of" (defScope U2) f cdv A outer s H E) (wxE E) 0:=V5 gu room
  unfold Z57
  exact Z6 (Z52 (i:=3) (own:=[("place",6),("one",7),("source",8)]) (t:=(.tp [(.nm 6),(.nm 7),(.nm 8)])) rfl U1 rfl rfl rfl (Z0i (Z0 2)) (blkOk_by (N:=Z02) (sc:=defScope U2) (by decide +kernel)) (by decide) (fun _ _ _ _ _=>Z1t rfl (X4 (Y7 (i:=6) U1 rfl (by first | exact Or.inl rfl | exact Or.inr rfl)) (X4 (Y7 (i:=7) U1 rfl (by first | exact Or.inl rfl | exact Or.inr rfl)) (X4 (Y7 (i:=8) U1 rfl (by first | exact Or.inl rfl | exact Or.inr rfl)) (Z0m))))) (fun _ _ _ _ _=>Z46 (W7 (h.blk _ _ _ _ _).eq (Z0 7) (Z0 1))) (fun _ _ _ _ _=>W4 (Z1 (Z0 6) (Z1 (Z0 8) (Z5))))) (Z6 (Z52 (i:=4) (own:=[("place",6),("source",8)]) (t:=(.tp [(.nm 6),(.nm 8)])) rfl U1 rfl rfl rfl (Z0i (Z0 3)) (blkOk_by (N:=Z02) (sc:=defScope U2) (by decide +kernel)) (by decide) (fun _ _ _ _ _=>Z1t rfl (X4 (Y7 (i:=6) U1 rfl (by first | exact Or.inl rfl | exact Or.inr rfl)) (X4 (Y7 (i:=8) U1 rfl (by first | exact Or.inl rfl | exact Or.inr rfl)) (Z0m)))) (fun _ _ _ _ _=>Z46 (W7 (h.blk _ _ _ _ _).isn (Z0 8) (U5))) (fun _ _ _ _ _=>Z0 8)) (Z6 (Q9 (W7 h.gt (Q5 Z24 Z3c rfl Fx.f_len (Z1 (Z0 4) (Z5))) (Y8)) (Y2 (Z6p (Z0g (Z0 4) (Y8)))) (X8)) (Z6 (Z52 (i:=5) (own:=[("place",6),("source",8)]) (t:=(.tp [(.nm 6),(.nm 8)])) rfl U1 rfl rfl rfl (Z0i (Z0 3)) (blkOk_by (N:=Z02) (sc:=defScope U2) (by decide +kernel)) (by decide) (fun _ _ _ _ _=>Z1t rfl (X4 (Y7 (i:=6) U1 rfl (by first | exact Or.inl rfl | exact Or.inr rfl)) (X4 (Y7 (i:=8) U1 rfl (by first | exact Or.inl rfl | exact Or.inr rfl)) (Z0m)))) (fun _ _ _ _ _=>Z46 (X64 (h.blk _ _ _ _ _).u1 (Z0 6) (Y6 ["Book"] Fx.at_Book_held (Z0 0)))) (fun _ _ _ _ _=>Z17 (h.blk _ _ _ _ _).u1 (Y6 ["Book"] Fx.at_Book_held (Z0 0)) (Z0 6))) (Y2 (Z6p (Z45 (W7 h.gt (Q5 Z24 Z3c rfl Fx.f_len (Z1 (Z0 5) (Z5))) (Y8)) (Z0g (Z0 5) (Y8)) (U5)))))))
def Z7f:List Str:=["self", "key", "places", "ahead", "source", "elder"]
theorem Z6q:Z7f.Nodup:=by decide +kernel
theorem Y6d:FnScope Z7f ["self", "key", "places", "ahead"] (defScope Z1v):=⟨rfl,rfl,rfl,Z6q,rfl,by decide +kernel,by decide +kernel⟩
def Y0f:MS:=Z9 (Z0r (U4 (Y5 neD (Y9 ["Entry"] "mark" (Z07 "Book" "entry" (X9 2 (W1 [] Q3)) (Z4 0) (Z3 (Z4 1) (Z7)))) (Y9 ["Tool"] "blank" (Y9 ["Book"] "maker" (Z4 0))))) (Z9 (U6 (Z07 "Book" "happen" (X9 3 (W1 [.non] Z0j)) (Z4 0) (Z3 (Z4 1) (Z3 (m_c (.str "back")) (Z7))))) (Z9x)) (V4)) (Z9 (W3 4 (Z07 "Book" "source_of" (X9 3 (W1 [] Z31)) (Z4 0) (Z3 (Z4 1) (Z3 (Z4 2) (Z7))))) (Z9 (W3 5 (Z6c (U4 (Y5 X6w (Z4 4) (m_c .non))) (Z5y (Z4 3) (Z4 4)) (m_c .non))) (Z0r (Q8 (U4 (Y5 X6w (Z4 5) (m_c .non))) (U4 (Y5 neD (Y9 ["Entry"] "mark" (Z4 5)) (Y9 ["Tool"] "blank" (Y9 ["Book"] "maker" (Z4 0)))))) (U6 (Z07 "Book" "put" (X9 4 (W1 [] Z5a)) (Z4 0) (Z3 (Z4 1) (Z3 (Z03 (Z07 "Tool" "becomes" (X9 3 (W1 [] (callP Z0v))) (Y9 ["Book"] "maker" (Z4 0)) (Z3 (m_c (.str "carry")) (Z3 (Y9 ["Entry"] "mark" (Z4 5)) (Z7)))) (m_c (.int 0))) (Z3 (Y9 ["Entry"] "text" (Z4 5)) (Z7)))))) (V4))))
def Z7q:List X→Sto→R X:=Y1k 6 Y0f
include Fx in
theorem Y5u (K_Book_entry:Kept P HasW.w K mg base 3 (He.ma K (He.ga K "Book") "entry") (spE K 2 Q3)) (K_Book_happen:Kept P HasW.w K mg base 4 (He.ma K (He.ga K "Book") "happen") (spE K 4 Z0j)) (D_Book_happen_1:KeptD P HasW.w K mg base 4 (He.ma K (He.ga K "Book") "happen") (spE K 4 Z0j) [.non]) (K_Book_source_of:Kept P HasW.w K mg base 1 (He.ma K (He.ga K "Book") "source_of") (spE K 3 Z31)) (K_Book_put:Kept P HasW.w K mg base 3 (He.ma K (He.ga K "Book") "put") (spE K 4 Z5a)) (K_Tool_becomes:Kept P HasW.w K mg base 3 (He.ma K (He.ga K "Tool") "becomes") (spP K 3 Z0v)) (F:FunD K "come" "Book.come" (defArgs Z1v) (defBody Z1v) (defScope Z1v) dl [] f fd):FnG P HasW.w K mg base 5 f fd ["self", "key", "places", "ahead"] (spE K 4 Z7q):=fnE F Y6d fun cdv A outer s H E gu room=>by
  have h:Here (cxB P HasW.w K mg base Z7f "Book.come" (defScope Z1v) f cdv A outer s H E) (wxE E) 4:=V5 gu room
  unfold Y0f
  exact Z6 (Q9 (W7 h.ne (Y6 ["Entry"] Fx.at_Entry_mark (Z0s (h.callE K_Book_entry (by decide)) Fx.c_Book Fx.m_Book_entry (Z0 0) (Z1 (Z0 1) (Z5)))) (Y6 ["Tool"] Fx.at_Tool_blank (Y6 ["Book"] Fx.at_Book_maker (Z0 0)))) (Z6 (Q0 (Z0s (h.callED (n:=3) (dxs:=[.non]) D_Book_happen_1 (by decide)) Fx.c_Book Fx.m_Book_happen (Z0 0) (Z1 (Z0 1) (Z1 (Y4) (Z5))))) (Y2 (X9g))) (X8)) (Z6 (V7 (i:=4) Z6q rfl (by first | exact Or.inl rfl | exact Or.inr rfl) (Z0s (h.callE K_Book_source_of (by decide)) Fx.c_Book Fx.m_Book_source_of (Z0 0) (Z1 (Z0 1) (Z1 (Z0 2) (Z5))))) (Z6 (V7 (i:=5) Z6q rfl (by first | exact Or.inl rfl | exact Or.inr rfl) (Z45 (W7 h.isn (Z0 4) (U5)) (Z96 h.u1 (Z0 3) (Z0 4)) (U5))) (Y2 (Q9 (Z6a (Z1p (W7 h.isn (Z0 5) (U5)) (Z1k (W7 h.ne (Y6 ["Entry"] Fx.at_Entry_mark (Z0 5)) (Y6 ["Tool"] Fx.at_Tool_blank (Y6 ["Book"] Fx.at_Book_maker (Z0 0))))))) (Y2 (Q0 (Z0s (h.callE K_Book_put (by decide)) Fx.c_Book Fx.m_Book_put (Z0 0) (Z1 (Z0 1) (Z1 (Z0g (Z0s (h.callP K_Tool_becomes (by decide)) Fx.c_Tool Fx.m_Tool_becomes (Y6 ["Book"] Fx.at_Book_maker (Z0 0)) (Z1 (Y4) (Z1 (Y6 ["Entry"] Fx.at_Entry_mark (Z0 5)) (Z5)))) (Y8)) (Z1 (Y6 ["Entry"] Fx.at_Entry_text (Z0 5)) (Z5))))))) (X8)))))
def Z22:List Str:=["self", "places", "before", "ahead", "now", "used", "key", "place", "source"]
theorem U9:Z22.Nodup:=by decide +kernel
theorem Y6e:FnScope Z22 ["self", "places"] (defScope Z0k):=⟨rfl,rfl,rfl,U9,rfl,by decide +kernel,by decide +kernel⟩
def Y0g:MS:=Z9 (Z55 (.tp [(.nm 2),(.nm 3)]) (V3 (Z3 (Y9 ["Book"] "held" (Z4 0)) (Z3 (Z8 Y5d (Z3 (Y9 ["Book"] "entries" (Z4 0)) (Z7))) (Z7))))) (Z9 (W3 4 (X0e (.tp [(.nm 7),(.nm 6),(.nm 8)]) (Z0c (Z4 1)) (W0) (Z4 7) (Z4 6) [7,6,8])) (Z9 (W3 5 (X0e (.nm 7) (Z29 (Z4 2)) (W0) (Z2g (Z4 2) (Z4 7)) (m_c (.bl true)) [7])) (Z9 (Z2y (.nm 6) (Z29 (X0e (.nm 7) (Z29 (Z4 4)) (W0) (Z2g (Z4 4) (Z4 7)) (m_c (.bl true)) [7])) (Z0r (U4 (Z8c true (Z4 6) (Z4 5))) (U6 (Z07 "Book" "come" (X9 4 (W1 [] Z7q)) (Z4 0) (Z3 (Z4 6) (Z3 (Z4 1) (Z3 (Z4 3) (Z7)))))) (V4))) (Z9 (Z2y (.nm 6) (Z29 (Z4 5)) (Z0r (U4 (Y5 W4c (Z4 6) (Z3r (.nm 7) (Z29 (Z4 4)) (W0) (Z2g (Z4 4) (Z4 7)) [7]))) (U6 (Z07 "Book" "happen" (X9 3 (W1 [.non] Z0j)) (Z4 0) (Z3 (Z4 6) (Z3 (m_c (.str "drop")) (Z7))))) (V4))) (Z9 (Z2d ["Book"] "held" (Z4 0) (Z4 4)) (U6 (Z4q Z0l V0 (Y9 ["Story", "Book"] "editions" (Z4 0)) (Z3 (Z4 4) (Z7)))))))))
def Z7r:List X→Sto→R X:=Y1k 9 Y0g
include Fx in
theorem Y5v (K_Book_come:Kept P HasW.w K mg base 5 (He.ma K (He.ga K "Book") "come") (spE K 4 Z7q)) (K_Book_happen:Kept P HasW.w K mg base 4 (He.ma K (He.ga K "Book") "happen") (spE K 4 Z0j)) (D_Book_happen_1:KeptD P HasW.w K mg base 4 (He.ma K (He.ga K "Book") "happen") (spE K 4 Z0j) [.non]) (F:FunD K "edit" "Book.edit" (defArgs Z0k) (defBody Z0k) (defScope Z0k) dl [] f fd):FnG P HasW.w K mg base 6 f fd ["self", "places"] (spE K 2 Z7r):=fnE F Y6e fun cdv A outer s H E gu room=>by
  have h:Here (cxB P HasW.w K mg base Z22 "Book.edit" (defScope Z0k) f cdv A outer s H E) (wxE E) 5:=V5 gu room
  unfold Y0g
  exact Z6 (Z9v (W4 (Z1 (Y6 ["Book"] Fx.at_Book_held (Z0 0)) (Z1 (X2u rfl rfl Fx.f_dict (Z1 (Y6 ["Book"] Fx.at_Book_entries (Z0 0)) (Z5))) (Z5)))) (Z1t rfl (X4 (Y7 (i:=2) U9 rfl (by first | exact Or.inl rfl | exact Or.inr rfl)) (X4 (Y7 (i:=3) U9 rfl (by first | exact Or.inl rfl | exact Or.inr rfl)) (Z0m))))) (Z6 (V7 (i:=4) U9 rfl (by first | exact Or.inl rfl | exact Or.inr rfl) (X5c (own:=[("place",7),("key",6),("source",8)]) (t:=(.tp [(.nm 7),(.nm 6),(.nm 8)])) rfl U9 (Z0i (Z0 1)) (blkOk_by (N:=Z22) (sc:=defScope Z0k) (by decide +kernel)) (by decide) (fun _ _ _ _ _=>Z1t rfl (X4 (Y7 (i:=7) U9 rfl (by first | exact Or.inl rfl | exact Or.inr rfl)) (X4 (Y7 (i:=6) U9 rfl (by first | exact Or.inl rfl | exact Or.inr rfl)) (X4 (Y7 (i:=8) U9 rfl (by first | exact Or.inl rfl | exact Or.inr rfl)) (Z0m))))) (fun _ _ _ _ _=>Z0a) (fun _ _ _ _ _=>Z0 7) (fun _ _ _ _ _=>Z0 6))) (Z6 (X5e (i:=5) (own:=[("place",7)]) (t:=(.nm 7)) rfl U9 rfl rfl (W0v rfl rfl rfl (by decide +kernel)) (Z3o (Z0 2)) (blkOk_by (N:=Z22) (sc:=defScope Z0k) (by decide +kernel)) (by decide) (fun _ _ _ _ _=>Y7 (i:=7) U9 rfl (by first | exact Or.inl rfl | exact Or.inr rfl)) (fun _ _ _ _ _=>Z0a) (fun _ _ _ _ _=>Z17 (h.blk _ _ _ _ _).u1 (Z0 2) (Z0 7)) (fun _ _ _ _ _=>Z44)) (Z6 (Z5b Z34 rfl (Z3o (X5c (own:=[("place",7)]) (t:=(.nm 7)) rfl U9 (Z3o (Z0 4)) (blkOk_by (N:=Z22) (sc:=defScope Z0k) (by decide +kernel)) (by decide) (fun _ _ _ _ _=>Y7 (i:=7) U9 rfl (by first | exact Or.inl rfl | exact Or.inr rfl)) (fun _ _ _ _ _=>Z0a) (fun _ _ _ _ _=>Z17 (h.blk _ _ _ _ _).u1 (Z0 4) (Z0 7)) (fun _ _ _ _ _=>Z44))) (Y7 (i:=6) U9 rfl (by first | exact Or.inl rfl | exact Or.inr rfl)) (Y2 (Q9 (X26 h.u1 (Z0 6) (Z0 5)) (Y2 (Q0 (Z0s (h.callE K_Book_come (by decide)) Fx.c_Book Fx.m_Book_come (Z0 0) (Z1 (Z0 6) (Z1 (Z0 1) (Z1 (Z0 3) (Z5))))))) (X8)))) (Z6 (Z5b Z34 rfl (Z3o (Z0 5)) (Y7 (i:=6) U9 rfl (by first | exact Or.inl rfl | exact Or.inr rfl)) (Y2 (Q9 (W7 h.nin (Z0 6) (Z4h (own:=[("place",7)]) (t:=(.nm 7)) rfl U9 (Z3o (Z0 4)) (blkOk_by (N:=Z22) (sc:=defScope Z0k) (by decide +kernel)) (by decide) (fun _ _ _ _ _=>Y7 (i:=7) U9 rfl (by first | exact Or.inl rfl | exact Or.inr rfl)) (fun _ _ _ _ _=>Z0a) (fun _ _ _ _ _=>Z17 (h.blk _ _ _ _ _).u1 (Z0 4) (Z0 7)))) (Y2 (Q0 (Z0s (h.callED (n:=3) (dxs:=[.non]) D_Book_happen_1 (by decide)) Fx.c_Book Fx.m_Book_happen (Z0 0) (Z1 (Z0 6) (Z1 (Y4) (Z5)))))) (X8)))) (Z6 (Z2c ["Book"] Fx.at_Book_held (Z0 0) (Z0 4)) (Y2 (Q0 (Z3j PySem.F.slot_list_append PySem.F.type_list_append mt_append Q1 (Y6 ["Story", "Book"] Fx.at_Story_Book_editions (Z0 0)) (Z1 (Z0 4) (Z5))))))))))
def Y0b:List Str:=["self", "move", "keys", "entry"]
theorem Z89:Y0b.Nodup:=by decide +kernel
theorem X0s:FnScope Y0b ["self", "move"] (defScope Z3a):=⟨rfl,rfl,rfl,Z89,rfl,by decide +kernel,by decide +kernel⟩
def Y4w:MS:=Z0r (U4 (Y5 eqD (Z03 (Z4 1) (m_c (.int 0))) (m_c (.str "edition")))) (U6 (Z07 "Book" "edit" (X9 2 (W1 [] Z7r)) (Z4 0) (Z3 (Z03 (Z4 1) (m_c (.int 1))) (Z7)))) (Z0r (U4 (Y5 eqD (Z03 (Z4 1) (m_c (.int 0))) (m_c (.str "give")))) (Z9 (W3 2 (Z6c (U4 (Y5 eqD (Z8 Z3e (Z3 (Z4 1) (Z7))) (m_c (.int 3)))) (Z03 (Y9 ["Story", "Book"] "editions" (Z4 0)) (Z03 (Z4 1) (m_c (.int 2)))) (Y9 ["Book"] "held" (Z4 0)))) (U6 (Z07 "Book" "happen" (X9 4 (W1 [] Z0j)) (Z4 0) (Z3 (Z2g (Z4 2) (Z03 (Z4 1) (m_c (.int 1)))) (Z3 (m_c (.str "give")) (Z3 (Z03 (Z4 1) (m_c (.int 1))) (Z7))))))) (Z9 (W3 3 (Z07 "Book" "entry" (X9 2 (W1 [] Q3)) (Z4 0) (Z3 (Z2g (Y9 ["Book"] "held" (Z4 0)) (Z03 (Z4 1) (m_c (.int 1)))) (Z7)))) (Z0r (U4 (Y5 neD (Y9 ["Entry"] "mark" (Z4 3)) (Y9 ["Tool"] "blank" (Y9 ["Book"] "maker" (Z4 0))))) (U6 (Z07 "Book" "happen" (X9 3 (W1 [.non] Z0j)) (Z4 0) (Z3 (Z2g (Y9 ["Book"] "held" (Z4 0)) (Z03 (Z4 1) (m_c (.int 1)))) (Z3 (Z6c (U4 (Y5 eqD (Y9 ["Entry"] "text" (Z4 3)) (Z03 (Z4 1) (m_c (.int 1))))) (m_c (.str "right")) (m_c (.str "wrong"))) (Z7))))) (V4))))
def Y07:List X→Sto→R X:=Y1k 4 Y4w
include Fx in
theorem X0k (K_Book_edit:Kept P HasW.w K mg base 6 (He.ma K (He.ga K "Book") "edit") (spE K 2 Z7r)) (K_Book_happen:Kept P HasW.w K mg base 4 (He.ma K (He.ga K "Book") "happen") (spE K 4 Z0j)) (K_Book_entry:Kept P HasW.w K mg base 3 (He.ma K (He.ga K "Book") "entry") (spE K 2 Q3)) (D_Book_happen_1:KeptD P HasW.w K mg base 4 (He.ma K (He.ga K "Book") "happen") (spE K 4 Z0j) [.non]) (F:FunD K "do" "Book.do" (defArgs Z3a) (defBody Z3a) (defScope Z3a) dl [] f fd):FnG P HasW.w K mg base 7 f fd ["self", "move"] (spE K 2 Y07):=fnE F X0s fun cdv A outer s H E gu room=>by
  have h:Here (cxB P HasW.w K mg base Y0b "Book.do" (defScope Z3a) f cdv A outer s H E) (wxE E) 6:=V5 gu room
  unfold Y4w
  exact Y2 (Q9 (W7 h.eq (Z0g (Z0 1) (Y8)) (Y4)) (Y2 (Q0 (Z0s (h.callE K_Book_edit (by decide)) Fx.c_Book Fx.m_Book_edit (Z0 0) (Z1 (Z0g (Z0 1) (Y8)) (Z5))))) (Y2 (Q9 (W7 h.eq (Z0g (Z0 1) (Y8)) (Y4)) (Z6 (V7 (i:=2) Z89 rfl (by first | exact Or.inl rfl | exact Or.inr rfl) (Z45 (W7 h.eq (Q5 Z24 Z3c rfl Fx.f_len (Z1 (Z0 1) (Z5))) (Y8)) (Z0g (Y6 ["Story", "Book"] Fx.at_Story_Book_editions (Z0 0)) (Z0g (Z0 1) (Y8))) (Y6 ["Book"] Fx.at_Book_held (Z0 0)))) (Y2 (Q0 (Z0s (h.callE K_Book_happen (by decide)) Fx.c_Book Fx.m_Book_happen (Z0 0) (Z1 (Z17 h.u1 (Z0 2) (Z0g (Z0 1) (Y8))) (Z1 (Y4) (Z1 (Z0g (Z0 1) (Y8)) (Z5)))))))) (Z6 (V7 (i:=3) Z89 rfl (by first | exact Or.inl rfl | exact Or.inr rfl) (Z0s (h.callE K_Book_entry (by decide)) Fx.c_Book Fx.m_Book_entry (Z0 0) (Z1 (Z17 h.u1 (Y6 ["Book"] Fx.at_Book_held (Z0 0)) (Z0g (Z0 1) (Y8))) (Z5)))) (Y2 (Q9 (W7 h.ne (Y6 ["Entry"] Fx.at_Entry_mark (Z0 3)) (Y6 ["Tool"] Fx.at_Tool_blank (Y6 ["Book"] Fx.at_Book_maker (Z0 0)))) (Y2 (Q0 (Z0s (h.callED (n:=3) (dxs:=[.non]) D_Book_happen_1 (by decide)) Fx.c_Book Fx.m_Book_happen (Z0 0) (Z1 (Z17 h.u1 (Y6 ["Book"] Fx.at_Book_held (Z0 0)) (Z0g (Z0 1) (Y8))) (Z1 (Z45 (W7 h.eq (Y6 ["Entry"] Fx.at_Entry_text (Z0 3)) (Z0g (Z0 1) (Y8))) (Y4) (Y4)) (Z5)))))) (X8)))))))
def Z7x:List Str:=["tool", "place", "ahead", "book", "keys", "entries", "key", "blank", "other"]
theorem Z3q:Z7x.Nodup:=by decide +kernel
theorem X0t:FnScope Z7x ["tool", "place", "ahead", "book"] (defScope Z2q):=⟨rfl,rfl,rfl,Z3q,rfl,by decide +kernel,by decide +kernel⟩
def Y4y:MS:=Z9 (Z55 (.tp [(.nm 4),(.nm 5)]) (Z4 2)) (Z9 (W3 6 (Z2g (Y9 ["Book"] "held" (Z4 3)) (Z4 1))) (Z9 (W3 7 (Z8 (X9 2 (W1 [] (made "Entry" mkF Z06))) (Z3 (Y9 ["Tool"] "blank" (Z4 0)) (Z3 (m_c .non) (Z7))))) (Z9 (Z0r (Z2b (U4 (Z8c true (Z4 1) (Z4 4))) (Z2b (U4 (Y5 eqD (Z2g (Z4 4) (Z4 1)) (Z4 6))) (U4 (Y5 inD (Z4 6) (Z3r (.nm 8) (Z29 (Z4 4)) (W0) (Z2g (Z4 4) (Z4 8)) [8]))))) (Z6e (m_c (.bl false))) (V4)) (Z9 (Z0r (Z2b (U4 (Y5 neD (Y9 ["Entry"] "text" (Y1c (Z4 5) (Z2g (Z4 4) (Z4 1)) (Z4 7))) (Z4 1))) (U4 (Y5 neD (Y9 ["Entry"] "mark" (Y1c (Z4 5) (Z4 6) (Z4 7))) (Y9 ["Tool"] "blank" (Z4 0))))) (Z6e (m_c (.bl false))) (V4)) (Z6e (Y5 neD (Y9 ["Entry"] "text" (Z07 "Book" "entry" (X9 2 (W1 [] Q3)) (Z4 3) (Z3 (Z4 6) (Z7)))) (Z4 1)))))))
def g_is_lost:List X→Sto→R X:=Y1k 9 Y4y
include Fx in
theorem X0l (K_Entry_init:Kept P HasW.w K mg base 1 (He.ma K (He.ga K "Entry") "__init__") (spE K 3 Z06)) (K_Book_entry:Kept P HasW.w K mg base 3 (He.ma K (He.ga K "Book") "entry") (spE K 2 Q3)) (F:FunD K "is_lost" "is_lost" (defArgs Z2q) (defBody Z2q) (defScope Z2q) dl [] f fd):FnG P HasW.w K mg base 4 f fd ["tool", "place", "ahead", "book"] (spE K 4 g_is_lost):=fnE F X0t fun cdv A outer s H E gu room=>by
  have h:Here (cxB P HasW.w K mg base Z7x "is_lost" (defScope Z2q) f cdv A outer s H E) (wxE E) 3:=V5 gu room
  unfold Y4y
  exact Z6 (Z9v (Z0 2) (Z1t rfl (X4 (Y7 (i:=4) Z3q rfl (by first | exact Or.inl rfl | exact Or.inr rfl)) (X4 (Y7 (i:=5) Z3q rfl (by first | exact Or.inl rfl | exact Or.inr rfl)) (Z0m))))) (Z6 (V7 (i:=6) Z3q rfl (by first | exact Or.inl rfl | exact Or.inr rfl) (Z17 h.u1 (Y6 ["Book"] Fx.at_Book_held (Z0 3)) (Z0 1))) (Z6 (V7 (i:=7) Z3q rfl (by first | exact Or.inl rfl | exact Or.inr rfl) (V8 (h.make Y1y (n:=2) Fx.M_Entry K_Entry_init (by decide)) rfl Fx.g_Entry Fx.M_Entry.kp (Z1 (Y6 ["Tool"] Fx.at_Tool_blank (Z0 0)) (Z1 (U5) (Z5))))) (Z6 (Q9 (Z6a (Z47 (X26 h.u1 (Z0 1) (Z0 4)) (Z47 (W7 h.eq (Z17 h.u1 (Z0 4) (Z0 1)) (Z0 6)) (Z3v (W7 h.in_ (Z0 6) (Z4h (own:=[("other",8)]) (t:=(.nm 8)) rfl Z3q (Z3o (Z0 4)) (blkOk_by (N:=Z7x) (sc:=defScope Z2q) (by decide +kernel)) (by decide) (fun _ _ _ _ _=>Y7 (i:=8) Z3q rfl (by first | exact Or.inl rfl | exact Or.inr rfl)) (fun _ _ _ _ _=>Z0a) (fun _ _ _ _ _=>Z17 (h.blk _ _ _ _ _).u1 (Z0 4) (Z0 8)))))))) (Y2 (Z6p (Z44))) (X8)) (Z6 (Q9 (Z6a (Z47 (W7 h.ne (Y6 ["Entry"] Fx.at_Entry_text (Z97 h.u1 (Z0 5) (Z17 h.u1 (Z0 4) (Z0 1)) (Z0 7))) (Z0 1)) (Z3v (W7 h.ne (Y6 ["Entry"] Fx.at_Entry_mark (Z97 h.u1 (Z0 5) (Z0 6) (Z0 7))) (Y6 ["Tool"] Fx.at_Tool_blank (Z0 0)))))) (Y2 (Z6p (Z44))) (X8)) (Y2 (Z6p (Z4p h.ne (Y6 ["Entry"] Fx.at_Entry_text (Z0s (h.callE K_Book_entry (by decide)) Fx.c_Book Fx.m_Book_entry (Z0 3) (Z1 (Z0 6) (Z5)))) (Z0 1))))))))
def Z6i:List Str:=["self"]
theorem Y3z:Z6i.Nodup:=by decide +kernel
theorem Y4g:FnScope Z6i ["self"] (defScope Z1c):=⟨rfl,rfl,rfl,Y3z,rfl,by decide +kernel,by decide +kernel⟩
def Z9m:MS:=Z3h (Z3 (Y9 ["Entry"] "mark" (Z4 0)) (Z3 (Y9 ["Entry"] "text" (Z4 0)) (Z7)))
def Z28:List D→PR:=Z6v 1 Z9m
include Fx in
theorem Y36  (F:FunD K "told" "Entry.told" (defArgs Z1c) (defBody Z1c) (defScope Z1c) dl [] f fd):FnG P HasW.w K mg base 1 f fd ["self"] (spP K 1 Z28):=fnP F Y4g fun cdv A outer s H E gu room=>by
  have h:Here (cxB P HasW.w K mg base Z6i "Entry.told" (defScope Z1c) f cdv A outer s H E) (wxE E) 0:=V5 gu room
  unfold Z9m
  exact Y2 (Z7v (Z1 (Y6 ["Entry"] Fx.at_Entry_mark (Z0 0)) (Z1 (Y6 ["Entry"] Fx.at_Entry_text (Z0 0)) (Z5))))
def Z7l:List Str:=["tool", "place", "mark", "text", "then", "took", "found"]
theorem Z3y:Z7l.Nodup:=by decide +kernel
theorem Y6o:FnScope Z7l ["tool", "place", "mark", "text"] (defScope Z12):=⟨rfl,rfl,rfl,Z3y,rfl,by decide +kernel,by decide +kernel⟩
def Y0p:MS:=Z9 (Z55 (.tp [(.nm 4),(.nm 5)]) (Z07 "Tool" "becomes" (X9 3 (W1 [] (callP Z0v))) (Z4 0) (Z3 (m_c (.str "give")) (Z3 (Z4 2) (Z7))))) (Z9 (W3 6 (Z2a (Z3 (V3 (Z3 (Z4 4) (Z3 (Z6c (U4 (Y5 eqD (Z4 4) (Y9 ["Tool"] "blank" (Z4 0)))) (m_c .non) (Z6c (W9 (Z4 5)) (Z4 1) (Z4 3))) (Z7)))) (Z7)))) (Z9 (Z0r (U4 (Y5 neD (Z4 2) (Y9 ["Tool"] "blank" (Z4 0)))) (Z9 (W3 4 (Z03 (Z07 "Tool" "becomes" (X9 3 (W1 [] (callP Z0v))) (Z4 0) (Z3 (Z6c (U4 (Y5 eqD (Z4 3) (Z4 1))) (m_c (.str "right")) (m_c (.str "wrong"))) (Z3 (Z4 2) (Z7)))) (m_c (.int 0)))) (U6 (Z4q Z0l V0 (Z4 6) (Z3 (V3 (Z3 (Z4 4) (Z3 (Z6c (U4 (Y5 eqD (Z4 4) (Y9 ["Tool"] "blank" (Z4 0)))) (m_c .non) (Z4 3)) (Z7)))) (Z7))))) (V4)) (V1 (Z4 6))))
def g_ways_from:List D→PR:=Z6v 7 Y0p
include Fx in
theorem Y55 (K_Tool_becomes:Kept P HasW.w K mg base 3 (He.ma K (He.ga K "Tool") "becomes") (spP K 3 Z0v)) (F:FunD K "ways_from" "ways_from" (defArgs Z12) (defBody Z12) (defScope Z12) dl [] f fd):FnG P HasW.w K mg base 4 f fd ["tool", "place", "mark", "text"] (spP K 4 g_ways_from):=fnP F Y6o fun cdv A outer s H E gu room=>by
  have h:Here (cxB P HasW.w K mg base Z7l "ways_from" (defScope Z12) f cdv A outer s H E) (wxE E) 3:=V5 gu room
  unfold Y0p
  exact Z6 (Z9v (Z0s (h.callP K_Tool_becomes (by decide)) Fx.c_Tool Fx.m_Tool_becomes (Z0 0) (Z1 (Y4) (Z1 (Z0 2) (Z5)))) (Z1t rfl (X4 (Y7 (i:=4) Z3y rfl (by first | exact Or.inl rfl | exact Or.inr rfl)) (X4 (Y7 (i:=5) Z3y rfl (by first | exact Or.inl rfl | exact Or.inr rfl)) (Z0m))))) (Z6 (V7 (i:=6) Z3y rfl (by first | exact Or.inl rfl | exact Or.inr rfl) (Z32 (Z1 (W4 (Z1 (Z0 4) (Z1 (Z45 (W7 h.eq (Z0 4) (Y6 ["Tool"] Fx.at_Tool_blank (Z0 0))) (U5) (Z45 (V6 (Z0 5)) (Z0 1) (Z0 3))) (Z5)))) (Z5)))) (Z6 (Q9 (W7 h.ne (Z0 2) (Y6 ["Tool"] Fx.at_Tool_blank (Z0 0))) (Z6 (V7 (i:=4) Z3y rfl (by first | exact Or.inl rfl | exact Or.inr rfl) (Z0g (Z0s (h.callP K_Tool_becomes (by decide)) Fx.c_Tool Fx.m_Tool_becomes (Z0 0) (Z1 (Z45 (W7 h.eq (Z0 3) (Z0 1)) (Y4) (Y4)) (Z1 (Z0 2) (Z5)))) (Y8))) (Y2 (Q0 (Z3j PySem.F.slot_list_append PySem.F.type_list_append mt_append Q1 (Z0 6) (Z1 (W4 (Z1 (Z0 4) (Z1 (Z45 (W7 h.eq (Z0 4) (Y6 ["Tool"] Fx.at_Tool_blank (Z0 0))) (U5) (Z0 3)) (Z5)))) (Z5)))))) (X8)) (Y2 (U0 (Z0 6)))))
def Z8q:List Str:=["tool", "place", "entry", "found", "waiting", "mark", "text", "later"]
theorem Z4k:Z8q.Nodup:=by decide +kernel
theorem Y76:FnScope Z8q ["tool", "place", "entry"] (defScope Z2o):=⟨rfl,rfl,rfl,Z4k,rfl,by decide +kernel,by decide +kernel⟩
def Y2f:MS:=Z9 (Z6d 3 4 (Z3 (X2t (Z07 "Entry" "told" (W1 [] (callP Z28)) (Z4 2) Z7) (m_c (.bl true))) (Z3 (Z2a (Z3 (Z07 "Entry" "told" (W1 [] (callP Z28)) (Z4 2) Z7) (Z7))) (Z7)))) (Z9 (X3r (U4 (Y5 gtD (Z8 Z3e (Z3 (Z4 4) (Z7))) (m_c (.int 0)))) (Z9 (Z55 (.tp [(.nm 5),(.nm 6)]) (Z4q Z0l X12 (Z4 4) Z7)) (Z9 (Z0r (Q8 (U4 (Y5 eqD (Z4 6) (Z4 1))) (U4 (Y5 inD (Z4 5) (Y9 ["Tool"] "shown" (Z4 0))))) (V1 (m_c (.bl false))) (V4)) (Z2y (.nm 7) (Z0c (Z8 (X9 4 (W1 [] (callP g_ways_from))) (Z3 (Z4 0) (Z3 (Z4 1) (Z3 (Z4 5) (Z3 (Z4 6) (Z7))))))) (Z0r (U4 (X48 true (Z4 7) (Z4 3))) (Z9 (X7h (Z4 3) (Z4 7) (m_c (.bl true))) (U6 (Z4q Z0l V0 (Z4 4) (Z3 (Z4 7) (Z7))))) (V4)))))) (V1 (m_c (.bl true))))
def g_is_stuck:List D→PR:=Z6v 8 Y2f
include Fx in
theorem Y7y (K_Entry_told:Kept P HasW.w K mg base 1 (He.ma K (He.ga K "Entry") "told") (spP K 1 Z28)) (K_ways_from:Kept P HasW.w K mg base 4 (He.ga K "ways_from") (spP K 4 g_ways_from)) (F:FunD K "is_stuck" "is_stuck" (defArgs Z2o) (defBody Z2o) (defScope Z2o) dl [] f fd):FnG P HasW.w K mg base 5 f fd ["tool", "place", "entry"] (spP K 3 g_is_stuck):=fnP F Y76 fun cdv A outer s H E gu room=>by
  have h:Here (cxB P HasW.w K mg base Z8q "is_stuck" (defScope Z2o) f cdv A outer s H E) (wxE E) 4:=V5 gu room
  unfold Y2f
  exact Z6 (Y2w rfl Z4k (i:=3) (j:=4) rfl rfl (by decide) rfl rfl (Z1 (X5d rfl h.u1 (Y3u (h.callP K_Entry_told (by decide)) Fx.c_Entry Fx.m_Entry_told (Z0 2)) (Z44)) (Z1 (Z32 (Z1 (Y3u (h.callP K_Entry_told (by decide)) Fx.c_Entry Fx.m_Entry_told (Z0 2)) (Z5))) (Z5)))) (Z6 (X5f Z34 (W7 h.gt (Q5 Z24 Z3c rfl Fx.f_len (Z1 (Z0 4) (Z5))) (Y8)) (Z6 (Z9v (W2t PySem.F.slot_list_pop PySem.F.type_list_pop mt_pop W1x (Z0 4)) (Z1t rfl (X4 (Y7 (i:=5) Z4k rfl (by first | exact Or.inl rfl | exact Or.inr rfl)) (X4 (Y7 (i:=6) Z4k rfl (by first | exact Or.inl rfl | exact Or.inr rfl)) (Z0m))))) (Z6 (Q9 (Z6a (Z1p (W7 h.eq (Z0 6) (Z0 1)) (Z1k (W7 h.in_ (Z0 5) (Y6 ["Tool"] Fx.at_Tool_shown (Z0 0)))))) (Y2 (U0 (Z44))) (X8)) (Y2 (Z5b Z34 rfl (Z0i (V8 (h.callP K_ways_from (by decide)) rfl Fx.g_ways_from K_ways_from.kp (Z1 (Z0 0) (Z1 (Z0 1) (Z1 (Z0 5) (Z1 (Z0 6) (Z5))))))) (Y7 (i:=7) Z4k rfl (by first | exact Or.inl rfl | exact Or.inr rfl)) (Y2 (Q9 (X9l rfl h.u1 (Z0 7) (Z0 3)) (Z6 (X9h rfl h.u1 (Z0 3) (Z0 7) (Z44)) (Y2 (Q0 (Z3j PySem.F.slot_list_append PySem.F.type_list_append mt_append Q1 (Z0 4) (Z1 (Z0 7) (Z5)))))) (X8)))))))) (Y2 (U0 (Z44))))
def Z7j:List Str:=["tool", "place", "move", "ahead", "book", "key", "found", "keys", "entries", "entry", "is_own", "elder", "given"]
theorem Z1u:Z7j.Nodup:=by decide +kernel
theorem Y6l:FnScope Z7j ["tool", "place", "move", "ahead", "book"] (defScope Z1z):=⟨rfl,rfl,rfl,Z1u,rfl,by decide +kernel,by decide +kernel⟩
def Y0l:MS:=Z9 (Z6d 5 6 (Z3 (Z2g (Y9 ["Book"] "held" (Z4 4)) (Z4 1)) (Z3 (Z2a (Z7)) (Z7)))) (Z9 (Z55 (.tp [(.nm 7),(.nm 8)]) (Z4 3)) (Z9 (W3 9 (Z07 "Book" "entry" (X9 2 (W1 [] Q3)) (Z4 4) (Z3 (Z4 5) (Z7)))) (Z9 (W3 10 (Z4g (Y5 eqD (Y9 ["Entry"] "text" (Z4 9)) (Z4 1)) (Y5 inD (Y9 ["Entry"] "mark" (Z4 9)) (Y9 ["Tool"] "shown" (Z4 0))))) (Z9 (Z0r (Q8 (U4 (Y5 inD (Y9 ["Entry"] "mark" (Z4 9)) (Y9 ["Tool"] "asked" (Z4 0)))) (U4 (Y5 eqD (Y9 ["Entry"] "text" (Z4 9)) (Z4 1)))) (U6 (Z4q Z0l V0 (Z4 6) (Z3 (m_c (.str "again")) (Z7)))) (V4)) (Z9 (W3 11 (Y1c (Z4 8) (Z4 5) (Z8 (X9 2 (W1 [] (made "Entry" mkF Z06))) (Z3 (Y9 ["Tool"] "blank" (Z4 0)) (Z3 (m_c .non) (Z7)))))) (Z9 (Z0r (Q8 (U4 (Y5 eqD (Z5y (Z4 7) (Z4 1)) (Z4 5))) (Q8 (U4 (Y5 eqD (Y9 ["Entry"] "text" (Z4 11)) (Z4 1))) (Q8 (U4 (Y5 inD (Y9 ["Entry"] "mark" (Z4 11)) (Y9 ["Tool"] "shown" (Z4 0)))) (Q4 (W9 (Z4 10)))))) (U6 (Z4q Z0l V0 (Z4 6) (Z3 (m_c (.str "fallen")) (Z7)))) (V4)) (Z9 (Z0r (Q8 (U4 (Y5 eqD (Z03 (Z4 2) (m_c (.int 0))) (m_c (.str "edition")))) (W9 (Z8 (X9 4 (W1 [] g_is_lost)) (Z3 (Z4 0) (Z3 (Z4 1) (Z3 (Z4 3) (Z3 (Z4 4) (Z7)))))))) (U6 (Z4q Z0l V0 (Z4 6) (Z3 (m_c (.str "lost")) (Z7)))) (V4)) (Z9 (Z0r (Q8 (U4 (Y5 inD (Y9 ["Entry"] "mark" (Z4 9)) (Y9 ["Tool"] "shown" (Z4 0)))) (U4 (Y5 neD (Y9 ["Entry"] "text" (Z4 9)) (Z4 1)))) (U6 (Z4q Z0l V0 (Z4 6) (Z3 (m_c (.str "strange")) (Z7)))) (V4)) (Z9 (Z0r (W9 (Z8 (X9 3 (W1 [] (callP g_is_stuck))) (Z3 (Z4 0) (Z3 (Z4 1) (Z3 (Z4 9) (Z7)))))) (U6 (Z4q Z0l V0 (Z4 6) (Z3 (m_c (.str "stuck")) (Z7)))) (V4)) (Z9 (W3 12 (Z6c (U4 (Y5 eqD (Z8 Z3e (Z3 (Z4 2) (Z7))) (m_c (.int 3)))) (Z03 (Y9 ["Story", "Book"] "editions" (Z4 4)) (Z03 (Z4 2) (m_c (.int 2)))) (Y9 ["Book"] "held" (Z4 4)))) (Z9 (Z0r (Q8 (U4 (Y5 eqD (Z03 (Z4 2) (m_c (.int 0))) (m_c (.str "give")))) (Q8 (U4 (Y5 eqD (Z03 (Z4 2) (m_c (.int 1))) (Z4 1))) (Q8 (U4 (Y5 eqD (Z2g (Z4 12) (Z4 1)) (Z4 5))) (Q4 (W9 (Z4 10)))))) (U6 (Z4q Z0l V0 (Z4 6) (Z3 (m_c (.str "vain")) (Z7)))) (V4)) (Z6e (Z4 6)))))))))))))
def g_faults_of:List X→Sto→R X:=Y1k 13 Y0l
include Fx in
theorem Y52 (K_Book_entry:Kept P HasW.w K mg base 3 (He.ma K (He.ga K "Book") "entry") (spE K 2 Q3)) (K_Entry_init:Kept P HasW.w K mg base 1 (He.ma K (He.ga K "Entry") "__init__") (spE K 3 Z06)) (K_is_lost:Kept P HasW.w K mg base 4 (He.ga K "is_lost") (spE K 4 g_is_lost)) (K_is_stuck:Kept P HasW.w K mg base 5 (He.ga K "is_stuck") (spP K 3 g_is_stuck)) (F:FunD K "faults_of" "faults_of" (defArgs Z1z) (defBody Z1z) (defScope Z1z) dl [] f fd):FnG P HasW.w K mg base 6 f fd ["tool", "place", "move", "ahead", "book"] (spE K 5 g_faults_of):=fnE F Y6l fun cdv A outer s H E gu room=>by
  have h:Here (cxB P HasW.w K mg base Z7j "faults_of" (defScope Z1z) f cdv A outer s H E) (wxE E) 5:=V5 gu room
  unfold Y0l
  exact Z6 (Y2w rfl Z1u (i:=5) (j:=6) rfl rfl (by decide) rfl rfl (Z1 (Z17 h.u1 (Y6 ["Book"] Fx.at_Book_held (Z0 4)) (Z0 1)) (Z1 (Z32 (Z5)) (Z5)))) (Z6 (Z9v (Z0 3) (Z1t rfl (X4 (Y7 (i:=7) Z1u rfl (by first | exact Or.inl rfl | exact Or.inr rfl)) (X4 (Y7 (i:=8) Z1u rfl (by first | exact Or.inl rfl | exact Or.inr rfl)) (Z0m))))) (Z6 (V7 (i:=9) Z1u rfl (by first | exact Or.inl rfl | exact Or.inr rfl) (Z0s (h.callE K_Book_entry (by decide)) Fx.c_Book Fx.m_Book_entry (Z0 4) (Z1 (Z0 5) (Z5)))) (Z6 (V7 (i:=10) Z1u rfl (by first | exact Or.inl rfl | exact Or.inr rfl) (Z7b (Z4p h.eq (Y6 ["Entry"] Fx.at_Entry_text (Z0 9)) (Z0 1)) (Z8e (Z4p h.in_ (Y6 ["Entry"] Fx.at_Entry_mark (Z0 9)) (Y6 ["Tool"] Fx.at_Tool_shown (Z0 0)))))) (Z6 (Q9 (Z6a (Z1p (W7 h.in_ (Y6 ["Entry"] Fx.at_Entry_mark (Z0 9)) (Y6 ["Tool"] Fx.at_Tool_asked (Z0 0))) (Z1k (W7 h.eq (Y6 ["Entry"] Fx.at_Entry_text (Z0 9)) (Z0 1))))) (Y2 (Q0 (Z3j PySem.F.slot_list_append PySem.F.type_list_append mt_append Q1 (Z0 6) (Z1 (Y4) (Z5))))) (X8)) (Z6 (V7 (i:=11) Z1u rfl (by first | exact Or.inl rfl | exact Or.inr rfl) (Z97 h.u1 (Z0 8) (Z0 5) (V8 (h.make Y1y (n:=2) Fx.M_Entry K_Entry_init (by decide)) rfl Fx.g_Entry Fx.M_Entry.kp (Z1 (Y6 ["Tool"] Fx.at_Tool_blank (Z0 0)) (Z1 (U5) (Z5)))))) (Z6 (Q9 (Z6a (Z1p (W7 h.eq (Z96 h.u1 (Z0 7) (Z0 1)) (Z0 5)) (Z1p (W7 h.eq (Y6 ["Entry"] Fx.at_Entry_text (Z0 11)) (Z0 1)) (Z1p (W7 h.in_ (Y6 ["Entry"] Fx.at_Entry_mark (Z0 11)) (Y6 ["Tool"] Fx.at_Tool_shown (Z0 0))) (Z1k (Z01 (V6 (Z0 10)))))))) (Y2 (Q0 (Z3j PySem.F.slot_list_append PySem.F.type_list_append mt_append Q1 (Z0 6) (Z1 (Y4) (Z5))))) (X8)) (Z6 (Q9 (Z6a (Z1p (W7 h.eq (Z0g (Z0 2) (Y8)) (Y4)) (Z1k (V6 (V8 (h.callE K_is_lost (by decide)) rfl Fx.g_is_lost K_is_lost.kp (Z1 (Z0 0) (Z1 (Z0 1) (Z1 (Z0 3) (Z1 (Z0 4) (Z5)))))))))) (Y2 (Q0 (Z3j PySem.F.slot_list_append PySem.F.type_list_append mt_append Q1 (Z0 6) (Z1 (Y4) (Z5))))) (X8)) (Z6 (Q9 (Z6a (Z1p (W7 h.in_ (Y6 ["Entry"] Fx.at_Entry_mark (Z0 9)) (Y6 ["Tool"] Fx.at_Tool_shown (Z0 0))) (Z1k (W7 h.ne (Y6 ["Entry"] Fx.at_Entry_text (Z0 9)) (Z0 1))))) (Y2 (Q0 (Z3j PySem.F.slot_list_append PySem.F.type_list_append mt_append Q1 (Z0 6) (Z1 (Y4) (Z5))))) (X8)) (Z6 (Q9 (V6 (V8 (h.callP K_is_stuck (by decide)) rfl Fx.g_is_stuck K_is_stuck.kp (Z1 (Z0 0) (Z1 (Z0 1) (Z1 (Z0 9) (Z5)))))) (Y2 (Q0 (Z3j PySem.F.slot_list_append PySem.F.type_list_append mt_append Q1 (Z0 6) (Z1 (Y4) (Z5))))) (X8)) (Z6 (V7 (i:=12) Z1u rfl (by first | exact Or.inl rfl | exact Or.inr rfl) (Z45 (W7 h.eq (Q5 Z24 Z3c rfl Fx.f_len (Z1 (Z0 2) (Z5))) (Y8)) (Z0g (Y6 ["Story", "Book"] Fx.at_Story_Book_editions (Z0 4)) (Z0g (Z0 2) (Y8))) (Y6 ["Book"] Fx.at_Book_held (Z0 4)))) (Z6 (Q9 (Z6a (Z1p (W7 h.eq (Z0g (Z0 2) (Y8)) (Y4)) (Z1p (W7 h.eq (Z0g (Z0 2) (Y8)) (Z0 1)) (Z1p (W7 h.eq (Z17 h.u1 (Z0 12) (Z0 1)) (Z0 5)) (Z1k (Z01 (V6 (Z0 10)))))))) (Y2 (Q0 (Z3j PySem.F.slot_list_append PySem.F.type_list_append mt_append Q1 (Z0 6) (Z1 (Y4) (Z5))))) (X8)) (Y2 (Z6p (Z0 6))))))))))))))
def Z3z:List Str:=["self", "key", "entry"]
theorem Z5c:Z3z.Nodup:=by decide +kernel
theorem Z9f:FnScope Z3z ["self", "key"] (defScope Z0f):=⟨rfl,rfl,rfl,Z5c,rfl,by decide +kernel,by decide +kernel⟩
def Z56:MS:=Z9 (W3 2 (Z07 "Book" "entry" (X9 2 (W1 [] Q3)) (Z4 0) (Z3 (Z4 1) (Z7)))) (Z6e (Z6c (U4 (Y5 inD (Y9 ["Entry"] "mark" (Z4 2)) (Y9 ["Tool"] "shown" (Y9 ["Book"] "maker" (Z4 0))))) (Y9 ["Entry"] "text" (Z4 2)) (m_c .non)))
def Z30:List X→Sto→R X:=Y1k 3 Z56
include Fx in
theorem Z9c (K_Book_entry:Kept P HasW.w K mg base 3 (He.ma K (He.ga K "Book") "entry") (spE K 2 Q3)) (F:FunD K "shows_for" "Book.shows_for" (defArgs Z0f) (defBody Z0f) (defScope Z0f) dl [] f fd):FnG P HasW.w K mg base 4 f fd ["self", "key"] (spE K 2 Z30):=fnE F Z9f fun cdv A outer s H E gu room=>by
  have h:Here (cxB P HasW.w K mg base Z3z "Book.shows_for" (defScope Z0f) f cdv A outer s H E) (wxE E) 3:=V5 gu room
  unfold Z56
  exact Z6 (V7 (i:=2) Z5c rfl (by first | exact Or.inl rfl | exact Or.inr rfl) (Z0s (h.callE K_Book_entry (by decide)) Fx.c_Book Fx.m_Book_entry (Z0 0) (Z1 (Z0 1) (Z5)))) (Y2 (Z6p (Z45 (W7 h.in_ (Y6 ["Entry"] Fx.at_Entry_mark (Z0 2)) (Y6 ["Tool"] Fx.at_Tool_shown (Y6 ["Book"] Fx.at_Book_maker (Z0 0)))) (Y6 ["Entry"] Fx.at_Entry_text (Z0 2)) (U5))))
def Z04:List Str:=["self", "book", "now", "met", "keys", "used", "key", "place"]
theorem U7:Z04.Nodup:=by decide +kernel
theorem Y15:FnScope Z04 ["self", "book", "now", "met"] (defScope U8):=⟨rfl,rfl,rfl,U7,rfl,by decide +kernel,by decide +kernel⟩
def Z72:MS:=Z9 (W3 4 (Z8 Z6z (Z3 (Z3r (.nm 6) (Z29 (Y9 ["Book"] "entries" (Z4 1))) (U4 (Y5 neD (Y9 ["Entry"] "mark" (Z2g (Y9 ["Book"] "entries" (Z4 1)) (Z4 6))) (Y9 ["Tool"] "blank" (Y9 ["Book"] "maker" (Z4 1))))) (Z8 Z79 (Z3 (Z4 6) (Z7))) [6]) (Z7)))) (Z9 (Z2d ["Played"] "book" (Z4 0) (Z8 Z7e (Z3 (Z3r (.nm 6) (Z0c (Z4 4)) (W0) (V3 (Z3 (Z4 6) (Z33 (Z07 "Entry" "told" (W1 [] (callP Z28)) (Z2g (Y9 ["Book"] "entries" (Z4 1)) (Z4 6)) Z7) (Z7)))) [6]) (Z7)))) (Z9 (Z2d ["Played"] "shows" (Z4 0) (Z8 Z7e (Z3 (Z3r (.nm 7) (Z29 (Y9 ["Book"] "held" (Z4 1))) (W0) (V3 (Z3 (Z4 7) (Z3 (Z07 "Book" "shows_for" (X9 2 (W1 [] Z30)) (Z4 1) (Z3 (Z2g (Y9 ["Book"] "held" (Z4 1)) (Z4 7)) (Z7))) (Z7)))) [7]) (Z7)))) (Z9 (W3 5 (Y3q (.nm 7) (Z29 (Y9 ["Book"] "held" (Z4 1))) (W0) (Z8 Z79 (Z3 (Z2g (Y9 ["Book"] "held" (Z4 1)) (Z4 7)) (Z7))) [7])) (Z9 (Z2d ["Played"] "asks" (Z4 0) (Z8 Z7e (Z3 (Z3r (.nm 6) (Z0c (Z4 5)) (U4 (Y5 inD (Y9 ["Entry"] "mark" (Z07 "Book" "entry" (X9 2 (W1 [] Q3)) (Z4 1) (Z3 (Z4 6) (Z7)))) (Y9 ["Tool"] "asked" (Y9 ["Book"] "maker" (Z4 1))))) (Z4 6) [6]) (Z7)))) (Z9 (Z2d ["Played"] "now" (Z4 0) (Z4 2)) (Z2d ["Played"] "met" (Z4 0) (Z4 3)))))))
def Z5w:List X→Sto→R X:=Y1k 8 Z72
include Fx in
theorem Y10 (K_Entry_told:Kept P HasW.w K mg base 1 (He.ma K (He.ga K "Entry") "told") (spP K 1 Z28)) (K_Book_shows_for:Kept P HasW.w K mg base 4 (He.ma K (He.ga K "Book") "shows_for") (spE K 2 Z30)) (K_Book_entry:Kept P HasW.w K mg base 3 (He.ma K (He.ga K "Book") "entry") (spE K 2 Q3)) (F:FunD K "__init__" "Played.__init__" (defArgs U8) (defBody U8) (defScope U8) dl [] f fd):FnG P HasW.w K mg base 5 f fd ["self", "book", "now", "met"] (spE K 4 Z5w):=fnE F Y15 fun cdv A outer s H E gu room=>by
  have h:Here (cxB P HasW.w K mg base Z04 "Played.__init__" (defScope U8) f cdv A outer s H E) (wxE E) 4:=V5 gu room
  unfold Z72
  exact Z6 (V7 (i:=4) U7 rfl (by first | exact Or.inl rfl | exact Or.inr rfl) (Q5 (Bv.CallR.or cr_sortedI cr_sortedS) Y8m rfl Fx.f_sorted (Z1 (Z4h (own:=[("key",6)]) (t:=(.nm 6)) rfl U7 (Z3o (Y6 ["Book"] Fx.at_Book_entries (Z0 1))) (blkOk_by (N:=Z04) (sc:=defScope U8) (by decide +kernel)) (by decide) (fun _ _ _ _ _=>Y7 (i:=6) U7 rfl (by first | exact Or.inl rfl | exact Or.inr rfl)) (fun _ _ _ _ _=>Z46 (W7 (h.blk _ _ _ _ _).ne (Y6 ["Entry"] Fx.at_Entry_mark (Z17 (h.blk _ _ _ _ _).u1 (Y6 ["Book"] Fx.at_Book_entries (Z0 1)) (Z0 6))) (Y6 ["Tool"] Fx.at_Tool_blank (Y6 ["Book"] Fx.at_Book_maker (Z0 1))))) (fun _ _ _ _ _=>Z08 Y8p Y8n rfl Fx.f_str (Z1 (Z0 6) (Z5)))) (Z5)))) (Z6 (Z2c ["Played"] Fx.at_Played_book (Z0 0) (Z08 call_tuple_of Z62 rfl Fx.f_tuple (Z1 (Z4h (own:=[("key",6)]) (t:=(.nm 6)) rfl U7 (Z0i (Z0 4)) (blkOk_by (N:=Z04) (sc:=defScope U8) (by decide +kernel)) (by decide) (fun _ _ _ _ _=>Y7 (i:=6) U7 rfl (by first | exact Or.inl rfl | exact Or.inr rfl)) (fun _ _ _ _ _=>Z0a) (fun _ _ _ _ _=>W4 (Z1 (Z0 6) (Z87 (Y3u ((h.blk _ _ _ _ _).callP K_Entry_told (by decide)) Fx.c_Entry Fx.m_Entry_told (Z17 (h.blk _ _ _ _ _).u1 (Y6 ["Book"] Fx.at_Book_entries (Z0 1)) (Z0 6))) (Z5))))) (Z5)))) (Z6 (Z2c ["Played"] Fx.at_Played_shows (Z0 0) (Z08 call_tuple_of Z62 rfl Fx.f_tuple (Z1 (Z4h (own:=[("place",7)]) (t:=(.nm 7)) rfl U7 (Z3o (Y6 ["Book"] Fx.at_Book_held (Z0 1))) (blkOk_by (N:=Z04) (sc:=defScope U8) (by decide +kernel)) (by decide) (fun _ _ _ _ _=>Y7 (i:=7) U7 rfl (by first | exact Or.inl rfl | exact Or.inr rfl)) (fun _ _ _ _ _=>Z0a) (fun _ _ _ _ _=>W4 (Z1 (Z0 7) (Z1 (Z0s ((h.blk _ _ _ _ _).callE K_Book_shows_for (by decide)) Fx.c_Book Fx.m_Book_shows_for (Z0 1) (Z1 (Z17 (h.blk _ _ _ _ _).u1 (Y6 ["Book"] Fx.at_Book_held (Z0 1)) (Z0 7)) (Z5))) (Z5))))) (Z5)))) (Z6 (V7 (i:=5) U7 rfl (by first | exact Or.inl rfl | exact Or.inr rfl) (X2z (own:=[("place",7)]) (t:=(.nm 7)) rfl U7 rfl Fx.f_sorted (Z3o (Y6 ["Book"] Fx.at_Book_held (Z0 1))) (blkOk_by (N:=Z04) (sc:=defScope U8) (by decide +kernel)) (by decide) (fun _ _ _ _ _=>Y7 (i:=7) U7 rfl (by first | exact Or.inl rfl | exact Or.inr rfl)) (fun _ _ _ _ _=>Z0a) (fun _ _ _ _ _=>Z08 Y8p Y8n rfl Fx.f_str (Z1 (Z17 (h.blk _ _ _ _ _).u1 (Y6 ["Book"] Fx.at_Book_held (Z0 1)) (Z0 7)) (Z5))))) (Z6 (Z2c ["Played"] Fx.at_Played_asks (Z0 0) (Z08 call_tuple_of Z62 rfl Fx.f_tuple (Z1 (Z4h (own:=[("key",6)]) (t:=(.nm 6)) rfl U7 (Z0i (Z0 5)) (blkOk_by (N:=Z04) (sc:=defScope U8) (by decide +kernel)) (by decide) (fun _ _ _ _ _=>Y7 (i:=6) U7 rfl (by first | exact Or.inl rfl | exact Or.inr rfl)) (fun _ _ _ _ _=>Z46 (W7 (h.blk _ _ _ _ _).in_ (Y6 ["Entry"] Fx.at_Entry_mark (Z0s ((h.blk _ _ _ _ _).callE K_Book_entry (by decide)) Fx.c_Book Fx.m_Book_entry (Z0 1) (Z1 (Z0 6) (Z5)))) (Y6 ["Tool"] Fx.at_Tool_asked (Y6 ["Book"] Fx.at_Book_maker (Z0 1))))) (fun _ _ _ _ _=>Z0 6)) (Z5)))) (Z6 (Z2c ["Played"] Fx.at_Played_now (Z0 0) (Z0 2)) (Y2 (Z2c ["Played"] Fx.at_Played_met (Z0 0) (Z0 3))))))))
def Y19:List Str:=["tool", "story", "book", "now", "met", "move", "told", "ahead", "fault", "place", "one"]
theorem Z2f:Y19.Nodup:=by decide +kernel
theorem W0k:FnScope Y19 ["tool", "story"] (defScope Z4n):=⟨rfl,rfl,rfl,Z2f,rfl,by decide +kernel,by decide +kernel⟩
def X6j:MS:=Z9 (X7g [(.nm 2),(.nm 3),(.nm 4)] (Z3 (Z8 (X9 1 (W1 [] (made "Book" mkM Z7s))) (Z3 (Z4 0) (Z7))) (Z3 (Z2h (Z7)) (Z3 (Y1d) (Z7))))) (Z9 (Z2y (.nm 5) (Z0c (Y9 ["Story"] "moves" (Z4 1))) (Z9 (W3 7 (V3 (Z3 (Y9 ["Book"] "held" (Z4 2)) (Z3 (Z8 Y5d (Z3 (Y9 ["Book"] "entries" (Z4 2)) (Z7))) (Z7))))) (Z9 (U6 (Z07 "Book" "do" (X9 2 (W1 [] Y07)) (Z4 2) (Z3 (Z4 5) (Z7)))) (Z9 (W3 3 (Y3p (.nm 9) (Z29 (Y9 ["Book"] "held" (Z4 2))) (W0) (.nm 8) (Z0c (Z8 (X9 5 (W1 [] g_faults_of)) (Z3 (Z4 0) (Z3 (Z4 9) (Z3 (Z4 5) (Z3 (Z4 7) (Z3 (Z4 2) (Z7)))))))) (W0) (V3 (Z3 (Z4 8) (Z3 (Z4 9) (Z7)))) [9,8] [8])) (Z2y (.tp [(.nm 8),(.nm 9)]) (Z0c (Z4 3)) (Z8h (Z4 4) (Z4 8) (m_c (.bl true)))))))) (Z9 (W3 6 (Y3p (.nm 8) (Z0c (m_c (.tup ((["again", "fallen", "lost", "strange", "stuck", "vain"]:List Str).map D.str)))) (W0) (.tp [(.nm 10),(.nm 9)]) (Z0c (Z4 3)) (U4 (Y5 eqD (Z4 10) (Z4 8))) (V3 (Z3 (Z4 8) (Z3 (Z4 9) (Z7)))) [8,10,9] [10,9])) (V1 (Z8 (X9 3 (W1 [] (made "Played" mkF Z5w))) (Z3 (Z4 2) (Z3 (Z8 Z7e (Z3 (Z4 6) (Z7))) (Z3 (Z8 Z7e (Z3 (Z3r (.nm 8) (Z0c (m_c (.tup ((["again", "fallen", "lost", "strange", "stuck", "vain"]:List Str).map D.str)))) (U4 (Z8c false (Z4 8) (Z4 4))) (Z4 8) [8]) (Z7))) (Z7))))))))
def g_play:List D→PR:=Z6v 11 X6j
include Fx in
theorem X90 (K_Book_init:Kept P HasW.w K mg base 1 (He.ma K (He.ga K "Book") "__init__") (spE K 2 Z7s)) (K_Book_do:Kept P HasW.w K mg base 7 (He.ma K (He.ga K "Book") "do") (spE K 2 Y07)) (K_faults_of:Kept P HasW.w K mg base 6 (He.ga K "faults_of") (spE K 5 g_faults_of)) (K_Played_init:Kept P HasW.w K mg base 5 (He.ma K (He.ga K "Played") "__init__") (spE K 4 Z5w)) (F:FunD K "play" "play" (defArgs Z4n) (defBody Z4n) (defScope Z4n) dl [] f fd):FnG P HasW.w K mg base 8 f fd ["tool", "story"] (spP K 2 g_play):=fnP F W0k fun cdv A outer s H E gu room=>by
  have h:Here (cxB P HasW.w K mg base Y19 "play" (defScope Z4n) f cdv A outer s H E) (wxE E) 7:=V5 gu room
  unfold X6j
  exact Z6 (X9f rfl (Z1 (V8 (h.make W5e (n:=1) Fx.M_Book K_Book_init (by decide)) rfl Fx.g_Book Fx.M_Book.kp (Z1 (Z0 0) (Z5))) (Z1 (Z3k (Z5)) (Z1 (Y3s) (Z5)))) (X4 (Y7 (i:=2) Z2f rfl (by first | exact Or.inl rfl | exact Or.inr rfl)) (X4 (Y7 (i:=3) Z2f rfl (by first | exact Or.inl rfl | exact Or.inr rfl)) (X4 (Y7 (i:=4) Z2f rfl (by first | exact Or.inl rfl | exact Or.inr rfl)) (Z0m))))) (Z6 (Z5b Z34 rfl (Z0i (Y6 ["Story"] Fx.at_Story_moves (Z0 1))) (Y7 (i:=5) Z2f rfl (by first | exact Or.inl rfl | exact Or.inr rfl)) (Z6 (V7 (i:=7) Z2f rfl (by first | exact Or.inl rfl | exact Or.inr rfl) (W4 (Z1 (Y6 ["Book"] Fx.at_Book_held (Z0 2)) (Z1 (X2u rfl rfl Fx.f_dict (Z1 (Y6 ["Book"] Fx.at_Book_entries (Z0 2)) (Z5))) (Z5))))) (Z6 (Q0 (Z0s (h.callE K_Book_do (by decide)) Fx.c_Book Fx.m_Book_do (Z0 2) (Z1 (Z0 5) (Z5)))) (Z6 (V7 (i:=3) Z2f rfl (by first | exact Or.inl rfl | exact Or.inr rfl) (W2s (own:=[("place",9),("fault",8)]) (t:=(.nm 9)) (t1:=(.nm 8)) (vs1:=[8]) rfl Z2f (Z3o (Y6 ["Book"] Fx.at_Book_held (Z0 2))) (blkOk_by (N:=Y19) (sc:=defScope Z4n) (by decide +kernel)) (by decide) (by decide) (by decide) (fun _ _ _ _ _=>Y7 (i:=9) Z2f rfl (by first | exact Or.inl rfl | exact Or.inr rfl)) (fun _ _ _ _ _=>Z0a) (fun _ _ _ _ _=>Z0i (V8 ((h.blk _ _ _ _ _).callE K_faults_of (by decide)) rfl Fx.g_faults_of K_faults_of.kp (Z1 (Z0 0) (Z1 (Z0 9) (Z1 (Z0 5) (Z1 (Z0 7) (Z1 (Z0 2) (Z5)))))))) (fun _ _ _ _ _=>Y7 (i:=8) Z2f rfl (by first | exact Or.inl rfl | exact Or.inr rfl)) (fun _ _ _ _ _=>Z0a) (fun _ _ _ _ _=>W4 (Z1 (Z0 8) (Z1 (Z0 9) (Z5)))))) (Y2 (Z5b Z34 rfl (Z0i (Z0 3)) (Z1t rfl (X4 (Y7 (i:=8) Z2f rfl (by first | exact Or.inl rfl | exact Or.inr rfl)) (X4 (Y7 (i:=9) Z2f rfl (by first | exact Or.inl rfl | exact Or.inr rfl)) (Z0m)))) (Y2 (Y3w h.u1 (Z0 4) (Z0 8) (Z44))))))))) (Z6 (Y5l (i:=6) (own:=[("fault",8),("one",10),("place",9)]) (t:=(.nm 8)) (t1:=(.tp [(.nm 10),(.nm 9)])) (vs1:=[10,9]) rfl Z2f rfl rfl rfl (Z0i (Y03 rfl Fx.g_FAULTS Fx.v_FAULTS)) (blkOk_by (N:=Y19) (sc:=defScope Z4n) (by decide +kernel)) (by decide) (by decide) (by decide) (fun _ _ _ _ _=>Y7 (i:=8) Z2f rfl (by first | exact Or.inl rfl | exact Or.inr rfl)) (fun _ _ _ _ _=>Z0a) (fun _ _ _ _ _=>Z0i (Z0 3)) (fun _ _ _ _ _=>Z1t rfl (X4 (Y7 (i:=10) Z2f rfl (by first | exact Or.inl rfl | exact Or.inr rfl)) (X4 (Y7 (i:=9) Z2f rfl (by first | exact Or.inl rfl | exact Or.inr rfl)) (Z0m)))) (fun _ _ _ _ _=>Z46 (W7 (h.blk _ _ _ _ _).eq (Z0 10) (Z0 8))) (fun _ _ _ _ _=>W4 (Z1 (Z0 8) (Z1 (Z0 9) (Z5))))) (Y2 (U0 (V8 (h.make Y1y (n:=3) Fx.M_Played K_Played_init (by decide)) rfl Fx.g_Played Fx.M_Played.kp (Z1 (Z0 2) (Z1 (Z08 call_tuple_of Z62 rfl Fx.f_tuple (Z1 (Z0 6) (Z5))) (Z1 (Z08 call_tuple_of Z62 rfl Fx.f_tuple (Z1 (Z4h (own:=[("fault",8)]) (t:=(.nm 8)) rfl Z2f (Z0i (Y03 rfl Fx.g_FAULTS Fx.v_FAULTS)) (blkOk_by (N:=Y19) (sc:=defScope Z4n) (by decide +kernel)) (by decide) (fun _ _ _ _ _=>Y7 (i:=8) Z2f rfl (by first | exact Or.inl rfl | exact Or.inr rfl)) (fun _ _ _ _ _=>Z46 (X64 (h.blk _ _ _ _ _).u1 (Z0 8) (Z0 4))) (fun _ _ _ _ _=>Z0 8)) (Z5))) (Z5)))))))))
def Z5p:List Str:=["word", "sign"]
theorem Z6s:Z5p.Nodup:=by decide +kernel
theorem Y6m:FnScope Z5p ["word"] (defScope Z1h):=⟨rfl,rfl,rfl,Z6s,rfl,by decide +kernel,by decide +kernel⟩
def Y0o:MS:=Z9 (Z0r (Z2b (Q4 (U4 (Z16 leD leD (m_c (.int 1)) (Z8 Z3e (Z3 (Z4 0) (Z7))) (m_c (.int 2))))) (Q4 (W9 (Z8 (Y41 fun l=>l.all id) (Z3 (Z3r (.nm 1) (Z0c (Z4 0)) (W0) (Y5 inD (Z4 1) (m_c (.str "0123456789"))) [1]) (Z7)))))) (V1 (m_c .non)) (V4)) (Z9 (Z0r (Q8 (U4 (Y5 eqD (Z8 Z3e (Z3 (Z4 0) (Z7))) (m_c (.int 2)))) (U4 (Y5 eqD (Z03 (Z4 0) (m_c (.int 0))) (m_c (.str "0"))))) (V1 (m_c .non)) (V4)) (V1 (Z8 X11 (Z3 (Z4 0) (Z7)))))
def g_number_in:List D→PR:=Z6v 2 Y0o
include Fx in
theorem Y53  (F:FunD K "number_in" "number_in" (defArgs Z1h) (defBody Z1h) (defScope Z1h) dl [] f fd):FnG P HasW.w K mg base 1 f fd ["word"] (spP K 1 g_number_in):=fnP F Y6m fun cdv A outer s H E gu room=>by
  have h:Here (cxB P HasW.w K mg base Z5p "number_in" (defScope Z1h) f cdv A outer s H E) (wxE E) 0:=V5 gu room
  unfold Y0o
  exact Z6 (Q9 (Z6a (Z47 (Z01 (X34 h.le h.le (Y8) (Q5 Z24 Z3c rfl Fx.f_len (Z1 (Z0 0) (Z5))) (Y8))) (Z3v (Z01 (V6 (Q5 (cr_all rfl) Y3d rfl Fx.f_all (Z1 (Z4h (own:=[("sign",1)]) (t:=(.nm 1)) rfl Z6s (Z0i (Z0 0)) (blkOk_by (N:=Z5p) (sc:=defScope Z1h) (by decide +kernel)) (by decide) (fun _ _ _ _ _=>Y7 (i:=1) Z6s rfl (by first | exact Or.inl rfl | exact Or.inr rfl)) (fun _ _ _ _ _=>Z0a) (fun _ _ _ _ _=>Z4p (h.blk _ _ _ _ _).in_ (Z0 1) (X6p rfl Fx.s_DIGITS))) (Z5)))))))) (Y2 (U0 (U5))) (X8)) (Z6 (Q9 (Z6a (Z1p (W7 h.eq (Q5 Z24 Z3c rfl Fx.f_len (Z1 (Z0 0) (Z5))) (Y8)) (Z1k (W7 h.eq (Z0g (Z0 0) (Y8)) (Y4))))) (Y2 (U0 (U5))) (X8)) (Y2 (U0 (Z08 call_int_str W1w rfl Fx.f_int (Z1 (Z0 0) (Z5))))))
def Z91:List Str:=["value", "parts", "part"]
theorem Z8f:Z91.Nodup:=by decide +kernel
theorem X3s:FnScope Z91 ["value"] (defScope Z3i):=⟨rfl,rfl,rfl,Z8f,rfl,by decide +kernel,by decide +kernel⟩
def Y8l:MS:=Z9 (Z0r (Q4 (W9 (Z86 (Y1q "str") [("Row",false),("Tool",false),("Story",false)] (Z4 0)))) (V1 (m_c (.bl false))) (V4)) (Z9 (W3 1 (Z5z Z3d (Z4 0) (m_c (.str "@")))) (V1 (Z4g (Y5 leD (Z8 Z3e (Z3 (Z4 1) (Z7))) (m_c (.int 2))) (Z8 (Y41 fun l=>l.all id) (Z3 (Z3r (.nm 2) (Z0c (Z4 1)) (W0) (Z8 (X9 1 (W1 [] (callP g_is_name))) (Z3 (Z4 2) (Z7))) [2]) (Z7))))))
def g_is_key:List D→PR:=Z6v 3 Y8l
include Fx in
theorem X3e (K_is_name:Kept P HasW.w K mg base 1 (He.ga K "is_name") (spP K 1 g_is_name)) (F:FunD K "is_key" "is_key" (defArgs Z3i) (defBody Z3i) (defScope Z3i) dl [] f fd):FnG P HasW.w K mg base 2 f fd ["value"] (spP K 1 g_is_key):=fnP F X3s fun cdv A outer s H E gu room=>by
  have h:Here (cxB P HasW.w K mg base Z91 "is_key" (defScope Z3i) f cdv A outer s H E) (wxE E) 1:=V5 gu room
  unfold Y8l
  exact Z6 (Q9 (Z01 (V6 (Y1e rfl Fx.f_isinstance (Z0 0) (X7b rfl Fx.f_str) Fx.is_str (.ty _)))) (Y2 (U0 (Z44))) (X8)) (Z6 (V7 (i:=1) Z8f rfl (by first | exact Or.inl rfl | exact Or.inr rfl) (Z60 (Z0 0) (Y4))) (Y2 (U0 (Z7b (Z4p h.le (Q5 Z24 Z3c rfl Fx.f_len (Z1 (Z0 1) (Z5))) (Y8)) (Z8e (Q5 (cr_all rfl) Y3d rfl Fx.f_all (Z1 (Z4h (own:=[("part",2)]) (t:=(.nm 2)) rfl Z8f (Z0i (Z0 1)) (blkOk_by (N:=Z91) (sc:=defScope Z3i) (by decide +kernel)) (by decide) (fun _ _ _ _ _=>Y7 (i:=2) Z8f rfl (by first | exact Or.inl rfl | exact Or.inr rfl)) (fun _ _ _ _ _=>Z0a) (fun _ _ _ _ _=>V8 ((h.blk _ _ _ _ _).callP K_is_name (by decide)) rfl Fx.g_is_name K_is_name.kp (Z1 (Z0 2) (Z5)))) (Z5))))))))
def Z8r:List Str:=["word", "front", "colon", "rest", "place", "key", "sign", "source"]
theorem Z2j:Z8r.Nodup:=by decide +kernel
theorem Y79:FnScope Z8r ["word"] (defScope Z2p):=⟨rfl,rfl,rfl,Z2j,rfl,by decide +kernel,by decide +kernel⟩
def Z8t:MS:=Z9 (Z55 (.tp [(.nm 1),(.nm 2),(.nm 3)]) (Z5z Z4v (Z4 0) (m_c (.str ":")))) (Z9 (W3 4 (Z8 (X9 1 (W1 [] (callP g_number_in))) (Z3 (Z4 1) (Z7)))) (Z9 (Z55 (.tp [(.nm 5),(.nm 6),(.nm 7)]) (Z5z Z4v (Z4 3) (m_c (.str "<")))) (Z9 (Z0r (Z2b (U4 (Y5 isD (Z4 4) (m_c .non))) (Z2b (U4 (Y5 eqD (Z4 2) (m_c (.str "")))) (Z2b (Q4 (W9 (Z8 (X9 1 (W1 [] (callP g_is_key))) (Z3 (Z4 5) (Z7))))) (Q8 (U4 (Y5 neD (Z4 6) (m_c (.str "")))) (Q4 (W9 (Z8 (X9 1 (W1 [] (callP g_is_key))) (Z3 (Z4 7) (Z7))))))))) (V1 (m_c .non)) (V4)) (Z3h (Z3 (Z4 4) (Z3 (Z4 5) (Z3 (Z6c (U4 (Y5 neD (Z4 6) (m_c (.str "")))) (Z4 7) (m_c .non)) (Z7))))))))
def g_place_in:List D→PR:=Z6v 8 Z8t
include Fx in
theorem Y71 (K_number_in:Kept P HasW.w K mg base 1 (He.ga K "number_in") (spP K 1 g_number_in)) (K_is_key:Kept P HasW.w K mg base 2 (He.ga K "is_key") (spP K 1 g_is_key)) (F:FunD K "place_in" "place_in" (defArgs Z2p) (defBody Z2p) (defScope Z2p) dl [] f fd):FnG P HasW.w K mg base 3 f fd ["word"] (spP K 1 g_place_in):=fnP F Y79 fun cdv A outer s H E gu room=>by
  have h:Here (cxB P HasW.w K mg base Z8r "place_in" (defScope Z2p) f cdv A outer s H E) (wxE E) 2:=V5 gu room
  unfold Z8t
  exact Z6 (Z9v (X2y (Z0 0) (Y4)) (Z1t rfl (X4 (Y7 (i:=1) Z2j rfl (by first | exact Or.inl rfl | exact Or.inr rfl)) (X4 (Y7 (i:=2) Z2j rfl (by first | exact Or.inl rfl | exact Or.inr rfl)) (X4 (Y7 (i:=3) Z2j rfl (by first | exact Or.inl rfl | exact Or.inr rfl)) (Z0m)))))) (Z6 (V7 (i:=4) Z2j rfl (by first | exact Or.inl rfl | exact Or.inr rfl) (V8 (h.callP K_number_in (by decide)) rfl Fx.g_number_in K_number_in.kp (Z1 (Z0 1) (Z5)))) (Z6 (Z9v (X2y (Z0 3) (Y4)) (Z1t rfl (X4 (Y7 (i:=5) Z2j rfl (by first | exact Or.inl rfl | exact Or.inr rfl)) (X4 (Y7 (i:=6) Z2j rfl (by first | exact Or.inl rfl | exact Or.inr rfl)) (X4 (Y7 (i:=7) Z2j rfl (by first | exact Or.inl rfl | exact Or.inr rfl)) (Z0m)))))) (Z6 (Q9 (Z6a (Z47 (W7 h.is_ (Z0 4) (U5)) (Z47 (W7 h.eq (Z0 2) (Y4)) (Z47 (Z01 (V6 (V8 (h.callP K_is_key (by decide)) rfl Fx.g_is_key K_is_key.kp (Z1 (Z0 5) (Z5))))) (Z3v (Z6a (Z1p (W7 h.ne (Z0 6) (Y4)) (Z1k (Z01 (V6 (V8 (h.callP K_is_key (by decide)) rfl Fx.g_is_key K_is_key.kp (Z1 (Z0 7) (Z5))))))))))))) (Y2 (U0 (U5))) (X8)) (Y2 (Z7v (Z1 (Z0 4) (Z1 (Z0 5) (Z1 (Z45 (W7 h.ne (Z0 6) (Y4)) (Z0 7) (U5)) (Z5)))))))))
def Z7k:List Str:=["words", "found", "before", "word", "told"]
theorem Z3x:Z7k.Nodup:=by decide +kernel
theorem Y6n:FnScope Z7k ["words"] (defScope Z11):=⟨rfl,rfl,rfl,Z3x,rfl,by decide +kernel,by decide +kernel⟩
def Z7n:MS:=Z9 (Z0r (U4 (Y5 eqD (Z4 0) (Z2h (Z3 (m_c (.str "-")) (Z7))))) (Z3h (Z7)) (V4)) (Z9 (Z6d 1 2 (Z3 (Z2a (Z7)) (Z3 (X2s (m_c (.int 1))) (Z7)))) (Z9 (Z2y (.nm 3) (Z0c (Z4 0)) (Z9 (W3 4 (Z8 (X9 1 (W1 [] (callP g_place_in))) (Z3 (Z4 3) (Z7)))) (Z9 (Z0r (Z2b (U4 (Y5 isD (Z4 4) (m_c .non))) (U4 (Y5 leD (Z03 (Z4 4) (m_c (.int 0))) (Z4 2)))) (V1 (m_c .non)) (V4)) (Z9 (W3 2 (Z03 (Z4 4) (m_c (.int 0)))) (U6 (Z4q Z0l V0 (Z4 1) (Z3 (Z4 4) (Z7)))))))) (V1 (Z6c (U4 (Y5 gtD (Z8 Z3e (Z3 (Z4 1) (Z7))) (m_c (.int 0)))) (Z8 Z7e (Z3 (Z4 1) (Z7))) (m_c .non)))))
def g_places_in:List D→PR:=Z6v 5 Z7n
include Fx in
theorem Y54 (K_place_in:Kept P HasW.w K mg base 3 (He.ga K "place_in") (spP K 1 g_place_in)) (F:FunD K "places_in" "places_in" (defArgs Z11) (defBody Z11) (defScope Z11) dl [] f fd):FnG P HasW.w K mg base 4 f fd ["words"] (spP K 1 g_places_in):=fnP F Y6n fun cdv A outer s H E gu room=>by
  have h:Here (cxB P HasW.w K mg base Z7k "places_in" (defScope Z11) f cdv A outer s H E) (wxE E) 3:=V5 gu room
  unfold Z7n
  exact Z6 (Q9 (W7 h.eq (Z0 0) (Z3k (Z1 (Y4) (Z5)))) (Y2 (Z7v (Z5))) (X8)) (Z6 (Y2w rfl Z3x (i:=1) (j:=2) rfl rfl (by decide) rfl rfl (Z1 (Z32 (Z5)) (Z1 (X61 (Y8)) (Z5)))) (Z6 (Z5b Z34 rfl (Z0i (Z0 0)) (Y7 (i:=3) Z3x rfl (by first | exact Or.inl rfl | exact Or.inr rfl)) (Z6 (V7 (i:=4) Z3x rfl (by first | exact Or.inl rfl | exact Or.inr rfl) (V8 (h.callP K_place_in (by decide)) rfl Fx.g_place_in K_place_in.kp (Z1 (Z0 3) (Z5)))) (Z6 (Q9 (Z6a (Z47 (W7 h.is_ (Z0 4) (U5)) (Z3v (W7 h.le (Z0g (Z0 4) (Y8)) (Z0 2))))) (Y2 (U0 (U5))) (X8)) (Z6 (V7 (i:=2) Z3x rfl (by first | exact Or.inl rfl | exact Or.inr rfl) (Z0g (Z0 4) (Y8))) (Y2 (Q0 (Z3j PySem.F.slot_list_append PySem.F.type_list_append mt_append Q1 (Z0 1) (Z1 (Z0 4) (Z5))))))))) (Y2 (U0 (Z45 (W7 h.gt (Q5 Z24 Z3c rfl Fx.f_len (Z1 (Z0 1) (Z5))) (Y8)) (Z08 call_tuple_of Z62 rfl Fx.f_tuple (Z1 (Z0 1) (Z5))) (U5))))))
def Z70:List Str:=["event", "words", "numbers", "told", "word"]
theorem Z5d:Z70.Nodup:=by decide +kernel
theorem X0x:FnScope Z70 ["event"] (defScope Z2t):=⟨rfl,rfl,rfl,Z5d,rfl,by decide +kernel,by decide +kernel⟩
def Y0n:MS:=Z9 (Z0r (Q4 (W9 (Z86 (Y1q "str") [("Row",false),("Tool",false),("Story",false)] (Z4 0)))) (V1 (m_c .non)) (V4)) (Z9 (W3 1 (Z5z Z3d (Z4 0) (m_c (.str " ")))) (Z9 (Z0r (U4 (Y5 eqD (Z03 (Z4 1) (m_c (.int 0))) (m_c (.str "edition")))) (Z9 (W3 3 (Z8 (X9 1 (W1 [] (callP g_places_in))) (Z3 (Z1j (Z4 1) (Z20 (m_c (.int 1))) (Y2v)) (Z7)))) (V1 (Z6c (U4 (Y5 isD (Z4 3) (m_c .non))) (m_c .non) (V3 (Z3 (m_c (.str "edition")) (Z3 (Z4 3) (Z7))))))) (V4)) (Z9 (W3 2 (Z3r (.nm 4) (Z0c (Z1j (Z4 1) (Z20 (m_c (.int 1))) (Y2v))) (W0) (Z8 (X9 1 (W1 [] (callP g_number_in))) (Z3 (Z4 4) (Z7))) [4])) (Z9 (Z0r (U4 (Y5 inD (m_c .non) (Z4 2))) (V1 (m_c .non)) (V4)) (Z9 (Z0r (Q8 (U4 (Y5 eqD (Z03 (Z4 1) (m_c (.int 0))) (m_c (.str "give")))) (U4 (Y5 inD (Z8 Z3e (Z3 (Z4 2) (Z7))) (V3 (Z3 (m_c (.int 1)) (Z3 (m_c (.int 2)) (Z7))))))) (Z3h (Z3 (m_c (.str "give")) (Z33 (Z4 2) (Z7)))) (V4)) (V1 (Z6c (Q8 (U4 (Y5 eqD (Z03 (Z4 1) (m_c (.int 0))) (m_c (.str "check")))) (U4 (Y5 eqD (Z8 Z3e (Z3 (Z4 2) (Z7))) (m_c (.int 1))))) (V3 (Z3 (m_c (.str "check")) (Z3 (Z03 (Z4 2) (m_c (.int 0))) (Z7)))) (m_c .non))))))))
def g_move_in:List D→PR:=Z6v 5 Y0n
include Fx in
theorem X0p (K_places_in:Kept P HasW.w K mg base 4 (He.ga K "places_in") (spP K 1 g_places_in)) (K_number_in:Kept P HasW.w K mg base 1 (He.ga K "number_in") (spP K 1 g_number_in)) (F:FunD K "move_in" "move_in" (defArgs Z2t) (defBody Z2t) (defScope Z2t) dl [] f fd):FnG P HasW.w K mg base 5 f fd ["event"] (spP K 1 g_move_in):=fnP F X0x fun cdv A outer s H E gu room=>by
  have h:Here (cxB P HasW.w K mg base Z70 "move_in" (defScope Z2t) f cdv A outer s H E) (wxE E) 4:=V5 gu room
  unfold Y0n
  exact Z6 (Q9 (Z01 (V6 (Y1e rfl Fx.f_isinstance (Z0 0) (X7b rfl Fx.f_str) Fx.is_str (.ty _)))) (Y2 (U0 (U5))) (X8)) (Z6 (V7 (i:=1) Z5d rfl (by first | exact Or.inl rfl | exact Or.inr rfl) (Z60 (Z0 0) (Y4))) (Z6 (Q9 (W7 h.eq (Z0g (Z0 1) (Y8)) (Y4)) (Z6 (V7 (i:=3) Z5d rfl (by first | exact Or.inl rfl | exact Or.inr rfl) (V8 (h.callP K_places_in (by decide)) rfl Fx.g_places_in K_places_in.kp (Z1 (Z38 (Z0 1) (Z51 (Y8)) (Z50)) (Z5)))) (Y2 (U0 (Z45 (W7 h.is_ (Z0 3) (U5)) (U5) (W4 (Z1 (Y4) (Z1 (Z0 3) (Z5)))))))) (X8)) (Z6 (Z52 (i:=2) (own:=[("word",4)]) (t:=(.nm 4)) rfl Z5d rfl rfl rfl (Z0i (Z38 (Z0 1) (Z51 (Y8)) (Z50))) (blkOk_by (N:=Z70) (sc:=defScope Z2t) (by decide +kernel)) (by decide) (fun _ _ _ _ _=>Y7 (i:=4) Z5d rfl (by first | exact Or.inl rfl | exact Or.inr rfl)) (fun _ _ _ _ _=>Z0a) (fun _ _ _ _ _=>V8 ((h.blk _ _ _ _ _).callP K_number_in (by decide)) rfl Fx.g_number_in K_number_in.kp (Z1 (Z0 4) (Z5)))) (Z6 (Q9 (W7 h.in_ (U5) (Z0 2)) (Y2 (U0 (U5))) (X8)) (Z6 (Q9 (Z6a (Z1p (W7 h.eq (Z0g (Z0 1) (Y8)) (Y4)) (Z1k (W7 h.in_ (Q5 Z24 Z3c rfl Fx.f_len (Z1 (Z0 2) (Z5))) (W4 (Z1 (Y8) (Z1 (Y8) (Z5)))))))) (Y2 (Z7v (Z1 (Y4) (Z87 (Z0 2) (Z5))))) (X8)) (Y2 (U0 (Z45 (Z6a (Z1p (W7 h.eq (Z0g (Z0 1) (Y8)) (Y4)) (Z1k (W7 h.eq (Q5 Z24 Z3c rfl Fx.f_len (Z1 (Z0 2) (Z5))) (Y8))))) (W4 (Z1 (Y4) (Z1 (Z0g (Z0 2) (Y8)) (Z5)))) (U5)))))))))
def Z7z:List Str:=["pairs", "place", "key"]
theorem Z61:Z7z.Nodup:=by decide +kernel
theorem X0w:FnScope Z7z ["pairs"] (defScope Z2s):=⟨rfl,rfl,rfl,Z61,rfl,by decide +kernel,by decide +kernel⟩
def Y0m:MS:=V1 (X0e (.tp [(.nm 1),(.nm 2)]) (Z0c (Z4 0)) (W0) (Z4 1) (Z4 2) [1,2])
def g_keys_of:List D→PR:=Z6v 3 Y0m
include Fx in
theorem X0o  (F:FunD K "keys_of" "keys_of" (defArgs Z2s) (defBody Z2s) (defScope Z2s) dl [] f fd):FnG P HasW.w K mg base 1 f fd ["pairs"] (spP K 1 g_keys_of):=fnP F X0w fun cdv A outer s H E gu room=>by
  have h:Here (cxB P HasW.w K mg base Z7z "keys_of" (defScope Z2s) f cdv A outer s H E) (wxE E) 0:=V5 gu room
  unfold Y0m
  exact Y2 (U0 (X5c (own:=[("place",1),("key",2)]) (t:=(.tp [(.nm 1),(.nm 2)])) rfl Z61 (Z0i (Z0 0)) (blkOk_by (N:=Z7z) (sc:=defScope Z2s) (by decide +kernel)) (by decide) (fun _ _ _ _ _=>Z1t rfl (X4 (Y7 (i:=1) Z61 rfl (by first | exact Or.inl rfl | exact Or.inr rfl)) (X4 (Y7 (i:=2) Z61 rfl (by first | exact Or.inl rfl | exact Or.inr rfl)) (Z0m)))) (fun _ _ _ _ _=>Z0a) (fun _ _ _ _ _=>Z0 1) (fun _ _ _ _ _=>Z0 2)))
def Z5n:List Str:=["move", "editions", "number"]
theorem Z49:Z5n.Nodup:=by decide +kernel
theorem Y17:FnScope Z5n ["move", "editions"] (defScope Z0z):=⟨rfl,rfl,rfl,Z49,rfl,by decide +kernel,by decide +kernel⟩
def Z5t:MS:=Z9 (Z0r (U4 (Y5 eqD (Z03 (Z4 0) (m_c (.int 0))) (m_c (.str "edition")))) (V1 (m_c (.bl true))) (V4)) (Z9 (W3 2 (Y5 W1h (Z8 Z3e (Z3 (Z4 1) (Z7))) (m_c (.int 1)))) (Z9 (Z0r (U4 (Y5 eqD (Z8 Z3e (Z3 (Z4 0) (Z7))) (m_c (.int 3)))) (W3 2 (Z03 (Z4 0) (m_c (.int 2)))) (V4)) (V1 (Z4g (Z16 leD ltD (m_c (.int 0)) (Z4 2) (Z8 Z3e (Z3 (Z4 1) (Z7)))) (Z8c false (Z03 (Z4 0) (m_c (.int 1))) (Z8 (X9 1 (W1 [] (callP g_keys_of))) (Z3 (Z03 (Z4 1) (Z4 2)) (Z7))))))))
def g_is_possible:List D→PR:=Z6v 3 Z5t
include Fx in
theorem Y12 (K_keys_of:Kept P HasW.w K mg base 1 (He.ga K "keys_of") (spP K 1 g_keys_of)) (F:FunD K "is_possible" "is_possible" (defArgs Z0z) (defBody Z0z) (defScope Z0z) dl [] f fd):FnG P HasW.w K mg base 2 f fd ["move", "editions"] (spP K 2 g_is_possible):=fnP F Y17 fun cdv A outer s H E gu room=>by
  have h:Here (cxB P HasW.w K mg base Z5n "is_possible" (defScope Z0z) f cdv A outer s H E) (wxE E) 1:=V5 gu room
  unfold Z5t
  exact Z6 (Q9 (W7 h.eq (Z0g (Z0 0) (Y8)) (Y4)) (Y2 (U0 (Z44))) (X8)) (Z6 (V7 (i:=2) Z49 rfl (by first | exact Or.inl rfl | exact Or.inr rfl) (Z64 h.sub (Q5 Z24 Z3c rfl Fx.f_len (Z1 (Z0 1) (Z5))) (Y8))) (Z6 (Q9 (W7 h.eq (Q5 Z24 Z3c rfl Fx.f_len (Z1 (Z0 0) (Z5))) (Y8)) (Y2 (V7 (i:=2) Z49 rfl (by first | exact Or.inl rfl | exact Or.inr rfl) (Z0g (Z0 0) (Y8)))) (X8)) (Y2 (U0 (Z7b (X72 h.le h.lt (Y8) (Z0 2) (Q5 Z24 Z3c rfl Fx.f_len (Z1 (Z0 1) (Z5)))) (Z8e (W2r h.u1 (Z0g (Z0 0) (Y8)) (V8 (h.callP K_keys_of (by decide)) rfl Fx.g_keys_of K_keys_of.kp (Z1 (Z0g (Z0 1) (Z0 2)) (Z5))))))))))
def Z27:List Str:=["elder", "places", "found", "keys", "now", "ahead", "past", "place", "key", "stays", "source", "edition", "other"]
theorem V2:Z27.Nodup:=by decide +kernel
theorem Y78:FnScope Z27 ["elder", "places"] (defScope Z0n):=⟨rfl,rfl,rfl,V2,rfl,by decide +kernel,by decide +kernel⟩
def Z8s:MS:=Z9 (W3 2 (Z2a (Z7))) (Z9 (W3 3 (Z3r (.tp [(.nm 7),(.nm 8),(.nm 10)]) (Z0c (Z4 1)) (W0) (Z4 8) [7,8,10])) (Z9 (Z0r (U4 (Y5 ltD (Z8d (Z4 3)) (Z8 Z3e (Z3 (Z4 3) (Z7))))) (U6 (Z4q Z0l V0 (Z4 2) (Z3 (m_c (.str "alike")) (Z7)))) (V4)) (Z9 (Z0r (W9 (Z8 (Y41 fun l=>l.any id) (Z3 (Z3r (.tp [(.nm 7),(.nm 8),(.nm 10)]) (Z0c (Z4 1)) (W0) (Y5 X6w (Z4 10) (m_c .non)) [7,8,10]) (Z7)))) (U6 (Z4q Z0l V0 (Z4 2) (Z3 (m_c (.str "near")) (Z7)))) (V4)) (Z9 (W3 4 (X0e (.tp [(.nm 7),(.nm 8),(.nm 10)]) (Z0c (Z4 1)) (W0) (Z4 7) (Z4 8) [7,8,10])) (Z9 (W3 5 (Z6c (U4 (Y5 gtD (Z8 Z3e (Z3 (Z4 0) (Z7))) (m_c (.int 0)))) (Z8 (X9 1 (W1 [] (callP g_keys_of))) (Z3 (Z03 (Z4 0) (X2s (m_c (.int 1)))) (Z7))) (Y9f))) (Z9 (W3 6 (Y3p (.nm 11) (Z0c (Z4 0)) (W0) (.tp [(.nm 7),(.nm 8)]) (Z0c (Z4 11)) (W0) (Z4 8) [11,7,8] [7,8])) (Z9 (Z2y (.nm 7) (Z29 (Z4 4)) (Z9 (W3 8 (Z2g (Z4 4) (Z4 7))) (Z9 (W3 9 (Z3r (.nm 12) (Z29 (Z4 5)) (Q8 (U4 (Y5 eqD (Z2g (Z4 5) (Z4 12)) (Z4 8))) (U4 (Y5 eqD (Z5y (Z4 4) (Z4 12)) (Z4 8)))) (Z4 12) [12])) (Z0r (Q8 (U4 (Y5 neD (Z5y (Z4 5) (Z4 7)) (Z4 8))) (Q8 (U4 (Y5 inD (Z4 8) (Z4 6))) (U4 (Y5 eqD (Z8 Z3e (Z3 (Z4 9) (Z7))) (m_c (.int 0)))))) (U6 (Z4q Z0l V0 (Z4 2) (Z3 (m_c (.str "back")) (Z7)))) (V4))))) (V1 (Z4 2)))))))))
def g_needs_of:List D→PR:=Z6v 13 Z8s
include Fx in
theorem Y70 (K_keys_of:Kept P HasW.w K mg base 1 (He.ga K "keys_of") (spP K 1 g_keys_of)) (F:FunD K "needs_of" "needs_of" (defArgs Z0n) (defBody Z0n) (defScope Z0n) dl [] f fd):FnG P HasW.w K mg base 2 f fd ["elder", "places"] (spP K 2 g_needs_of):=fnP F Y78 fun cdv A outer s H E gu room=>by
  have h:Here (cxB P HasW.w K mg base Z27 "needs_of" (defScope Z0n) f cdv A outer s H E) (wxE E) 1:=V5 gu room
  unfold Z8s
  exact Z6 (V7 (i:=2) V2 rfl (by first | exact Or.inl rfl | exact Or.inr rfl) (Z32 (Z5))) (Z6 (Z52 (i:=3) (own:=[("place",7),("key",8),("source",10)]) (t:=(.tp [(.nm 7),(.nm 8),(.nm 10)])) rfl V2 rfl rfl rfl (Z0i (Z0 1)) (blkOk_by (N:=Z27) (sc:=defScope Z0n) (by decide +kernel)) (by decide) (fun _ _ _ _ _=>Z1t rfl (X4 (Y7 (i:=7) V2 rfl (by first | exact Or.inl rfl | exact Or.inr rfl)) (X4 (Y7 (i:=8) V2 rfl (by first | exact Or.inl rfl | exact Or.inr rfl)) (X4 (Y7 (i:=10) V2 rfl (by first | exact Or.inl rfl | exact Or.inr rfl)) (Z0m))))) (fun _ _ _ _ _=>Z0a) (fun _ _ _ _ _=>Z0 8)) (Z6 (Q9 (W7 h.lt (Y5j rfl rfl Fx.f_len rfl Fx.f_set (Z0 3)) (Q5 Z24 Z3c rfl Fx.f_len (Z1 (Z0 3) (Z5)))) (Y2 (Q0 (Z3j PySem.F.slot_list_append PySem.F.type_list_append mt_append Q1 (Z0 2) (Z1 (Y4) (Z5))))) (X8)) (Z6 (Q9 (V6 (Q5 (cr_any rfl) W1u rfl Fx.f_any (Z1 (Z4h (own:=[("place",7),("key",8),("source",10)]) (t:=(.tp [(.nm 7),(.nm 8),(.nm 10)])) rfl V2 (Z0i (Z0 1)) (blkOk_by (N:=Z27) (sc:=defScope Z0n) (by decide +kernel)) (by decide) (fun _ _ _ _ _=>Z1t rfl (X4 (Y7 (i:=7) V2 rfl (by first | exact Or.inl rfl | exact Or.inr rfl)) (X4 (Y7 (i:=8) V2 rfl (by first | exact Or.inl rfl | exact Or.inr rfl)) (X4 (Y7 (i:=10) V2 rfl (by first | exact Or.inl rfl | exact Or.inr rfl)) (Z0m))))) (fun _ _ _ _ _=>Z0a) (fun _ _ _ _ _=>Z4p (h.blk _ _ _ _ _).isn (Z0 10) (U5))) (Z5)))) (Y2 (Q0 (Z3j PySem.F.slot_list_append PySem.F.type_list_append mt_append Q1 (Z0 2) (Z1 (Y4) (Z5))))) (X8)) (Z6 (V7 (i:=4) V2 rfl (by first | exact Or.inl rfl | exact Or.inr rfl) (X5c (own:=[("place",7),("key",8),("source",10)]) (t:=(.tp [(.nm 7),(.nm 8),(.nm 10)])) rfl V2 (Z0i (Z0 1)) (blkOk_by (N:=Z27) (sc:=defScope Z0n) (by decide +kernel)) (by decide) (fun _ _ _ _ _=>Z1t rfl (X4 (Y7 (i:=7) V2 rfl (by first | exact Or.inl rfl | exact Or.inr rfl)) (X4 (Y7 (i:=8) V2 rfl (by first | exact Or.inl rfl | exact Or.inr rfl)) (X4 (Y7 (i:=10) V2 rfl (by first | exact Or.inl rfl | exact Or.inr rfl)) (Z0m))))) (fun _ _ _ _ _=>Z0a) (fun _ _ _ _ _=>Z0 7) (fun _ _ _ _ _=>Z0 8))) (Z6 (V7 (i:=5) V2 rfl (by first | exact Or.inl rfl | exact Or.inr rfl) (Z45 (W7 h.gt (Q5 Z24 Z3c rfl Fx.f_len (Z1 (Z0 0) (Z5))) (Y8)) (V8 (h.callP K_keys_of (by decide)) rfl Fx.g_keys_of K_keys_of.kp (Z1 (Z0g (Z0 0) (X61 (Y8))) (Z5))) (X2w))) (Z6 (Y5l (i:=6) (own:=[("edition",11),("place",7),("key",8)]) (t:=(.nm 11)) (t1:=(.tp [(.nm 7),(.nm 8)])) (vs1:=[7,8]) rfl V2 rfl rfl rfl (Z0i (Z0 0)) (blkOk_by (N:=Z27) (sc:=defScope Z0n) (by decide +kernel)) (by decide) (by decide) (by decide) (fun _ _ _ _ _=>Y7 (i:=11) V2 rfl (by first | exact Or.inl rfl | exact Or.inr rfl)) (fun _ _ _ _ _=>Z0a) (fun _ _ _ _ _=>Z0i (Z0 11)) (fun _ _ _ _ _=>Z1t rfl (X4 (Y7 (i:=7) V2 rfl (by first | exact Or.inl rfl | exact Or.inr rfl)) (X4 (Y7 (i:=8) V2 rfl (by first | exact Or.inl rfl | exact Or.inr rfl)) (Z0m)))) (fun _ _ _ _ _=>Z0a) (fun _ _ _ _ _=>Z0 8)) (Z6 (Z5b Z34 rfl (Z3o (Z0 4)) (Y7 (i:=7) V2 rfl (by first | exact Or.inl rfl | exact Or.inr rfl)) (Z6 (V7 (i:=8) V2 rfl (by first | exact Or.inl rfl | exact Or.inr rfl) (Z17 h.u1 (Z0 4) (Z0 7))) (Z6 (Z52 (i:=9) (own:=[("other",12)]) (t:=(.nm 12)) rfl V2 rfl rfl rfl (Z3o (Z0 5)) (blkOk_by (N:=Z27) (sc:=defScope Z0n) (by decide +kernel)) (by decide) (fun _ _ _ _ _=>Y7 (i:=12) V2 rfl (by first | exact Or.inl rfl | exact Or.inr rfl)) (fun _ _ _ _ _=>Z46 (Z6a (Z1p (W7 (h.blk _ _ _ _ _).eq (Z17 (h.blk _ _ _ _ _).u1 (Z0 5) (Z0 12)) (Z0 8)) (Z1k (W7 (h.blk _ _ _ _ _).eq (Z96 (h.blk _ _ _ _ _).u1 (Z0 4) (Z0 12)) (Z0 8)))))) (fun _ _ _ _ _=>Z0 12)) (Y2 (Q9 (Z6a (Z1p (W7 h.ne (Z96 h.u1 (Z0 5) (Z0 7)) (Z0 8)) (Z1p (W7 h.in_ (Z0 8) (Z0 6)) (Z1k (W7 h.eq (Q5 Z24 Z3c rfl Fx.f_len (Z1 (Z0 9) (Z5))) (Y8)))))) (Y2 (Q0 (Z3j PySem.F.slot_list_append PySem.F.type_list_append mt_append Q1 (Z0 2) (Z1 (Y4) (Z5))))) (X8)))))) (Y2 (U0 (Z0 2))))))))))
def Z5l:List Str:=["moves", "editions", "found", "many", "move", "word"]
theorem Z2i:Z5l.Nodup:=by decide +kernel
theorem Y6j:FnScope Z5l ["moves", "editions"] (defScope Z1e):=⟨rfl,rfl,rfl,Z2i,rfl,by decide +kernel,by decide +kernel⟩
def Z7m:MS:=Z9 (Z6d 2 3 (Z3 (Y1d) (Z3 (m_c (.int 0)) (Z7)))) (Z9 (Z2y (.nm 4) (Z0c (Z4 0)) (Z0r (U4 (Y5 eqD (Z03 (Z4 4) (m_c (.int 0))) (m_c (.str "edition")))) (Z9 (Z2y (.nm 5) (Z0c (Z8 (X9 2 (W1 [] (callP g_needs_of))) (Z3 (Z1j (Z4 1) (Y2v) (Z20 (Z4 3))) (Z3 (Z03 (Z4 4) (m_c (.int 1))) (Z7))))) (Z8h (Z4 2) (Z4 5) (m_c (.bl true)))) (X0r 3 W4f (m_c (.int 1)))) (Z0r (Q8 (U4 (Y5 eqD (Z8 Z3e (Z3 (Z4 4) (Z7))) (m_c (.int 3)))) (U4 (Y5 neD (Z03 (Z4 4) (m_c (.int 2))) (Y5 W1h (Z4 3) (m_c (.int 1)))))) (Z8h (Z4 2) (m_c (.str "late")) (m_c (.bl true))) (V4)))) (V1 (Z8 Z7e (Z3 (Z8 Z6z (Z3 (Z3r (.nm 5) (Z29 (Z4 2)) (W0) (Z8 Z79 (Z3 (Z4 5) (Z7))) [5]) (Z7))) (Z7)))))
def g_all_needs:List D→PR:=Z6v 6 Z7m
include Fx in
theorem Y50 (K_needs_of:Kept P HasW.w K mg base 2 (He.ga K "needs_of") (spP K 2 g_needs_of)) (F:FunD K "all_needs" "all_needs" (defArgs Z1e) (defBody Z1e) (defScope Z1e) dl [] f fd):FnG P HasW.w K mg base 3 f fd ["moves", "editions"] (spP K 2 g_all_needs):=fnP F Y6j fun cdv A outer s H E gu room=>by
  have h:Here (cxB P HasW.w K mg base Z5l "all_needs" (defScope Z1e) f cdv A outer s H E) (wxE E) 2:=V5 gu room
  unfold Z7m
  exact Z6 (Y2w rfl Z2i (i:=2) (j:=3) rfl rfl (by decide) rfl rfl (Z1 (Y3s) (Z1 (Y8) (Z5)))) (Z6 (Z5b Z34 rfl (Z0i (Z0 0)) (Y7 (i:=4) Z2i rfl (by first | exact Or.inl rfl | exact Or.inr rfl)) (Y2 (Q9 (W7 h.eq (Z0g (Z0 4) (Y8)) (Y4)) (Z6 (Z5b Z34 rfl (Z0i (V8 (h.callP K_needs_of (by decide)) rfl Fx.g_needs_of K_needs_of.kp (Z1 (Z38 (Z0 1) (Z50) (Z51 (Z0 3))) (Z1 (Z0g (Z0 4) (Y8)) (Z5))))) (Y7 (i:=5) Z2i rfl (by first | exact Or.inl rfl | exact Or.inr rfl)) (Y2 (Y3w h.u1 (Z0 2) (Z0 5) (Z44)))) (Y2 (W2v (i:=3) Z2i rfl (by first | exact Or.inl rfl | exact Or.inr rfl) (Y8) ip_add W28))) (Y2 (Q9 (Z6a (Z1p (W7 h.eq (Q5 Z24 Z3c rfl Fx.f_len (Z1 (Z0 4) (Z5))) (Y8)) (Z1k (W7 h.ne (Z0g (Z0 4) (Y8)) (Z64 h.sub (Z0 3) (Y8)))))) (Y2 (Y3w h.u1 (Z0 2) (Y4) (Z44))) (X8)))))) (Y2 (U0 (Z08 call_tuple_of Z62 rfl Fx.f_tuple (Z1 (Q5 (Bv.CallR.or cr_sortedI cr_sortedS) Y8m rfl Fx.f_sorted (Z1 (Z4h (own:=[("word",5)]) (t:=(.nm 5)) rfl Z2i (Z3o (Z0 2)) (blkOk_by (N:=Z5l) (sc:=defScope Z1e) (by decide +kernel)) (by decide) (fun _ _ _ _ _=>Y7 (i:=5) Z2i rfl (by first | exact Or.inl rfl | exact Or.inr rfl)) (fun _ _ _ _ _=>Z0a) (fun _ _ _ _ _=>Z08 Y8p Y8n rfl Fx.f_str (Z1 (Z0 5) (Z5)))) (Z5))) (Z5))))))
def Z4s:List Str:=["self", "events", "editions", "moves", "at", "event", "move", "place", "key", "source"]
theorem Z0t:Z4s.Nodup:=by decide +kernel
theorem Y4h:FnScope Z4s ["self", "events"] (defScope Z0u):=⟨rfl,rfl,rfl,Z0t,rfl,by decide +kernel,by decide +kernel⟩
def Z3u:MS:=Z9 (Z0r (Q4 (W9 (Z8 (X9 1 (W1 [] (callP g_is_sequence))) (Z3 (Z4 1) (Z7))))) (Z1l "InvalidEvent" "at" (Z3 (m_c (.int 0)) (Z7))) (V4)) (Z9 (Z6d 2 3 (Z3 (Z2a (Z7)) (Z3 (Z2a (Z7)) (Z7)))) (Z9 (Z2y (.tp [(.nm 4),(.nm 5)]) (Y2r (Z3 (Z4 1) (Z7))) (Z9 (W3 6 (Z8 (X9 1 (W1 [] (callP g_move_in))) (Z3 (Z4 5) (Z7)))) (Z9 (Z0r (Z2b (U4 (Y5 isD (Z4 6) (m_c .non))) (Q4 (W9 (Z8 (X9 2 (W1 [] (callP g_is_possible))) (Z3 (Z4 6) (Z3 (Z4 2) (Z7))))))) (Z1l "InvalidEvent" "at" (Z3 (Z4 4) (Z7))) (V4)) (Z9 (U6 (Z4q Z0l V0 (Z4 3) (Z3 (Z4 6) (Z7)))) (Z0r (U4 (Y5 eqD (Z03 (Z4 6) (m_c (.int 0))) (m_c (.str "edition")))) (U6 (Z4q Z0l V0 (Z4 2) (Z3 (Z8 Z7e (Z3 (Z3r (.tp [(.nm 7),(.nm 8),(.nm 9)]) (Z0c (Z03 (Z4 6) (m_c (.int 1)))) (W0) (V3 (Z3 (Z4 7) (Z3 (Z4 8) (Z7)))) [7,8,9]) (Z7))) (Z7)))) (V4)))))) (Z9 (Z2d ["Story"] "events" (Z4 0) (Z8 Z7e (Z3 (Z4 1) (Z7)))) (Z9 (Z2d ["Story"] "editions" (Z4 0) (Z8 Z7e (Z3 (Z4 2) (Z7)))) (Z9 (Z2d ["Story"] "moves" (Z4 0) (Z8 Z7e (Z3 (Z4 3) (Z7)))) (Z2d ["Story"] "asked_for" (Z4 0) (Z8 (X9 2 (W1 [] (callP g_all_needs))) (Z3 (Y9 ["Story"] "moves" (Z4 0)) (Z3 (Y9 ["Story", "Book"] "editions" (Z4 0)) (Z7))))))))))
def Z0b:List X→Sto→R X:=Y1k 10 Z3u
include Fx in
theorem Y37 (X_InvalidEvent:Xe.ErrOk P K (He.ga K "InvalidEvent") (Y7d "InvalidEvent" K) "at") (K_is_sequence:Kept P HasW.w K mg base 1 (He.ga K "is_sequence") (spP K 1 g_is_sequence)) (K_move_in:Kept P HasW.w K mg base 5 (He.ga K "move_in") (spP K 1 g_move_in)) (K_is_possible:Kept P HasW.w K mg base 2 (He.ga K "is_possible") (spP K 2 g_is_possible)) (K_all_needs:Kept P HasW.w K mg base 3 (He.ga K "all_needs") (spP K 2 g_all_needs)) (F:FunD K "__init__" "Story.__init__" (defArgs Z0u) (defBody Z0u) (defScope Z0u) dl [] f fd):FnG P HasW.w K mg base 6 f fd ["self", "events"] (spE K 2 Z0b):=fnE F Y4h fun cdv A outer s H E gu room=>by
  have h:Here (cxB P HasW.w K mg base Z4s "Story.__init__" (defScope Z0u) f cdv A outer s H E) (wxE E) 5:=V5 gu room
  unfold Z3u
  exact Z6 (Q9 (Z01 (V6 (V8 (h.callP K_is_sequence (by decide)) rfl Fx.g_is_sequence K_is_sequence.kp (Z1 (Z0 1) (Z5))))) (Y2 (Z1o rfl h X_InvalidEvent Fx.g_InvalidEvent rfl (Z1 (Y8) (Z5)))) (X8)) (Z6 (Y2w rfl Z0t (i:=2) (j:=3) rfl rfl (by decide) rfl rfl (Z1 (Z32 (Z5)) (Z1 (Z32 (Z5)) (Z5)))) (Z6 (Z5b Z34 rfl (Y3v rfl Fx.f_enumerate (Z1 (Z0 1) (Z5))) (Z1t rfl (X4 (Y7 (i:=4) Z0t rfl (by first | exact Or.inl rfl | exact Or.inr rfl)) (X4 (Y7 (i:=5) Z0t rfl (by first | exact Or.inl rfl | exact Or.inr rfl)) (Z0m)))) (Z6 (V7 (i:=6) Z0t rfl (by first | exact Or.inl rfl | exact Or.inr rfl) (V8 (h.callP K_move_in (by decide)) rfl Fx.g_move_in K_move_in.kp (Z1 (Z0 5) (Z5)))) (Z6 (Q9 (Z6a (Z47 (W7 h.is_ (Z0 6) (U5)) (Z3v (Z01 (V6 (V8 (h.callP K_is_possible (by decide)) rfl Fx.g_is_possible K_is_possible.kp (Z1 (Z0 6) (Z1 (Z0 2) (Z5))))))))) (Y2 (Z1o rfl h X_InvalidEvent Fx.g_InvalidEvent rfl (Z1 (Z0 4) (Z5)))) (X8)) (Z6 (Q0 (Z3j PySem.F.slot_list_append PySem.F.type_list_append mt_append Q1 (Z0 3) (Z1 (Z0 6) (Z5)))) (Y2 (Q9 (W7 h.eq (Z0g (Z0 6) (Y8)) (Y4)) (Y2 (Q0 (Z3j PySem.F.slot_list_append PySem.F.type_list_append mt_append Q1 (Z0 2) (Z1 (Z08 call_tuple_of Z62 rfl Fx.f_tuple (Z1 (Z4h (own:=[("place",7),("key",8),("source",9)]) (t:=(.tp [(.nm 7),(.nm 8),(.nm 9)])) rfl Z0t (Z0i (Z0g (Z0 6) (Y8))) (blkOk_by (N:=Z4s) (sc:=defScope Z0u) (by decide +kernel)) (by decide) (fun _ _ _ _ _=>Z1t rfl (X4 (Y7 (i:=7) Z0t rfl (by first | exact Or.inl rfl | exact Or.inr rfl)) (X4 (Y7 (i:=8) Z0t rfl (by first | exact Or.inl rfl | exact Or.inr rfl)) (X4 (Y7 (i:=9) Z0t rfl (by first | exact Or.inl rfl | exact Or.inr rfl)) (Z0m))))) (fun _ _ _ _ _=>Z0a) (fun _ _ _ _ _=>W4 (Z1 (Z0 7) (Z1 (Z0 8) (Z5))))) (Z5))) (Z5))))) (X8))))))) (Z6 (Z2c ["Story"] Fx.at_Story_events (Z0 0) (Z08 call_tuple_of Z62 rfl Fx.f_tuple (Z1 (Z0 1) (Z5)))) (Z6 (Z2c ["Story"] Fx.at_Story_editions (Z0 0) (Z08 call_tuple_of Z62 rfl Fx.f_tuple (Z1 (Z0 2) (Z5)))) (Z6 (Z2c ["Story"] Fx.at_Story_moves (Z0 0) (Z08 call_tuple_of Z62 rfl Fx.f_tuple (Z1 (Z0 3) (Z5)))) (Y2 (Z2c ["Story"] Fx.at_Story_asked_for (Z0 0) (V8 (h.callP K_all_needs (by decide)) rfl Fx.g_all_needs K_all_needs.kp (Z1 (Y6 ["Story"] Fx.at_Story_moves (Z0 0)) (Z1 (Y6 ["Story", "Book"] Fx.at_Story_Book_editions (Z0 0)) (Z5)))))))))))
def Y95:List Str:=["_law_script", "_law_lines", "_law_tool", "_law_k", "_law_stuck", "_law_told", "_law_box", "_law_p", "_law_q", "_law_events", "_law_shows", "_law_now", "_law_met", "_law_led", "_law_pairs", "_law_one", "_law_event", "_law_fault", "_law_place"]
theorem Z2v:Y95.Nodup:=by decide +kernel
theorem W3o:FnScope Y95 ["_law_script"] (defScope Z6w):=⟨rfl,rfl,rfl,Z2v,rfl,by decide +kernel,by decide +kernel⟩
def X7w:MS:=Z9 (W3 1 (Z2h (Z3 (m_c (.str "marks none doubt good")) (Z3 (m_c (.str "shown good")) (Z3 (m_c (.str "asked none")) (Z3 (m_c (.str "give any take to good")) (Z3 (m_c (.str "carry any to doubt")) (Z7)))))))) (Z9 (W3 2 (Z85 "Tool" (X9 2 (W1 [] (callP Z3n))) (m_c (.gl "Tool")) (Z3 (Z5z Y5e (m_c (.str "\n")) (Y5 Z8i (Z4 1) (Z2h (Z3 (m_c (.str "right any to good")) (Z3 (m_c (.str "wrong any to none")) (Z7)))))) (Z7)))) (Z9 (Z2y (.nm 3) (Y2s (Z3 (Z8 (Z5x X4i) (Z3 (m_c (.int 1)) (Z3 (Z8 (Z5x X4j) (Z3 (m_c (.int 4)) (Z3 (Z8 Z3e (Z3 (Z4 0) (Z7))) (Z7)))) (Z7)))) (Z7))) (Z9 (W3 6 (Z8 (X9 2 (W1 [] g__law_seed)) (Z3 (Z4 0) (Z3 (Z4 3) (Z7))))) (Z9 (W3 7 (Z8 (X9 2 (W1 [] g__law_choose)) (Z3 (Z4 6) (Z3 (m_c (.int 8)) (Z7))))) (Z9 (W3 8 (Y5 Z8i (Y5 Z8i (Z4 7) (m_c (.int 1))) (Z8 (X9 2 (W1 [] g__law_choose)) (Z3 (Z4 6) (Z3 (m_c (.int 2)) (Z7)))))) (Z9 (Z2y (.tp [(.nm 9),(.nm 10),(.nm 11),(.nm 12)]) (Z0c (Z8 (W1 [] (callP g__law_cases)) Z7)) (Z9 (W3 5 (Z8 (X9 2 (W1 [] (callP g_play))) (Z3 (Z4 2) (Z3 (Z8 (X9 1 (W1 [] (made "Story" mkF Z0b))) (Z3 (Z3r (.nm 16) (Z0c (Z4 9)) (W0) (Z7u "Q" (Z7u "P" (Z4 16) (Z3 (Z4 7) (Z7))) (Z3 (Z4 8) (Z7))) [16]) (Z7))) (Z7))))) (Z9 (W3 13 (Y3o (.str "P") (.str "Q") (.non) (Z4 7) (Z4 8) (m_c .non))) (Z9 (Z0r (Z2b (U4 (Y5 neD (Y9 ["Played"] "shows" (Z4 5)) (V3 (Z3 (V3 (Z3 (Z4 7) (Z3 (Z7a (Z4 13) (Z03 (Z4 10) (m_c (.int 0)))) (Z7)))) (Z3 (V3 (Z3 (Z4 8) (Z3 (Z7a (Z4 13) (Z03 (Z4 10) (m_c (.int 1)))) (Z7)))) (Z7)))))) (U4 (Y5 neD (Y9 ["Played"] "met" (Z4 5)) (Z4 12)))) (V1 (m_c (.bl false))) (V4)) (Z9 (W3 14 (Z3r (.nm 15) (Z0c (Z4 11)) (W0) (Z5z Z3d (Z4 15) (m_c (.str " "))) [15])) (Z0r (U4 (Y5 neD (Y9 ["Played"] "now" (Z4 5)) (Z8 Z7e (Z3 (Z3r (.tp [(.nm 17),(.nm 18)]) (Z0c (Z4 14)) (W0) (V3 (Z3 (Z4 17) (Z3 (Z7a (Z4 13) (Z4 18)) (Z7)))) [17,18]) (Z7))))) (V1 (m_c (.bl false))) (V4))))))) (Z0r (U4 (Y5 neD (Y9 ["Played"] "asks" (Z8 (X9 2 (W1 [] (callP g_play))) (Z3 (Z4 2) (Z3 (Z8 (X9 1 (W1 [] (made "Story" mkF Z0b))) (Z3 (Z2h (Z3 (Y5 Z8i (Y5 Z8i (m_c (.str "edition ")) (Z8 Z79 (Z3 (Z4 7) (Z7)))) (m_c (.str ":a"))) (Z7))) (Z7))) (Z7))))) (V3 (Z3 (m_c (.str "a")) (Z7))))) (V1 (m_c (.bl false))) (V4))))))) (Z9 (W3 4 (Z85 "Tool" (X9 2 (W1 [] (callP Z3n))) (m_c (.gl "Tool")) (Z3 (m_c (.str "marks none old\nshown old\nasked\ngive any keep to old")) (Z7)))) (Z9 (W3 5 (Z8 (X9 2 (W1 [] (callP g_play))) (Z3 (Z4 4) (Z3 (Z8 (X9 1 (W1 [] (made "Story" mkF Z0b))) (Z3 (Z2h (Z3 (m_c (.str "edition 3:a")) (Z3 (m_c (.str "give 3")) (Z7)))) (Z7))) (Z7))))) (V1 (Z4g (Y5 eqD (Y9 ["Played"] "now" (Z4 5)) (V3 (Z3 (V3 (Z3 (m_c (.str "stuck")) (Z3 (m_c (.int 3)) (Z7)))) (Z3 (V3 (Z3 (m_c (.str "vain")) (Z3 (m_c (.int 3)) (Z7)))) (Z7))))) (Y5 eqD (Y9 ["Played"] "book" (Z4 5)) (V3 (Z7)))))))))
def g_law:List D→PR:=Z6v 19 X7w
include Fx in
theorem W3a (K_Tool_read:Kept P HasW.w K mg base 5 (X4y "Tool" "read" K) (spP K 2 Z3n)) (K__law_seed:Kept P HasW.w K mg base 1 (He.ga K "_law_seed") (spE K 2 g__law_seed)) (K__law_choose:Kept P HasW.w K mg base 1 (He.ga K "_law_choose") (spE K 2 g__law_choose)) (K__law_cases:Kept P HasW.w K mg base 1 (He.ga K "_law_cases") (spP K 0 g__law_cases)) (K_play:Kept P HasW.w K mg base 8 (He.ga K "play") (spP K 2 g_play)) (K_Story_init:Kept P HasW.w K mg base 6 (He.ma K (He.ga K "Story") "__init__") (spE K 2 Z0b)) (F:FunD K "law" "law" (defArgs Z6w) (defBody Z6w) (defScope Z6w) dl [] f fd):FnG P HasW.w K mg base 9 f fd ["_law_script"] (spP K 1 g_law):=fnP F W3o fun cdv A outer s H E gu room=>by
  have h:Here (cxB P HasW.w K mg base Y95 "law" (defScope Z6w) f cdv A outer s H E) (wxE E) 8:=V5 gu room
  unfold X7w
  exact X5g (i:=1) Z2v rfl (by first | exact Or.inl rfl | exact Or.inr rfl) (Z1 (Y4) (Z1 (Y4) (Z1 (Y4) (Z1 (Y4) (Z5))))) (Z4i (Y9i (V7 (i:=2) Z2v rfl (by first | exact Or.inl rfl | exact Or.inr rfl) (X89 (h.callP K_Tool_read (by decide)) Fx.cm_Tool_read (X1p rfl Fx.g_Tool) (Z1 (X9b (Y4) (Z64 h.add (Z0 1) (Z3k (Z1 (Y4) (Z1 (Y4) (Z5)))))) (Z5))))) (Z4i (X25 Z34 rfl (X9e rfl Fx.f_range (Z1 (Q5 (call_max2 rfl) W4i rfl Fx.f_max (Z1 (Y8) (Z1 (Q5 (call_min2 rfl) W4j rfl Fx.f_min (Z1 (Y8) (Z1 (Q5 Z24 Z3c rfl Fx.f_len (Z1 (Z0 0) (Z5))) (Z5)))) (Z5)))) (Z5))) (Y7 (i:=3) Z2v rfl (by first | exact Or.inl rfl | exact Or.inr rfl)) (Z4i (Y9i (V7 (i:=6) Z2v rfl (by first | exact Or.inl rfl | exact Or.inr rfl) (V8 (h.callE K__law_seed (by decide)) rfl Fx.g__law_seed K__law_seed.kp (Z1 (Z0 0) (Z1 (Z0 3) (Z5)))))) (Z4i (Y9i (V7 (i:=7) Z2v rfl (by first | exact Or.inl rfl | exact Or.inr rfl) (V8 (h.callE K__law_choose (by decide)) rfl Fx.g__law_choose K__law_choose.kp (Z1 (Z0 6) (Z1 (Y8) (Z5)))))) (Z4i (Y9i (V7 (i:=8) Z2v rfl (by first | exact Or.inl rfl | exact Or.inr rfl) (Z64 h.add (Z64 h.add (Z0 7) (Y8)) (V8 (h.callE K__law_choose (by decide)) rfl Fx.g__law_choose K__law_choose.kp (Z1 (Z0 6) (Z1 (Y8) (Z5))))))) (Z4i (X25 Z34 rfl (Z0i (X5a (h.callP K__law_cases (by decide)) rfl Fx.g__law_cases K__law_cases.kp)) (Z1t rfl (X4 (Y7 (i:=9) Z2v rfl (by first | exact Or.inl rfl | exact Or.inr rfl)) (X4 (Y7 (i:=10) Z2v rfl (by first | exact Or.inl rfl | exact Or.inr rfl)) (X4 (Y7 (i:=11) Z2v rfl (by first | exact Or.inl rfl | exact Or.inr rfl)) (X4 (Y7 (i:=12) Z2v rfl (by first | exact Or.inl rfl | exact Or.inr rfl)) (Z0m)))))) (Z4i (X9i (i:=5) Z2v rfl (by first | exact Or.inl rfl | exact Or.inr rfl) (Y9h (h.callP K_play (by decide)) rfl Fx.g_play K_play.kp (Y3r (X62 (Z0 2)) (Y3r (Y9h (h.make Y1y (n:=1) Fx.M_Story K_Story_init (by decide)) rfl Fx.g_Story Fx.M_Story.kp (Y3r (W2u (own:=[("_law_event",16)]) (t:=(.nm 16)) rfl Z2v (Z0i (Z0 9)) (blkOk_by (N:=Y95) (sc:=defScope Z6w) (by decide +kernel)) (by decide) (fun _ _ _ _ _=>Y7 (i:=16) Z2v rfl (by first | exact Or.inl rfl | exact Or.inr rfl)) (fun _ _ _ _ _=>Z0a) (fun _ _ _ _ _=>Y5k (Y5k (X62 (Z0 16)) (Z1 (Z0 7) (Z5)) rfl Fx.f_str) (Z1 (Z0 8) (Z5)) rfl Fx.f_str)) (X60 Z5))) (X60 Z5))))) (Y7n (Z6 (V7 (i:=13) Z2v rfl (by first | exact Or.inl rfl | exact Or.inr rfl) (X2v rfl (Y4) (Y4) (U5) (Z0 7) (Z0 8) (U5) rfl rfl rfl (by decide +kernel))) (Z6 (Q9 (Z6a (Z47 (W7 h.ne (Y6 ["Played"] Fx.at_Played_shows (Z0 5)) (W4 (Z1 (W4 (Z1 (Z0 7) (Z1 (Y7l rfl (Z0 13) (Z0g (Z0 10) (Y8))) (Z5)))) (Z1 (W4 (Z1 (Z0 8) (Z1 (Y7l rfl (Z0 13) (Z0g (Z0 10) (Y8))) (Z5)))) (Z5))))) (Z3v (W7 h.ne (Y6 ["Played"] Fx.at_Played_met (Z0 5)) (Z0 12))))) (Y2 (U0 (Z44))) (X8)) (Z6 (Z52 (i:=14) (own:=[("_law_one",15)]) (t:=(.nm 15)) rfl Z2v rfl rfl rfl (Z0i (Z0 11)) (blkOk_by (N:=Y95) (sc:=defScope Z6w) (by decide +kernel)) (by decide) (fun _ _ _ _ _=>Y7 (i:=15) Z2v rfl (by first | exact Or.inl rfl | exact Or.inr rfl)) (fun _ _ _ _ _=>Z0a) (fun _ _ _ _ _=>Z60 (Z0 15) (Y4))) (Y2 (Q9 (W7 h.ne (Y6 ["Played"] Fx.at_Played_now (Z0 5)) (Z08 call_tuple_of Z62 rfl Fx.f_tuple (Z1 (Z4h (own:=[("_law_fault",17),("_law_place",18)]) (t:=(.tp [(.nm 17),(.nm 18)])) rfl Z2v (Z0i (Z0 14)) (blkOk_by (N:=Y95) (sc:=defScope Z6w) (by decide +kernel)) (by decide) (fun _ _ _ _ _=>Z1t rfl (X4 (Y7 (i:=17) Z2v rfl (by first | exact Or.inl rfl | exact Or.inr rfl)) (X4 (Y7 (i:=18) Z2v rfl (by first | exact Or.inl rfl | exact Or.inr rfl)) (Z0m)))) (fun _ _ _ _ _=>Z0a) (fun _ _ _ _ _=>W4 (Z1 (Z0 17) (Z1 (Y7l rfl (Z0 13) (Z0 18)) (Z5))))) (Z5)))) (Y2 (U0 (Z44))) (X8))))))))) (Y7n (Y2 (Q9 (W7 h.ne (Y6 ["Played"] Fx.at_Played_asks (V8 (h.callP K_play (by decide)) rfl Fx.g_play K_play.kp (Z1 (Z0 2) (Z1 (V8 (h.make Y1y (n:=1) Fx.M_Story K_Story_init (by decide)) rfl Fx.g_Story Fx.M_Story.kp (Z1 (Z3k (Z1 (Z64 h.add (Z64 h.add (Y4) (Z08 Y8p Y8n rfl Fx.f_str (Z1 (Z0 7) (Z5)))) (Y4)) (Z5))) (Z5))) (Z5))))) (W4 (Z1 (Y4) (Z5)))) (Y2 (U0 (Z44))) (X8))))))))) (Y7n (Z6 (V7 (i:=4) Z2v rfl (by first | exact Or.inl rfl | exact Or.inr rfl) (X89 (h.callP K_Tool_read (by decide)) Fx.cm_Tool_read (X1p rfl Fx.g_Tool) (Z1 (Y4) (Z5)))) (Z6 (V7 (i:=5) Z2v rfl (by first | exact Or.inl rfl | exact Or.inr rfl) (V8 (h.callP K_play (by decide)) rfl Fx.g_play K_play.kp (Z1 (Z0 4) (Z1 (V8 (h.make Y1y (n:=1) Fx.M_Story K_Story_init (by decide)) rfl Fx.g_Story Fx.M_Story.kp (Z1 (Z3k (Z1 (Y4) (Z1 (Y4) (Z5)))) (Z5))) (Z5))))) (Y2 (U0 (Z7b (Z4p h.eq (Y6 ["Played"] Fx.at_Played_now (Z0 5)) (W4 (Z1 (W4 (Z1 (Y4) (Z1 (Y8) (Z5)))) (Z1 (W4 (Z1 (Y4) (Z1 (Y8) (Z5)))) (Z5))))) (Z8e (Z4p h.eq (Y6 ["Played"] Fx.at_Played_book (Z0 5)) (W4 (Z5))))))))))))
end
end Lw
set_option maxHeartbeats 0
namespace Lw
open PySem PySem.Spec L2 Bv
open PyProof.Rows hiding St
theorem X41 {K:PySem.W.Frag} {h:Heap} {mg:Str→Option Value} (X:K.In h) (G:h.Ns mainGlobals mg) (c:Y3a tsL dsL K):Facts K mg:=⟨
  c.test 0 rfl,
  U3 X G (c.test 1 rfl),
  Z05 X G (c.test 2 rfl),
  Z05 X G (c.test 3 rfl),
  U3 X G (c.test 4 rfl),
  Z05 X G (c.test 5 rfl),
  X18 (u:=fun K=>(.type "str")) (c.test 6 rfl),
  Z05 X G (c.test 7 rfl),
  c.test 8 rfl,
  U3 X G (c.test 9 rfl),
  X8d X G (c.test 10 rfl),
  X4c X G (c.test 11 rfl),
  Z05 X G (c.test 12 rfl),
  U3 X G (c.test 13 rfl),
  U3 X G (c.test 14 rfl),
  Y8q (c.test 15 rfl),
  W3l (c.test 16 rfl),
  c.test 17 rfl,
  U3 X G (c.test 18 rfl),
  Y8q (c.test 19 rfl),
  W3l (c.test 20 rfl),
  c.test 21 rfl,
  U3 X G (c.test 22 rfl),
  U3 X G (c.test 23 rfl),
  U3 X G (c.test 24 rfl),
  X18 (u:=fun K=>(.type "bool")) (c.test 25 rfl),
  Z05 X G (c.test 26 rfl),
  Z0q (c.test 27 rfl),
  Z0q (c.test 28 rfl),
  Z0q (c.test 29 rfl),
  Z0q (c.test 30 rfl),
  Z88 (c.test 31 rfl),
  U3 X G (c.test 32 rfl),
  W12 (c.test 33 rfl),
  X8e (c.test 34 rfl),
  Z05 X G (c.test 35 rfl),
  Z05 X G (c.test 36 rfl),
  U3 X G (c.test 37 rfl),
  Z05 X G (c.test 38 rfl),
  U3 X G (c.test 39 rfl),
  U3 X G (c.test 40 rfl),
  U3 X G (c.test 41 rfl),
  X18 (u:=fun K=>(.ref (He.ga K "Row"))) (c.test 42 rfl),
  Z05 X G (c.test 43 rfl),
  Z0q (c.test 44 rfl),
  Z0q (c.test 45 rfl),
  Z0q (c.test 46 rfl),
  Z0q (c.test 47 rfl),
  Z0q (c.test 48 rfl),
  Z88 (c.test 49 rfl),
  U3 X G (c.test 50 rfl),
  W12 (c.test 51 rfl),
  Z05 X G (c.test 52 rfl),
  Z05 X G (c.test 53 rfl),
  Z05 X G (c.test 54 rfl),
  Z05 X G (c.test 55 rfl),
  Z05 X G (c.test 56 rfl),
  U3 X G (c.test 57 rfl),
  U3 X G (c.test 58 rfl),
  U3 X G (c.test 59 rfl),
  Z0q (c.test 60 rfl),
  Z0q (c.test 61 rfl),
  Z0q (c.test 62 rfl),
  Z0q (c.test 63 rfl),
  Z88 (c.test 64 rfl),
  U3 X G (c.test 65 rfl),
  Z0q (c.test 66 rfl),
  Z05 X G (c.test 67 rfl),
  Z0q (c.test 68 rfl),
  Z0q (c.test 69 rfl),
  Z88 (c.test 70 rfl),
  U3 X G (c.test 71 rfl),
  He.cls_ok (c.test 72 rfl),
  He.meth_ok (c.test 73 rfl),
  He.cls_ok (c.test 74 rfl),
  He.meth_ok (c.test 75 rfl),
  He.cls_ok (c.test 76 rfl),
  He.meth_ok (c.test 77 rfl),
  He.meth_ok (c.test 78 rfl),
  He.meth_ok (c.test 79 rfl),
  He.meth_ok (c.test 80 rfl),
  He.meth_ok (c.test 81 rfl),
  He.meth_ok (c.test 82 rfl),
  Z0q (c.test 83 rfl),
  He.meth_ok (c.test 84 rfl),
  He.meth_ok (c.test 85 rfl),
  U3 X G (c.test 86 rfl),
  He.cls_ok (c.test 87 rfl),
  He.meth_ok (c.test 88 rfl),
  U3 X G (c.test 89 rfl),
  U3 X G (c.test 90 rfl),
  U3 X G (c.test 91 rfl),
  c.test 92 rfl,
  U3 X G (c.test 93 rfl),
  Z05 X G (c.test 94 rfl),
  Z0q (c.test 95 rfl),
  He.meth_ok (c.test 96 rfl),
  Z0q (c.test 97 rfl),
  Z0q (c.test 98 rfl),
  Z0q (c.test 99 rfl),
  Z0q (c.test 100 rfl),
  Z88 (c.test 101 rfl),
  U3 X G (c.test 102 rfl),
  U3 X G (c.test 103 rfl),
  X4c X G (c.test 104 rfl),
  U3 X G (c.test 105 rfl),
  U3 X G (c.test 106 rfl),
  U3 X G (c.test 107 rfl),
  U3 X G (c.test 108 rfl),
  U3 X G (c.test 109 rfl),
  U3 X G (c.test 110 rfl),
  U3 X G (c.test 111 rfl),
  Z0q (c.test 112 rfl),
  Z0q (c.test 113 rfl),
  U3 X G (c.test 114 rfl),
  U3 X G (c.test 115 rfl),
  Z0q (c.test 116 rfl),
  Z88 (c.test 117 rfl),
  U3 X G (c.test 118 rfl),
  U3 X G (c.test 119 rfl),
  U3 X G (c.test 120 rfl)⟩
theorem all [HasW] {P:Program} {K:PySem.W.Frag} {h:Heap} {mg:Str→Option Value} {f:Addr} (X:K.In h) (G:h.Ns mainGlobals mg) (cx:Y96 tsL dsL xsL K) (hP:P.main.file=PySem.Challenge.pw_wordingkept_k21_stories_known.main.file) (hT:(P.main.scope.names.lookup ("super" : Str)).isSome=false) (hf:mg "law" = some (.ref f)) :
    ∃ fd:FuncData,(∀ (s:Shared) (v:Value),BindsTo s fd ⟨[v],[]⟩ [("_law_script",v)])∧∀ base:Heap,K.In base→base.Ns mainGlobals mg→FnG P HasW.w K mg base 9 f fd ["_law_script"] (spP K 1 g_law):=by
  have c:=cx.toB
  have Fx:=X41 X G c
  have e0:=hf.symm.trans (U3 X G (c.test 120 rfl))
  cases e0
  obtain ⟨fd_is_name,F_is_name⟩:=c.fun 0 (d:=Y46) rfl
  obtain ⟨fd_is_sequence,F_is_sequence⟩:=c.fun 1 (d:=Z78) rfl
  obtain ⟨fd_are_unlike,F_are_unlike⟩:=c.fun 2 (d:=Z9t) rfl
  obtain ⟨fd_is_word,F_is_word⟩:=c.fun 3 (d:=Y47) rfl
  obtain ⟨fd_number_in,F_number_in⟩:=c.fun 4 (d:=Y0z) rfl
  obtain ⟨fd_keys_of,F_keys_of⟩:=c.fun 5 (d:=Y48) rfl
  obtain ⟨fd_Entry_init,F_Entry_init⟩:=c.fun 6 (d:=Z9q) rfl
  obtain ⟨fd_Entry_told,F_Entry_told⟩:=c.fun 7 (d:=Z9r) rfl
  obtain ⟨fd_Book_init,F_Book_init⟩:=c.fun 8 (d:=Y0t) rfl
  obtain ⟨fd_Book_source_of,F_Book_source_of⟩:=c.fun 9 (d:=Z59) rfl
  obtain ⟨fd_Row_fits,F_Row_fits⟩:=c.fun 10 (d:=Y2i) rfl
  obtain ⟨fd__law_seed,F__law_seed⟩:=c.fun 11 (d:=Y0v) rfl
  obtain ⟨fd__law_choose,F__law_choose⟩:=c.fun 12 (d:=Z76) rfl
  obtain ⟨fd__law_cases,F__law_cases⟩:=c.fun 13 (d:=Z9s) rfl
  obtain ⟨fd_is_key,F_is_key⟩:=c.fun 14 (d:=Y8t) rfl
  obtain ⟨fd_is_possible,F_is_possible⟩:=c.fun 15 (d:=Z77) rfl
  obtain ⟨fd_needs_of,F_needs_of⟩:=c.fun 16 (d:=Y2m) rfl
  obtain ⟨fd_Row_init,F_Row_init⟩:=c.fun 17 (d:=Z8u) rfl
  obtain ⟨fd_are_names,F_are_names⟩:=c.fun 18 (d:=Y0x) rfl
  obtain ⟨fd_names_in,F_names_in⟩:=c.fun 19 (d:=Y2l) rfl
  obtain ⟨fd_Tool_row_for,F_Tool_row_for⟩:=c.fun 20 (d:=Z68) rfl
  obtain ⟨fd_place_in,F_place_in⟩:=c.fun 21 (d:=Y2n) rfl
  obtain ⟨fd_all_needs,F_all_needs⟩:=c.fun 22 (d:=Y0w) rfl
  obtain ⟨fd_Book_entry,F_Book_entry⟩:=c.fun 23 (d:=Z9p) rfl
  obtain ⟨fd_Book_put,F_Book_put⟩:=c.fun 24 (d:=Y2h) rfl
  obtain ⟨fd_Tool_init,F_Tool_init⟩:=c.fun 25 (d:=Z7o) rfl
  obtain ⟨fd_Tool_becomes,F_Tool_becomes⟩:=c.fun 26 (d:=Z67) rfl
  obtain ⟨fd_places_in,F_places_in⟩:=c.fun 27 (d:=Y00) rfl
  obtain ⟨fd_Book_happen,F_Book_happen⟩:=c.fun 28 (d:=Z35) rfl
  obtain ⟨fd_Book_shows_for,F_Book_shows_for⟩:=c.fun 29 (d:=Z58) rfl
  obtain ⟨fd_ways_from,F_ways_from⟩:=c.fun 30 (d:=Y01) rfl
  obtain ⟨fd_is_lost,F_is_lost⟩:=c.fun 31 (d:=Y45) rfl
  obtain ⟨fd_Row_read,F_Row_read⟩:=c.fun 32 (d:=Y2j) rfl
  obtain ⟨fd_move_in,F_move_in⟩:=c.fun 33 (d:=Y49) rfl
  obtain ⟨fd_Book_come,F_Book_come⟩:=c.fun 34 (d:=Y0r) rfl
  obtain ⟨fd_is_stuck,F_is_stuck⟩:=c.fun 35 (d:=Y2k) rfl
  obtain ⟨fd_Played_init,F_Played_init⟩:=c.fun 36 (d:=Z75) rfl
  obtain ⟨fd_Tool_read,F_Tool_read⟩:=c.fun 37 (d:=Y0u) rfl
  obtain ⟨fd_Story_init,F_Story_init⟩:=c.fun 38 (d:=Z6l) rfl
  obtain ⟨fd_Book_edit,F_Book_edit⟩:=c.fun 39 (d:=Y0s) rfl
  obtain ⟨fd_faults_of,F_faults_of⟩:=c.fun 40 (d:=Y0y) rfl
  obtain ⟨fd_Book_do,F_Book_do⟩:=c.fun 41 (d:=Y44) rfl
  obtain ⟨fd_play,F_play⟩:=c.fun 42 (d:=X6k) rfl
  obtain ⟨fd_law,F_law⟩:=c.fun 43 (d:=W13) rfl
  have b0:=F_law.bindsA (ps:=["_law_script"]) fun _ _ _ _ _ _ us hl=>match us,hl with | [_],_=>rfl
  refine ⟨fd_law,fun s v=>b0 s [v] rfl,fun base _ _=>?_⟩
  have X_InvalidText:Xe.ErrOk P K (He.ga K "InvalidText") (Y7d "InvalidText" K) "at" := Y8x (d:=Z4b) (b := .ve) Y1v (.inr (.inl rfl)) (cx.seen 0 rfl) (c.test 123 rfl) (c.test 124 rfl) (c.test 125 rfl) hP hT
  have X_InvalidRow:Xe.ErrOk P K (He.ga K "InvalidRow") (Y7d "InvalidRow" K) "word" := Y8x (d:=Z4z) (b := .ve) Y3h (.inl rfl) (cx.seen 1 rfl) (c.test 126 rfl) (c.test 127 rfl) (c.test 128 rfl) hP hT
  have X_InvalidTool:Xe.ErrOk P K (He.ga K "InvalidTool") (Y7d "InvalidTool" K) "word" := Y8x (d:=Z4c) (b := .ve) Y1w (.inl rfl) (cx.seen 2 rfl) (c.test 129 rfl) (c.test 130 rfl) (c.test 131 rfl) hP hT
  have X_InvalidEvent:Xe.ErrOk P K (He.ga K "InvalidEvent") (Y7d "InvalidEvent" K) "at" := Y8x (d:=Z3t) (b := .ve) Y05 (.inr (.inl rfl)) (cx.seen 3 rfl) (c.test 132 rfl) (c.test 133 rfl) (c.test 134 rfl) hP hT
  have K_is_name:=Z15 F_is_name (X0m (P:=P) (base:=base) Fx  F_is_name) fun _ _ _ _ _ _ us hl=>match us,hl with | [_],_=>rfl
  have K_is_sequence:=Z15 F_is_sequence (Y13 (P:=P) (base:=base) Fx  F_is_sequence) fun _ _ _ _ _ _ us hl=>match us,hl with | [_],_=>rfl
  have K_are_unlike:=Z15 F_are_unlike (Y39 (P:=P) (base:=base) Fx  F_are_unlike) fun _ _ _ _ _ _ us hl=>match us,hl with | [_],_=>rfl
  have K_is_word:=Z15 F_is_word (X0n (P:=P) (base:=base) Fx  F_is_word) fun _ _ _ _ _ _ us hl=>match us,hl with | [_,_],_=>rfl
  have K_number_in:=Z15 F_number_in (Y53 (P:=P) (base:=base) Fx  F_number_in) fun _ _ _ _ _ _ us hl=>match us,hl with | [_],_=>rfl
  have K_keys_of:=Z15 F_keys_of (X0o (P:=P) (base:=base) Fx  F_keys_of) fun _ _ _ _ _ _ us hl=>match us,hl with | [_],_=>rfl
  have K_Entry_init:=Z15 F_Entry_init (Y35 (P:=P) (base:=base) Fx  F_Entry_init) fun _ _ _ _ _ _ us hl=>match us,hl with | [_,_,_],_=>rfl
  have K_Entry_told:=Z15 F_Entry_told (Y36 (P:=P) (base:=base) Fx  F_Entry_told) fun _ _ _ _ _ _ us hl=>match us,hl with | [_],_=>rfl
  have K_Book_init:=Z15 F_Book_init (Y5w (P:=P) (base:=base) Fx  F_Book_init) fun _ _ _ _ _ _ us hl=>match us,hl with | [_,_],_=>rfl
  have K_Book_source_of:=Z15 F_Book_source_of (Z9d (P:=P) (base:=base) Fx  F_Book_source_of) fun _ _ _ _ _ _ us hl=>match us,hl with | [_,_,_],_=>rfl
  have K_Row_fits:=Z15 F_Row_fits (Y7v (P:=P) (base:=base) Fx  F_Row_fits) fun _ _ _ _ _ _ us hl=>match us,hl with | [_,_,_],_=>rfl
  have K__law_seed:=Z15 F__law_seed (Y5z (P:=P) (base:=base) Fx  F__law_seed) fun _ _ _ _ _ _ us hl=>match us,hl with | [_,_],_=>rfl
  have K__law_choose:=Z15 F__law_choose (Y11 (P:=P) (base:=base) Fx  F__law_choose) fun _ _ _ _ _ _ us hl=>match us,hl with | [_,_],_=>rfl
  have K__law_cases:=Z15 F__law_cases (Y38 (P:=P) (base:=base) Fx  F__law_cases) fun _ _ _ _ _ _ us hl=>match us,hl with | [],_=>rfl
  have K_is_key:=Z15 F_is_key (X3e (P:=P) (base:=base) Fx K_is_name F_is_key) fun _ _ _ _ _ _ us hl=>match us,hl with | [_],_=>rfl
  have K_is_possible:=Z15 F_is_possible (Y12 (P:=P) (base:=base) Fx K_keys_of F_is_possible) fun _ _ _ _ _ _ us hl=>match us,hl with | [_,_],_=>rfl
  have K_needs_of:=Z15 F_needs_of (Y70 (P:=P) (base:=base) Fx K_keys_of F_needs_of) fun _ _ _ _ _ _ us hl=>match us,hl with | [_,_],_=>rfl
  have K_Row_init:=X43 F_Row_init (Y7w (P:=P) (base:=base) Fx X_InvalidRow K_is_word K_is_name F_Row_init) (by simp [DefB.dvs,Z8u]) fun _ _ _ _ _ _ _ us its hl hi=>match us,its,hl,hi with | [_,_,_,_,_],[_],_,_=>⟨_,rfl,rfl⟩
  have K_are_names:=Z15 F_are_names (Y51 (P:=P) (base:=base) Fx K_is_sequence K_is_name K_are_unlike F_are_names) fun _ _ _ _ _ _ us hl=>match us,hl with | [_],_=>rfl
  have K_names_in:=Z15 F_names_in (Y7z (P:=P) (base:=base) Fx K_is_name F_names_in) fun _ _ _ _ _ _ us hl=>match us,hl with | [_,_],_=>rfl
  have K_Tool_row_for:=Z15 F_Tool_row_for (Y1i (P:=P) (base:=base) Fx K_Row_fits F_Tool_row_for) fun _ _ _ _ _ _ us hl=>match us,hl with | [_,_,_],_=>rfl
  have K_place_in:=Z15 F_place_in (Y71 (P:=P) (base:=base) Fx K_number_in K_is_key F_place_in) fun _ _ _ _ _ _ us hl=>match us,hl with | [_],_=>rfl
  have K_all_needs:=Z15 F_all_needs (Y50 (P:=P) (base:=base) Fx K_needs_of F_all_needs) fun _ _ _ _ _ _ us hl=>match us,hl with | [_,_],_=>rfl
  have K_Book_entry:=Z15 F_Book_entry (Y34 (P:=P) (base:=base) Fx K_Entry_init F_Book_entry) fun _ _ _ _ _ _ us hl=>match us,hl with | [_,_],_=>rfl
  have K_Book_put:=Z15 F_Book_put (Y7u (P:=P) (base:=base) Fx K_Entry_init F_Book_put) fun _ _ _ _ _ _ us hl=>match us,hl with | [_,_,_,_],_=>rfl
  have K_Tool_init:=X43 F_Tool_init (Y5x (P:=P) (base:=base) Fx X_InvalidTool K_are_names K_is_sequence F_Tool_init) (by simp [DefB.dvs,Z7o]) fun _ _ _ _ _ _ _ us its hl hi=>match us,its,hl,hi with | [_,_,_,_,_],[_],_,_=>⟨_,rfl,rfl⟩
  have K_Tool_becomes:=Z15 F_Tool_becomes (Y1h (P:=P) (base:=base) Fx K_Tool_row_for F_Tool_becomes) fun _ _ _ _ _ _ us hl=>match us,hl with | [_,_,_],_=>rfl
  have K_places_in:=Z15 F_places_in (Y54 (P:=P) (base:=base) Fx K_place_in F_places_in) fun _ _ _ _ _ _ us hl=>match us,hl with | [_],_=>rfl
  have K_Book_happen:=X43 F_Book_happen (Z7d (P:=P) (base:=base) Fx K_Book_entry K_Tool_becomes K_Book_put F_Book_happen) (by simp [DefB.dvs,Z35]) fun _ _ _ _ _ _ _ us its hl hi=>match us,its,hl,hi with | [_,_,_,_],[_],_,_=>⟨_,rfl,rfl⟩
  have D_Book_happen_1:=W4y (dxs:=[.non]) F_Book_happen (Z7d (P:=P) (base:=base) Fx K_Book_entry K_Tool_becomes K_Book_put F_Book_happen) 3 0 (by simp [DefB.dvs,Z35]) rfl (fun W H => .cons (.non) (.nil)) fun _ _ _ _ _ _ _ us its hl hi=>match us,its,hl,hi with | [_,_,_],[_],_,_=>⟨_,rfl,rfl⟩
  have K_Book_shows_for:=Z15 F_Book_shows_for (Z9c (P:=P) (base:=base) Fx K_Book_entry F_Book_shows_for) fun _ _ _ _ _ _ us hl=>match us,hl with | [_,_],_=>rfl
  have K_ways_from:=Z15 F_ways_from (Y55 (P:=P) (base:=base) Fx K_Tool_becomes F_ways_from) fun _ _ _ _ _ _ us hl=>match us,hl with | [_,_,_,_],_=>rfl
  have K_is_lost:=Z15 F_is_lost (X0l (P:=P) (base:=base) Fx K_Entry_init K_Book_entry F_is_lost) fun _ _ _ _ _ _ us hl=>match us,hl with | [_,_,_,_],_=>rfl
  have K_Row_read:=Z15 F_Row_read (Y7x (P:=P) (base:=base) Fx X_InvalidText K_Row_init F_Row_read) fun _ _ _ _ _ _ us hl=>match us,hl with | [_,_],_=>rfl
  have K_move_in:=Z15 F_move_in (X0p (P:=P) (base:=base) Fx K_places_in K_number_in F_move_in) fun _ _ _ _ _ _ us hl=>match us,hl with | [_],_=>rfl
  have K_Book_come:=Z15 F_Book_come (Y5u (P:=P) (base:=base) Fx K_Book_entry K_Book_happen D_Book_happen_1 K_Book_source_of K_Book_put K_Tool_becomes F_Book_come) fun _ _ _ _ _ _ us hl=>match us,hl with | [_,_,_,_],_=>rfl
  have K_is_stuck:=Z15 F_is_stuck (Y7y (P:=P) (base:=base) Fx K_Entry_told K_ways_from F_is_stuck) fun _ _ _ _ _ _ us hl=>match us,hl with | [_,_,_],_=>rfl
  have K_Played_init:=Z15 F_Played_init (Y10 (P:=P) (base:=base) Fx K_Entry_told K_Book_shows_for K_Book_entry F_Played_init) fun _ _ _ _ _ _ us hl=>match us,hl with | [_,_,_,_],_=>rfl
  have K_Tool_read:=Z15 F_Tool_read (Y5y (P:=P) (base:=base) Fx X_InvalidText K_names_in K_Row_read K_Tool_init F_Tool_read) fun _ _ _ _ _ _ us hl=>match us,hl with | [_,_],_=>rfl
  have K_Story_init:=X43 F_Story_init (Y37 (P:=P) (base:=base) Fx X_InvalidEvent K_is_sequence K_move_in K_is_possible K_all_needs F_Story_init) (by simp [DefB.dvs,Z6l]) fun _ _ _ _ _ _ _ us its hl hi=>match us,its,hl,hi with | [_,_],[_],_,_=>⟨_,rfl,rfl⟩
  have K_Book_edit:=Z15 F_Book_edit (Y5v (P:=P) (base:=base) Fx K_Book_come K_Book_happen D_Book_happen_1 F_Book_edit) fun _ _ _ _ _ _ us hl=>match us,hl with | [_,_],_=>rfl
  have K_faults_of:=Z15 F_faults_of (Y52 (P:=P) (base:=base) Fx K_Book_entry K_Entry_init K_is_lost K_is_stuck F_faults_of) fun _ _ _ _ _ _ us hl=>match us,hl with | [_,_,_,_,_],_=>rfl
  have K_Book_do:=Z15 F_Book_do (X0k (P:=P) (base:=base) Fx K_Book_edit K_Book_happen K_Book_entry D_Book_happen_1 F_Book_do) fun _ _ _ _ _ _ us hl=>match us,hl with | [_,_],_=>rfl
  have K_play:=Z15 F_play (X90 (P:=P) (base:=base) Fx K_Book_init K_Book_do K_faults_of K_Played_init F_play) fun _ _ _ _ _ _ us hl=>match us,hl with | [_,_],_=>rfl
  exact W3a (P:=P) (base:=base) Fx K_Tool_read K__law_seed K__law_choose K__law_cases K_play K_Story_init F_law
end Lw
set_option maxHeartbeats 4000000
namespace Bv
open PySem PySem.Spec L2
open PyProof.Rows hiding St
variable [HasW]
theorem X15 {ms:MG (List X)} {e:Ev} {S S1:Sto} {n:Int} (h:ms e S = .ok [.d (.int n)] S1) (hs:Y23 n=true):Y2s ms e S = .ok (Bv.upTo 0 n.toNat, .free) S1:=by
  unfold Y2s
  rw [h]
  have e1:X51 [.d (.int n)]=if Y23 n then some (Bv.upTo 0 n.toNat, .free) else none:=rfl
  show Z4r (X51 [.d (.int n)]) S1=_
  rw [e1,if_pos hs]
  rfl
theorem X01 {n:Nat} (h:n < 1000):Y23 n=true:=by
  unfold Y23
  simp
  omega
theorem W0i {N:Nat} {mb:MS} {xs:List X} {S S1 T:Sto} {e:Ev} (h:mb (ev0 N xs) S = .go (.nx e) S1) (h2:cut S.length S1=some T):Y1k N mb xs S = .ok (.d .non) T:=by
  unfold Y1k
  rw [h]
  show (match Y1a S.length S1 (X.d .non),cut S.length S1 with
    | some y,some T=>R.ok y T
    | _,_=>R.ok (X.d .non) S1)=_
  rw [h2]
  rfl
theorem W2p {C:Str} {g:List X→Sto→R X} {xs:List X} {S S1 T:Sto} {d:D} (h:g (.r S.length :: xs) (S++[.ins C []]) = .ok (.d .non) S1) (h1:frz S1 S.length=some d) (h2:cut S.length S1=some T):made C mkF g xs S = .ok (.d d) T:=by
  unfold made
  rw [h]
  show (match frz S1 S.length,cut S.length S1 with
    | some d,some T=>R.ok (X.d d) T
    | _,_ => .bad)=_
  rw [h1,h2]
def OkS (S:Sto):Prop:=S.all (okO S.length)=true
theorem OkS.cut0 {S:Sto} (h:OkS S):cut S.length S=some S:=by
  unfold cut
  rw [List.take_length,if_pos (show S.all (okO S.length)=true from h)]
theorem Z4y {k j:Nat} (h:k ≤ j) {x:X} (a:okX k x=true):okX j x=true:=by
  cases x with
  | d _=>rfl
  | r n=>exact decide_eq_true (Nat.lt_of_lt_of_le (of_decide_eq_true a) h)
theorem X5p {k j:Nat} (h:k ≤ j) {o:O} (a:okO k o=true):okO j o=true:=by
  cases o with
  | lst xs=>exact List.all_eq_true.mpr fun x m=>Z4y h (List.all_eq_true.mp (show xs.all (okX k)=true from a) x m)
  | dic kvs=>exact List.all_eq_true.mpr fun x m=>Z4y h (List.all_eq_true.mp (show (kvs.all fun p=>okX k p.2)=true from a) x m)
  | fdc kvs=>exact List.all_eq_true.mpr fun x m=>Z4y h (List.all_eq_true.mp (show (kvs.all fun p=>okX k p.2)=true from a) x m)
  | tdc kvs=>exact List.all_eq_true.mpr fun x m=>Z4y h (List.all_eq_true.mp (show (kvs.all fun p=>okX k p.2)=true from a) x m)
  | ndc kvs=>exact List.all_eq_true.mpr fun x m=>Z4y h (List.all_eq_true.mp (show (kvs.all fun p=>okX k p.2)=true from a) x m)
  | ldc kvs=>exact List.all_eq_true.mpr fun x m=>Z4y h (List.all_eq_true.mp (show (kvs.all fun p=>okX k p.2)=true from a) x m)
  | tfc kvs=>exact List.all_eq_true.mpr fun x m=>Z4y h (List.all_eq_true.mp (show (kvs.all fun p=>okX k p.2)=true from a) x m)
  | ins C fs=>exact List.all_eq_true.mpr fun x m=>Z4y h (List.all_eq_true.mp (show (fs.all fun p=>okX k p.2)=true from a) x m)
theorem OkS.cut {S T:Sto} (h:OkS S):Bv.cut S.length (S++T)=some S:=by
  unfold Bv.cut
  rw [List.take_left,if_pos (show S.all (okO S.length)=true from h)]
theorem OkS.set {S:Sto} (h:OkS S) {b:Nat} {o:O} (ho:okO S.length o=true):OkS (S.set b o):=by
  unfold OkS
  rw [List.length_set]
  refine List.all_eq_true.mpr fun x m=>?_
  rcases List.mem_or_eq_of_mem_set m with m | m
  · exact List.all_eq_true.mp h x m
  · rw [m]; exact ho
theorem OkS.push {S:Sto} (h:OkS S) {o:O} (ho:okO (S.length + 1) o=true):OkS (S++[o]):=by
  unfold OkS
  refine List.all_eq_true.mpr fun x m=>?_
  rw [List.length_append,List.length_singleton]
  rcases List.mem_append.mp m with m | m
  · exact X5p (Nat.le_succ _) (List.all_eq_true.mp h x m)
  · rw [List.mem_singleton.mp m]; exact ho
theorem X9z:OkS []:=rfl
theorem X5i {i j:Int} (h:-(2 ^ 64) < j∧j < 2 ^ 64):Y63 (.int i) (.int j)=some (.int (i * j)):=by
  show (if CMul i j then some (D.int (i * j)) else none)=_
  rw [if_pos (show CMul i j from .inr h)]
theorem W2z {i j:Int} (h:-(2 ^ 64) < i∧i < 2 ^ 64):Y63 (.int i) (.int j)=some (.int (i * j)):=by
  show (if CMul i j then some (D.int (i * j)) else none)=_
  rw [if_pos (show CMul i j from .inl h)]
theorem X22 {i j:Int} (h:0 < j):X0h (.int i) (.int j)=some (.int (i % j)):=by
  show (if 0 < j then some (D.int (i % j)) else none)=_
  rw [if_pos h]
theorem X6r {i j:Int} (h:0 < j∧j < 1073741824):X1z (.int i) (.int j)=some (.int (i / j)):=by
  show (if CDiv i j then some (D.int (i / j)) else none)=_
  rw [if_pos (show CDiv i j from h)]
theorem Y4s {i j:Int}:Z8i (.int i) (.int j)=some (.int (i + j)):=rfl
theorem Y4n {i j:Int}:W1h (.int i) (.int j)=some (.int (i - j)):=rfl
theorem X6t {i j:Int}:gtD (.int i) (.int j)=some (.bl (decide (j < i))):=rfl
theorem X47 {i j:Int}:ltD (.int i) (.int j)=some (.bl (decide (i < j))):=rfl
theorem W1b {i j:Int}:geD (.int i) (.int j)=some (.bl (decide (j ≤ i))):=rfl
theorem X4h {i j:Int}:leD (.int i) (.int j)=some (.bl (decide (i ≤ j))):=rfl
theorem Y3g {a b:Str}:PyData.eqv (.str a) (.str b)=decide (a=b):=by
  rw [Bool.eq_iff_iff]
  simp [PyData.eqv]
theorem Y04 {a b:Str}:eqD (.str a) (.str b)=some (.bl (decide (a=b))):=by
  have h:eqD (.str a) (.str b)=some (.bl (PyData.eqv (.str a) (.str b))):=rfl
  rw [h,Y3g]
theorem W5k {a b:Str}:neD (.str a) (.str b)=some (.bl (!decide (a=b))):=by
  have h:neD (.str a) (.str b)=some (.bl (!PyData.eqv (.str a) (.str b))):=rfl
  rw [h,Y3g]
theorem W4q {i j:Int}:eqD (.int i) (.int j)=some (.bl (decide (i=j))):=by
  have h:eqD (.int i) (.int j)=some (.bl (i == j)):=by
    show some (D.bl (PyData.eqv (.int i) (.int j)))=_
    simp [PyData.eqv]
  rw [h]
  rfl
theorem X0 {v:D} {S:Sto}:(X.d v).get S=some v:=rfl
theorem X70 (l:List D):ds? (l.map X.d)=some l:=by
  induction l with
  | nil=>rfl
  | cons d r ih=>simp [ds?,ih]
theorem Y1b {α:Type} {t:Tg} {mt:MG Bool} {me:M} {e:Ev} {S:Sto} (x:α→X) (f:α→D) (c:α→Bool):∀ {l:List α},(∀ a ∈ l,∃ e1,t.asg S (x a) e=some e1∧mt e1 S = .ok (c a) S∧(c a=true→me e1 S = .ok (.d (f a)) S))→lcL t .free mt me e (l.map x) S = .ok ((l.filter c).map f) S
  | [],_=>by simp [lcL,Lk.ok]
  | a :: l,h=>by
    obtain ⟨e1,h1,h2,h3⟩:=h a (by simp)
    have ih:=Y1b (t:=t) (mt:=mt) (me:=me) (e:=e) (S:=S) x f c (l:=l) fun b hb=>h b (List.mem_cons_of_mem _ hb)
    cases hc:c a with
    | false=>simp [lcL,Lk.ok,h1,h2,hc,R.ne,R.bind,ih]
    | true=>simp [lcL,Lk.ok,h1,h2,hc,h3 hc,R.ne,R.bind,ih]
theorem X2j {α:Type} {t:Tg} {mi:MIt} {me:M} {vs:List Nat} {e:Ev} {S:Sto} (x:α→X) (f:α→D) {l:List α} (hi:mi e S = .ok (l.map x, .free) S) (hl:l.length ≤ sizeLine) (h:∀ a ∈ l,∃ e1,t.asg S (x a) (W6 e vs)=some e1∧me e1 S = .ok (.d (f a)) S) :
    Z3r t mi W0 me vs e S = .ok (.d (.lst (l.map f))) S:=by
  have h1:=Y1b (t:=t) (mt:=W0) (me:=me) (e:=W6 e vs) (S:=S) x f (fun _=>true) (l:=l) fun a ha=>by
    obtain ⟨e1,q1,q2⟩:=h a ha
    exact ⟨e1,q1,rfl,fun _=>q2⟩
  have e0:l.filter (fun _=>true)=l:=List.filter_eq_self.mpr fun _ _=>rfl
  rw [e0] at h1
  unfold Z3r
  rw [hi]
  show (lcL t .free W0 me (W6 e vs) (l.map x) S).bind Z5v=_
  rw [h1]
  show Z5v (l.map f) S=_
  unfold Z5v
  rw [if_pos (by rw [List.length_map]; exact hl)]
end Bv
namespace Lw
open PySem PySem.Spec L2 Bv
open PyProof.Rows hiding St
variable [HasW]
def box (g n:Int):O := .lst [.d (.int g), .d (.int n)]
def Y94 (S:Sto) (b:Nat):Prop:=∃ g n:Int,S[b]?=some (box g n)∧0 ≤ g∧0 ≤ n
theorem Y94.lt {S:Sto} {b:Nat} (h:Y94 S b):b < S.length:=by
  obtain ⟨g,n,e,_⟩:=h
  exact (List.getElem?_eq_some_iff.mp e).1
def W1i (S:Sto) (b:Nat) (S2:Sto):Prop:=∃ g n:Int,S2=S.set b (box g n)∧0 ≤ g∧0 ≤ n
theorem W1i.at_ {S S2:Sto} {b:Nat} (d:W1i S b S2) (h:b < S.length):Y94 S2 b:=by
  obtain ⟨g,n,rfl,hg,hn⟩:=d
  exact ⟨g,n,by rw [List.getElem?_set_self h],hg,hn⟩
theorem W1i.ok {S S2:Sto} {b:Nat} (d:W1i S b S2) (h:OkS S):OkS S2:=by
  obtain ⟨g,n,rfl,hg,hn⟩:=d
  exact h.set rfl
theorem Y43 {S:Sto} {b:Nat} {m:Int} (hS:OkS S) (hb:Y94 S b) (hm:0 < m∧m < 1073741824):∃ (d:Int) (S2:Sto),g__law_choose [.r b, .d (.int m)] S = .ok (.d (.int d)) S2∧0 ≤ d∧d < m∧W1i S b S2:=by
  obtain ⟨g,n,e,hg,hn⟩:=id hb
  have hl:=hb.lt
  unfold box at e
  have hc:∀ g n:Int,cut S.length (S.set b (.lst [.d (.int g), .d (.int n)]))=some (S.set b (box g n)):=fun g n=>by
    have:=(hS.set (b:=b) (o:=box g n) rfl).cut0
    rw [List.length_set] at this
    exact this
  unfold g__law_choose Y1k Z5s
  by_cases hp:0 < g
  · refine ⟨g % m,_,?_,Int.emod_nonneg _ (by omega),Int.emod_lt_of_pos _ hm.1,g / m,n,rfl,Int.ediv_nonneg hg (by omega),hn⟩
    simp [ev0,Z9,Z0r,V4,U6,W3,Z6e,V1,Z9x,Z9e,Z3h,Z55,Z6d,Y4c,Z2d,U4,Y5,Z03,Z4,m_c,Z8,Z3,Z7,Z33,V3,Z2h,Z2a,Y9,Z4q,Z1j,Z20,Y2v,Z6c,Q8,Z2b,Q4,Z4g,W1d,X0f,X88,W9,Z16,R.bind,R.so,RO.then,items,ixO,ixD,Y5g,Z4r,op2,X.get,tb,Y1u,Y02,Y1t,Z5r,slX,Z3m,Z9y,X9,W1,X4g,Y61,Y1a,X4l,Y7a,X0q,Y62,Z3e,X0c,X86,Z5x,ints?,X4o,X4j,X4i,ds?,Z8l,callP,X.isD,D.noL,D.noLs,D.noLf,Z0l,Y1x,Y4s,Y4n,X6t,W1b,X47,X4h,atI,ixN,e,hp,X22 hm.1,X6r hm,trunc,hc]
  · refine ⟨((n * 40014 + 31) % 2147483563 * 2147483647 + (((n * 40014 + 31) % 2147483563 * 40692 + 2777) % 2147483629 + 1)) / 8191 % m,_,?_,Int.emod_nonneg _ (by omega),Int.emod_lt_of_pos _ hm.1,g,((n * 40014 + 31) % 2147483563 * 40692 + 2777) % 2147483629 + 1,rfl,hg,by omega⟩
    have h1:∀ i:Int,X0h (.int i) (.int 2147483563)=some (.int (i % 2147483563)):=fun i=>X22 (by decide)
    have h2:∀ i:Int,X0h (.int i) (.int 2147483629)=some (.int (i % 2147483629)):=fun i=>X22 (by decide)
    have h3:∀ i:Int,Y63 (.int i) (.int 40014)=some (.int (i * 40014)):=fun i=>X5i (by decide)
    have h4:∀ i:Int,Y63 (.int i) (.int 40692)=some (.int (i * 40692)):=fun i=>X5i (by decide)
    have h5:∀ i:Int,Y63 (.int i) (.int 2147483647)=some (.int (i * 2147483647)):=fun i=>X5i (by decide)
    have h6:∀ i:Int,X1z (.int i) (.int 8191)=some (.int (i / 8191)):=fun i=>X6r (by decide)
    have hs:∀ o:O,(S.set b o)[b]?=some o:=fun o=>List.getElem?_set_self hl
    simp [ev0,Z9,Z0r,V4,U6,W3,Z6e,V1,Z9x,Z9e,Z3h,Z55,Z6d,Y4c,Z2d,U4,Y5,Z03,Z4,m_c,Z8,Z3,Z7,Z33,V3,Z2h,Z2a,Y9,Z4q,Z1j,Z20,Y2v,Z6c,Q8,Z2b,Q4,Z4g,W1d,X0f,X88,W9,Z16,R.bind,R.so,RO.then,items,ixO,ixD,Y5g,Z4r,op2,X.get,tb,Y1u,Y02,Y1t,Z5r,slX,Z3m,Z9y,X9,W1,X4g,Y61,Y1a,X4l,Y7a,X0q,Y62,Z3e,X0c,X86,Z5x,ints?,X4o,X4j,X4i,ds?,Z8l,callP,X.isD,D.noL,D.noLs,D.noLf,Z0l,Y1x,Y4s,Y4n,X6t,W1b,X47,X4h,atI,ixN,e,hp,X22 hm.1,h1,h2,h3,h4,h5,h6,hs,trunc,hc]
end Lw
namespace Lw
open PySem PySem.Spec L2 Bv
open PyProof.Rows hiding St
variable [HasW]
end Lw
namespace Lw
open PySem PySem.Spec L2 Bv
open PyProof.Rows hiding St
variable [HasW]
theorem Y8s {α:Type} (x:α) (xs:List α):Z8j (x :: xs) (some 1) none=xs:=by
  unfold Z8j
  simp [HT.sIx]
end Lw
namespace Lw
open PySem PySem.Spec L2 Bv
open PyProof.Rows hiding St
variable [HasW]
theorem W0e:W52 (.int 10) (.int 18)=some (.int 1000000000000000000):=by
  show (if CPow 10 18 then some (D.int (10 ^ (18:Int).toNat)) else none)=_
  rw [if_pos (by unfold CPow; decide)]
  rfl
theorem W0m {S:Sto} {ns:List Int} {k:Nat} (hS:OkS S) (hk:k < 4) (hk2:k < ns.length ∨ k=0):∃ S2,g__law_seed [.d (.scr ns), .d (.int k)] S = .ok (.r S.length) S2∧OkS S2∧S2.length=S.length + 1∧Y94 S2 S.length:=by
  have hp:∀ g n:Int,0 ≤ g→0 ≤ n→∃ S2,S2=S++[box g n]∧OkS S2∧S2.length=S.length + 1∧Y94 S2 S.length:=fun g n hg hn =>
    ⟨_,rfl,hS.push rfl,by simp,g,n,by simp,hg,hn⟩
  have h1:∀ i:Int,Y63 (.int 7411) (.int i)=some (.int (7411 * i)):=fun i=>W2z (by decide)
  have h3:∀ i:Int,X0h (.int i) (.int 2147483629)=some (.int (i % 2147483629)):=fun i=>X22 (by decide)
  have h4:∀ i:Int,Y63 (.int i) (.int 48271)=some (.int (i * 48271)):=fun i=>X5i (by decide)
  have h5:∀ i:Int,Y63 (.int 31013) (.int i)=some (.int (31013 * i)):=fun i=>W2z (by decide)
  have h2:(2:Nat) ≤ sizeLine:=by decide
  by_cases hl:k < ns.length
  · have hv:atI ns (k:Int)=some ns[k]:=by
      unfold atI ixN
      rw [if_pos (by omega),if_pos (by omega)]
      simp [hl]
    by_cases hg:(1000000000000000000:Int) ≤ (if ns[k] < 0 then -ns[k] else ns[k])
    · obtain ⟨S2,rfl,r⟩:=hp (if ns[k] < 0 then -ns[k] else ns[k]) (((if ns[k] < 0 then -ns[k] else ns[k]) % 2147483629 * 48271 + 31013 * k) % 2147483629 + 1) (by omega) (by omega)
      refine ⟨_,?_,r⟩
      unfold g__law_seed W3m Z4e
      simp [ev0,Z9,Z0r,V4,U6,W3,Z6e,V1,Z9x,Z9e,Z3h,Z55,Z6d,Y4c,Z2d,U4,Y5,Z03,Z4,m_c,Z8,Z3,Z7,Z33,V3,Z2h,Z2a,Y9,Z4q,Z1j,Z20,Y2v,Z6c,Q8,Z2b,Q4,Z4g,W1d,X0f,X88,W9,Z16,R.bind,R.so,RO.then,items,ixO,ixD,Y5g,Z4r,op2,X.get,tb,Y1u,Y02,Y1t,Z5r,slX,Z3m,Z9y,X9,W1,X4g,Y61,Y1a,X4l,Y7a,X0q,Y62,Z3e,X0c,X86,Z5x,ints?,X4o,X4j,X4i,ds?,Z8l,callP,X.isD,D.noL,D.noLs,D.noLf,Z0l,Y1x,Y4s,Y4n,X6t,W1b,X47,X4h,h1,hl,hv,W0e,hg,h3,h4,h5,h2,box]
    · obtain ⟨S2,rfl,r⟩:=hp 0 (((if ns[k] < 0 then -ns[k] else ns[k]) % 2147483629 * 48271 + 31013 * k) % 2147483629 + 1) (by decide) (by omega)
      refine ⟨_,?_,r⟩
      unfold g__law_seed W3m Z4e
      simp [ev0,Z9,Z0r,V4,U6,W3,Z6e,V1,Z9x,Z9e,Z3h,Z55,Z6d,Y4c,Z2d,U4,Y5,Z03,Z4,m_c,Z8,Z3,Z7,Z33,V3,Z2h,Z2a,Y9,Z4q,Z1j,Z20,Y2v,Z6c,Q8,Z2b,Q4,Z4g,W1d,X0f,X88,W9,Z16,R.bind,R.so,RO.then,items,ixO,ixD,Y5g,Z4r,op2,X.get,tb,Y1u,Y02,Y1t,Z5r,slX,Z3m,Z9y,X9,W1,X4g,Y61,Y1a,X4l,Y7a,X0q,Y62,Z3e,X0c,X86,Z5x,ints?,X4o,X4j,X4i,ds?,Z8l,callP,X.isD,D.noL,D.noLs,D.noLf,Z0l,Y1x,Y4s,Y4n,X6t,W1b,X47,X4h,h1,hl,hv,W0e,hg,h3,h4,h5,h2,box]
  · have hk0:k=0:=by omega
    have hn:ns=[]:=List.length_eq_zero_iff.mp (by omega)
    subst hk0 hn
    obtain ⟨S2,rfl,r⟩:=hp 0 ((37 % 2147483629 * 48271 + 31013 * 0) % 2147483629 + 1) (by decide) (by decide)
    refine ⟨_,?_,r⟩
    unfold g__law_seed W3m Z4e
    simp [ev0,Z9,Z0r,V4,U6,W3,Z6e,V1,Z9x,Z9e,Z3h,Z55,Z6d,Y4c,Z2d,U4,Y5,Z03,Z4,m_c,Z8,Z3,Z7,Z33,V3,Z2h,Z2a,Y9,Z4q,Z1j,Z20,Y2v,Z6c,Q8,Z2b,Q4,Z4g,W1d,X0f,X88,W9,Z16,R.bind,R.so,RO.then,items,ixO,ixD,Y5g,Z4r,op2,X.get,tb,Y1u,Y02,Y1t,Z5r,slX,Z3m,Z9y,X9,W1,X4g,Y61,Y1a,X4l,Y7a,X0q,Y62,Z3e,X0c,X86,Z5x,ints?,X4o,X4j,X4i,ds?,Z8l,callP,X.isD,D.noL,D.noLs,D.noLf,Z0l,Y1x,Y4s,Y4n,X6t,W1b,X47,X4h,h1,W0e,h3,h4,h5,h2,box]
end Lw
namespace Bv
open PySem PySem.Spec L2
open PyProof.Rows hiding St
variable [HasW]
section
variable {e e1:Ev} {S S1 S2 S3 S4:Sto} {m ma mb mc mo mi mb':M} {ms:MG (List X)} {mt mt2:MG Bool} {x y z:X} {xs ys:List X} {d d1 d2:D} {r:R X} {rb:R Bool} {ro:RO} {b c:Bool} {i:Nat}
theorem Y0 (h:e[i]?=some (some x)):Z4 i e S = .ok x S:=by
  unfold Z4
  rw [h]
theorem Z0d:m_c d e S = .ok (.d d) S:=rfl
theorem X7:Z7 e S = .ok [] S:=rfl
theorem Y3 (h1:m e S = .ok x S1) (h2:ms e S1 = .ok xs S2):Z3 m ms e S = .ok (x :: xs) S2:=by
  unfold Z3
  rw [h1]
  show (ms e S1).bind _=_
  rw [h2]
  rfl
theorem X1y (h1:m e S = .ok x S1) (hi:items S1 x=some ys) (h2:ms e S1 = .ok xs S2):Z33 m ms e S = .ok (ys++xs) S2:=by
  unfold Z33
  rw [h1]
  show (match items S1 x with
    | some ys=>(ms e S1).bind fun xs S2=>R.ok (ys++xs) S2
    | none => .bad)=_
  rw [hi]
  show (ms e S1).bind _=_
  rw [h2]
  rfl
theorem W5 {f:D→D→Option D} (h1:ma e S = .ok x S1) (h2:mb e S1 = .ok y S2) (h3:x.get S2=some d1) (h4:y.get S2=some d2) (h:f d1 d2=some d):Y5 f ma mb e S = .ok (.d d) S2:=by
  unfold Y5
  rw [h1]
  show (mb e S1).bind _=_
  rw [h2]
  show op2 f S2 x y=_
  unfold op2
  rw [h3,h4]
  show (match f d1 d2 with
    | some d=>R.ok (X.d d) S2
    | none => .bad)=_
  rw [h]
theorem W2 {g:List X→Sto→R X} (h1:ms e S = .ok xs S1) (h:g xs S1=r):Z8 g ms e S=r:=by
  unfold Z8
  rw [h1]
  exact h
theorem Z1s {n:Nat} {g:List X→Sto→R X} (hl:xs.length=n) (h:g xs S=r):X9 n (W1 [] g) xs S=r:=by
  unfold X9 W1
  rw [if_pos (decide_eq_true hl),List.map_nil,List.append_nil]
  exact h
theorem X13:∀ ds:List D,Z8l S (ds.map X.d)=some ds
  | []=>rfl
  | d :: ds=>by
    show (match (X.d d).get S,Z8l S (ds.map X.d) with
      | some d,some l=>some (d :: l)
      | _,_=>none)=_
    rw [X13 ds]
    rfl
theorem X6v:∀ ds:List D,(ds.map X.d).all X.isD=true
  | []=>rfl
  | d :: ds=>by
    rw [List.map_cons,List.all_cons,X6v ds]
    rfl
theorem W4r {g:List D→PR} {ds:List D} (hx:xs=ds.map X.d) (h:g ds = .ok d):callP g xs S = .ok (.d d) S:=by
  subst hx
  unfold callP
  rw [X13,X6v]
  show (match g ds with
    | .ok d=>if true || d.noL then R.ok (X.d d) S else .bad
    | .err C fs=>if true || D.noLf fs then .err C fs S else .bad
    | .bad => .bad)=_
  rw [h]
  rfl
theorem Z8v {g:List D→PR} (h:g [d1] = .ok d):callP g [.d d1] S = .ok (.d d) S:=W4r (ds:=[d1]) rfl h
theorem X1s {g:List D→PR} (h:g [d1,d2] = .ok d):callP g [.d d1, .d d2] S = .ok (.d d) S:=W4r (ds:=[d1,d2]) rfl h
theorem W4s {g:List D→PR} {ds:List D} (hx:Z8l S xs=some ds) (h:g ds = .ok d) (hn:d.noL=true):callP g xs S = .ok (.d d) S:=by
  unfold callP
  rw [hx]
  show (match g ds with
    | .ok d=>if xs.all X.isD || d.noL then R.ok (X.d d) S else .bad
    | .err C fs=>if xs.all X.isD || D.noLf fs then .err C fs S else .bad
    | .bad => .bad)=_
  rw [h]
  show (if xs.all X.isD || d.noL then R.ok (X.d d) S else .bad)=_
  rw [hn,Bool.or_true]
  rfl
theorem Z2z {j:Int} (h1:ma e S = .ok x S1) (h2:mb e S1 = .ok (.d (.int j)) S2) (h:ixO S2 x j=some z):Z03 ma mb e S = .ok z S2:=by
  unfold Z03
  rw [h1]
  show (mb e S1).bind _=_
  rw [h2]
  show Z4r ((Y5g (.d (.int j))).bind (ixO S2 x)) S2=_
  show Z4r (ixO S2 x j) S2=_
  rw [h]
  rfl
theorem Z6n {Cs:List Str} {f:Str} (h1:m e S = .ok x S1) (h:Z5r Cs f S1 x=some z):Y9 Cs f m e S = .ok z S1:=by
  unfold Y9
  rw [h1]
  show Z4r (Z5r Cs f S1 x) S1=_
  rw [h]
  rfl
theorem Z4u {ds:List D} (h1:ms e S = .ok xs S1) (hd:ds? xs=some ds) (hl:ds.length ≤ sizeLine):V3 ms e S = .ok (.d (.tup ds)) S1:=by
  unfold V3
  rw [h1]
  show Y1u xs S1=_
  unfold Y1u
  rw [hd]
  show (if ds.length ≤ sizeLine then _ else _)=_
  rw [if_pos hl]
theorem Y81 {ds:List D} (h1:ms e S = .ok xs S1) (hd:ds? xs=some ds) (hl:ds.length ≤ sizeLine):Z2h ms e S = .ok (.d (.lst ds)) S1:=by
  unfold Z2h
  rw [h1]
  show Y02 xs S1=_
  unfold Y02
  rw [hd]
  show (if ds.length ≤ sizeLine then _ else _)=_
  rw [if_pos hl]
theorem X1w (h1:ms e S = .ok xs S1) (hl:xs.length ≤ sizeLine):Z2a ms e S = .ok (.r S1.length) (S1++[.lst xs]):=by
  unfold Z2a
  rw [h1]
  show Y1t xs S1=_
  unfold Y1t
  rw [if_pos hl]
theorem X78:Y2v e S = .ok none S:=rfl
theorem Y69 {j:Int} (h:m e S = .ok (.d (.int j)) S1):Z20 m e S = .ok (some j) S1:=by
  unfold Z20
  rw [h]
  rfl
theorem Y3i {ml mh:MG (Option Int)} {lo hi:Option Int} (h1:m e S = .ok x S1) (h2:ml e S1 = .ok lo S2) (h3:mh e S2 = .ok hi S3) (h:slX S3 x lo hi=some z):Z1j m ml mh e S = .ok z S3:=by
  unfold Z1j
  rw [h1]
  show (ml e S1).bind _=_
  rw [h2]
  show (mh e S2).bind _=_
  rw [h3]
  show Z4r (slX S3 x lo hi) S3=_
  rw [h]
  rfl
theorem X0a {ty:Sto→X→Bool} {g:X→List X→Sto→R X} (h1:mo e S = .ok x S1) (ht:ty S1 x=true) (h2:ms e S1 = .ok xs S2) (h:g x xs S2=r):Z4q ty g mo ms e S=r:=by
  unfold Z4q
  rw [h1]
  show (if ty S1 x then (ms e S1).bind fun xs S2=>g x xs S2 else .bad)=_
  rw [ht,h2]
  exact h
theorem Y5c {g:Str→X→Sto→R X} {a:Str} (h1:mo e S = .ok (.d (.str a)) S1) (h2:m e S1 = .ok y S2) (h:g a y S2=r):Z5z g mo m e S=r:=by
  unfold Z5z
  rw [h1]
  show (m e S1).bind _=_
  rw [h2]
  exact h
theorem Y80 (h1:mt e S = .ok true S1) (h:ma e S1=r):Z6c mt ma mb e S=r:=by
  unfold Z6c
  rw [h1]
  exact h
theorem X1v (h1:mt e S = .ok false S1) (h:mb e S1=r):Z6c mt ma mb e S=r:=by
  unfold Z6c
  rw [h1]
  exact h
theorem Z0e (h:m e S = .ok (.d (.bl b)) S1):U4 m e S = .ok b S1:=by
  unfold U4
  rw [h]
  rfl
theorem Z4t (h:m e S = .ok x S1) (ht:Z3m S1 x=some b):W9 m e S = .ok b S1:=by
  unfold W9
  rw [h]
  show (match Z3m S1 x with
    | some b=>R.ok b S1
    | none => .bad)=_
  rw [ht]
theorem X1x (h:mt e S = .ok b S1):Q4 mt e S = .ok (!b) S1:=by
  unfold Q4
  rw [h]
  rfl
theorem Z8w (h:mt e S = .ok true S1):Q4 mt e S = .ok false S1:=X1x h
theorem X79 (h:mt e S = .ok false S1):Q4 mt e S = .ok true S1:=X1x h
theorem Z7p (h:mt e S = .ok true S1) (h2:mt2 e S1=rb):Q8 mt mt2 e S=rb:=by
  unfold Q8
  rw [h]
  exact h2
theorem Y06 (h:mt e S = .ok false S1):Q8 mt mt2 e S = .ok false S1:=by
  unfold Q8
  rw [h]
  rfl
theorem W2b (h:mt e S = .ok true S1):Z2b mt mt2 e S = .ok true S1:=by
  unfold Z2b
  rw [h]
  rfl
theorem Z69 (h:mt e S = .ok false S1) (h2:mt2 e S1=rb):Z2b mt mt2 e S=rb:=by
  unfold Z2b
  rw [h]
  exact h2
theorem Y68 (h:mt e S = .ok b S) (h2:b=true→mt2 e S = .ok c S):Q8 mt mt2 e S = .ok (b && c) S:=by
  cases b with
  | true=>exact Z7p h (h2 rfl)
  | false=>exact Y06 h
theorem W8 {m1 m2:MS} (h1:m1 e S = .go (.nx e1) S1) (h2:m2 e1 S1=ro):Z9 m1 m2 e S=ro:=by
  unfold Z9
  rw [h1]
  exact h2
theorem Z10:V4 e S = .go (.nx e) S:=rfl
theorem Z2w (h:m e S = .ok x S1):W3 i m e S = .go (.nx (e.set i (some x))) S1:=by
  unfold W3
  rw [h]
  rfl
theorem Z9h (h:m e S = .ok x S1):U6 m e S = .go (.nx e) S1:=by
  unfold U6
  rw [h]
  rfl
theorem Z4o (h:m e S = .ok x S1) (hg:x.get S1=some d):V1 m e S = .go (.rp d) S1:=by
  unfold V1
  rw [h]
  show (match x.get S1 with
    | some d=>RO.go (.rp d) S1
    | none => .bad)=_
  rw [hg]
theorem Y4m {ds:List D} (h:ms e S = .ok xs S1) (hg:Z8l S1 xs=some ds) (hl:ds.length ≤ sizeLine):Z3h ms e S = .go (.rp (.tup ds)) S1:=by
  unfold Z3h
  rw [h]
  show (match Z8l S1 xs with
    | some ds=>if ds.length ≤ sizeLine then RO.go (.rp (.tup ds)) S1 else .bad
    | none => .bad)=_
  rw [hg]
  show (if ds.length ≤ sizeLine then _ else _)=_
  rw [if_pos hl]
theorem Z5h {m1 m2:MS} (h:mt e S = .ok true S1) (h1:m1 e S1=ro):Z0r mt m1 m2 e S=ro:=by
  unfold Z0r
  rw [h]
  exact h1
theorem Z0y {m1 m2:MS} (h:mt e S = .ok false S1) (h1:m2 e S1=ro):Z0r mt m1 m2 e S=ro:=by
  unfold Z0r
  rw [h]
  exact h1
theorem X3y {t:Tg} (h:m e S = .ok x S1) (ha:t.asg S1 x e=some e1):Z55 t m e S = .go (.nx e1) S1:=by
  unfold Z55
  rw [h]
  show (match t.asg S1 x e with
    | some e1=>RO.go (.nx e1) S1
    | none => .bad)=_
  rw [ha]
theorem W3z {i j:Nat} (h:ms e S = .ok [x,y] S1):Z6d i j ms e S = .go (.nx ((e.set i (some x)).set j (some y))) S1:=by
  unfold Z6d
  rw [h]
  rfl
theorem Y9y {Cs:List Str} {f:Str} (h1:m e S = .ok y S1) (h2:mo e S1 = .ok x S2) (h:Y7a Cs f S2 x y=some S3):Z2d Cs f mo m e S = .go (.nx e) S3:=by
  unfold Z2d
  rw [h1]
  show (mo e S1).so e _=_
  rw [h2]
  show (match Y7a Cs f S2 x y with
    | some S3=>RO.go (.nx e) S3
    | none => .bad)=_
  rw [h]
theorem W3y {f:D→D→Option D} (h1:Z4 i e S = .ok (.d d1) S) (h2:m e S = .ok (.d d2) S1) (h:f d1 d2=some d):X0r i f m e S = .go (.nx (e.set i (some (.d d)))) S1:=by
  unfold X0r
  rw [h1]
  show (m e S).so e _=_
  rw [h2]
  show (op2 f S1 (.d d1) (.d d2)).so e _=_
  have:op2 f S1 (.d d1) (.d d2) = .ok (.d d) S1:=by
    show (match f d1 d2 with
      | some d=>R.ok (X.d d) S1
      | none => .bad)=_
    rw [h]
  rw [this]
  rfl
theorem Z4w {l:Lk} (h:m e S = .ok x S1) (hw:Z9j S1 x=some (xs,l)):Z0c m e S = .ok (xs,l) S1:=by
  unfold Z0c
  rw [h]
  show Z4r (Z9j S1 x) S1=_
  rw [hw]
  rfl
theorem Y25 {t:Tg} {mt:MIt} {body:MS} {l:Lk} (h:mt e S = .ok (xs,l) S1) (h2:Z36 t l body xs e S1=ro):Z2y t mt body e S=ro:=by
  unfold Z2y
  rw [h]
  exact h2
theorem Z8z {t:Tg} {body:MS} {l:Lk} (h:l.ok S=true):Z36 t l body [] e S = .go (.nx e) S:=by
  unfold Z36
  rw [if_pos h]
theorem Y2p {t:Tg} {body:MS} {l:Lk} {e2:Ev} (h:l.ok S=true) (ha:t.asg S x e=some e1) (hb:body e1 S = .go (.nx e2) S1) (h2:Z36 t l body xs e2 S1=ro):Z36 t l body (x :: xs) e S=ro:=by
  unfold Z36
  rw [if_pos h,ha]
  show (match body e1 S with
      | .go (.nx e2) S2=>Z36 t l body xs e2 S2
      | .go (.ct e2) S2=>Z36 t l body xs e2 S2
      | .go (.bk e2) S2 => .go (.nx e2) S2
      | r=>r)=_
  rw [hb]
  exact h2
theorem X6q {f g:D→D→Option D} {d3 d4:D} (h1:ma e S = .ok x S1) (h2:mb e S1 = .ok y S2) (hx:x.get S2=some d1) (hy:y.get S2=some d2) (hf:f d1 d2=some (.bl true)) (h3:mc e S2 = .ok z S3) (hy3:y.get S3=some d3) (hz:z.get S3=some d4) (hg:g d3 d4=some d):Z16 f g ma mb mc e S = .ok (.d d) S3:=by
  unfold Z16
  rw [h1]
  show (mb e S1).bind _=_
  rw [h2]
  show (op2 f S2 x y).bind _=_
  have o1:op2 f S2 x y = .ok (.d (.bl true)) S2:=by
    unfold op2
    rw [hx,hy]
    show (match f d1 d2 with
      | some d=>R.ok (X.d d) S2
      | none => .bad)=_
    rw [hf]
  rw [o1]
  show (mc e S2).bind _=_
  rw [h3]
  show op2 g S3 y z=_
  unfold op2
  rw [hy3,hz]
  show (match g d3 d4 with
    | some d=>R.ok (X.d d) S3
    | none => .bad)=_
  rw [hg]
theorem W18 {f g:D→D→Option D} (h1:ma e S = .ok x S1) (h2:mb e S1 = .ok y S2) (hx:x.get S2=some d1) (hy:y.get S2=some d2) (hf:f d1 d2=some (.bl false)):Z16 f g ma mb mc e S = .ok (.d (.bl false)) S2:=by
  unfold Z16
  rw [h1]
  show (mb e S1).bind _=_
  rw [h2]
  show (op2 f S2 x y).bind _=_
  have o1:op2 f S2 x y = .ok (.d (.bl false)) S2:=by
    unfold op2
    rw [hx,hy]
    show (match f d1 d2 with
      | some d=>R.ok (X.d d) S2
      | none => .bad)=_
    rw [hf]
  rw [o1]
  rfl
theorem X1t (h:ma e S = .ok x S1) (ht:Z3m S1 x=some true) (h2:mb e S1=r):Z4g ma mb e S=r:=by
  unfold Z4g
  rw [h]
  show (match Z3m S1 x with
    | some true=>mb e S1
    | some false => .ok x S1
    | none => .bad)=_
  rw [ht]
  exact h2
theorem Y8y (h:ma e S = .ok x S1) (ht:Z3m S1 x=some false):Z4g ma mb e S = .ok x S1:=by
  unfold Z4g
  rw [h]
  show (match Z3m S1 x with
    | some true=>mb e S1
    | some false => .ok x S1
    | none => .bad)=_
  rw [ht]
theorem W2a {tab:List (String × Bool)} {own:List (Str × Bool)} (h:m e S = .ok x S1) (hi:isX tab own S1 x=some b):Z86 tab own m e S = .ok (.d (.bl b)) S1:=by
  unfold Z86
  rw [h]
  show Z4r ((isX tab own S1 x).map fun b=>X.d (.bl b)) S1=_
  rw [hi]
  rfl
section
variable {C p:Str} {fs:List (Str × D)} {v:D} {tab:List (Str × Bool)} {mb:MS} {j:Nat} {sx:SX}
theorem Y9z (h:ms e S = .ok [.d v] S1):Z1l C p ms e S = .err C [(p,v)] e S1:=by
  unfold Z1l
  rw [h]
  rfl
theorem Y8b {m1 m2:MS} (h:m1 e S = .err C fs e1 S1):Z9 m1 m2 e S = .err C fs e1 S1:=by
  unfold Z9
  rw [h]
  rfl
theorem Y1o {m1 m2:MS} {d:D} (h:m1 e S = .go (.rp d) S1):Z9 m1 m2 e S = .go (.rp d) S1:=by
  unfold Z9
  rw [h]
  rfl
end
end
section
variable {e e1:Ev} {S S1 S2 S3 S4:Sto} {m ma mb mo mi mx:M} {ms:MG (List X)} {x y z:X} {xs:List X} {d k:D} {i:Nat} {r:R X}
theorem W19 {neg b c:Bool} (h1:mi e S = .ok y S1) (h2:mo e S1 = .ok x S2) (h:X6o S2 y x=some b) (hc:(b ^^ neg)=c):Z8c neg mi mo e S = .ok (.d (.bl c)) S2:=by
  unfold Z8c
  rw [h1]
  show (mo e S1).bind _=_
  rw [h2]
  show Z4r ((X6o S2 y x).map fun b=>X.d (.bl (b ^^ neg))) S2=_
  rw [h,Option.map_some,hc]
  rfl
theorem X1u (h1:mo e S = .ok x S1) (h2:mi e S1 = .ok y S2) (h:Y98 S2 x y=r):Z2g mo mi e S=r:=by
  unfold Z2g
  rw [h1]
  show (mi e S1).bind _=_
  rw [h2]
  exact h
theorem Y8z (h1:mo e S = .ok x S1) (hd:(Z63 S1 x).isSome=true) (h2:mi e S1 = .ok y S2) (h:(dkX S2 x y).map (fun p=>(Z25 p.1 p.2).getD (.d .non))=some z):Z5y mo mi e S = .ok z S2:=by
  unfold Z5y
  rw [h1]
  show (if (Z63 S1 x).isSome then (mi e S1).bind fun y S2=>Z4r ((dkX S2 x y).map fun p=>(Z25 p.1 p.2).getD (.d .non)) S2 else .bad)=_
  rw [if_pos hd,h2]
  show Z4r ((dkX S2 x y).map fun p=>(Z25 p.1 p.2).getD (.d .non)) S2=_
  rw [h]
  rfl
theorem X3z {p:Nat × List (D × X) × D} (h1:m e S = .ok z S1) (h2:mo e S1 = .ok x S2) (h3:mi e S2 = .ok y S3) (h:Y59 S3 x y=some p):Z8h mo mi m e S = .go (.nx e) (S3.set p.1 (.dic (Z98 p.2.1 p.2.2 z))):=by
  unfold Z8h
  rw [h1]
  show (mo e S1).so e _=_
  rw [h2]
  show (mi e S2).so e _=_
  rw [h3]
  show (match Y59 S3 x y with
    | some p=>RO.go (.nx e) (S3.set p.1 (.dic (Z98 p.2.1 p.2.2 z)))
    | none => .bad)=_
  rw [h]
theorem Y7e {q:R (List X × Lk)} (h1:m e S = .ok x S1) (h:Y6y keysOf S1 x=q):Z29 m e S=q:=by
  unfold Z29
  rw [h1]
  exact h
end
end Bv
namespace Bv
open PySem PySem.Spec L2
open PyProof.Rows hiding St
variable [HasW]
theorem hz4 {n:Nat} (h:n < 2000):n ≤ sizeLine:=by rw [sizeLine_eq]; omega
def W5q:PR→D→Bool
  | .ok d,e=>decide (d=e)
  | _,_=>false
theorem Y7t {p:PR} {d:D} (h:W5q p d=true):p = .ok d:=by
  cases p with
  | ok e=>rw [of_decide_eq_true h]
  | _=>cases h
theorem Y4b (ss:List Str):pys (ss.map D.str)=some (ss.map PyData.str):=by
  induction ss with
  | nil=>rfl
  | cons s r ih =>
    show (match some (PyData.str s),pys (r.map D.str) with
      | some p,some l=>some (p :: l)
      | _,_=>none)=_
    rw [ih]
    rfl
theorem Y2o (ss:List Str):PyData.depthAll (ss.map PyData.str) ≤ 1:=by
  induction ss with
  | nil=>simp [PyData.depthAll]
  | cons s r ih =>
    simp only [List.map_cons,PyData.depthAll,PyData.depth]
    omega
theorem X7f {ds:List D} {l:List PyData} (h:pys ds=some l):(D.lst ds).py=some (.list l):=by
  show (match pys ds with
    | some l=>some (PyData.list l)
    | none=>none)=_
  rw [h]
theorem W17 {a b:D} {p q:PyData} (ha:a.py=some p) (hb:b.py=some q) (da:p.depth ≤ 64) (db:q.depth ≤ 64):eqD a b=some (.bl (PyData.eqv p q)):=by
  unfold eqD
  rw [ha,hb]
  show (if dOk p && dOk q then some (D.bl (PyData.eqv p q)) else none)=_
  rw [show dOk p=true from decide_eq_true da,show dOk q=true from decide_eq_true db]
  rfl
theorem W5i {a b:D} {p q:PyData} (ha:a.py=some p) (hb:b.py=some q) (da:p.depth ≤ 64) (db:q.depth ≤ 64):neD a b=some (.bl (!PyData.eqv p q)):=by
  unfold neD
  rw [ha,hb]
  show (if dOk p && dOk q then some (D.bl (!PyData.eqv p q)) else none)=_
  rw [show dOk p=true from decide_eq_true da,show dOk q=true from decide_eq_true db]
  rfl
theorem Z9u:∀ (a b:List Str),PyData.eqvAll (a.map PyData.str) (b.map PyData.str)=decide (a=b)
  | [],[]=>by simp [PyData.eqvAll]
  | [],_ :: _=>by simp [PyData.eqvAll]
  | _ :: _,[]=>by simp [PyData.eqvAll]
  | x :: a,y :: b=>by
    rw [List.map_cons,List.map_cons]
    have e:PyData.eqvAll (.str x :: a.map PyData.str) (.str y :: b.map PyData.str)=(PyData.eqv (.str x) (.str y) && PyData.eqvAll (a.map PyData.str) (b.map PyData.str)):=by simp [PyData.eqvAll]
    rw [e,Y3g,Z9u a b,Bool.eq_iff_iff]
    simp
theorem X1i (ss:List Str):(PyData.list (ss.map PyData.str)).depth ≤ 64:=by
  have:=Y2o ss
  simp only [PyData.depth]
  omega
theorem X76 {a b:List Str}:eqD (.lst (a.map D.str)) (.lst (b.map D.str))=some (.bl (decide (a=b))):=by
  rw [W17 (X7f (Y4b a)) (X7f (Y4b b)) (X1i a) (X1i b)]
  rw [show PyData.eqv (.list (a.map PyData.str)) (.list (b.map PyData.str))=PyData.eqvAll (a.map PyData.str) (b.map PyData.str) by simp [PyData.eqv],Z9u]
theorem X4s (ss:List Str) (s:Str):((ss.map PyData.str).any fun z=>PyData.eqv z (.str s))=decide (s ∈ ss):=by
  induction ss with
  | nil=>rfl
  | cons a r ih =>
    rw [List.map_cons,List.any_cons,ih,Y3g,Bool.eq_iff_iff]
    simp only [Bool.or_eq_true,decide_eq_true_eq,List.mem_cons]
    exact ⟨fun h=>h.imp Eq.symm id,fun h=>h.imp Eq.symm id⟩
theorem W2g {s:Str} {ss:List Str}:inD (.str s) (.lst (ss.map D.str))=some (.bl (decide (s ∈ ss))):=by
  have e:(D.lst (ss.map D.str)).py=some (.list (ss.map PyData.str)):=by
    show (match pys (ss.map D.str) with
      | some l=>some (PyData.list l)
      | none=>none)=_
    rw [Y4b]
  have d1:dOk (.str s)=true:=by unfold dOk; simp [PyData.depth]
  have d2:dOk (.list (ss.map PyData.str))=true:=by
    unfold dOk
    have:=Y2o ss
    refine decide_eq_true ?_
    simp only [PyData.depth]
    omega
  have e0:(D.str s).py=some (.str s):=rfl
  unfold inD Bv.inB
  rw [e,e0]
  show Option.map D.bl (if dOk (.str s) && dOk (.list (ss.map PyData.str)) then some ((ss.map PyData.str).any fun z=>PyData.eqv z (.str s)) else none)=_
  rw [d1,d2,X4s]
  rfl
theorem Y9e {α:Type} {t:Tg} {mt:MG Bool} {me:M} {lk:Lk} {e:Ev} {S:Sto} (hk:lk.ok S=true) (x:α→X) (f:α→D):∀ {l:List α},(∀ a ∈ l,∃ e1,t.asg S (x a) e=some e1∧mt e1 S = .ok true S∧me e1 S = .ok (.d (f a)) S)→lcL t lk mt me e (l.map x) S = .ok (l.map f) S
  | [],_=>by simp [lcL,hk]
  | a :: l,h=>by
    obtain ⟨e1,h1,h2,h3⟩:=h a (by simp)
    have ih:=Y9e (t:=t) (mt:=mt) (me:=me) (e:=e) (S:=S) hk x f (l:=l) fun b hb=>h b (List.mem_cons_of_mem _ hb)
    simp [lcL,hk,h1,h2,h3,R.ne,R.bind,ih]
theorem Y7g {α:Type} {t:Tg} {mi:MIt} {me:M} {vs:List Nat} {lk:Lk} {e:Ev} {S:Sto} (hk:lk.ok S=true) (x:α→X) (f:α→D) {l:List α} (hi:mi e S = .ok (l.map x,lk) S) (hl:l.length ≤ sizeLine) (h:∀ a ∈ l,∃ e1,t.asg S (x a) (W6 e vs)=some e1∧me e1 S = .ok (.d (f a)) S) :
    Z3r t mi W0 me vs e S = .ok (.d (.lst (l.map f))) S:=by
  have h1:=Y9e (t:=t) (mt:=W0) (me:=me) (e:=W6 e vs) (S:=S) hk x f (l:=l) fun a ha=>by
    obtain ⟨e1,q1,q2⟩:=h a ha
    exact ⟨e1,q1,rfl,q2⟩
  unfold Z3r
  rw [hi]
  show (lcL t lk W0 me (W6 e vs) (l.map x) S).bind Z5v=_
  rw [h1]
  show Z5v (l.map f) S=_
  unfold Z5v
  rw [if_pos (by rw [List.length_map]; exact hl)]
theorem X85 {α:Type} {t:Tg} {mi:MIt} {mt:MG Bool} {me:M} {vs:List Nat} {e:Ev} {S:Sto} (x:α→X) (f:α→D) (c:α→Bool) {l:List α} (hi:mi e S = .ok (l.map x, .free) S) (hl:l.length ≤ sizeLine) (h:∀ a ∈ l,∃ e1,t.asg S (x a) (W6 e vs)=some e1∧mt e1 S = .ok (c a) S∧(c a=true→me e1 S = .ok (.d (f a)) S)) :
    Z3r t mi mt me vs e S = .ok (.d (.lst ((l.filter c).map f))) S:=by
  have h1:=Y1b (t:=t) (mt:=mt) (me:=me) (e:=W6 e vs) (S:=S) x f c (l:=l) h
  unfold Z3r
  rw [hi]
  show (lcL t .free mt me (W6 e vs) (l.map x) S).bind Z5v=_
  rw [h1]
  show Z5v ((l.filter c).map f) S=_
  unfold Z5v
  have:=List.length_filter_le c l
  rw [if_pos (by rw [List.length_map]; omega)]
theorem Z6x (a b:Str):(a++b).length=a.length + b.length:=by
  show (a.cps++b.cps).size=_
  rw [Array.size_append]
  rfl
theorem X32:∀ (ss:List Str),Bv.strs? ((ss.map D.str).map X.d)=some ss
  | []=>rfl
  | s :: r=>by
    show (Bv.strs? ((r.map D.str).map X.d)).map (s :: ·)=_
    rw [X32 r]
    rfl
theorem X2b {k:Nat} {a:Str}:∀ {l:List Str},(∀ z ∈ l,z.length ≤ k)→(Str.join a l).length ≤ l.length * (k + a.length)
  | [],_=>by
    show (0:Nat) ≤ _
    exact Nat.zero_le _
  | [x],h=>by
    have h1:=h x (by simp)
    show x.length ≤ 1 * (k + a.length)
    omega
  | x :: y :: r,h=>by
    have h1:=h x (by simp)
    have h2:=X2b (a:=a) (l:=y :: r) fun z hz=>h z (List.mem_cons_of_mem _ hz)
    have e:Str.join a (x :: y :: r)=x++a++Str.join a (y :: r):=rfl
    rw [e,Z6x,Z6x]
    rw [List.length_cons,Nat.add_mul]
    omega
theorem Z42 (a b:Str):(a++b).cps.toList=a.cps.toList++b.cps.toList:=by
  show (a.cps++b.cps).toList=_
  rw [Array.toList_append]
theorem W5j {i j:Int}:neD (.int i) (.int j)=some (.bl (!decide (i=j))):=by
  have h:neD (.int i) (.int j)=some (.bl (!(i == j))):=by
    show some (D.bl (!PyData.eqv (.int i) (.int j)))=_
    simp [PyData.eqv]
  rw [h]
  rfl
theorem X8g {T:Sto} {l:List D} {i:Nat} {d:D} (h:l[i]?=some d):ixO T (.d (.lst l)) (i:Int)=some (.d d):=by
  obtain ⟨lt,e⟩:=List.getElem?_eq_some_iff.mp h
  simp [ixO,ixD,items,atI,ixN,lt,e]
theorem X6b {k:Nat} {l:List Str} {T:Sto} (hne:l ≠ []) (h1:∀ z ∈ l,z.length ≤ k) (h2:∀ z ∈ l,(32:Nat) ∉ z.cps.toList) (h3:∀ z ∈ l,PyData.strOk z=true) (hl:l.length * (k + 1) ≤ 100000):Z3d (Str.join " " l) (.d (.str " ")) T = .ok (.d (.lst (l.map D.str))) T:=by
  have hj:Str.join " " l=Txt.join " " l:=(StrLaws.glued_eq_join ..).symm
  have hs:Txt.split (Str.join " " l) " " = l:=by
    rw [hj]
    exact TL.split_join (s:=32) (S:=[]) (by decide +kernel) (by decide +kernel) hne fun p hp=>h2 p hp
  have hn:=X2b (a := " ") (k:=k) h1
  rw [show (" " : Str).length=1 by decide +kernel] at hn
  have b1:((" " : Str).length == 0)=false:=by decide +kernel
  have b2:decide ((Str.join " " l).length + 2 ≤ sizeLine)=true:=decide_eq_true (by rw [sizeLine_eq]; omega)
  have b3:Z4m l=true:=List.all_eq_true.mpr fun z hz=>h3 z hz
  unfold Z3d
  show (if !((" " : Str).length == 0) && decide ((Str.join " " l).length + 2 ≤ sizeLine) && Z4m (Txt.split (Str.join " " l) " ") then R.ok (X.d (.lst ((Txt.split (Str.join " " l) " ").map .str))) T else .bad)=_
  rw [hs,b1,b2,b3]
  rfl
theorem X4e {T:Sto} {ds:List D}:Z9j T (.d (.lst ds))=some (ds.map X.d, .free):=by simp [Z9j]
theorem Y1r {T:Sto} {ds:List D}:Z9j T (.d (.tup ds))=some (ds.map X.d, .free):=by simp [Z9j]
section
variable {S:Sto} {n:Nat} {x:X} {xs:List X} {ds:List D}
theorem X4b (h:S[n]?=some (.lst (ds.map X.d))):Z7e [.r n] S = .ok (.d (.tup ds)) S:=by simp [Z7e,items,h,X70]
theorem W2m (h:S[n]?=some (.lst xs)):Z3e [.r n] S = .ok (.d (.int xs.length)) S:=by simp [Z3e,X0c,items,h]
theorem Y7i:Z3e [.d (.lst ds)] S = .ok (.d (.int ds.length)) S:=by simp [Z3e,X0c,items]
theorem Y3n:Z3e [.d (.tup ds)] S = .ok (.d (.int ds.length)) S:=by simp [Z3e,X0c,items]
theorem X6e:Z7e [.d (.lst ds)] S = .ok (.d (.tup ds)) S:=by simp [Z7e,items,X70]
theorem Y4v (h:S[n]?=some (.lst xs)) (hl:xs.length < sizeLine):V0 (.r n) [x] S = .ok (.d .non) (S.set n (.lst (xs++[x]))):=by simp [V0,Y1x,h,hl]
theorem Z8a (h:S[n]?=some (.lst xs)):Z0l S (.r n)=true:=by simp [Z0l,h]
theorem X6s (h:S[n]?=some (.lst (ds.map X.d))):(X.r n).get S=some (.lst ds):=by simp [X.get,h,X70]
end
section
variable {α β:Type}
theorem X3p:∀ {kvs:List (D × α)} {k:D} {v:α},(∀ p ∈ kvs,p.1 ≠ k)→Z98 kvs k v=kvs++[(k,v)]:=fun {kvs k v} h=>by
  unfold Z98
  rw [if_neg]
  intro z
  obtain ⟨p,hp,e⟩:=List.any_eq_true.mp z
  exact h p hp (of_decide_eq_true e)
theorem W0g:∀ {kvs:List (D × α)} {k:D} {v:α},(∀ p ∈ kvs,p.1=k→p.2=v)→(∃ p ∈ kvs,p.1=k)→Z98 kvs k v=kvs:=fun {kvs k v} h ⟨p,hp,e⟩=>by
  unfold Z98
  rw [if_pos (List.any_eq_true.mpr ⟨p,hp,decide_eq_true e⟩)]
  have:∀ q ∈ kvs,(if q.1=k then (q.1,v) else q)=q:=fun q hq=>by
    split
    · rename_i c
      rw [← h q hq c]
    · rfl
  rw [List.map_congr_left this,List.map_id']
theorem Z6o (k:β→D) (v:β→α) (q:D):∀ l:List β,Z25 (l.map fun a=>(k a,v a)) q=(l.find? fun a=>decide (k a=q)).map v
  | []=>rfl
  | a :: l=>by
    have ih:=Z6o k v q l
    unfold Z25 at ih ⊢
    rw [List.map_cons,List.find?_cons,List.find?_cons]
    cases c:decide (k a=q) with
    | true=>simp only [c]; rfl
    | false=>simp only [c]; exact ih
end
theorem X1h {α:Type} {t:Tg} {mk mv:M} {e:Ev} {S:Sto} (x:α→X) (k v:α→D):∀ {l:List α} {acc:List (D × D)},(∀ a ∈ l,(k a).key?.isSome=true∧Y5t (k a)=true)→(∀ a ∈ l,∀ p ∈ acc,p.1 ≠ k a)→(l.map k).Nodup→acc.length + l.length < sizeLine→(∀ a ∈ l,∃ e1,t.asg S (x a) e=some e1∧mk e1 S = .ok (.d (k a)) S∧mv e1 S = .ok (.d (v a)) S) →
    dcL t .free W0 mk mv e acc (l.map x) S = .ok (acc++l.map fun a=>(k a,v a)) S
  | [],acc,_,_,_,_,_=>by
    rw [List.map_nil,List.map_nil,List.append_nil]
    unfold dcL
    exact if_pos rfl
  | a :: l,acc,hk,ha,hn,hl,h=>by
    obtain ⟨e1,h1,h2,h3⟩:=h a (by simp)
    obtain ⟨n1,n2⟩:=List.nodup_cons.mp (show (k a :: l.map k).Nodup from hn)
    rw [List.length_cons] at hl
    have ih:=X1h (t:=t) (mk:=mk) (mv:=mv) (e:=e) (S:=S) x k v (l:=l) (acc:=acc++[(k a,v a)]) (fun b hb=>hk b (List.mem_cons_of_mem _ hb)) (fun b hb p hp=>by
      rcases List.mem_append.mp hp with m | m
      · exact ha b (List.mem_cons_of_mem _ hb) p m
      · rw [List.mem_singleton.mp m]
        exact fun z=>n1 (List.mem_map.mpr ⟨b,hb,z.symm⟩)) n2 (by rw [List.length_append,List.length_singleton]; omega) (fun b hb=>h b (List.mem_cons_of_mem _ hb))
    have hp:Z98 acc (k a) (v a)=acc++[(k a,v a)]:=X3p fun p hp=>ha a (by simp) p hp
    have hc:dcK acc (.d (k a)) (.d (v a))=some (acc++[(k a,v a)]):=by
      unfold dcK
      obtain ⟨c1,c2⟩:=hk a (by simp)
      show (if (k a).key?.isSome && (Y5t (k a) && decide (acc.length < sizeLine)) then some (Z98 acc (k a) (v a)) else none)=_
      rw [c1,c2,decide_eq_true (show acc.length < sizeLine by omega),hp]
      rfl
    rw [List.map_cons,List.map_cons]
    unfold dcL
    rw [if_pos (show Lk.free.ok S=true from rfl),h1]
    show (R.ok true S).ne.bind (fun b S1=>if b then (mk e1 S1).ne.bind fun y S2=>(mv e1 S2).ne.bind fun z S3=>(match dcK acc y z with
        | some acc2=>dcL t .free W0 mk mv e acc2 (l.map x) S3
        | none => .bad) else dcL t .free W0 mk mv e acc (l.map x) S1)=_
    show ((mk e1 S).ne.bind fun y S2=>(mv e1 S2).ne.bind fun z S3=>(match dcK acc y z with
        | some acc2=>dcL t .free W0 mk mv e acc2 (l.map x) S3
        | none => .bad))=_
    rw [h2]
    show ((mv e1 S).ne.bind fun z S3=>(match dcK acc (.d (k a)) z with
        | some acc2=>dcL t .free W0 mk mv e acc2 (l.map x) S3
        | none => .bad))=_
    rw [h3]
    show (match dcK acc (.d (k a)) (.d (v a)) with
        | some acc2=>dcL t .free W0 mk mv e acc2 (l.map x) S
        | none => .bad)=_
    rw [hc]
    show dcL t .free W0 mk mv e (acc++[(k a,v a)]) (l.map x) S=_
    rw [ih,List.append_assoc]
    rfl
theorem X6l {α:Type} {t:Tg} {mi:MIt} {mk mv:M} {vs:List Nat} {e:Ev} {S:Sto} (x:α→X) (k v:α→D) {l:List α} (hi:mi e S = .ok (l.map x, .free) S) (hl:l.length < sizeLine) (hk:∀ a ∈ l,(k a).key?.isSome=true∧Y5t (k a)=true) (hn:(l.map k).Nodup)
    (h:∀ a ∈ l,∃ e1,t.asg S (x a) (W6 e vs)=some e1∧mk e1 S = .ok (.d (k a)) S∧mv e1 S = .ok (.d (v a)) S):X0e t mi W0 mk mv vs e S = .ok (.d (.dic (l.map fun a=>(k a,v a)))) S:=by
  unfold X0e
  rw [hi]
  show ((dcL t .free W0 mk mv (W6 e vs) [] (l.map x) S).bind fun kvs S2=>R.ok (X.d (.dic kvs)) S2)=_
  rw [X1h x k v (acc:=[]) hk (fun _ _ _ hp=>absurd hp List.not_mem_nil) hn (by rw [List.length_nil]; omega) h]
  rfl
theorem W4o {S:Sto} {kvs:List (D × D)} {q:D} (hq:q.key?.isSome=true):X6o S (.d q) (.d (.dic kvs))=some (Z25 kvs q).isSome:=by
  have e:dkX S (.d (.dic kvs)) (.d q)=some (kvs.map fun p=>(p.1,X.d p.2),q):=by
    show (some (kvs.map fun p=>(p.1,X.d p.2))).bind (fun kvs=>if q.key?.isSome then some (kvs,q) else none)=_
    rw [Option.bind_some,if_pos hq]
  unfold X6o
  rw [e]
  show some (Z25 (kvs.map fun p=>(p.1,X.d p.2)) q).isSome=_
  have h:=Z6o (fun p:D × D=>p.1) (fun p=>X.d p.2) q kvs
  rw [h]
  unfold Z25
  rw [Option.isSome_map,Option.isSome_map]
theorem X6n {S:Sto} {kvs:List (D × D)} {q v:D} (hq:q.key?.isSome=true) (h:Z25 kvs q=some v):Y98 S (.d (.dic kvs)) (.d q) = .ok (.d v) S:=by
  have e:dkX S (.d (.dic kvs)) (.d q)=some (kvs.map fun p=>(p.1,X.d p.2),q):=by
    show (some (kvs.map fun p=>(p.1,X.d p.2))).bind (fun kvs=>if q.key?.isSome then some (kvs,q) else none)=_
    rw [Option.bind_some,if_pos hq]
  have h2:=Z6o (fun p:D × D=>p.1) (fun p=>X.d p.2) q kvs
  unfold Z25 at h
  unfold Y98
  rw [e,Option.bind_some]
  show Z4r (Z25 (kvs.map fun p=>(p.1,X.d p.2)) q) S=_
  rw [h2]
  obtain ⟨p,h3,h4⟩:=Option.map_eq_some_iff.mp h
  rw [h3,Option.map_some,h4]
  rfl
theorem X1j {S:Sto} {kvs:List (D × D)} {q:D} (hq:q.key?.isSome=true):(dkX S (.d (.dic kvs)) (.d q)).map (fun p=>(Z25 p.1 p.2).getD (.d .non))=some (.d ((Z25 kvs q).getD .non)):=by
  have e:dkX S (.d (.dic kvs)) (.d q)=some (kvs.map fun p=>(p.1,X.d p.2),q):=by
    show (some (kvs.map fun p=>(p.1,X.d p.2))).bind (fun kvs=>if q.key?.isSome then some (kvs,q) else none)=_
    rw [Option.bind_some,if_pos hq]
  have h2:=Z6o (fun p:D × D=>p.1) (fun p=>X.d p.2) q kvs
  rw [e,Option.map_some]
  show some ((Z25 (kvs.map fun p=>(p.1,X.d p.2)) q).getD (.d .non))=_
  rw [h2]
  unfold Z25
  cases kvs.find? fun p=>decide (p.1=q) <;> rfl
theorem X6x {S:Sto} {kvs:List (D × D)} (h:∀ p ∈ kvs,Y5t p.1=true):Y6y keysOf S (.d (.dic kvs)) = .ok (kvs.map fun p=>X.d p.1, .free) S:=by
  have e:W1a S (.d (.dic kvs))=some (kvs.map fun p=>(p.1,X.d p.2),S):=rfl
  unfold Y6y
  rw [e]
  show Z4r ((keysOf (kvs.map fun p=>(p.1,X.d p.2))).map fun ys=>(ys,Lk.free)) S=_
  have k:keysOf (kvs.map fun p=>(p.1,X.d p.2))=some (kvs.map fun p=>X.d p.1):=by
    unfold keysOf
    rw [if_pos (List.all_eq_true.mpr fun p hp=>by
      obtain ⟨q,hq,rfl⟩:=List.mem_map.mp hp
      exact h q hq),List.map_map]
    rfl
  rw [k]
  rfl
theorem Y9d {α β:Type} {t t1:Tg} {mi1:MIt} {me:M} {e:Ev} {vs1:List Nat} {S:Sto} (x:α→X) (g:α→List β) (y:β→X) (f:β→D):∀ {l:List α},(∀ a ∈ l,∃ e1,t.asg S (x a) e=some e1∧mi1 e1 S = .ok ((g a).map y, .free) S∧∀ b ∈ g a,∃ e2,t1.asg S (y b) (W6 e1 vs1)=some e2∧me e2 S = .ok (.d (f b)) S) →
    Z8b t .free W0 t1 mi1 W0 me e vs1 (l.map x) S = .ok ((l.flatMap g).map f) S
  | [],_=>by
    rw [List.map_nil]
    unfold Z8b
    exact if_pos rfl
  | a :: l,h=>by
    obtain ⟨e1,h1,h2,h3⟩:=h a (by simp)
    have ih:=Y9d (t:=t) (t1:=t1) (mi1:=mi1) (me:=me) (e:=e) (vs1:=vs1) (S:=S) x g y f (l:=l) fun b hb=>h b (List.mem_cons_of_mem _ hb)
    have q:=Y1b (t:=t1) (mt:=W0) (me:=me) (e:=W6 e1 vs1) (S:=S) y f (fun _=>true) (l:=g a) fun b hb=>by
      obtain ⟨e2,h4,h5⟩:=h3 b hb
      exact ⟨e2,h4,rfl,fun _=>h5⟩
    have e0:(g a).filter (fun _=>true)=g a:=List.filter_eq_self.mpr fun _ _=>rfl
    rw [e0] at q
    rw [List.map_cons]
    unfold Z8b
    rw [if_pos (show Lk.free.ok S=true from rfl),h1]
    show ((mi1 e1 S).ne.bind fun p S2=>(lcL t1 p.2 W0 me (W6 e1 vs1) p.1 S2).bind fun ds S3=>(Z8b t .free W0 t1 mi1 W0 me e vs1 (l.map x) S3).bind fun ds2 S4=>R.ok (ds++ds2) S4)=_
    rw [h2]
    show ((lcL t1 .free W0 me (W6 e1 vs1) ((g a).map y) S).bind fun ds S3=>(Z8b t .free W0 t1 mi1 W0 me e vs1 (l.map x) S3).bind fun ds2 S4=>R.ok (ds++ds2) S4)=_
    rw [q]
    show ((Z8b t .free W0 t1 mi1 W0 me e vs1 (l.map x) S).bind fun ds2 S4=>R.ok ((g a).map f++ds2) S4)=_
    rw [ih,List.flatMap_cons,List.map_append]
    rfl
theorem X83 {α β:Type} {t t1:Tg} {mi mi1:MIt} {me:M} {vs vs1:List Nat} {e:Ev} {S:Sto} (x:α→X) (g:α→List β) (y:β→X) (f:β→D) {l:List α} (hi:mi e S = .ok (l.map x, .free) S) (hl:(l.flatMap g).length ≤ sizeLine)
    (h:∀ a ∈ l,∃ e1,t.asg S (x a) (W6 e vs)=some e1∧mi1 e1 S = .ok ((g a).map y, .free) S∧∀ b ∈ g a,∃ e2,t1.asg S (y b) (W6 e1 vs1)=some e2∧me e2 S = .ok (.d (f b)) S):Y3p t mi W0 t1 mi1 W0 me vs vs1 e S = .ok (.d (.lst ((l.flatMap g).map f))) S:=by
  unfold Y3p
  rw [hi]
  show (Z8b t .free W0 t1 mi1 W0 me (W6 e vs) vs1 (l.map x) S).bind Z5v=_
  rw [Y9d x g y f h]
  show Z5v ((l.flatMap g).map f) S=_
  unfold Z5v
  rw [if_pos (by rw [List.length_map]; exact hl)]
end Bv
namespace Lw
open PySem PySem.Spec L2 Bv
open PyProof.Rows hiding St
variable [HasW]
def X7o:List Str:=["a", "b", "c"]
abbrev Pl:=Nat × Str × Option Str
def W71:Option Str→D
  | none => .non
  | some s => .str s
def plD (x:Pl):D := .tup [.int x.1, .str x.2.1,W71 x.2.2]
def pkD (x:Nat × Str):D := .tup [.int x.1, .str x.2]
def pk (x:Pl):Nat × Str:=(x.1,x.2.1)
inductive Mv where
  | ed (l:List Pl) | gv (p:Nat) | gn (p n:Nat) | ck (p:Nat)
def mvD:Mv→D
  | .ed l => .tup [.str "edition", .tup (l.map plD)]
  | .gv p => .tup [.str "give", .int p]
  | .gn p n => .tup [.str "give", .int p, .int n]
  | .ck p => .tup [.str "check", .int p]
def Z4d (n:Nat):Str:=(toString (n:Int):String)
def X3x:Option Str→Str
  | none => ""
  | some s=>("<" : Str)++s
def Z2u (x:Pl):Str:=Z4d x.1 ++ ":" ++ (x.2.1++X3x x.2.2)
def edW (l:List Pl):List Str:=if l=[] then ["-"] else l.map Z2u
def mvW:Mv→List Str
  | .ed l => "edition" :: edW l
  | .gv p=>["give",Z4d p]
  | .gn p n=>["give",Z4d p,Z4d n]
  | .ck p=>["check",Z4d p]
def mvT (m:Mv):Str:=Str.join " " (mvW m)
def X7p (x:Pl):Prop:=x.1 < 10∧x.2.1 ∈ X7o∧∀ s,x.2.2=some s→s ∈ X7o
def Z21 (b:Int):List Pl→Bool
  | []=>true
  | x :: r=>decide (b < x.1) && Z21 x.1 r
def Y4r:Mv→Prop
  | .ed l=>(∀ x ∈ l,X7p x)∧Z21 (-1) l=true∧l.length ≤ 5
  | .gv p=>p < 40
  | .gn p n=>p < 40∧n < 40
  | .ck p=>p < 40
def Z5e (s:Str):Bool:=decide (s.length ≤ 24) && (decide ((32:Nat) ∉ s.cps.toList) && (decide ((10:Nat) ∉ s.cps.toList) && PyData.strOk s))
theorem X9x:((List.range 40).all fun n=>W5q (g_number_in [.str (Z4d n)]) (.int n) && (Z5e (Z4d n) && (decide ((58:Nat) ∉ (Z4d n).cps.toList) && decide ((Z4d n).length ≤ 2))))=true:=by kernel_rfl
theorem X80:(X7o.all fun k=>W5q (g_is_key [.str k]) (.bl true) && (Z5e k && (decide ((60:Nat) ∉ k.cps.toList) && decide (k.length ≤ 9))))=true:=by kernel_rfl
theorem Y7c:((["edition", "give", "check", "-", ":", "<", ""]:List Str).all Z5e)=true:=by kernel_rfl
theorem Z18 {s:Str} (h:Z5e s=true):s.length ≤ 24∧(32:Nat) ∉ s.cps.toList∧(10:Nat) ∉ s.cps.toList∧PyData.strOk s=true:=by
  unfold Z5e at h
  simp only [Bool.and_eq_true,decide_eq_true_eq] at h
  exact h
theorem Z2e {s:Str} (h:s ∈ (["edition", "give", "check", "-", ":", "<", ""]:List Str)):Z5e s=true:=List.all_eq_true.mp Y7c s h
section
variable {n:Nat} (h:n < 40)
include h
theorem Y32:g_number_in [.str (Z4d n)] = .ok (.int n)∧Z5e (Z4d n)=true∧(58:Nat) ∉ (Z4d n).cps.toList∧(Z4d n).length ≤ 2:=by
  have q:=List.all_eq_true.mp X9x n (List.mem_range.mpr h)
  simp only [Bool.and_eq_true,decide_eq_true_eq] at q
  exact ⟨Y7t q.1,q.2⟩
end
theorem Y3l {k:Str} (h:k ∈ X7o):g_is_key [.str k] = .ok (.bl true)∧Z5e k=true∧(60:Nat) ∉ k.cps.toList∧k.length ≤ 9:=by
  have q:=List.all_eq_true.mp X80 k h
  simp only [Bool.and_eq_true,decide_eq_true_eq] at q
  exact ⟨Y7t q.1,q.2⟩
theorem X31 (a b c:Str):a++b++c=a++(b++c):=TL.ext_tl (by rw [TL.tl_append,TL.tl_append,TL.tl_append,TL.tl_append,List.append_assoc])
theorem W0u (a:Str):a++("" : Str)=a:=TL.ext_tl (by
  rw [TL.tl_append,show TL.tl ("" : Str)=[] by decide +kernel,List.append_nil])
theorem emp:(Str.empty:Str) = "" := by decide +kernel
theorem l1:(":" : Str).length=1∧("<" : Str).length=1∧("" : Str).length=0:=by decide +kernel
theorem Y9w {o:Option Str} (h:∀ s,o=some s→s ∈ X7o):(X3x o).length ≤ 10∧(32:Nat) ∉ (X3x o).cps.toList∧(10:Nat) ∉ (X3x o).cps.toList∧PyData.strOk (X3x o)=true:=by
  cases o with
  | none =>
    have q:=Z18 (Z2e (s := "") (by simp))
    exact ⟨by show ("" : Str).length ≤ 10; rw [l1.2.2]; decide,q.2⟩
  | some s =>
    have q:=Y3l (h s rfl)
    have p:=Z18 q.2.1
    have c:=Z18 (Z2e (s := "<") (by simp))
    show (("<" : Str)++s).length ≤ 10∧(32:Nat) ∉ (("<" : Str)++s).cps.toList∧(10:Nat) ∉ (("<" : Str)++s).cps.toList∧PyData.strOk (("<" : Str)++s)=true
    refine ⟨by rw [Z6x,l1.2.1]; omega,?_,?_,Z13 c.2.2.2 p.2.2.2⟩
    · rw [Z42,List.mem_append]; exact fun z=>z.elim c.2.1 p.2.1
    · rw [Z42,List.mem_append]; exact fun z=>z.elim c.2.2.1 p.2.2.1
theorem Y29 {x:Pl} (h:X7p x):Z5e (Z2u x)=true:=by
  obtain ⟨h1,h2,h3⟩:=h
  have a:=Y32 (n:=x.1) (by omega)
  have a2:=Z18 a.2.1
  have b:=Y3l h2
  have b2:=Z18 b.2.1
  have c:=Y9w h3
  have d:=Z18 (Z2e (s := ":") (by simp))
  have al:=a.2.2.2
  have bl:=b.2.2.2
  unfold Z5e Z2u
  simp only [Bool.and_eq_true,decide_eq_true_eq]
  refine ⟨by rw [Z6x,Z6x,Z6x,l1.1]; omega,?_,?_,Z13 (Z13 a2.2.2.2 d.2.2.2) (Z13 b2.2.2.2 c.2.2.2)⟩
  · rw [Z42,Z42,Z42]
    simp only [List.mem_append]
    rintro ((m | m) | m | m)
    · exact a2.2.1 m
    · exact d.2.1 m
    · exact b2.2.1 m
    · exact c.2.1 m
  · rw [Z42,Z42,Z42]
    simp only [List.mem_append]
    rintro ((m | m) | m | m)
    · exact a2.2.2.1 m
    · exact d.2.2.1 m
    · exact b2.2.2.1 m
    · exact c.2.2.1 m
theorem W05 {x:Pl}:¬ Z2u x = "-" := fun e=>by
  have m:(58:Nat) ∈ (Z2u x).cps.toList:=by
    unfold Z2u
    rw [Z42,Z42]
    simp only [List.mem_append]
    exact .inl (.inr (by decide +kernel))
  rw [e] at m
  exact absurd m (by decide +kernel)
end Lw
namespace Lw
open PySem PySem.Spec L2 Bv
open PyProof.Rows hiding St
variable [HasW]
def W67:MS:=(Z55 (.tp [(.nm 1),(.nm 2),(.nm 3)]) (Z5z Z4v (Z4 0) (m_c (.str ":"))))
def W68:MS:=(W3 4 (Z8 (X9 1 (W1 [] (callP g_number_in))) (Z3 (Z4 1) (Z7))))
def W5s:MS:=(Z55 (.tp [(.nm 5),(.nm 6),(.nm 7)]) (Z5z Z4v (Z4 3) (m_c (.str "<"))))
def W5u:MG Bool:=(Z2b (U4 (Y5 isD (Z4 4) (m_c .non))) (Z2b (U4 (Y5 eqD (Z4 2) (m_c (.str "")))) (Z2b (Q4 (W9 (Z8 (X9 1 (W1 [] (callP g_is_key))) (Z3 (Z4 5) (Z7))))) (Q8 (U4 (Y5 neD (Z4 6) (m_c (.str "")))) (Q4 (W9 (Z8 (X9 1 (W1 [] (callP g_is_key))) (Z3 (Z4 7) (Z7)))))))))
def W5v:MS:=(V1 (m_c .non))
def W5t:MS:=(Z0r W5u W5v V4)
def W5w:MS:=(Z3h (Z3 (Z4 4) (Z3 (Z4 5) (Z3 (Z6c (U4 (Y5 neD (Z4 6) (m_c (.str "")))) (Z4 7) (m_c .non)) (Z7)))))
def pc:MS:=(Z9 W67 (Z9 W68 (Z9 W5s (Z9 W5t W5w))))
theorem W5x:Z8t=pc:=by kernel_rfl
def W5y:MG Bool:=(U4 (Y5 eqD (Z4 0) (Z2h (Z3 (m_c (.str "-")) (Z7)))))
def W5z:MS:=(Z3h (Z7))
def W69:MS:=(Z0r W5y W5z V4)
def W7a:MS:=(Z6d 1 2 (Z3 (Z2a (Z7)) (Z3 (X2s (m_c (.int 1))) (Z7))))
def W50:MIt:=(Z0c (Z4 0))
def X96:MS:=(W3 4 (Z8 (X9 1 (W1 [] (callP g_place_in))) (Z3 (Z4 3) (Z7))))
def X5w:MG Bool:=(Z2b (U4 (Y5 isD (Z4 4) (m_c .non))) (U4 (Y5 leD (Z03 (Z4 4) (m_c (.int 0))) (Z4 2))))
def X5x:MS:=(V1 (m_c .non))
def X97:MS:=(Z0r X5w X5x V4)
def X98:MS:=(W3 2 (Z03 (Z4 4) (m_c (.int 0))))
def X99:MS:=(U6 (Z4q Z0l V0 (Z4 1) (Z3 (Z4 4) (Z7))))
def X95:MS:=(Z9 X96 (Z9 X97 (Z9 X98 X99)))
def W7b:MS:=(Z2y (.nm 3) W50 X95)
def W7c:MS:=(V1 (Z6c (U4 (Y5 gtD (Z8 Z3e (Z3 (Z4 1) (Z7))) (m_c (.int 0)))) (Z8 Z7e (Z3 (Z4 1) (Z7))) (m_c .non)))
def pi:MS:=(Z9 W69 (Z9 W7a (Z9 W7b W7c)))
theorem W51:Z7n=pi:=by kernel_rfl
def W44:MG Bool:=(Q4 (W9 (Z86 (Y1q "str") [("Row" ,false),("Tool" ,false),("Story" ,false)] (Z4 0))))
def W45:MS:=(V1 (m_c .non))
def W6u:MS:=(Z0r W44 W45 V4)
def W6v:MS:=(W3 1 (Z5z Z3d (Z4 0) (m_c (.str " "))))
def W47:MG Bool:=(U4 (Y5 eqD (Z03 (Z4 1) (m_c (.int 0))) (m_c (.str "edition"))))
def X9c:MS:=(W3 3 (Z8 (X9 1 (W1 [] (callP g_places_in))) (Z3 (Z1j (Z4 1) (Z20 (m_c (.int 1))) (Y2v)) (Z7))))
def X9d:MS:=(V1 (Z6c (U4 (Y5 isD (Z4 3) (m_c .non))) (m_c .non) (V3 (Z3 (m_c (.str "edition")) (Z3 (Z4 3) (Z7))))))
def W48:MS:=(Z9 X9c X9d)
def W46:MS:=(Z0r W47 W48 V4)
def W6w:MS:=(W3 2 (Z3r (.nm 4) (Z0c (Z1j (Z4 1) (Z20 (m_c (.int 1))) (Y2v))) (W0) (Z8 (X9 1 (W1 [] (callP g_number_in))) (Z3 (Z4 4) (Z7))) [4]))
def W49:MG Bool:=(U4 (Y5 inD (m_c .non) (Z4 2)))
def W5a:MS:=(V1 (m_c .non))
def W4a:MS:=(Z0r W49 W5a V4)
def W5b:MG Bool:=(Q8 (U4 (Y5 eqD (Z03 (Z4 1) (m_c (.int 0))) (m_c (.str "give")))) (U4 (Y5 inD (Z8 Z3e (Z3 (Z4 2) (Z7))) (V3 (Z3 (m_c (.int 1)) (Z3 (m_c (.int 2)) (Z7)))))))
def W5c:MS:=(Z3h (Z3 (m_c (.str "give")) (Z33 (Z4 2) (Z7))))
def W4b:MS:=(Z0r W5b W5c V4)
def W6x:MS:=(V1 (Z6c (Q8 (U4 (Y5 eqD (Z03 (Z4 1) (m_c (.int 0))) (m_c (.str "check")))) (U4 (Y5 eqD (Z8 Z3e (Z3 (Z4 2) (Z7))) (m_c (.int 1))))) (V3 (Z3 (m_c (.str "check")) (Z3 (Z03 (Z4 2) (m_c (.int 0))) (Z7)))) (m_c .non)))
def mi:MS:=(Z9 W6u (Z9 W6v (Z9 W46 (Z9 W6w (Z9 W4a (Z9 W4b W6x))))))
theorem W5d:Y0n=mi:=by kernel_rfl
theorem X2a {l:List D}:isD (.tup l) .non=some (.bl false):=by rfl
theorem X19 {i:Int}:isD (.int i) .non=some (.bl false):=by rfl
theorem Y9p {a y b:Str} {s:Nat} {r:List Nat} {T:Sto} (ey:TL.tl y=s :: r) (h:s ∉ a.cps.toList) (hl:(a++y++b).length ≤ 1000) (h1:PyData.strOk a=true) (h2:PyData.strOk y=true) (h3:PyData.strOk b=true):Z4v (a++y++b) (.d (.str y)) T = .ok (.d (.tup [.str a, .str y, .str b])) T:=by
  have q:=TL.partition_app (b:=b) ey (show s ∉ TL.tl a from h)
  have b1:(y.length == 0)=false:=by
    rw [TL.len_tl,ey]
    rfl
  unfold Z4v
  show (if !(y.length == 0) && decide ((a++y++b).length ≤ sizeLine) && Z4m [(Txt.partition (a++y++b) y).1,(Txt.partition (a++y++b) y).2.1,(Txt.partition (a++y++b) y).2.2] then R.ok (X.d (.tup [.str (Txt.partition (a++y++b) y).1, .str (Txt.partition (a++y++b) y).2.1, .str (Txt.partition (a++y++b) y).2.2])) T else .bad)=_
  rw [q]
  show (if !(y.length == 0) && decide ((a++y++b).length ≤ sizeLine) && Z4m [a,y,b] then R.ok (X.d (.tup [.str a, .str y, .str b])) T else .bad)=_
  have b3:Z4m [a,y,b]=true:=by
    show (PyData.strOk a && (PyData.strOk y && (PyData.strOk b && true)))=true
    rw [h1,h2,h3]
    rfl
  rw [b1,b3,decide_eq_true (hz4 (n:=(a++y++b).length) (by omega))]
  rfl
theorem X92 {a y:Str} {s:Nat} {r:List Nat} {T:Sto} (ey:TL.tl y=s :: r) (h:s ∉ a.cps.toList) (hl:a.length ≤ 1000) (h1:PyData.strOk a=true):Z4v a (.d (.str y)) T = .ok (.d (.tup [.str a, .str "", .str ""])) T:=by
  have q:=TL.partition_none ey (show s ∉ TL.tl a from h)
  have b1:(y.length == 0)=false:=by
    rw [TL.len_tl,ey]
    rfl
  unfold Z4v
  show (if !(y.length == 0) && decide (a.length ≤ sizeLine) && Z4m [(Txt.partition a y).1,(Txt.partition a y).2.1,(Txt.partition a y).2.2] then R.ok (X.d (.tup [.str (Txt.partition a y).1, .str (Txt.partition a y).2.1, .str (Txt.partition a y).2.2])) T else .bad)=_
  rw [q]
  show (if !(y.length == 0) && decide (a.length ≤ sizeLine) && Z4m [a,Str.empty,Str.empty] then R.ok (X.d (.tup [.str a, .str Str.empty, .str Str.empty])) T else .bad)=_
  have b3:Z4m [a,Str.empty,Str.empty]=true:=by
    show (PyData.strOk a && (PyData.strOk Str.empty && (PyData.strOk Str.empty && true)))=true
    rw [h1,emp]
    decide +kernel
  rw [b1,b3,decide_eq_true (hz4 (n:=a.length) (by omega)),emp]
  rfl
theorem X5z {x:Pl} (h:X7p x):g_place_in [.str (Z2u x)] = .ok (plD x):=by
  obtain ⟨h1,h2,h3⟩:=id h
  have a:=Y32 (n:=x.1) (by omega)
  have a2:=Z18 a.2.1
  have b:=Y3l h2
  have b2:=Z18 b.2.1
  have c:=Y9w h3
  have w:=Z18 (Y29 h)
  have d:=Z18 (Z2e (s := ":") (by simp))
  have d2:=Z18 (Z2e (s := "<") (by simp))
  have g1:Z4v (Z2u x) (.d (.str ":")) [] = .ok (.d (.tup [.str (Z4d x.1), .str ":", .str (x.2.1++X3x x.2.2)])) [] :=
    Y9p (s:=58) (r:=[]) (by decide +kernel) a.2.2.1 (Nat.le_trans w.1 (by decide)) a2.2.2.2 d.2.2.2 (Z13 b2.2.2.2 c.2.2.2)
  have q0:W67 (ev0 8 [.d (.str (Z2u x))]) [] = .go (.nx [some (.d (.str (Z2u x))),some (.d (.str (Z4d x.1))),some (.d (.str ":")),some (.d (.str (x.2.1++X3x x.2.2))),none,none,none,none]) []:=by
    exact (X3y (Y5c (Y0 rfl) Z0d (g1)) (rfl))
  have q1:W68 [some (.d (.str (Z2u x))),some (.d (.str (Z4d x.1))),some (.d (.str ":")),some (.d (.str (x.2.1++X3x x.2.2))),none,none,none,none] [] = .go (.nx [some (.d (.str (Z2u x))),some (.d (.str (Z4d x.1))),some (.d (.str ":")),some (.d (.str (x.2.1++X3x x.2.2))),some (.d (.int x.1)),none,none,none]) []:=by
    exact (Z2w (W2 (Y3 (Y0 rfl) X7) (Z1s rfl (Z8v (a.1)))))
  unfold g_place_in Z6v
  rw [W5x]
  show Y61 (pc (ev0 8 [.d (.str (Z2u x))]) [])=_
  have e1:eqD (.str ":") (.str "")=some (.bl false):=by rfl
  have e2:neD (.str "<") (.str "")=some (.bl true):=by rfl
  have e3:neD (.str "") (.str "")=some (.bl false):=by rfl
  cases hs:x.2.2 with
  | none =>
    rw [hs] at q0 q1
    have er:x.2.1++X3x none=x.2.1:=W0u _
    rw [er] at q0 q1
    have g2:Z4v x.2.1 (.d (.str "<")) [] = .ok (.d (.tup [.str x.2.1, .str "", .str ""])) []:=X92 (s:=60) (r:=[]) (by decide +kernel) b.2.2.1 (Nat.le_trans b2.1 (by decide)) b2.2.2.2
    have q2:W5s [some (.d (.str (Z2u x))),some (.d (.str (Z4d x.1))),some (.d (.str ":")),some (.d (.str x.2.1)),some (.d (.int x.1)),none,none,none] [] = .go (.nx [some (.d (.str (Z2u x))),some (.d (.str (Z4d x.1))),some (.d (.str ":")),some (.d (.str x.2.1)),some (.d (.int x.1)),some (.d (.str x.2.1)),some (.d (.str "")),some (.d (.str ""))]) []:=by
      exact (X3y (Y5c (Y0 rfl) Z0d (g2)) (rfl))
    have q3:W5t [some (.d (.str (Z2u x))),some (.d (.str (Z4d x.1))),some (.d (.str ":")),some (.d (.str x.2.1)),some (.d (.int x.1)),some (.d (.str x.2.1)),some (.d (.str "")),some (.d (.str ""))] [] = .go (.nx [some (.d (.str (Z2u x))),some (.d (.str (Z4d x.1))),some (.d (.str ":")),some (.d (.str x.2.1)),some (.d (.int x.1)),some (.d (.str x.2.1)),some (.d (.str "")),some (.d (.str ""))]) []:=by
      exact (Z0y (Z69 (Z0e (W5 (Y0 rfl) Z0d (X0) (X0) (X19))) (Z69 (Z0e (W5 (Y0 rfl) Z0d (X0) (X0) (e1))) (Z69 (Z8w (Z4t (W2 (Y3 (Y0 rfl) X7) (Z1s rfl (Z8v (b.1)))) (rfl))) (Y06 (Z0e (W5 (Y0 rfl) Z0d (X0) (X0) (e3))))))) Z10)
    have q4:W5w [some (.d (.str (Z2u x))),some (.d (.str (Z4d x.1))),some (.d (.str ":")),some (.d (.str x.2.1)),some (.d (.int x.1)),some (.d (.str x.2.1)),some (.d (.str "")),some (.d (.str ""))] [] = .go (.rp (plD x)) []:=by
      have e:plD x = .tup [.int x.1, .str x.2.1, .non]:=by unfold plD; rw [hs]; rfl
      rw [e]
      exact (Y4m (Y3 (Y0 rfl) (Y3 (Y0 rfl) (Y3 (X1v (Z0e (W5 (Y0 rfl) Z0d (X0) (X0) (e3))) Z0d) X7))) (rfl) (hz4 (by simp)))
    rw [show pc (ev0 8 [.d (.str (Z2u x))]) []=_ from W8 q0 (W8 q1 (W8 q2 (W8 q3 q4)))]
    rfl
  | some s =>
    rw [hs] at q0 q1
    have k:=Y3l (h3 s hs)
    have k2:=Z18 k.2.1
    have er:x.2.1++X3x (some s)=x.2.1 ++ "<" ++ s:=(X31 _ _ _).symm
    rw [er] at q0 q1
    have g2:Z4v (x.2.1 ++ "<" ++ s) (.d (.str "<")) [] = .ok (.d (.tup [.str x.2.1, .str "<", .str s])) []:=Y9p (s:=60) (r:=[]) (by decide +kernel) b.2.2.1 (by have:=b.2.2.2; have:=k.2.2.2; rw [Z6x,Z6x,l1.2.1]; omega) b2.2.2.2 d2.2.2.2 k2.2.2.2
    have q2:W5s [some (.d (.str (Z2u x))),some (.d (.str (Z4d x.1))),some (.d (.str ":")),some (.d (.str (x.2.1 ++ "<" ++ s))),some (.d (.int x.1)),none,none,none] [] = .go (.nx [some (.d (.str (Z2u x))),some (.d (.str (Z4d x.1))),some (.d (.str ":")),some (.d (.str (x.2.1 ++ "<" ++ s))),some (.d (.int x.1)),some (.d (.str x.2.1)),some (.d (.str "<")),some (.d (.str s))]) []:=by
      exact (X3y (Y5c (Y0 rfl) Z0d (g2)) (rfl))
    have q3:W5t [some (.d (.str (Z2u x))),some (.d (.str (Z4d x.1))),some (.d (.str ":")),some (.d (.str (x.2.1 ++ "<" ++ s))),some (.d (.int x.1)),some (.d (.str x.2.1)),some (.d (.str "<")),some (.d (.str s))] [] = .go (.nx [some (.d (.str (Z2u x))),some (.d (.str (Z4d x.1))),some (.d (.str ":")),some (.d (.str (x.2.1 ++ "<" ++ s))),some (.d (.int x.1)),some (.d (.str x.2.1)),some (.d (.str "<")),some (.d (.str s))]) []:=by
      exact (Z0y (Z69 (Z0e (W5 (Y0 rfl) Z0d (X0) (X0) (X19))) (Z69 (Z0e (W5 (Y0 rfl) Z0d (X0) (X0) (e1))) (Z69 (Z8w (Z4t (W2 (Y3 (Y0 rfl) X7) (Z1s rfl (Z8v (b.1)))) (rfl))) (Z7p (Z0e (W5 (Y0 rfl) Z0d (X0) (X0) (e2))) (Z8w (Z4t (W2 (Y3 (Y0 rfl) X7) (Z1s rfl (Z8v (k.1)))) (rfl))))))) Z10)
    have q4:W5w [some (.d (.str (Z2u x))),some (.d (.str (Z4d x.1))),some (.d (.str ":")),some (.d (.str (x.2.1 ++ "<" ++ s))),some (.d (.int x.1)),some (.d (.str x.2.1)),some (.d (.str "<")),some (.d (.str s))] [] = .go (.rp (plD x)) []:=by
      have e:plD x = .tup [.int x.1, .str x.2.1, .str s]:=by unfold plD; rw [hs]; rfl
      rw [e]
      exact (Y4m (Y3 (Y0 rfl) (Y3 (Y0 rfl) (Y3 (Y80 (Z0e (W5 (Y0 rfl) Z0d (X0) (X0) (e2))) (Y0 rfl)) X7))) (rfl) (hz4 (by simp)))
    rw [show pc (ev0 8 [.d (.str (Z2u x))]) []=_ from W8 q0 (W8 q1 (W8 q2 (W8 q3 q4)))]
    rfl
theorem W0a {x:Pl} {b:Int} {found:List D} {o0 o4:Option X} (hx:X7p x) (hb:b < x.1) (hl:found.length < 5):X95 [o0,some (.r 0),some (.d (.int b)),some (.d (.str (Z2u x))),o4] [.lst (found.map X.d)] = .go (.nx [o0,some (.r 0),some (.d (.int x.1)),some (.d (.str (Z2u x))),some (.d (plD x))]) [.lst ((found++[plD x]).map X.d)]:=by
  have hb2:leD (.int x.1) (.int b)=some (.bl false):=by rw [X4h,decide_eq_false (by omega)]
  have hz:(found.map X.d).length < sizeLine:=by rw [List.length_map,sizeLine_eq]; omega
  have ha:V0 (.r 0) [.d (plD x)] [.lst (found.map X.d)] = .ok (.d .non) [.lst ((found++[plD x]).map X.d)]:=by
    rw [Y4v (S:=[.lst (found.map X.d)]) (n:=0) rfl hz,List.map_append]
    rfl
  exact (W8 (Z2w (W2 (Y3 (Y0 rfl) X7) (Z1s rfl (Z8v (X5z hx))))) (W8 (Z0y (Z69 (Z0e (W5 (Y0 rfl) Z0d (X0) (X0) (X2a))) (Z0e (W5 (Z2z (Y0 rfl) Z0d (rfl)) (Y0 rfl) (X0) (X0) (hb2)))) Z10) (W8 (Z2w (Z2z (Y0 rfl) Z0d (rfl))) (Z9h (X0a (Y0 rfl) (rfl) (Y3 (Y0 rfl) X7) (ha))))))
theorem X3m {o0:Option X}:∀ {r:List Pl} {b:Int} {found:List D} {o3 o4:Option X},(∀ x ∈ r,X7p x)→Z21 b r=true→found.length + r.length ≤ 5→∃ (b2:Int) (o3' o4':Option X),Z36 (.nm 3) .free X95 (r.map fun x=>X.d (.str (Z2u x))) [o0,some (.r 0),some (.d (.int b)),o3,o4] [.lst (found.map X.d)] = .go (.nx [o0,some (.r 0),some (.d (.int b2)),o3',o4']) [.lst ((found++r.map plD).map X.d)]
  | [],b,found,o3,o4,_,_,_=>⟨b,o3,o4,by rw [List.map_nil,List.map_nil,List.append_nil]; exact Z8z rfl⟩
  | x :: r,b,found,o3,o4,h,hr,hl=>by
    have hr:(decide (b < (x.1:Int)) && Z21 x.1 r)=true:=hr
    obtain ⟨h1,h2⟩:=Bool.and_eq_true_iff.mp hr
    rw [List.length_cons] at hl
    have st:=W0a (x:=x) (b:=b) (found:=found) (o0:=o0) (o4:=o4) (h x (List.Mem.head _)) (of_decide_eq_true h1) (by omega)
    obtain ⟨b2,p3,p4,q⟩:=X3m (o0:=o0) (r:=r) (b:=x.1) (found:=found++[plD x]) (o3:=some (.d (.str (Z2u x)))) (o4:=some (.d (plD x))) (fun y hy=>h y (List.Mem.tail _ hy)) h2 (by rw [List.length_append,List.length_singleton]; omega)
    refine ⟨b2,p3,p4,?_⟩
    rw [List.append_assoc] at q
    exact Y2p rfl rfl st q
theorem X3n {l:List Pl} (h:∀ x ∈ l,X7p x) (hr:Z21 (-1) l=true) (hl:l.length ≤ 5):g_places_in [.lst ((edW l).map D.str)] = .ok (.tup (l.map plD)):=by
  cases l with
  | nil=>exact Y7t (by kernel_rfl)
  | cons x r =>
    have e:edW (x :: r)=(x :: r).map Z2u:=if_neg (by simp)
    obtain ⟨b2,o3,o4,q⟩:=X3m (o0:=some (.d (.lst ((edW (x :: r)).map D.str)))) (r:=x :: r) (b:=-1) (found:=[]) (o3:=none) (o4:=none) h hr (by simpa using hl)
    have w:Z9j [O.lst (List.map X.d [])] (.d (.lst ((edW (x :: r)).map D.str)))=some ((x :: r).map fun x=>X.d (.str (Z2u x)), .free):=by
      rw [X4e,e,List.map_map,List.map_map]
      rfl
    have nd:eqD (.lst ((edW (x :: r)).map D.str)) (.lst [.str "-"])=some (.bl false):=by
      have:=X76 (a:=edW (x :: r)) (b:=["-"])
      have ne:¬ (x :: r).map Z2u=(["-"]:List Str):=fun z=>W05 (x:=x) (List.cons.inj (show Z2u x :: r.map Z2u=(["-"]:List Str) from z)).1
      rw [e,decide_eq_false ne] at this
      rw [e]
      exact this
    have hn:((x :: r).map plD).length ≤ sizeLine:=by rw [List.length_map]; exact hz4 (by omega)
    unfold g_places_in Z6v
    rw [W51]
    have p0:W69 (ev0 5 [.d (.lst ((edW (x :: r)).map D.str))]) [] = .go (.nx (ev0 5 [.d (.lst ((edW (x :: r)).map D.str))])) []:=by
      exact (Z0y (Z0e (W5 (Y0 rfl) (Y81 (Y3 Z0d X7) (rfl) (hz4 (by simp))) (X0) (X0) (nd))) Z10)
    have p1:W7a (ev0 5 [.d (.lst ((edW (x :: r)).map D.str))]) [] = .go (.nx [some (.d (.lst ((edW (x :: r)).map D.str))),some (.r 0),some (.d (.int (-1))),none,none]) [.lst (([]:List D).map X.d)]:=by
      rfl
    have p2:W7b [some (.d (.lst ((edW (x :: r)).map D.str))),some (.r 0),some (.d (.int (-1))),none,none] [.lst (([]:List D).map X.d)]=_:=Y25 (Z4w (Y0 rfl) w) q
    have p3:W7c [some (.d (.lst ((edW (x :: r)).map D.str))),some (.r 0),some (.d (.int b2)),o3,o4] [.lst (([]++(x :: r).map plD).map X.d)] = .go (.rp (.tup ((x :: r).map plD))) [.lst (([]++(x :: r).map plD).map X.d)]:=by
      have g1:Z3e [.r 0] [.lst (([]++(x :: r).map plD).map X.d)] = .ok (.d (.int ((([]++(x :: r).map plD).map X.d).length:Nat))) [.lst (([]++(x :: r).map plD).map X.d)]:=W2m rfl
      have g2:gtD (.int ((([]++(x :: r).map plD).map X.d).length:Nat)) (.int 0)=some (.bl true):=by rw [X6t,decide_eq_true (by simp)]
      have g3:Z7e [.r 0] [.lst (([]++(x :: r).map plD).map X.d)] = .ok (.d (.tup ((x :: r).map plD))) [.lst (([]++(x :: r).map plD).map X.d)]:=X4b rfl
      exact (Z4o (Y80 (Z0e (W5 (W2 (Y3 (Y0 rfl) X7) (g1)) Z0d (X0) (X0) (g2))) (W2 (Y3 (Y0 rfl) X7) (g3))) (X0))
    show Y61 (pi (ev0 5 [.d (.lst ((edW (x :: r)).map D.str))]) [])=_
    have z:pi (ev0 5 [.d (.lst ((edW (x :: r)).map D.str))]) [] = .go (.rp (.tup ((x :: r).map plD))) [.lst (([]++(x :: r).map plD).map X.d)]:=W8 p0 (W8 p1 (W8 p2 p3))
    rw [z]
    rfl
theorem Z8g {n:Nat} (h:n < 40):Z5e (Z4d n)=true:=(Y32 h).2.1
theorem X1q {l:List Pl} (h:∀ x ∈ l,X7p x):∀ z ∈ edW l,Z5e z=true:=fun z hz=>by
  unfold edW at hz
  split at hz
  · exact Z2e (by simp at hz; simp [hz])
  · obtain ⟨x,hx,rfl⟩:=List.mem_map.mp hz
    exact Y29 (h x hx)
theorem X73 {l:List Pl} (h:l.length ≤ 5):(edW l).length ≤ 5:=by
  unfold edW
  split
  · simp
  · rw [List.length_map]; exact h
theorem X29 {m:Mv} (h:Y4r m):(mvW m ≠ []∧(mvW m).length ≤ 6)∧∀ z ∈ mvW m,Z5e z=true:=by
  cases m with
  | ed l =>
    obtain ⟨h1,h2,h3⟩:=h
    refine ⟨⟨by simp [mvW],by have:=X73 h3; simp [mvW]; omega⟩,fun z hz=>?_⟩
    rcases List.mem_cons.mp hz with rfl | hz
    · exact Z2e (by simp)
    · exact X1q h1 z hz
  | gv p =>
    refine ⟨⟨by simp [mvW],by simp [mvW]⟩,fun z hz=>?_⟩
    simp only [mvW,List.mem_cons,List.not_mem_nil,or_false] at hz
    rcases hz with rfl | rfl
    · exact Z2e (by simp)
    · exact Z8g h
  | gn p n =>
    refine ⟨⟨by simp [mvW],by simp [mvW]⟩,fun z hz=>?_⟩
    have h:p < 40∧n < 40:=h
    simp only [mvW,List.mem_cons,List.not_mem_nil,or_false] at hz
    rcases hz with rfl | rfl | rfl
    · exact Z2e (by simp)
    · exact Z8g (by omega)
    · exact Z8g (by omega)
  | ck p =>
    refine ⟨⟨by simp [mvW],by simp [mvW]⟩,fun z hz=>?_⟩
    have h:p < 40:=h
    simp only [mvW,List.mem_cons,List.not_mem_nil,or_false] at hz
    rcases hz with rfl | rfl
    · exact Z2e (by simp)
    · exact Z8g (by omega)
theorem X28 {m:Mv} {T:Sto} (h:Y4r m):Z3d (mvT m) (.d (.str " ")) T = .ok (.d (.lst ((mvW m).map D.str))) T:=by
  obtain ⟨⟨h1,h2⟩,h3⟩:=X29 h
  exact X6b (k:=24) h1 (fun z hz=>(Z18 (h3 z hz)).1) (fun z hz=>(Z18 (h3 z hz)).2.1) (fun z hz=>(Z18 (h3 z hz)).2.2.2) (by omega)
theorem X68 {p:Int}:inD .non (.lst [.int p])=some (.bl false):=by
  simp [inD,Bv.inB,D.py,pys,dOk,PyData.depth,PyData.depthAll,PyData.eqv]
theorem W26 {p n:Int}:inD .non (.lst [.int p, .int n])=some (.bl false):=by
  simp [inD,Bv.inB,D.py,pys,dOk,PyData.depth,PyData.depthAll,PyData.eqv]
theorem Y7m {s w:Str} {ns:List Nat} {o2 o3 o4:Option X} {T:Sto} (h:∀ n ∈ ns,n < 40) (hl:ns.length < 5):W6w [some (.d (.str s)),some (.d (.lst (D.str w :: (ns.map Z4d).map D.str))),o2,o3,o4] T = .go (.nx [some (.d (.str s)),some (.d (.lst (D.str w :: (ns.map Z4d).map D.str))),some (.d (.lst (ns.map fun n:Nat=>D.int n))),o3,o4]) T:=by
  refine Z2w ?_
  have sl:slX T (.d (.lst (D.str w :: (ns.map Z4d).map D.str))) (some 1) none=some (.d (.lst ((ns.map Z4d).map D.str))):=by
    show some (X.d (.lst (Z8j (D.str w :: (ns.map Z4d).map D.str) (some 1) none)))=_
    rw [Y8s]
  refine X2j (fun n:Nat=>X.d (.str (Z4d n))) (fun n:Nat=>D.int n) (Z4w (Y3i (Y0 rfl) (Y69 Z0d) X78 sl) ?_) (hz4 (by omega)) fun n hn=>⟨_,rfl,W2 (Y3 (Y0 rfl) X7) (Z1s rfl (Z8v (Y32 (h n hn)).1))⟩
  rw [X4e,List.map_map,List.map_map]
  rfl
theorem X23 {m:Mv} (h:Y4r m):g_move_in [.str (mvT m)] = .ok (mvD m):=by
  have sp:=X28 (T:=[]) h
  have q0:W6u (ev0 5 [.d (.str (mvT m))]) [] = .go (.nx (ev0 5 [.d (.str (mvT m))])) []:=by
    exact (Z0y (Z8w (Z4t (W2a (Y0 rfl) (rfl)) (rfl))) Z10)
  have q1:W6v (ev0 5 [.d (.str (mvT m))]) [] = .go (.nx [some (.d (.str (mvT m))),some (.d (.lst ((mvW m).map D.str))),none,none,none]) []:=by
    exact (Z2w (Y5c (Y0 rfl) Z0d (sp)))
  have gc:("give" : Str) ≠ "edition" ∧ ("check" : Str) ≠ "edition" ∧ ("check" : Str) ≠ "give" := by decide +kernel
  have ne1:eqD (.str "give") (.str "edition")=some (.bl false):=by rw [Y04,decide_eq_false gc.1]
  have ne2:eqD (.str "check") (.str "edition")=some (.bl false):=by rw [Y04,decide_eq_false gc.2.1]
  have ne3:eqD (.str "check") (.str "give")=some (.bl false):=by rw [Y04,decide_eq_false gc.2.2]
  have no2:∀ (w:Str) (r:List D),eqD (.str w) (.str "edition")=some (.bl false)→W46 [some (.d (.str (mvT m))),some (.d (.lst (D.str w :: r))),none,none,none] [] = .go (.nx [some (.d (.str (mvT m))),some (.d (.lst (D.str w :: r))),none,none,none]) []:=fun w r e=>by
    have i0:ixO [] (.d (.lst (D.str w :: r))) 0=some (.d (.str w)):=X8g (l:=D.str w :: r) (i:=0) rfl
    exact (Z0y (Z0e (W5 (Z2z (Y0 rfl) Z0d (i0)) Z0d (X0) (X0) (e))) Z10)
  unfold g_move_in Z6v
  rw [W5d]
  show Y61 (mi (ev0 5 [.d (.str (mvT m))]) [])=_
  cases m with
  | gv p =>
    have q3:=Y7m (s:=mvT (.gv p)) (w := "give") (ns:=[p]) (o2:=none) (o3:=none) (o4:=none) (T:=[]) (fun n hn=>by rw [List.mem_singleton.mp hn]; exact h) (by simp)
    have q4:W4a [some (.d (.str (mvT (.gv p)))),some (.d (.lst [.str "give", .str (Z4d p)])),some (.d (.lst [.int p])),none,none] [] = .go (.nx [some (.d (.str (mvT (.gv p)))),some (.d (.lst [.str "give", .str (Z4d p)])),some (.d (.lst [.int p])),none,none]) []:=by
      exact (Z0y (Z0e (W5 Z0d (Y0 rfl) (X0) (X0) (X68))) Z10)
    have q5:W4b [some (.d (.str (mvT (.gv p)))),some (.d (.lst [.str "give", .str (Z4d p)])),some (.d (.lst [.int p])),none,none] [] = .go (.rp (mvD (.gv p))) []:=by
      exact (Z5h (Z7p (Z0e (W5 (Z2z (Y0 rfl) Z0d (rfl)) Z0d (X0) (X0) (rfl))) (Z0e (W5 (W2 (Y3 (Y0 rfl) X7) (Y7i)) (Z4u (Y3 Z0d (Y3 Z0d X7)) (rfl) (hz4 (by simp))) (X0) (X0) (rfl)))) (Y4m (Y3 Z0d (X1y (Y0 rfl) (rfl) X7)) (rfl) (hz4 (by simp))))
    rw [show mi (ev0 5 [.d (.str (mvT (.gv p)))]) []=_ from W8 q0 (W8 q1 (W8 (no2 _ _ ne1) (W8 q3 (W8 q4 (Y1o q5)))))]
    rfl
  | gn p n =>
    have q3:=Y7m (s:=mvT (.gn p n)) (w := "give") (ns:=[p,n]) (o2:=none) (o3:=none) (o4:=none) (T:=[]) (fun k hk=>by
      obtain ⟨a,b⟩:=(show p < 40∧n < 40 from h)
      rcases List.mem_cons.mp hk with rfl | hk
      · omega
      · rw [List.mem_singleton.mp hk]; exact b) (by simp)
    have q4:W4a [some (.d (.str (mvT (.gn p n)))),some (.d (.lst [.str "give", .str (Z4d p), .str (Z4d n)])),some (.d (.lst [.int p, .int n])),none,none] [] = .go (.nx [some (.d (.str (mvT (.gn p n)))),some (.d (.lst [.str "give", .str (Z4d p), .str (Z4d n)])),some (.d (.lst [.int p, .int n])),none,none]) []:=by
      exact (Z0y (Z0e (W5 Z0d (Y0 rfl) (X0) (X0) (W26))) Z10)
    have q5:W4b [some (.d (.str (mvT (.gn p n)))),some (.d (.lst [.str "give", .str (Z4d p), .str (Z4d n)])),some (.d (.lst [.int p, .int n])),none,none] [] = .go (.rp (mvD (.gn p n))) []:=by
      exact (Z5h (Z7p (Z0e (W5 (Z2z (Y0 rfl) Z0d (rfl)) Z0d (X0) (X0) (rfl))) (Z0e (W5 (W2 (Y3 (Y0 rfl) X7) (Y7i)) (Z4u (Y3 Z0d (Y3 Z0d X7)) (rfl) (hz4 (by simp))) (X0) (X0) (rfl)))) (Y4m (Y3 Z0d (X1y (Y0 rfl) (rfl) X7)) (rfl) (hz4 (by simp))))
    rw [show mi (ev0 5 [.d (.str (mvT (.gn p n)))]) []=_ from W8 q0 (W8 q1 (W8 (no2 _ _ ne1) (W8 q3 (W8 q4 (Y1o q5)))))]
    rfl
  | ck p =>
    have q3:=Y7m (s:=mvT (.ck p)) (w := "check") (ns:=[p]) (o2:=none) (o3:=none) (o4:=none) (T:=[]) (fun n hn=>by rw [List.mem_singleton.mp hn]; exact h) (by simp)
    have q4:W4a [some (.d (.str (mvT (.ck p)))),some (.d (.lst [.str "check", .str (Z4d p)])),some (.d (.lst [.int p])),none,none] [] = .go (.nx [some (.d (.str (mvT (.ck p)))),some (.d (.lst [.str "check", .str (Z4d p)])),some (.d (.lst [.int p])),none,none]) []:=by
      exact (Z0y (Z0e (W5 Z0d (Y0 rfl) (X0) (X0) (X68))) Z10)
    have q5:W4b [some (.d (.str (mvT (.ck p)))),some (.d (.lst [.str "check", .str (Z4d p)])),some (.d (.lst [.int p])),none,none] [] = .go (.nx [some (.d (.str (mvT (.ck p)))),some (.d (.lst [.str "check", .str (Z4d p)])),some (.d (.lst [.int p])),none,none]) []:=by
      exact (Z0y (Y06 (Z0e (W5 (Z2z (Y0 rfl) Z0d (rfl)) Z0d (X0) (X0) (ne3)))) Z10)
    have q6:W6x [some (.d (.str (mvT (.ck p)))),some (.d (.lst [.str "check", .str (Z4d p)])),some (.d (.lst [.int p])),none,none] [] = .go (.rp (mvD (.ck p))) []:=by
      exact (Z4o (Y80 (Z7p (Z0e (W5 (Z2z (Y0 rfl) Z0d (rfl)) Z0d (X0) (X0) (rfl))) (Z0e (W5 (W2 (Y3 (Y0 rfl) X7) (Y7i)) Z0d (X0) (X0) (rfl)))) (Z4u (Y3 Z0d (Y3 (Z2z (Y0 rfl) Z0d (rfl)) X7)) (rfl) (hz4 (by simp)))) (X0))
    rw [show mi (ev0 5 [.d (.str (mvT (.ck p)))]) []=_ from W8 q0 (W8 q1 (W8 (no2 _ _ ne2) (W8 q3 (W8 q4 (W8 q5 q6)))))]
    rfl
  | ed l =>
    obtain ⟨h1,h2,h3⟩:=id h
    have pl:=X3n h1 h2 h3
    have i0:ixO [] (.d (.lst ((mvW (.ed l)).map D.str))) 0=some (.d (.str "edition")):=X8g (l:=(mvW (.ed l)).map D.str) (i:=0) rfl
    have sl:slX [] (.d (.lst ((mvW (.ed l)).map D.str))) (some 1) none=some (.d (.lst ((edW l).map D.str))):=by
      show some (X.d (.lst (Z8j (D.str "edition" :: (edW l).map D.str) (some 1) none)))=_
      rw [Y8s]
    have q2:W46 [some (.d (.str (mvT (.ed l)))),some (.d (.lst ((mvW (.ed l)).map D.str))),none,none,none] [] = .go (.rp (mvD (.ed l))) []:=by
      exact (Z5h (Z0e (W5 (Z2z (Y0 rfl) Z0d (i0)) Z0d (X0) (X0) (rfl))) (W8 (Z2w (W2 (Y3 (Y3i (Y0 rfl) (Y69 Z0d) X78 (sl)) X7) (Z1s rfl (Z8v (pl))))) (Z4o (X1v (Z0e (W5 (Y0 rfl) Z0d (X0) (X0) (X2a))) (Z4u (Y3 Z0d (Y3 (Y0 rfl) X7)) (rfl) (hz4 (by simp)))) (X0))))
    have z:mi (ev0 5 [.d (.str (mvT (.ed l)))]) [] = .go (.rp (mvD (.ed l))) []:=W8 q0 (W8 q1 (Y1o q2))
    rw [z]
    rfl
end Lw
namespace Lw
open PySem PySem.Spec L2 Bv
open PyProof.Rows hiding St
variable [HasW]
def W4t:MG Bool:=(U4 (Y5 eqD (Z03 (Z4 0) (m_c (.int 0))) (m_c (.str "edition"))))
def W4u:MS:=(V1 (m_c (.bl true)))
def W2i:MS:=(Z0r W4t W4u V4)
def W6s:MS:=(W3 2 (Y5 W1h (Z8 Z3e (Z3 (Z4 1) (Z7))) (m_c (.int 1))))
def W4v:MG Bool:=(U4 (Y5 eqD (Z8 Z3e (Z3 (Z4 0) (Z7))) (m_c (.int 3))))
def W4w:MS:=(W3 2 (Z03 (Z4 0) (m_c (.int 2))))
def W38:MS:=(Z0r W4v W4w V4)
def W6t:MS:=(V1 (Z4g (Z16 leD ltD (m_c (.int 0)) (Z4 2) (Z8 Z3e (Z3 (Z4 1) (Z7)))) (Z8c false (Z03 (Z4 0) (m_c (.int 1))) (Z8 (X9 1 (W1 [] (callP g_keys_of))) (Z3 (Z03 (Z4 1) (Z4 2)) (Z7))))))
def ip:MS:=(Z9 W2i (Z9 W6s (Z9 W38 W6t)))
theorem W4x:Z5t=ip:=by kernel_rfl
abbrev Ed:=List (Nat × Str)
def edD (l:Ed):D := .tup (l.map pkD)
def edK (l:Ed):List (D × D):=l.map fun x=>(.int x.1, .str x.2)
def look (l:Ed) (p:Nat):Option Str:=(l.find? fun x=>decide (x.1=p)).map (·.2)
structure EdOk (l:Ed):Prop where
  nd:(l.map (·.1)).Nodup
  len:l.length ≤ 5
theorem Y9q:∀ {l:List Pl} {b:Int},Z21 b l=true→∀ x ∈ l,b < x.1
  | y :: r,b,h,x,hx=>by
    obtain ⟨h1,h2⟩:=Bool.and_eq_true_iff.mp (show (decide (b < (y.1:Int)) && Z21 y.1 r)=true from h)
    have h1:=of_decide_eq_true h1
    rcases List.mem_cons.mp hx with rfl | hx
    · exact h1
    · have:=Y9q h2 x hx
      omega
theorem Y9r:∀ {l:List Pl} {b:Int},Z21 b l=true→(l.map (·.1)).Nodup
  | [],_,_=>List.nodup_nil
  | y :: r,b,h=>by
    obtain ⟨h1,h2⟩:=Bool.and_eq_true_iff.mp (show (decide (b < (y.1:Int)) && Z21 y.1 r)=true from h)
    refine List.nodup_cons.mpr ⟨fun m=>?_,Y9r h2⟩
    obtain ⟨x,hx,e⟩:=List.mem_map.mp m
    have e:x.1=y.1:=e
    have:=Y9q h2 x hx
    omega
theorem W3e (l:List Pl):(l.map pk).map (·.1)=l.map (·.1):=by rw [List.map_map]; rfl
theorem W15 {l:List Pl} (h:Y4r (.ed l)):EdOk (l.map pk):=⟨by rw [W3e]; exact Y9r h.2.1,by rw [List.length_map]; exact h.2.2⟩
theorem X2c {l:Ed} (h:(l.map (·.1)).Nodup):(l.map fun x=>D.int x.1).Nodup:=by
  have e:(l.map fun x=>D.int x.1)=(l.map (·.1)).map fun n:Nat=>D.int n:=by rw [List.map_map]; rfl
  rw [e]
  exact List.Pairwise.map _ (fun a b n z=>n (by cases z; rfl)) h
theorem X2q (l:Ed) (p:Nat):Z25 (edK l) (.int p)=(look l p).map D.str:=by
  have e:=Z6o (fun x:Nat × Str=>D.int x.1) (fun x=>D.str x.2) (.int p) l
  unfold edK look
  rw [e,Option.map_map]
  have c:(fun a:Nat × Str=>decide (D.int a.1=D.int p))=fun x=>decide (x.1=p):=by
    funext x
    by_cases h:x.1=p
    · rw [decide_eq_true h,h,decide_eq_true rfl]
    · rw [decide_eq_false h,decide_eq_false fun z=>h (by injection z with z; omega)]
  rw [c]
  rfl
theorem Y2u {l:Ed} (h:EdOk l):g_keys_of [edD l] = .ok (.dic (edK l)):=by
  have hi:Z0c (Z4 0) (ev0 3 [.d (edD l)]) [] = .ok (l.map fun x=>X.d (pkD x), .free) []:=by
    refine Z4w (Y0 rfl) ?_
    unfold edD
    rw [Y1r,List.map_map]
    rfl
  have q:X0e (.tp [(.nm 1),(.nm 2)]) (Z0c (Z4 0)) (W0) (Z4 1) (Z4 2) [1,2] (ev0 3 [.d (edD l)]) [] = .ok (.d (.dic (edK l))) [] :=
    X6l (fun x=>X.d (pkD x)) (fun x=>D.int x.1) (fun x=>D.str x.2) hi (Nat.lt_of_le_of_lt h.len (by decide)) (fun _ _=>⟨rfl,rfl⟩) (X2c h.nd) fun x _=>⟨_,rfl,rfl,rfl⟩
  unfold g_keys_of Z6v Y0m
  show Y61 (V1 (X0e (.tp [(.nm 1),(.nm 2)]) (Z0c (Z4 0)) (W0) (Z4 1) (Z4 2) [1,2]) (ev0 3 [.d (edD l)]) [])=_
  rw [Z4o q rfl]
  rfl
def W5l (n:Nat):Mv→Int
  | .gn _ k=>k
  | _=>(n:Int) - 1
def W3f:Mv→Nat
  | .gn p _=>p
  | .gv p=>p
  | .ck p=>p
  | .ed _=>0
def W0c (eds:List Ed) (p:Nat) (k:Int):Bool:=decide (0 ≤ k) && (decide (k < eds.length) && (look (eds.getD k.toNat []) p).isSome)
def W0b (eds:List Ed):Mv→Bool
  | .ed _=>true
  | m=>W0c eds (W3f m) (W5l eds.length m)
def Z8k (eds:List Ed):D := .lst (eds.map edD)
theorem W0d {eds:List Ed} {m:Mv} (h:∀ l ∈ eds,EdOk l):g_is_possible [mvD m,Z8k eds] = .ok (.bl (W0b eds m)):=by
  unfold g_is_possible Z6v
  rw [W4x]
  show Y61 (ip [some (.d (mvD m)),some (.d (Z8k eds)),none] [])=_
  have last:∀ (m:Mv) (k:Int),ixO [] (.d (mvD m)) 1=some (.d (.int (W3f m)))→W6t [some (.d (mvD m)),some (.d (Z8k eds)),some (.d (.int k))] [] = .go (.rp (.bl (W0c eds (W3f m) k))) []:=fun m k h1=>by
    have ln:Z3e [.d (Z8k eds)] [] = .ok (.d (.int eds.length)) []:=by
      unfold Z8k
      rw [Y7i,List.length_map]
    unfold W0c
    by_cases h0:0 ≤ k
    · rw [decide_eq_true h0]
      by_cases hk:k < eds.length
      · rw [decide_eq_true hk]
        have hn:k.toNat < eds.length:=by omega
        have hg:eds.getD k.toNat []=eds[k.toNat]:=by simp [List.getD,hn]
        have i1:ixO [] (.d (Z8k eds)) k=some (.d (edD eds[k.toNat])):=by
          have:=X8g (T:=[]) (l:=eds.map edD) (i:=k.toNat) (d:=edD eds[k.toNat]) (by simp [hn])
          rw [show ((k.toNat:Nat):Int)=k by omega] at this
          exact this
        have kk:=Y2u (h _ (List.getElem_mem hn))
        have di:X6o [] (.d (.int (W3f m))) (.d (.dic (edK eds[k.toNat])))=some (look (eds.getD k.toNat []) (W3f m)).isSome:=by
          rw [W4o rfl,X2q,Option.isSome_map,hg]
        have c1:leD (.int 0) (.int k)=some (.bl true):=by rw [X4h,decide_eq_true h0]
        have c2:ltD (.int k) (.int eds.length)=some (.bl true):=by rw [X47,decide_eq_true hk]
        exact (Z4o (X1t (X6q Z0d (Y0 rfl) (X0) (X0) (c1) (W2 (Y3 (Y0 rfl) X7) (ln)) (X0) (X0) (c2)) (rfl) (W19 (Z2z (Y0 rfl) Z0d (h1)) (W2 (Y3 (Z2z (Y0 rfl) (Y0 rfl) (i1)) X7) (Z1s rfl (Z8v (kk)))) (di) (by simp))) (X0))
      · rw [decide_eq_false hk]
        have c1:leD (.int 0) (.int k)=some (.bl true):=by rw [X4h,decide_eq_true h0]
        have c2:ltD (.int k) (.int eds.length)=some (.bl false):=by rw [X47,decide_eq_false hk]
        exact (Z4o (Y8y (X6q Z0d (Y0 rfl) (X0) (X0) (c1) (W2 (Y3 (Y0 rfl) X7) (ln)) (X0) (X0) (c2)) (rfl)) (X0))
    · rw [decide_eq_false h0]
      have c1:leD (.int 0) (.int k)=some (.bl false):=by rw [X4h,decide_eq_false h0]
      exact (Z4o (Y8y (W18 Z0d (Y0 rfl) (X0) (X0) (c1)) (rfl)) (X0))
  have ln:Z3e [.d (Z8k eds)] [] = .ok (.d (.int eds.length)) []:=by
    unfold Z8k
    rw [Y7i,List.length_map]
  have gc:("give" : Str) ≠ "edition" ∧ ("check" : Str) ≠ "edition" := by decide +kernel
  have ne1:eqD (.str "give") (.str "edition")=some (.bl false):=by rw [Y04,decide_eq_false gc.1]
  have ne2:eqD (.str "check") (.str "edition")=some (.bl false):=by rw [Y04,decide_eq_false gc.2]
  have p1:∀ d:D,W6s [some (.d d),some (.d (Z8k eds)),none] [] = .go (.nx [some (.d d),some (.d (Z8k eds)),some (.d (.int ((eds.length:Int) - 1)))]) []:=fun d=>by
    exact (Z2w (W5 (W2 (Y3 (Y0 rfl) X7) (ln)) Z0d (X0) (X0) (Y4n)))
  cases m with
  | ed l =>
    have q:W2i [some (.d (mvD (.ed l))),some (.d (Z8k eds)),none] [] = .go (.rp (.bl true)) []:=by
      exact (Z5h (Z0e (W5 (Z2z (Y0 rfl) Z0d (rfl)) Z0d (X0) (X0) (rfl))) (Z4o Z0d (X0)))
    rw [show ip [some (.d (mvD (.ed l))),some (.d (Z8k eds)),none] [] = .go (.rp (.bl true)) [] from Y1o q]
    rfl
  | gv p =>
    have q:W2i [some (.d (mvD (.gv p))),some (.d (Z8k eds)),none] [] = .go (.nx [some (.d (mvD (.gv p))),some (.d (Z8k eds)),none]) []:=by
      exact (Z0y (Z0e (W5 (Z2z (Y0 rfl) Z0d (rfl)) Z0d (X0) (X0) (ne1))) Z10)
    have q2:W38 [some (.d (mvD (.gv p))),some (.d (Z8k eds)),some (.d (.int ((eds.length:Int) - 1)))] [] = .go (.nx [some (.d (mvD (.gv p))),some (.d (Z8k eds)),some (.d (.int ((eds.length:Int) - 1)))]) []:=by
      exact (Z0y (Z0e (W5 (W2 (Y3 (Y0 rfl) X7) (Y3n)) Z0d (X0) (X0) (rfl))) Z10)
    rw [show ip [some (.d (mvD (.gv p))),some (.d (Z8k eds)),none] []=_ from W8 q (W8 (p1 _) (W8 q2 (last (.gv p) _ rfl)))]
    rfl
  | ck p =>
    have q:W2i [some (.d (mvD (.ck p))),some (.d (Z8k eds)),none] [] = .go (.nx [some (.d (mvD (.ck p))),some (.d (Z8k eds)),none]) []:=by
      exact (Z0y (Z0e (W5 (Z2z (Y0 rfl) Z0d (rfl)) Z0d (X0) (X0) (ne2))) Z10)
    have q2:W38 [some (.d (mvD (.ck p))),some (.d (Z8k eds)),some (.d (.int ((eds.length:Int) - 1)))] [] = .go (.nx [some (.d (mvD (.ck p))),some (.d (Z8k eds)),some (.d (.int ((eds.length:Int) - 1)))]) []:=by
      exact (Z0y (Z0e (W5 (W2 (Y3 (Y0 rfl) X7) (Y3n)) Z0d (X0) (X0) (rfl))) Z10)
    rw [show ip [some (.d (mvD (.ck p))),some (.d (Z8k eds)),none] []=_ from W8 q (W8 (p1 _) (W8 q2 (last (.ck p) _ rfl)))]
    rfl
  | gn p n =>
    have q:W2i [some (.d (mvD (.gn p n))),some (.d (Z8k eds)),none] [] = .go (.nx [some (.d (mvD (.gn p n))),some (.d (Z8k eds)),none]) []:=by
      exact (Z0y (Z0e (W5 (Z2z (Y0 rfl) Z0d (rfl)) Z0d (X0) (X0) (ne1))) Z10)
    have q2:W38 [some (.d (mvD (.gn p n))),some (.d (Z8k eds)),some (.d (.int ((eds.length:Int) - 1)))] [] = .go (.nx [some (.d (mvD (.gn p n))),some (.d (Z8k eds)),some (.d (.int n))]) []:=by
      exact (Z5h (Z0e (W5 (W2 (Y3 (Y0 rfl) X7) (Y3n)) Z0d (X0) (X0) (rfl))) (Z2w (Z2z (Y0 rfl) Z0d (rfl))))
    rw [show ip [some (.d (mvD (.gn p n))),some (.d (Z8k eds)),none] []=_ from W8 q (W8 (p1 _) (W8 q2 (last (.gn p n) _ rfl)))]
    rfl
end Lw
namespace Bv
open PySem PySem.Spec L2
open PyProof.Rows hiding St
variable [HasW]
section
variable {T:Sto}
theorem X46 {ss:List Str} (hl:ss.length < 1000):Y85 [.d (.lst (ss.map D.str))] T = .ok (.d (.int (Z4a ss).length)) T:=by
  have hb:ss.length + 1 < scanBound:=by
    have:(1001:Nat) ≤ scanBound:=by decide
    omega
  show (match (some ((ss.map D.str).map X.d)).bind Bv.strs? with
    | some xs=>if decide (xs.length + 1 < scanBound) then R.ok (X.d (.int (Z4a xs).length)) T else .bad
    | none => .bad)=_
  rw [Option.bind_some,X32]
  show (if decide (ss.length + 1 < scanBound) then R.ok (X.d (.int (Z4a ss).length)) T else .bad)=_
  rw [if_pos (decide_eq_true hb)]
theorem W1y:∀ bs:List Bool,bls? ((bs.map D.bl).map X.d)=some bs
  | []=>rfl
  | b :: r=>by
    show (bls? ((r.map D.bl).map X.d)).map (b :: ·)=_
    rw [W1y r]
    rfl
theorem W4k {f:List Bool→Bool} {bs:List Bool}:Y41 f [.d (.lst (bs.map D.bl))] T = .ok (.d (.bl (f bs))) T:=by
  show (match (some ((bs.map D.bl).map X.d)).bind bls? with
    | some l=>R.ok (X.d (.bl (f l))) T
    | none => .bad)=_
  rw [Option.bind_some,W1y]
theorem X4t {α:Type} {l:List α} (h:l ≠ []):atI l (-1)=l.getLast?:=by
  have hl:0 < l.length:=List.length_pos_iff.mpr h
  have e:ixN l.length (-1)=some (l.length - 1):=by
    unfold ixN
    rw [if_neg (by decide),if_pos (by omega)]
    congr 1
    omega
  unfold atI
  rw [e,Option.bind_some,List.getLast?_eq_getElem?]
theorem X8h {l:List D} {d:D} (h:l.getLast?=some d):ixO T (.d (.tup l)) (-1)=some (.d d):=by
  have hn:l ≠ []:=fun z=>by rw [z] at h; cases h
  have e:atI (l.map X.d) (-1)=some (X.d d):=by
    rw [X4t (by simpa using hn),List.getLast?_map,h]
    rfl
  exact e
end
end Bv
namespace Lw
open PySem PySem.Spec L2 Bv
open PyProof.Rows hiding St
variable [HasW]
def W6y:MS:=(W3 2 (Z2a (Z7)))
def W6z:MS:=(W3 3 (Z3r (.tp [(.nm 7),(.nm 8),(.nm 10)]) (Z0c (Z4 1)) (W0) (Z4 8) [7,8,10]))
def W20:MG Bool:=(U4 (Y5 ltD (Z8d (Z4 3)) (Z8 Z3e (Z3 (Z4 3) (Z7)))))
def W5f:MS:=(U6 (Z4q Z0l V0 (Z4 2) (Z3 (m_c (.str "alike")) (Z7))))
def W60:MS:=(Z0r W20 W5f V4)
def W21:MG Bool:=(W9 (Z8 (Y41 fun l=>l.any id) (Z3 (Z3r (.tp [(.nm 7),(.nm 8),(.nm 10)]) (Z0c (Z4 1)) (W0) (Y5 X6w (Z4 10) (m_c .non)) [7,8,10]) (Z7))))
def W5g:MS:=(U6 (Z4q Z0l V0 (Z4 2) (Z3 (m_c (.str "near")) (Z7))))
def W61:MS:=(Z0r W21 W5g V4)
def W62:MS:=(W3 4 (X0e (.tp [(.nm 7),(.nm 8),(.nm 10)]) (Z0c (Z4 1)) (W0) (Z4 7) (Z4 8) [7,8,10]))
def W63:MS:=(W3 5 (Z6c (U4 (Y5 gtD (Z8 Z3e (Z3 (Z4 0) (Z7))) (m_c (.int 0)))) (Z8 (X9 1 (W1 [] (callP g_keys_of))) (Z3 (Z03 (Z4 0) (X2s (m_c (.int 1)))) (Z7))) (Y9f)))
def W64:MS:=(W3 6 (Y3p (.nm 11) (Z0c (Z4 0)) (W0) (.tp [(.nm 7),(.nm 8)]) (Z0c (Z4 11)) (W0) (Z4 8) [11,7,8] [7,8]))
def W22:MIt:=(Z29 (Z4 4))
def X3a:MS:=(W3 8 (Z2g (Z4 4) (Z4 7)))
def Y7o:MS:=(W3 9 (Z3r (.nm 12) (Z29 (Z4 5)) (Q8 (U4 (Y5 eqD (Z2g (Z4 5) (Z4 12)) (Z4 8))) (U4 (Y5 eqD (Z5y (Z4 4) (Z4 12)) (Z4 8)))) (Z4 12) [12]))
def Y9j:MG Bool:=(Q8 (U4 (Y5 neD (Z5y (Z4 5) (Z4 7)) (Z4 8))) (Q8 (U4 (Y5 inD (Z4 8) (Z4 6))) (U4 (Y5 eqD (Z8 Z3e (Z3 (Z4 9) (Z7))) (m_c (.int 0))))))
def X5j:MS:=(U6 (Z4q Z0l V0 (Z4 2) (Z3 (m_c (.str "back")) (Z7))))
def X9o:MS:=(Z0r Y9j X5j V4)
def X9n:MS:=(Z9 X3a (Z9 Y7o X9o))
def W65:MS:=(Z2y (.nm 7) W22 X9n)
def W7r:MS:=(V1 (Z4 2))
def nd:MS:=(Z9 W6y (Z9 W6z (Z9 W60 (Z9 W61 (Z9 W62 (Z9 W63 (Z9 W64 (Z9 W65 W7r))))))))
theorem W5h:Z8s=nd:=by kernel_rfl
def Z4f (l:List Pl):List Str:=l.map fun x=>x.2.1
def X71 (l:List Pl):Bool:=decide ((Z4a (Z4f l)).length < (Z4f l).length)
def Y31 (l:List Pl):Bool:=l.any fun x=>x.2.2.isSome
def ahead (es:List Ed):Ed:=es.getLast?.getD []
def past (es:List Ed):List Str:=es.flatMap fun l=>l.map (·.2)
def X30 (a now:Ed) (k:Str):List (Nat × Str):=a.filter fun y=>decide (y.2=k) && decide (look now y.1=some k)
def Z74 (es:List Ed) (l:List Pl) (x:Nat × Str):Bool := !decide (look (ahead es) x.1=some x.2) && (decide (x.2 ∈ past es) && decide (X30 (ahead es) (l.map pk) x.2=[]))
def w1 (b:Bool) (w:Str):List Str:=if b=true then [w] else []
theorem w1t {w:Str}:w1 true w=[w]:=rfl
theorem w1f {w:Str}:w1 false w=[]:=rfl
theorem X4d {b:Bool} {w:Str}:(w1 b w).length ≤ 1:=by cases b <;> simp [w1]
def Y1f (es:List Ed) (l:List Pl):List Str:=w1 (X71 l) "alike" ++ w1 (Y31 l) "near" ++ ((l.map pk).filter (Z74 es l)).map fun _=>("back" : Str)
theorem X02 {es:List Ed} (h:∀ l ∈ es,EdOk l) (hl:es.length < 60):(past es).length ≤ 300:=by
  have go:∀ es:List Ed,(∀ l ∈ es,EdOk l)→(past es).length ≤ es.length * 5:=fun es=>by
    induction es with
    | nil=>intro _; exact Nat.zero_le _
    | cons a r ih =>
      intro h
      have h1:=(h a (by simp)).len
      have h2:=ih fun l hl=>h l (List.mem_cons_of_mem _ hl)
      unfold past at h2 ⊢
      rw [List.flatMap_cons,List.length_append,List.length_map,List.length_cons]
      omega
  have:=go es h
  omega
theorem X2r {l:Ed} (h:(l.map (·.1)).Nodup) {x:Nat × Str} (hx:x ∈ l):look l x.1=some x.2:=by
  unfold look
  induction l with
  | nil=>cases hx
  | cons a r ih =>
    rw [List.find?_cons]
    obtain ⟨n1,n2⟩:=List.nodup_cons.mp (show (a.1 :: r.map (·.1)).Nodup from h)
    by_cases e:a.1=x.1
    · rw [decide_eq_true e]
      rcases List.mem_cons.mp hx with rfl | hx
      · rfl
      · exact absurd (List.mem_map.mpr ⟨x,hx,e.symm⟩) n1
    · rw [decide_eq_false e]
      rcases List.mem_cons.mp hx with rfl | hx
      · exact absurd rfl e
      · exact ih n2 hx
theorem X75 {o:Option Str} {k:Str}:eqD ((o.map D.str).getD .non) (.str k)=some (.bl (decide (o=some k))):=by
  cases o with
  | none =>
    rw [show decide ((none:Option Str)=some k)=false from decide_eq_false (by simp)]
    show eqD .non (.str k)=_
    rw [W17 (p := .none) (q := .str k) rfl rfl (by simp [PyData.depth]) (by simp [PyData.depth])]
    simp [PyData.eqv]
  | some s =>
    show eqD (.str s) (.str k)=_
    rw [Y04]
    simp
theorem X9q {o:Option Str} {k:Str}:neD ((o.map D.str).getD .non) (.str k)=some (.bl (!decide (o=some k))):=by
  cases o with
  | none =>
    rw [show decide ((none:Option Str)=some k)=false from decide_eq_false (by simp)]
    show neD .non (.str k)=_
    rw [W5i (p := .none) (q := .str k) rfl rfl (by simp [PyData.depth]) (by simp [PyData.depth])]
    simp [PyData.eqv]
  | some s =>
    show neD (.str s) (.str k)=_
    rw [W5k]
    simp
section
variable {es:List Ed} {l:List Pl} {found:List Str}
def evN (es:List Ed) (l:List Pl) (o7 o8 o9 o10 o11 o12:Option X):Ev:=[some (.d (.tup (es.map edD))),some (.d (.tup (l.map plD))),some (.r 0),some (.d (.lst ((Z4f l).map .str))),some (.d (.dic (edK (l.map pk)))),some (.d (.dic (edK (ahead es)))),some (.d (.lst ((past es).map .str))),o7,o8,o9,o10,o11,o12]
theorem X5k {T:Sto} {k:Str} {a:Ed} {now:Ed} {o0 o1 o2 o3 o6 o7 o9 o10 o11 o12:Option X} (ha:EdOk a):Y7o [o0,o1,o2,o3,some (.d (.dic (edK now))),some (.d (.dic (edK a))),o6,o7,some (.d (.str k)),o9,o10,o11,o12] T = .go (.nx [o0,o1,o2,o3,some (.d (.dic (edK now))),some (.d (.dic (edK a))),o6,o7,some (.d (.str k)),some (.d (.lst ((X30 a now k).map fun y => .int y.1))),o10,o11,o12]) T:=by
  refine Z2w ?_
  have hi:Z29 (Z4 5) [o0,o1,o2,o3,some (.d (.dic (edK now))),some (.d (.dic (edK a))),o6,o7,some (.d (.str k)),o9,o10,o11,o12] T = .ok (a.map fun y=>X.d (.int y.1), .free) T:=by
    refine Y7e (Y0 rfl) ?_
    rw [X6x fun p hp=>by
      obtain ⟨y,_,rfl⟩:=List.mem_map.mp hp
      rfl]
    unfold edK
    rw [List.map_map]
    rfl
  refine X85 (fun y:Nat × Str=>X.d (.int y.1)) (fun y=>D.int y.1) (fun y=>decide (y.2=k) && decide (look now y.1=some k)) hi (Nat.le_trans ha.len (by decide)) fun y hy=>⟨_,rfl,?_,fun _=>rfl⟩
  have g1:∀ T:Sto,Y98 T (.d (.dic (edK a))) (.d (.int y.1)) = .ok (.d (.str y.2)) T:=fun T=>X6n rfl (by rw [X2q,X2r ha.nd hy]; rfl)
  have g2:∀ T:Sto,(dkX T (.d (.dic (edK now))) (.d (.int y.1))).map (fun p=>(Z25 p.1 p.2).getD (.d .non))=some (.d (((look now y.1).map D.str).getD .non)):=fun T=>by
    rw [X1j rfl,X2q]
  refine Y68 (b:=decide (y.2=k)) (c:=decide (look now y.1=some k)) ?_ fun _=>?_
  · exact Z0e (W5 (X1u (Y0 rfl) (Y0 rfl) (g1 _)) (Y0 rfl) X0 X0 Y04)
  · exact Z0e (W5 (Y8z (Y0 rfl) rfl (Y0 rfl) (g2 _)) (Y0 rfl) X0 X0 X75)
theorem X9p {x:Nat × Str} {o8 o9 o10 o11 o12:Option X} (hx:x ∈ l.map pk) (ha:EdOk (ahead es)) (hn:EdOk (l.map pk)) (hf:found.length < 100):∃ o8' o9',X9n (evN es l (some (.d (.int x.1))) o8 o9 o10 o11 o12) [.lst ((found.map D.str).map X.d)] = .go (.nx (evN es l (some (.d (.int x.1))) o8' o9' o10 o11 o12)) [.lst (((found++w1 (Z74 es l x) "back").map D.str).map X.d)]:=by
  refine ⟨some (.d (.str x.2)),some (.d (.lst ((X30 (ahead es) (l.map pk) x.2).map fun y => .int y.1))),?_⟩
  have g0:∀ T:Sto,X3a (evN es l (some (.d (.int x.1))) o8 o9 o10 o11 o12) T = .go (.nx (evN es l (some (.d (.int x.1))) (some (.d (.str x.2))) o9 o10 o11 o12)) T:=fun T=>Z2w (X1u (Y0 rfl) (Y0 rfl) (X6n rfl (by rw [X2q,X2r hn.nd hx]; rfl)))
  have g1:∀ T:Sto,Y7o (evN es l (some (.d (.int x.1))) (some (.d (.str x.2))) o9 o10 o11 o12) T = .go (.nx (evN es l (some (.d (.int x.1))) (some (.d (.str x.2))) (some (.d (.lst ((X30 (ahead es) (l.map pk) x.2).map fun y => .int y.1)))) o10 o11 o12)) T:=fun T=>X5k (now:=l.map pk) (k:=x.2) ha
  have t:∀ T:Sto,Y9j (evN es l (some (.d (.int x.1))) (some (.d (.str x.2))) (some (.d (.lst ((X30 (ahead es) (l.map pk) x.2).map fun y => .int y.1)))) o10 o11 o12) T = .ok (Z74 es l x) T:=fun T=>by
    unfold Z74
    refine Y68 (Z0e (W5 (Y8z (Y0 rfl) rfl (Y0 rfl) (by rw [X1j rfl,X2q])) (Y0 rfl) X0 X0 X9q)) fun _=>Y68 (Z0e (W5 (Y0 rfl) (Y0 rfl) X0 X0 W2g)) fun _=>Z0e (W5 (W2 (Y3 (Y0 rfl) X7) Y7i) Z0d X0 X0 ?_)
    rw [W4q,List.length_map]
    congr 2
    rw [decide_eq_decide]
    constructor
    · intro z
      exact List.length_eq_zero_iff.mp (by omega)
    · intro z
      rw [z]
      rfl
  refine W8 (g0 _) (W8 (g1 _) ?_)
  cases hb:Z74 es l x with
  | true =>
    have z:((found.map D.str).map X.d).length < sizeLine:=by rw [List.length_map,List.length_map,sizeLine_eq]; omega
    rw [w1t]
    refine Z5h ((t _).trans (by rw [hb])) (Z9h (x := .d .non) (X0a (Y0 rfl) (Z8a (n:=0) rfl) (Y3 Z0d X7) ?_))
    rw [Y4v (S:=[.lst ((found.map D.str).map X.d)]) (n:=0) rfl z,List.map_append,List.map_append]
    rfl
  | false =>
    rw [w1f,List.append_nil]
    exact Z0y ((t _).trans (by rw [hb])) Z10
theorem X3b {o10 o11 o12:Option X} (ha:EdOk (ahead es)) (hn:EdOk (l.map pk)):∀ {r:List (Nat × Str)} {found:List Str} {o7 o8 o9:Option X},(∀ x ∈ r,x ∈ l.map pk)→found.length + r.length < 100→∃ o7' o8' o9',Z36 (.nm 7) .free X9n (r.map fun x=>X.d (.int x.1)) (evN es l o7 o8 o9 o10 o11 o12) [.lst ((found.map D.str).map X.d)] = .go (.nx (evN es l o7' o8' o9' o10 o11 o12)) [.lst (((found++(r.filter (Z74 es l)).map fun _=>("back" : Str)).map D.str).map X.d)]
  | [],found,o7,o8,o9,_,_=>⟨o7,o8,o9,by rw [List.map_nil,List.filter_nil,List.map_nil,List.append_nil]; exact Z8z rfl⟩
  | x :: r,found,o7,o8,o9,h,hl=>by
    rw [List.length_cons] at hl
    obtain ⟨p8,p9,q⟩:=X9p (es:=es) (l:=l) (found:=found) (x:=x) (o8:=o8) (o9:=o9) (o10:=o10) (o11:=o11) (o12:=o12) (h x (List.Mem.head _)) ha hn (by omega)
    have hl2:(found++w1 (Z74 es l x) "back").length + r.length < 100:=by
      have:=X4d (b:=Z74 es l x) (w := "back")
      rw [List.length_append]
      omega
    obtain ⟨p7',p8',p9',q2⟩:=X3b ha hn (r:=r) (found:=found++w1 (Z74 es l x) "back") (o7:=some (.d (.int x.1))) (o8:=p8) (o9:=p9) (fun y hy=>h y (List.Mem.tail _ hy)) hl2
    refine ⟨p7',p8',p9',?_⟩
    have e:found++((x :: r).filter (Z74 es l)).map (fun _=>("back" : Str))=(found++w1 (Z74 es l x) "back")++(r.filter (Z74 es l)).map fun _=>("back" : Str):=by
      rw [List.filter_cons,List.append_assoc]
      cases Z74 es l x <;> rfl
    rw [e]
    exact Y2p rfl rfl q q2
end
theorem W23 {f:Pl→D} {me:M} {l:List Pl} {e:Ev} {T:Sto} (hl:l.length ≤ 5) (hv:e[1]?=some (some (.d (.tup (l.map plD))))) (h:∀ x ∈ l,∃ e1,Tg.asg T (.tp [(.nm 7),(.nm 8),(.nm 10)]) (X.d (plD x)) (W6 e [7,8,10])=some e1∧me e1 T = .ok (.d (f x)) T):Z3r (.tp [(.nm 7),(.nm 8),(.nm 10)]) (Z0c (Z4 1)) (W0) me [7,8,10] e T = .ok (.d (.lst (l.map f))) T:=by
  refine X2j (fun x=>X.d (plD x)) f (Z4w (Y0 hv) ?_) (hz4 (by omega)) h
  rw [Y1r,List.map_map]
  rfl
theorem X5l {es:List Ed} {l:List Pl} (h:Y4r (.ed l)) (he:∀ a ∈ es,EdOk a) (hes:es.length < 60):g_needs_of [.tup (es.map edD), .tup (l.map plD)] = .ok (.lst ((Y1f es l).map D.str)):=by
  have hn:=W15 h
  have hl5:l.length ≤ 5:=h.2.2
  have ha:EdOk (ahead es):=by
    unfold ahead
    cases q:es.getLast? with
    | none=>exact ⟨List.nodup_nil,Nat.zero_le _⟩
    | some a=>exact he a (List.mem_of_getLast? q)
  let ev:Option X→Option X→Option X→Option X→Ev:=fun o3 o4 o5 o6=>[some (.d (.tup (es.map edD))),some (.d (.tup (l.map plD))),some (.r 0),o3,o4,o5,o6,none,none,none,none,none,none]
  have p0:W6y (ev0 13 [.d (.tup (es.map edD)), .d (.tup (l.map plD))]) [] = .go (.nx (ev none none none none)) [.lst ((([]:List Str).map D.str).map X.d)]:=rfl
  have p1:∀ T:Sto,W6z (ev none none none none) T = .go (.nx (ev (some (.d (.lst ((Z4f l).map .str)))) none none none)) T:=fun T=>by
    refine (Z2w (W23 (f:=fun x => .str x.2.1) hl5 rfl fun x _=>⟨_,rfl,rfl⟩)).trans ?_
    unfold Z4f
    rw [List.map_map]
    rfl
  have hk:(Z4f l).length < 1000:=by unfold Z4f; rw [List.length_map]; omega
  have app:∀ (f:List Str) (w:Str),f.length < 100→V0 (.r 0) [.d (.str w)] [.lst ((f.map D.str).map X.d)] = .ok (.d .non) [.lst (((f++[w]).map D.str).map X.d)]:=fun f w hf=>by
    have z:((f.map D.str).map X.d).length < sizeLine:=by rw [List.length_map,List.length_map,sizeLine_eq]; omega
    rw [Y4v (S:=[.lst ((f.map D.str).map X.d)]) (n:=0) rfl z,List.map_append,List.map_append]
    rfl
  have p2:W60 (ev (some (.d (.lst ((Z4f l).map .str)))) none none none) [.lst ((([]:List Str).map D.str).map X.d)] = .go (.nx (ev (some (.d (.lst ((Z4f l).map .str)))) none none none)) [.lst (((w1 (X71 l) "alike").map D.str).map X.d)]:=by
    have t:W20 (ev (some (.d (.lst ((Z4f l).map .str)))) none none none) [.lst ((([]:List Str).map D.str).map X.d)] = .ok (X71 l) [.lst ((([]:List Str).map D.str).map X.d)]:=by
      have m1:Z8d (Z4 3) (ev (some (.d (.lst ((Z4f l).map .str)))) none none none) [.lst ((([]:List Str).map D.str).map X.d)] = .ok (.d (.int (Z4a (Z4f l)).length)) [.lst ((([]:List Str).map D.str).map X.d)]:=X46 hk
      refine Z0e (W5 m1 (W2 (Y3 (Y0 rfl) X7) Y7i) X0 X0 ?_)
      rw [X47,List.length_map]
      unfold X71
      congr 2
      rw [decide_eq_decide]
      exact Int.ofNat_lt
    cases q:X71 l with
    | true=>rw [w1t]; exact Z5h (t.trans (by rw [q])) (Z9h (X0a (Y0 rfl) (Z8a (n:=0) rfl) (Y3 Z0d X7) (app [] "alike" (by decide))))
    | false=>rw [w1f]; exact Z0y (t.trans (by rw [q])) Z10
  have hf2:(w1 (X71 l) "alike").length ≤ 1:=X4d
  generalize hfa:w1 (X71 l) "alike" = fa at p2 hf2
  have p3:W61 (ev (some (.d (.lst ((Z4f l).map .str)))) none none none) [.lst ((fa.map D.str).map X.d)] = .go (.nx (ev (some (.d (.lst ((Z4f l).map .str)))) none none none)) [.lst (((fa++w1 (Y31 l) "near").map D.str).map X.d)]:=by
    have t:W21 (ev (some (.d (.lst ((Z4f l).map .str)))) none none none) [.lst ((fa.map D.str).map X.d)] = .ok (Y31 l) [.lst ((fa.map D.str).map X.d)]:=by
      have m1:=W23 (f:=fun x => .bl x.2.2.isSome) (me:=Y5 X6w (Z4 10) (m_c .non)) (e:=ev (some (.d (.lst ((Z4f l).map .str)))) none none none) (T:=[.lst ((fa.map D.str).map X.d)]) hl5 rfl fun x _=>⟨_,rfl,W5 (Y0 rfl) Z0d X0 X0 (by cases x.2.2 <;> rfl)⟩
      have e:l.map (fun x:Pl=>D.bl x.2.2.isSome)=(l.map fun x:Pl=>x.2.2.isSome).map D.bl:=by rw [List.map_map]; rfl
      rw [e] at m1
      refine Z4t (x := .d (.bl (Y31 l))) (W2 (Y3 m1 X7) ?_) rfl
      rw [W4k]
      unfold Y31
      rw [List.any_map]
      rfl
    cases q:Y31 l with
    | true=>rw [w1t]; exact Z5h (t.trans (by rw [q])) (Z9h (X0a (Y0 rfl) (Z8a (n:=0) rfl) (Y3 Z0d X7) (app fa "near" (by omega))))
    | false=>rw [w1f,List.append_nil]; exact Z0y (t.trans (by rw [q])) Z10
  have hf3:(fa++w1 (Y31 l) "near").length ≤ 2:=by have:=X4d (b:=Y31 l) (w := "near"); rw [List.length_append]; omega
  generalize hfb:(fa++w1 (Y31 l) "near")=fb at p3 hf3
  have p4:∀ T:Sto,W62 (ev (some (.d (.lst ((Z4f l).map .str)))) none none none) T = .go (.nx (ev (some (.d (.lst ((Z4f l).map .str)))) (some (.d (.dic (edK (l.map pk))))) none none)) T:=fun T=>by
    have hi:Z0c (Z4 1) (ev (some (.d (.lst ((Z4f l).map .str)))) none none none) T = .ok (l.map fun x=>X.d (plD x), .free) T:=by
      refine Z4w (Y0 rfl) ?_
      rw [Y1r,List.map_map]
      rfl
    have nd1:(l.map fun x:Pl=>D.int x.1).Nodup:=by
      have:=X2c hn.nd
      rw [List.map_map] at this
      exact this
    have q:=X6l (t := .tp [(.nm 7),(.nm 8),(.nm 10)]) (mk:=Z4 7) (mv:=Z4 8) (vs:=[7,8,10]) (fun x:Pl=>X.d (plD x)) (fun x=>D.int x.1) (fun x=>D.str x.2.1) hi (Nat.lt_of_le_of_lt hl5 (by decide)) (fun _ _=>⟨rfl,rfl⟩) nd1 fun x _=>⟨_,rfl,rfl,rfl⟩
    have e:edK (l.map pk)=l.map fun x:Pl=>(D.int x.1,D.str x.2.1):=by unfold edK; rw [List.map_map]; rfl
    rw [e]
    exact Z2w q
  have p5:∀ T:Sto,W63 (ev (some (.d (.lst ((Z4f l).map .str)))) (some (.d (.dic (edK (l.map pk))))) none none) T = .go (.nx (ev (some (.d (.lst ((Z4f l).map .str)))) (some (.d (.dic (edK (l.map pk))))) (some (.d (.dic (edK (ahead es))))) none)) T:=fun T=>by
    cases q:es.getLast? with
    | none =>
      have e0:es=[]:=List.getLast?_eq_none_iff.mp q
      have g:gtD (.int ((es.map edD).length:Nat)) (.int 0)=some (.bl false):=by rw [e0]; rfl
      have ea:ahead es=[]:=by rw [e0]; rfl
      rw [ea]
      exact Z2w (X1v (Z0e (W5 (W2 (Y3 (Y0 rfl) X7) Y3n) Z0d X0 X0 g)) rfl)
    | some a =>
      have e0:0 < es.length:=List.length_pos_iff.mpr fun z=>by rw [z] at q; cases q
      have g:gtD (.int ((es.map edD).length:Nat)) (.int 0)=some (.bl true):=by rw [X6t,List.length_map,decide_eq_true (by omega)]
      have ea:ahead es=a:=by unfold ahead; rw [q]; rfl
      have ix:ixO T (.d (.tup (es.map edD))) (-1)=some (.d (edD a)):=X8h (by rw [List.getLast?_map,q]; rfl)
      rw [ea]
      exact Z2w (Y80 (Z0e (W5 (W2 (Y3 (Y0 rfl) X7) Y3n) Z0d X0 X0 g)) (W2 (Y3 (Z2z (Y0 rfl) rfl ix) X7) (Z1s rfl (Z8v (Y2u (he a (List.mem_of_getLast? q)))))))
  have p6:∀ T:Sto,W64 (ev (some (.d (.lst ((Z4f l).map .str)))) (some (.d (.dic (edK (l.map pk))))) (some (.d (.dic (edK (ahead es))))) none) T = .go (.nx (evN es l none none none none none none)) T:=fun T=>by
    have hi:Z0c (Z4 0) (ev (some (.d (.lst ((Z4f l).map .str)))) (some (.d (.dic (edK (l.map pk))))) (some (.d (.dic (edK (ahead es))))) none) T = .ok (es.map fun a=>X.d (edD a), .free) T:=by
      refine Z4w (Y0 rfl) ?_
      rw [Y1r,List.map_map]
      rfl
    have hp:=X02 he hes
    have hp2:(es.flatMap fun a:Ed=>a).length ≤ sizeLine:=by
      have e:(past es).length=(es.flatMap fun a:Ed=>a).length:=by
        unfold past
        rw [List.length_flatMap,List.length_flatMap]
        simp
      rw [e] at hp
      exact hz4 (by omega)
    have q:=X83 (t := .nm 11) (t1 := .tp [(.nm 7),(.nm 8)]) (mi1:=Z0c (Z4 11)) (me:=Z4 8) (vs:=[11,7,8]) (vs1:=[7,8]) (fun a:Ed=>X.d (edD a)) (fun a=>a) (fun p:Nat × Str=>X.d (pkD p)) (fun p=>D.str p.2) hi hp2 fun a _=>⟨_,rfl,Z4w (Y0 rfl) (by unfold edD; rw [Y1r,List.map_map]; rfl),fun b _=>⟨_,rfl,rfl⟩⟩
    have e:(past es).map D.str=(es.flatMap fun a:Ed=>a).map fun p=>D.str p.2:=by
      unfold past
      rw [List.map_flatMap,List.map_flatMap]
      congr 1
      funext a
      rw [List.map_map]
      rfl
    unfold evN
    rw [e]
    exact Z2w q
  obtain ⟨o7,o8,o9,p7⟩:=X3b (es:=es) (l:=l) (o10:=none) (o11:=none) (o12:=none) ha hn (r:=l.map pk) (found:=fb) (o7:=none) (o8:=none) (o9:=none) (fun _ h=>h) (by rw [List.length_map]; omega)
  have p7':W65 (evN es l none none none none none none) [.lst ((fb.map D.str).map X.d)] = .go (.nx (evN es l o7 o8 o9 none none none)) [.lst (((Y1f es l).map D.str).map X.d)]:=by
    have hi:W22 (evN es l none none none none none none) [.lst ((fb.map D.str).map X.d)] = .ok ((l.map pk).map fun x=>X.d (.int x.1), .free) [.lst ((fb.map D.str).map X.d)]:=by
      refine Y7e (Y0 rfl) ?_
      rw [X6x fun p hp=>by
        obtain ⟨y,_,rfl⟩:=List.mem_map.mp hp
        rfl]
      unfold edK
      rw [List.map_map]
      rfl
    have e:Y1f es l=fb++((l.map pk).filter (Z74 es l)).map fun _=>("back" : Str):=by
      unfold Y1f
      rw [← hfb,← hfa]
    rw [e]
    exact Y25 hi p7
  unfold g_needs_of Z6v
  rw [W5h]
  have z:nd (ev0 13 [.d (.tup (es.map edD)), .d (.tup (l.map plD))]) [] = .go (.rp (.lst ((Y1f es l).map D.str))) [.lst (((Y1f es l).map D.str).map X.d)] :=
    W8 p0 (W8 (p1 _) (W8 p2 (W8 p3 (W8 (p4 _) (W8 (p5 _) (W8 (p6 _) (W8 p7' (Z4o (Y0 rfl) (X6s (n:=0) rfl)))))))))
  show Y61 (nd (ev0 13 [.d (.tup (es.map edD)), .d (.tup (l.map plD))]) [])=_
  rw [z]
  rfl
end Lw
namespace Bv
open PySem PySem.Spec L2
open PyProof.Rows hiding St
variable [HasW]
theorem X84 {α:Type} {t:Tg} {mi:MIt} {me:M} {vs:List Nat} {e:Ev} {S S1:Sto} (x:α→X) (f:α→D) {l:List α} (hi:mi e S = .ok (l.map x, .free) S1) (hl:l.length ≤ sizeLine) (h:∀ a ∈ l,∃ e1,t.asg S1 (x a) (W6 e vs)=some e1∧me e1 S1 = .ok (.d (f a)) S1) :
    Z3r t mi W0 me vs e S = .ok (.d (.lst (l.map f))) S1:=by
  have h1:=Y1b (t:=t) (mt:=W0) (me:=me) (e:=W6 e vs) (S:=S1) x f (fun _=>true) (l:=l) fun a ha=>by
    obtain ⟨e1,q1,q2⟩:=h a ha
    exact ⟨e1,q1,rfl,fun _=>q2⟩
  have e0:l.filter (fun _=>true)=l:=List.filter_eq_self.mpr fun _ _=>rfl
  rw [e0] at h1
  unfold Z3r
  rw [hi]
  show (lcL t .free W0 me (W6 e vs) (l.map x) S1).bind Z5v=_
  rw [h1]
  show Z5v (l.map f) S1=_
  unfold Z5v
  rw [if_pos (by rw [List.length_map]; exact hl)]
theorem X1g {α:Type} (xs:List α) (h:Nat):Z8j xs none (some (h:Int))=xs.take h:=by
  have e:HT.sIx xs.length xs.length (some (h:Int))=min h xs.length:=by
    show (if (h:Int) < 0 then ((h:Int) + (xs.length:Int)).toNat else min (h:Int).toNat xs.length)=_
    rw [if_neg (by omega)]
    rfl
  unfold Z8j
  rw [e]
  simp [HT.sIx]
theorem Y5r {α:Type} [DecidableEq α]:∀ {l m:List α},l.Nodup→(∀ x ∈ l,x ∈ m)→l.length ≤ m.length
  | [],_,_,_=>Nat.zero_le _
  | x :: l,m,h,hm=>by
    obtain ⟨h1,h2⟩:=List.nodup_cons.mp h
    have hx:=hm x (by simp)
    have q:=Y5r (l:=l) (m:=m.erase x) h2 fun y hy=>(List.mem_erase_of_ne (fun e:y=x=>h1 (e ▸ hy))).mpr (hm y (List.mem_cons_of_mem _ hy))
    rw [List.length_erase_of_mem hx] at q
    have:=List.length_pos_of_mem hx
    rw [List.length_cons]
    omega
theorem sorted_strs {ks:List Str} {S:Sto} (h:ks.length < 64):Z6z [.d (.lst (ks.map D.str))] S = .ok (.d (.lst ((Z6f ks).map D.str))) S:=by
  cases ks with
  | nil=>rfl
  | cons k r =>
    have e1:items S (.d (.lst ((k :: r).map D.str)))=some (((k :: r).map D.str).map X.d):=by simp [items]
    have e2:ints? (((k :: r).map D.str).map X.d)=none:=rfl
    show (if Z0l S (.d (.lst ((k :: r).map D.str))) then (match items S (.d (.lst ((k :: r).map D.str))) with
      | some ys=>(match ints? ys with
        | some l=>R.ok (X.d (.lst ((PySem.W.sortI l).map .int))) S
        | none=>(match strs? ys with
          | some l=>if decide (l.length < 64) then .ok (.d (.lst ((Z6f l).map .str))) S else .bad
          | none => .bad))
      | none => .bad) else .bad)=_
    rw [if_pos (show Z0l S (.d (.lst ((k :: r).map D.str)))=true from rfl),e1]
    show (match ints? (((k :: r).map D.str).map X.d) with
      | some l=>R.ok (X.d (.lst ((PySem.W.sortI l).map .int))) S
      | none=>(match strs? (((k :: r).map D.str).map X.d) with
        | some l=>if decide (l.length < 64) then .ok (.d (.lst ((Z6f l).map .str))) S else .bad
        | none => .bad))=_
    rw [e2]
    show (match strs? (((k :: r).map D.str).map X.d) with
        | some l=>if decide (l.length < 64) then R.ok (X.d (.lst ((Z6f l).map .str))) S else .bad
        | none => .bad)=_
    rw [X32]
    exact if_pos (decide_eq_true h)
def dk (ks:List Str):List (D × X):=ks.map fun w=>(.str w, .d (.bl true))
def Y64 (ks:List Str) (w:Str):List Str:=if w ∈ ks then ks else ks++[w]
theorem X7d {ks:List Str} {w:Str}:Z98 (dk ks) (.str w) (.d (.bl true))=dk (Y64 ks w):=by
  unfold Y64
  split
  · rename_i h
    refine W0g (fun p hp _=>?_) ⟨(.str w, .d (.bl true)),List.mem_map.mpr ⟨w,h,rfl⟩,rfl⟩
    obtain ⟨x,_,rfl⟩:=List.mem_map.mp hp
    rfl
  · rename_i h
    rw [X3p fun p hp e=>?_]
    · unfold dk
      rw [List.map_append]
      rfl
    · obtain ⟨x,hx,rfl⟩:=List.mem_map.mp hp
      have e:D.str x=D.str w:=e
      injection e with e
      exact h (e ▸ hx)
theorem X7q {ks:List Str} {w:Str} (h:ks.Nodup):(Y64 ks w).Nodup:=by
  unfold Y64
  split
  · exact h
  · rename_i n
    rw [List.nodup_append]
    exact ⟨h,by simp,fun a ha b hb e=>n (by rw [← List.mem_singleton.mp hb,← e]; exact ha)⟩
theorem X4p {ks ws:List Str} {w:Str} (h:∀ x ∈ ks,x ∈ ws) (hw:w ∈ ws):∀ x ∈ Y64 ks w,x ∈ ws:=fun x hx=>by
  unfold Y64 at hx
  split at hx
  · exact h x hx
  · rcases List.mem_append.mp hx with m | m
    · exact h x m
    · rw [List.mem_singleton.mp m]; exact hw
theorem X7e {ks:List Str} {w:Str} (h:ks.length < 100):Y59 [.dic (dk ks)] (.r 0) (.d (.str w))=some (0,dk ks, .str w):=by
  show (if (D.str w).key?.isSome && decide ((dk ks).length < sizeLine) then some (0,dk ks,D.str w) else none)=_
  rw [if_pos]
  have:(dk ks).length < sizeLine:=by unfold dk; rw [List.length_map,sizeLine_eq]; omega
  rw [decide_eq_true this]
  rfl
theorem X81 {ks:List Str} (h:∀ w ∈ ks,PyData.strOk w=true):Y6y keysOf [.dic (dk ks)] (.r 0) = .ok (ks.map fun w=>X.d (.str w), .free) [.fdc (dk ks)]:=by
  have e:W1a [.dic (dk ks)] (.r 0)=some (dk ks,[.fdc (dk ks)]):=rfl
  unfold Y6y
  rw [e]
  show Z4r ((keysOf (dk ks)).map fun ys=>(ys,Lk.free)) [.fdc (dk ks)]=_
  have k:keysOf (dk ks)=some (ks.map fun w=>X.d (.str w)):=by
    unfold keysOf
    rw [if_pos (List.all_eq_true.mpr fun p hp=>by
      obtain ⟨q,hq,rfl⟩:=List.mem_map.mp hp
      exact h q hq)]
    unfold dk
    rw [List.map_map]
    rfl
  rw [k]
  rfl
end Bv
namespace Lw
open PySem PySem.Spec L2 Bv
open PyProof.Rows hiding St
variable [HasW]
def W6n:MS:=(Z6d 2 3 (Z3 (Y1d) (Z3 (m_c (.int 0)) (Z7))))
def W4g:MIt:=(Z0c (Z4 0))
def X6h:MG Bool:=(U4 (Y5 eqD (Z03 (Z4 4) (m_c (.int 0))) (m_c (.str "edition"))))
def Y4u:MIt:=(Z0c (Z8 (X9 2 (W1 [] (callP g_needs_of))) (Z3 (Z1j (Z4 1) (Y2v) (Z20 (Z4 3))) (Z3 (Z03 (Z4 4) (m_c (.int 1))) (Z7)))))
def Y0d:MS:=(Z8h (Z4 2) (Z4 5) (m_c (.bl true)))
def X4q:MS:=(Z2y (.nm 5) Y4u Y0d)
def X4r:MS:=(X0r 3 W4f (m_c (.int 1)))
def W1s:MS:=(Z9 X4q X4r)
def X7t:MG Bool:=(Q8 (U4 (Y5 eqD (Z8 Z3e (Z3 (Z4 4) (Z7))) (m_c (.int 3)))) (U4 (Y5 neD (Z03 (Z4 4) (m_c (.int 2))) (Y5 W1h (Z4 3) (m_c (.int 1))))))
def X1c:MS:=(Z8h (Z4 2) (m_c (.str "late")) (m_c (.bl true)))
def W1r:MS:=(Z0r X7t X1c V4)
def X7s:MS:=(Z0r X6h W1s W1r)
def W6o:MS:=(Z2y (.nm 4) W4g X7s)
def W6p:MS:=(V1 (Z8 Z7e (Z3 (Z8 Z6z (Z3 (Z3r (.nm 5) (Z29 (Z4 2)) (W0) (Z8 Z79 (Z3 (Z4 5) (Z7))) [5]) (Z7))) (Z7))))
def an:MS:=(Z9 W6n (Z9 W6o W6p))
theorem W4h:Z7m=an:=by kernel_rfl
def Z90:List Str:=["alike", "near", "back", "late"]
theorem Y5n {es:List Ed} {l:List Pl}:∀ w ∈ Y1f es l,w ∈ Z90:=fun w hw=>by
  have g:∀ {b:Bool} {u:Str},u ∈ Z90→∀ x ∈ w1 b u,x ∈ Z90:=fun {b u} hu x hx=>by
    cases b with
    | true=>rw [List.mem_singleton.mp (show x ∈ [u] from hx)]; exact hu
    | false=>exact absurd hx List.not_mem_nil
  unfold Y1f at hw
  rcases List.mem_append.mp hw with h | h
  · rcases List.mem_append.mp h with h | h
    · exact g (by unfold Z90; simp) w h
    · exact g (by unfold Z90; simp) w h
  · obtain ⟨_,_,rfl⟩:=List.mem_map.mp h
    unfold Z90
    simp
structure NdOk (ks:List Str):Prop where
  nd:ks.Nodup
  mem:∀ x ∈ ks,x ∈ Z90
theorem NdOk.len {ks:List Str} (h:NdOk ks):ks.length ≤ 4:=Y5r h.nd h.mem
theorem NdOk.add {ks:List Str} {w:Str} (h:NdOk ks) (hw:w ∈ Z90):NdOk (Y64 ks w):=⟨X7q h.nd,X4p h.mem hw⟩
theorem NdOk.adds:∀ {ws:List Str} {ks:List Str},NdOk ks→(∀ w ∈ ws,w ∈ Z90)→NdOk (ws.foldl Y64 ks)
  | [],_,h,_=>h
  | w :: ws,ks,h,hw=>NdOk.adds (ws:=ws) (h.add (hw w (by simp))) fun x hx=>hw x (List.mem_cons_of_mem _ hx)
def X44 (many:Nat) (n:Nat):Bool := !decide ((n:Int)=(many:Int) - 1)
def X0j (eds:List Ed) (many:Nat) (ks:List Str):Mv→List Str
  | .ed l=>(Y1f (eds.take many) l).foldl Y64 ks
  | .gn _ n=>if X44 many n=true then Y64 ks "late" else ks
  | _=>ks
def X9r (many:Nat):Mv→Nat
  | .ed _=>many + 1
  | _=>many
def W09 (eds:List Ed):Nat→List Str→List Mv→List Str
  | _,ks,[]=>ks
  | many,ks,m :: r=>W09 eds (X9r many m) (X0j eds many ks m) r
theorem X5n {eds:List Ed} {many:Nat} {ks:List Str} {m:Mv} (h:NdOk ks):NdOk (X0j eds many ks m):=by
  cases m with
  | ed l=>exact h.adds Y5n
  | gn p n =>
    show NdOk (if X44 many n=true then Y64 ks "late" else ks)
    split
    · exact h.add (by unfold Z90; simp)
    · exact h
  | gv p=>exact h
  | ck p=>exact h
theorem X3c:∀ w ∈ Z90,PyData.strOk w=true:=by decide +kernel
section
variable {eds:List Ed} {o0 o1:Option X}
theorem Y8j {o4:Option X} {many:Nat}:∀ {ws:List Str} {ks:List Str} {o5:Option X},NdOk ks→(∀ w ∈ ws,w ∈ Z90)→∃ o5',Z36 (.nm 5) .free Y0d (ws.map fun w=>X.d (.str w)) [o0,o1,some (.r 0),some (.d (.int many)),o4,o5] [.dic (dk ks)] = .go (.nx [o0,o1,some (.r 0),some (.d (.int many)),o4,o5']) [.dic (dk (ws.foldl Y64 ks))]
  | [],ks,o5,_,_=>⟨o5,Z8z rfl⟩
  | w :: ws,ks,o5,h,hw=>by
    have h2:=h.add (hw w (by simp))
    obtain ⟨p5,q⟩:=Y8j (ws:=ws) (o5:=some (.d (.str w))) h2 fun x hx=>hw x (List.mem_cons_of_mem _ hx)
    have st:Y0d [o0,o1,some (.r 0),some (.d (.int many)),o4,some (.d (.str w))] [.dic (dk ks)] = .go (.nx [o0,o1,some (.r 0),some (.d (.int many)),o4,some (.d (.str w))]) [.dic (dk (Y64 ks w))]:=by
      refine (X3z (p:=(0,dk ks, .str w)) Z0d (Y0 rfl) (Y0 rfl) (X7e (by have:=h.len; omega))).trans ?_
      show RO.go _ [O.dic (Z98 (dk ks) (.str w) (.d (.bl true)))]=_
      rw [X7d]
    exact ⟨p5,Y2p rfl rfl st q⟩
theorem X7u {m:Mv} {many:Nat} {ks:List Str} {o5:Option X} (hm:Y4r m) (he:∀ a ∈ eds,EdOk a) (hes:eds.length < 60) (hk:NdOk ks):∃ o5',X7s [o0,some (.d (.tup (eds.map edD))),some (.r 0),some (.d (.int many)),some (.d (mvD m)),o5] [.dic (dk ks)] = .go (.nx [o0,some (.d (.tup (eds.map edD))),some (.r 0),some (.d (.int (X9r many m:Nat))),some (.d (mvD m)),o5']) [.dic (dk (X0j eds many ks m))]:=by
  have gc:("give" : Str) ≠ "edition" ∧ ("check" : Str) ≠ "edition" := by decide +kernel
  have ne1:eqD (.str "give") (.str "edition")=some (.bl false):=by rw [Y04,decide_eq_false gc.1]
  have ne2:eqD (.str "check") (.str "edition")=some (.bl false):=by rw [Y04,decide_eq_false gc.2]
  cases m with
  | ed l =>
    have nk:=X5l (es:=eds.take many) hm (fun a ha=>he a (List.mem_of_mem_take ha)) (by rw [List.length_take]; omega)
    have sl:∀ T:Sto,slX T (.d (.tup (eds.map edD))) none (some (many:Int))=some (.d (.tup ((eds.take many).map edD))):=fun T=>by
      show some (X.d (.tup (Z8j (eds.map edD) none (some (many:Int)))))=_
      rw [X1g,List.map_take]
    have t:X6h [o0,some (.d (.tup (eds.map edD))),some (.r 0),some (.d (.int many)),some (.d (mvD (.ed l))),o5] [.dic (dk ks)] = .ok true [.dic (dk ks)]:=by
      exact (Z0e (W5 (Z2z (Y0 rfl) Z0d (rfl)) Z0d (X0) (X0) (rfl)))
    have it:Y4u [o0,some (.d (.tup (eds.map edD))),some (.r 0),some (.d (.int many)),some (.d (mvD (.ed l))),o5] [.dic (dk ks)] = .ok ((Y1f (eds.take many) l).map fun w=>X.d (.str w), .free) [.dic (dk ks)]:=by
      refine Z4w (W2 (Y3 (Y3i (Y0 rfl) X78 (Y69 (Y0 rfl)) (sl _)) (Y3 (Z2z (Y0 rfl) Z0d rfl) X7)) (Z1s rfl (X1s nk))) ?_
      rw [X4e,List.map_map]
      rfl
    obtain ⟨p5,q⟩:=Y8j (o0:=o0) (o1:=some (.d (.tup (eds.map edD)))) (o4:=some (.d (mvD (.ed l)))) (many:=many) (ws:=Y1f (eds.take many) l) (ks:=ks) (o5:=o5) hk Y5n
    refine ⟨p5,Z5h t (W8 (Y25 it q) ?_)⟩
    exact W3y (d := .int ((many + 1:Nat):Int)) (Y0 rfl) Z0d (by rfl)
  | gv p =>
    refine ⟨o5,?_⟩
    exact (Z0y (Z0e (W5 (Z2z (Y0 rfl) Z0d (rfl)) Z0d (X0) (X0) (ne1))) (Z0y (Y06 (Z0e (W5 (W2 (Y3 (Y0 rfl) X7) (Y3n)) Z0d (X0) (X0) (rfl)))) Z10))
  | ck p =>
    refine ⟨o5,?_⟩
    exact (Z0y (Z0e (W5 (Z2z (Y0 rfl) Z0d (rfl)) Z0d (X0) (X0) (ne2))) (Z0y (Y06 (Z0e (W5 (W2 (Y3 (Y0 rfl) X7) (Y3n)) Z0d (X0) (X0) (rfl)))) Z10))
  | gn p n =>
    refine ⟨o5,?_⟩
    have nl:neD (.int n) (.int ((many:Int) - 1))=some (.bl (X44 many n)):=W5j
    cases hl:X44 many n with
    | true =>
      rw [hl] at nl
      have e:X0j eds many ks (.gn p n)=Y64 ks "late" := if_pos hl
      rw [e]
      have st:X1c [o0,some (.d (.tup (eds.map edD))),some (.r 0),some (.d (.int many)),some (.d (mvD (.gn p n))),o5] [.dic (dk ks)] = .go (.nx [o0,some (.d (.tup (eds.map edD))),some (.r 0),some (.d (.int many)),some (.d (mvD (.gn p n))),o5]) [.dic (dk (Y64 ks "late"))]:=by
        refine (X3z (p:=(0,dk ks, .str "late")) Z0d (Y0 rfl) Z0d (X7e (by have:=hk.len; omega))).trans ?_
        show RO.go _ [O.dic (Z98 (dk ks) (.str "late") (.d (.bl true)))]=_
        rw [X7d]
      refine Z0y (by exact (Z0e (W5 (Z2z (Y0 rfl) Z0d (rfl)) Z0d (X0) (X0) (ne1)))) (Z5h (by exact (Z7p (Z0e (W5 (W2 (Y3 (Y0 rfl) X7) (Y3n)) Z0d (X0) (X0) (rfl))) (Z0e (W5 (Z2z (Y0 rfl) Z0d (rfl)) (W5 (Y0 rfl) Z0d (X0) (X0) (Y4n)) (X0) (X0) (nl))))) st)
    | false =>
      rw [hl] at nl
      have e:X0j eds many ks (.gn p n)=ks:=if_neg (by rw [hl]; simp)
      rw [e]
      refine Z0y (by exact (Z0e (W5 (Z2z (Y0 rfl) Z0d (rfl)) Z0d (X0) (X0) (ne1)))) (Z0y (by exact (Z7p (Z0e (W5 (W2 (Y3 (Y0 rfl) X7) (Y3n)) Z0d (X0) (X0) (rfl))) (Z0e (W5 (Z2z (Y0 rfl) Z0d (rfl)) (W5 (Y0 rfl) Z0d (X0) (X0) (Y4n)) (X0) (X0) (nl))))) Z10)
theorem X1d (he:∀ a ∈ eds,EdOk a) (hes:eds.length < 60):∀ {ms:List Mv} {many:Nat} {ks:List Str} {o4 o5:Option X},(∀ m ∈ ms,Y4r m)→NdOk ks→∃ (n':Nat) (o4' o5':Option X),Z36 (.nm 4) .free X7s (ms.map fun m=>X.d (mvD m)) [o0,some (.d (.tup (eds.map edD))),some (.r 0),some (.d (.int many)),o4,o5] [.dic (dk ks)] = .go (.nx [o0,some (.d (.tup (eds.map edD))),some (.r 0),some (.d (.int n')),o4',o5']) [.dic (dk (W09 eds many ks ms))]∧NdOk (W09 eds many ks ms)
  | [],many,ks,o4,o5,_,hk=>⟨many,o4,o5,Z8z rfl,hk⟩
  | m :: r,many,ks,o4,o5,h,hk=>by
    obtain ⟨p5,q⟩:=X7u (eds:=eds) (o0:=o0) (m:=m) (many:=many) (ks:=ks) (o5:=o5) (h m (by simp)) he hes hk
    obtain ⟨n',p4,p6,q2,q3⟩:=X1d he hes (ms:=r) (many:=X9r many m) (ks:=X0j eds many ks m) (o4:=some (.d (mvD m))) (o5:=p5) (fun x hx=>h x (List.mem_cons_of_mem _ hx)) (X5n hk)
    exact ⟨n',p4,p6,Y2p rfl rfl q q2,q3⟩
end
def Y2a (eds:List Ed) (ms:List Mv):D := .tup ((Z6f (W09 eds 0 [] ms)).map .str)
theorem Y4t {eds:List Ed} {ms:List Mv} (he:∀ a ∈ eds,EdOk a) (hes:eds.length < 60) (hm:∀ m ∈ ms,Y4r m):g_all_needs [.tup (ms.map mvD), .tup (eds.map edD)] = .ok (Y2a eds ms):=by
  obtain ⟨n',p4,p5,q,hk⟩:=X1d (eds:=eds) (o0:=some (.d (.tup (ms.map mvD)))) he hes (ms:=ms) (many:=0) (ks:=[]) (o4:=none) (o5:=none) hm ⟨List.nodup_nil,fun _ h=>absurd h List.not_mem_nil⟩
  have w:Z9j [.dic (dk [])] (.d (.tup (ms.map mvD)))=some (ms.map fun m=>X.d (mvD m), .free):=by
    rw [Y1r,List.map_map]
    rfl
  have l4:=hk.len
  have p0:W6n (ev0 6 [.d (.tup (ms.map mvD)), .d (.tup (eds.map edD))]) [] = .go (.nx [some (.d (.tup (ms.map mvD))),some (.d (.tup (eds.map edD))),some (.r 0),some (.d (.int (0:Nat))),none,none]) [.dic (dk [])]:=rfl
  have p1:W6o [some (.d (.tup (ms.map mvD))),some (.d (.tup (eds.map edD))),some (.r 0),some (.d (.int (0:Nat))),none,none] [.dic (dk [])]=_:=Y25 (Z4w (Y0 rfl) w) q
  have p2:W6p [some (.d (.tup (ms.map mvD))),some (.d (.tup (eds.map edD))),some (.r 0),some (.d (.int n')),p4,p5] [.dic (dk (W09 eds 0 [] ms))] = .go (.rp (Y2a eds ms)) [.fdc (dk (W09 eds 0 [] ms))]:=by
    refine Z4o (W2 (Y3 (W2 (Y3 (X84 (fun w:Str=>X.d (.str w)) (fun w=>D.str w) (Y7e (Y0 rfl) (X81 fun w hw=>X3c w (hk.mem w hw))) (hz4 (by omega)) fun w _=>⟨_,rfl,rfl⟩) X7) (sorted_strs (by omega))) X7) X6e) X0
  unfold g_all_needs Z6v
  rw [W4h]
  show Y61 (an (ev0 6 [.d (.tup (ms.map mvD)), .d (.tup (eds.map edD))]) [])=_
  rw [show an (ev0 6 [.d (.tup (ms.map mvD)), .d (.tup (eds.map edD))]) []=_ from W8 p0 (W8 p1 p2)]
  rfl
end Lw
namespace Lw
open PySem PySem.Spec L2 Bv
open PyProof.Rows hiding St
variable [HasW]
def W6e:MG Bool:=(Q4 (W9 (Z8 (X9 1 (W1 [] (callP g_is_sequence))) (Z3 (Z4 1) (Z7)))))
def W6f:MS:=(Z1l "InvalidEvent" "at" (Z3 (m_c (.int 0)) (Z7)))
def W7f:MS:=(Z0r W6e W6f V4)
def W7g:MS:=(Z6d 2 3 (Z3 (Z2a (Z7)) (Z3 (Z2a (Z7)) (Z7))))
def W3u:MIt:=(Y2r (Z3 (Z4 1) (Z7)))
def Y4k:MS:=(W3 6 (Z8 (X9 1 (W1 [] (callP g_move_in))) (Z3 (Z4 5) (Z7))))
def X58:MG Bool:=(Z2b (U4 (Y5 isD (Z4 6) (m_c .non))) (Q4 (W9 (Z8 (X9 2 (W1 [] (callP g_is_possible))) (Z3 (Z4 6) (Z3 (Z4 2) (Z7)))))))
def X59:MS:=(Z1l "InvalidEvent" "at" (Z3 (Z4 4) (Z7)))
def Y4l:MS:=(Z0r X58 X59 V4)
def X3v:MS:=(U6 (Z4q Z0l V0 (Z4 3) (Z3 (Z4 6) (Z7))))
def Y9v:MG Bool:=(U4 (Y5 eqD (Z03 (Z4 6) (m_c (.int 0))) (m_c (.str "edition"))))
def X6a:MS:=(U6 (Z4q Z0l V0 (Z4 2) (Z3 (Z8 Z7e (Z3 (Z3r (.tp [(.nm 7),(.nm 8),(.nm 9)]) (Z0c (Z03 (Z4 6) (m_c (.int 1)))) (W0) (V3 (Z3 (Z4 7) (Z3 (Z4 8) (Z7)))) [7,8,9]) (Z7))) (Z7))))
def W0o:MS:=(Z0r Y9v X6a V4)
def X00:MS:=(Z9 Y4k (Z9 Y4l (Z9 X3v W0o)))
def W7z:MS:=(Z2y (.tp [(.nm 4),(.nm 5)]) W3u X00)
def W7h:MS:=(Z2d ["Story"] "events" (Z4 0) (Z8 Z7e (Z3 (Z4 1) (Z7))))
def W7i:MS:=(Z2d ["Story"] "editions" (Z4 0) (Z8 Z7e (Z3 (Z4 2) (Z7))))
def W7j:MS:=(Z2d ["Story"] "moves" (Z4 0) (Z8 Z7e (Z3 (Z4 3) (Z7))))
def W7k:MS:=(Z2d ["Story"] "asked_for" (Z4 0) (Z8 (X9 2 (W1 [] (callP g_all_needs))) (Z3 (Y9 ["Story"] "moves" (Z4 0)) (Z3 (Y9 ["Story", "Book"] "editions" (Z4 0)) (Z7)))))
def si:MS:=(Z9 W7f (Z9 W7g (Z9 W7z (Z9 W7h (Z9 W7i (Z9 W7j W7k))))))
theorem W3w:Z3u=si:=by kernel_rfl
theorem W2c {e e1 e2:Ev} {S S1:Sto} {x:X} {xs:List X} {C:Str} {fs:List (Str × D)} {t:Tg} {body:MS} {l:Lk} (h:l.ok S=true) (ha:t.asg S x e=some e1) (hb:body e1 S = .err C fs e2 S1):Z36 t l body (x :: xs) e S = .err C fs e2 S1:=by
  unfold Z36
  rw [if_pos h,ha]
  show (match body e1 S with
      | .go (.nx e2) S2=>Z36 t l body xs e2 S2
      | .go (.ct e2) S2=>Z36 t l body xs e2 S2
      | .go (.bk e2) S2 => .go (.nx e2) S2
      | r=>r)=_
  rw [hb]
theorem W0s {e e1:Ev} {S S1 S2:Sto} {xs:List X} {C:Str} {fs:List (Str × D)} {t:Tg} {mt:MIt} {body:MS} {l:Lk} (h:mt e S = .ok (xs,l) S1) (h2:Z36 t l body xs e S1 = .err C fs e1 S2):Z2y t mt body e S = .err C fs e1 S2:=by
  unfold Z2y
  rw [h]
  exact h2
theorem Y84 {S:Sto} {f:Str} {y:X} {fs:List (Str × X)} {r:Sto} (h:fs.length < 1000):Y7a ["Story"] f (S ++ .ins "Story" fs :: r) (.r S.length) y=some (S ++ .ins "Story" (X0q f y fs) :: r):=by
  have c:(["Story"]:List Str).contains ("Story" : Str)=true:=by rfl
  have g:(S++O.ins "Story" fs :: r)[S.length]?=some (.ins "Story" fs):=by simp
  unfold Y7a
  simp only [g]
  simp [c]
  omega
theorem X49 {C D:Str} {g:List X→Sto→R X} {xs:List X} {S S1 T:Sto} {fs:List (Str × Bv.D)} (h:g (.r S.length :: xs) (S++[.ins C []]) = .err D fs S1) (h2:cut S.length S1=some T):made C mkF g xs S = .err D fs T:=by
  unfold made
  rw [h]
  show (match cut S.length S1 with
    | some T=>R.err D fs T
    | none => .err D fs S1)=_
  rw [h2]
theorem X52 {N:Nat} {mb:MS} {xs:List X} {S S1 T:Sto} {e:Ev} {C:Str} {fs:List (Str × D)} (h:mb (ev0 N xs) S = .err C fs e S1) (h2:cut S.length S1=some T):Y1k N mb xs S = .err C fs T:=by
  unfold Y1k
  rw [h]
  show (match cut S.length S1 with
    | some T=>R.err C fs T
    | none => .err C fs S1)=_
  rw [h2]
def X4k (k:Nat):List D→List X
  | []=>[]
  | d :: r => .d (.tup [.int k,d]) :: X4k (k + 1) r
theorem X3d:∀ {ds:List D} {k i:Nat},(X4k k ds)[i]?=(ds[i]?).map fun d=>X.d (.tup [.int (k + i:Nat),d])
  | [],_,_=>by simp [X4k]
  | d :: r,k,0=>by simp [X4k]
  | d :: r,k,i + 1=>by
    have:=X3d (ds:=r) (k:=k + 1) (i:=i)
    simp only [X4k,List.getElem?_cons_succ,this]
    rw [show k + 1 + i=k + (i + 1) by omega]
theorem Y7s (ds:List D):numbered ds=X4k 0 ds:=by
  refine List.ext_getElem? fun i=>?_
  rw [X3d,Nat.zero_add]
  cases h:ds[i]? with
  | none =>
    have:(numbered ds).length ≤ i:=by rw [Z6t]; exact List.getElem?_eq_none_iff.mp h
    rw [List.getElem?_eq_none_iff.mpr this]
    rfl
  | some d=>exact Z7w h
abbrev It:=D × Option Mv
def W1l (it:It):Prop:=match it.2 with
  | some m=>Y4r m∧it.1 = .str (mvT m)
  | none=>g_move_in [it.1] = .ok .non
def Y1g (eds:List Ed):Mv→List Ed
  | .ed l=>eds++[l.map pk]
  | _=>eds
def scan (k:Nat) (eds:List Ed):List It→Option Nat
  | []=>none
  | (_,none) :: _=>some k
  | (_,some m) :: r=>if W0b eds m=true then scan (k + 1) (Y1g eds m) r else some k
def Z2x (eds:List Ed) (ms:List Mv):List Ed:=ms.foldl Y1g eds
def mvs (its:List It):List Mv:=its.filterMap (·.2)
theorem Y9k {eds:List Ed} {m:Mv} (h:∀ a ∈ eds,EdOk a) (hm:Y4r m):∀ a ∈ Y1g eds m,EdOk a:=fun a ha=>by
  cases m with
  | ed l =>
    rcases List.mem_append.mp ha with q | q
    · exact h a q
    · rw [List.mem_singleton.mp q]; exact W15 hm
  | gv p=>exact h a ha
  | gn p n=>exact h a ha
  | ck p=>exact h a ha
theorem Y5o {eds:List Ed} {m:Mv}:(Y1g eds m).length ≤ eds.length + 1:=by
  cases m with
  | ed l=>simp [Y1g]
  | gv p=>exact Nat.le_succ _
  | gn p n=>exact Nat.le_succ _
  | ck p=>exact Nat.le_succ _
theorem Y8u:∀ {ms:List Mv} {eds:List Ed},(∀ a ∈ eds,EdOk a)→(∀ m ∈ ms,Y4r m)→∀ a ∈ Z2x eds ms,EdOk a
  | [],_,h,_=>h
  | m :: r,eds,h,hm=>Y8u (ms:=r) (Y9k h (hm m (by simp))) fun x hx=>hm x (List.mem_cons_of_mem _ hx)
theorem Y5a:∀ {ms:List Mv} {eds:List Ed},(Z2x eds ms).length ≤ eds.length + ms.length
  | [],_=>Nat.le_refl _
  | m :: r,eds=>by
    have h1:=Y5a (ms:=r) (eds:=Y1g eds m)
    have h2:=Y5o (eds:=eds) (m:=m)
    rw [List.length_cons]
    show (Z2x (Y1g eds m) r).length ≤ _
    omega
theorem X66 {its:List It} (h:∀ it ∈ its,W1l it):∀ m ∈ mvs its,Y4r m:=fun m hm=>by
  obtain ⟨⟨x,o⟩,hit,e⟩:=List.mem_filterMap.mp hm
  have e:o=some m:=e
  subst e
  exact (show Y4r m∧x = .str (mvT m) from h _ hit).1
section
variable {B:Sto} {fs:List (Str × X)} {eds:List Ed} {ms:List Mv}
def stS (B:Sto) (fs:List (Str × X)) (eds:List Ed) (ms:List Mv):Sto:=B++[.ins "Story" fs, .lst ((eds.map edD).map X.d), .lst ((ms.map mvD).map X.d)]
def evS (n:Nat) (d:X) (o4 o5 o6 o7 o8 o9:Option X):Ev:=[some (.r n),some d,some (.r (n + 1)),some (.r (n + 2)),o4,o5,o6,o7,o8,o9]
theorem st1:(stS B fs eds ms)[B.length + 1]?=some (.lst ((eds.map edD).map X.d)):=by simp [stS]
theorem st2:(stS B fs eds ms)[B.length + 2]?=some (.lst ((ms.map mvD).map X.d)):=by simp [stS]
theorem W7y {o:O}:(stS B fs eds ms).set (B.length + 1) o=B++[.ins "Story" fs,o, .lst ((ms.map mvD).map X.d)]:=by simp [stS]
theorem W6d {o:O}:(stS B fs eds ms).set (B.length + 2) o=B++[.ins "Story" fs, .lst ((eds.map edD).map X.d),o]:=by simp [stS]
theorem X65 {m:Mv}:isD (mvD m) .non=some (.bl false):=by cases m <;> rfl
theorem Y57 {m:Mv} (h:∀ l ∈ eds,EdOk l):callP g_is_possible [.d (mvD m), .r (B.length + 1)] (stS B fs eds ms) = .ok (.d (.bl (W0b eds m))) (stS B fs eds ms):=by
  refine W4s (ds:=[mvD m,Z8k eds]) ?_ (W0d h) rfl
  unfold Z8l Z8l Z8l
  rw [X0,X6s st1]
  rfl
theorem W0p {m:Mv} {d:X} {k:Nat} {o6 o7 o8 o9:Option X} (hd:Y4r m) (he:∀ l ∈ eds,EdOk l) (hp:W0b eds m=true) (hl:eds.length < 60∧ms.length < 60):X00 (evS B.length d (some (.d (.int k))) (some (.d (.str (mvT m)))) o6 o7 o8 o9) (stS B fs eds ms) = .go (.nx (evS B.length d (some (.d (.int k))) (some (.d (.str (mvT m)))) (some (.d (mvD m))) o7 o8 o9)) (stS B fs (Y1g eds m) (ms++[m])):=by
  have q0:Y4k (evS B.length d (some (.d (.int k))) (some (.d (.str (mvT m)))) o6 o7 o8 o9) (stS B fs eds ms) = .go (.nx (evS B.length d (some (.d (.int k))) (some (.d (.str (mvT m)))) (some (.d (mvD m))) o7 o8 o9)) (stS B fs eds ms):=by
    exact (Z2w (W2 (Y3 (Y0 rfl) X7) (Z1s rfl (Z8v (X23 hd)))))
  have pc:=Y57 (B:=B) (fs:=fs) (ms:=ms) (m:=m) he
  rw [hp] at pc
  have q1:Y4l (evS B.length d (some (.d (.int k))) (some (.d (.str (mvT m)))) (some (.d (mvD m))) o7 o8 o9) (stS B fs eds ms) = .go (.nx (evS B.length d (some (.d (.int k))) (some (.d (.str (mvT m)))) (some (.d (mvD m))) o7 o8 o9)) (stS B fs eds ms):=by
    exact (Z0y (Z69 (Z0e (W5 (Y0 rfl) Z0d (X0) (X0) (X65))) (Z8w (Z4t (W2 (Y3 (Y0 rfl) (Y3 (Y0 rfl) X7)) (Z1s rfl (pc))) (rfl)))) Z10)
  have z2:((ms.map mvD).map X.d).length < sizeLine:=by rw [List.length_map,List.length_map,sizeLine_eq]; omega
  have z1:((eds.map edD).map X.d).length < sizeLine:=by rw [List.length_map,List.length_map,sizeLine_eq]; omega
  have q2:X3v (evS B.length d (some (.d (.int k))) (some (.d (.str (mvT m)))) (some (.d (mvD m))) o7 o8 o9) (stS B fs eds ms) = .go (.nx (evS B.length d (some (.d (.int k))) (some (.d (.str (mvT m)))) (some (.d (mvD m))) o7 o8 o9)) (stS B fs eds (ms++[m])):=by
    refine Z9h (x := .d .non) (X0a (Y0 rfl) (Z8a st2) (Y3 (Y0 rfl) X7) ?_)
    rw [Y4v st2 z2,W6d]
    unfold stS
    rw [List.map_append,List.map_append]
    rfl
  refine W8 q0 (W8 q1 (W8 q2 ?_))
  have gc:("give" : Str) ≠ "edition" ∧ ("check" : Str) ≠ "edition" := by decide +kernel
  have ne1:eqD (.str "give") (.str "edition")=some (.bl false):=by rw [Y04,decide_eq_false gc.1]
  have ne2:eqD (.str "check") (.str "edition")=some (.bl false):=by rw [Y04,decide_eq_false gc.2]
  cases m with
  | ed l =>
    have lc:∀ T:Sto,Z3r (.tp [(.nm 7),(.nm 8),(.nm 9)]) (Z0c (Z03 (Z4 6) (m_c (.int 1)))) (W0) (V3 (Z3 (Z4 7) (Z3 (Z4 8) (Z7)))) [7,8,9] (evS B.length d (some (.d (.int k))) (some (.d (.str (mvT (.ed l))))) (some (.d (mvD (.ed l)))) o7 o8 o9) T = .ok (.d (.lst ((l.map pk).map pkD))) T:=fun T=>by
      have q:=X2j (t := .tp [(.nm 7),(.nm 8),(.nm 9)]) (mi:=Z0c (Z03 (Z4 6) (m_c (.int 1)))) (me:=V3 (Z3 (Z4 7) (Z3 (Z4 8) (Z7)))) (vs:=[7,8,9]) (e:=evS B.length d (some (.d (.int k))) (some (.d (.str (mvT (.ed l))))) (some (.d (mvD (.ed l)))) o7 o8 o9) (S:=T) (fun x:Pl=>X.d (plD x)) (fun x=>D.tup [.int x.1, .str x.2.1]) (l:=l) (by
        refine Z4w (Z2z (Y0 rfl) Z0d rfl) ?_
        rw [Y1r,List.map_map]
        rfl) (hz4 (by have:=hd.2.2; omega)) fun x _=>⟨_,rfl,Z4u (ds:=[.int x.1, .str x.2.1]) (Y3 (Y0 rfl) (Y3 (Y0 rfl) X7)) rfl (hz4 (by simp))⟩
      rw [List.map_map]
      exact q
    have t:Y9v (evS B.length d (some (.d (.int k))) (some (.d (.str (mvT (.ed l))))) (some (.d (mvD (.ed l)))) o7 o8 o9) (stS B fs eds (ms++[Mv.ed l])) = .ok true (stS B fs eds (ms++[Mv.ed l])):=by
      exact (Z0e (W5 (Z2z (Y0 rfl) Z0d (rfl)) Z0d (X0) (X0) (rfl)))
    refine Z5h t (Z9h (x := .d .non) (X0a (Y0 rfl) (Z8a st1) (Y3 (W2 (Y3 (lc _) X7) X6e) X7) ?_))
    rw [Y4v st1 z1,W7y]
    show _=R.ok _ (stS B fs (eds++[l.map pk]) (ms++[Mv.ed l]))
    unfold stS
    rw [List.map_append (f:=edD),List.map_append (f:=X.d) (l₁:=eds.map edD)]
    rfl
  | gv p=>exact (Z0y (Z0e (W5 (Z2z (Y0 rfl) Z0d (rfl)) Z0d (X0) (X0) (ne1))) Z10)
  | gn p n=>exact (Z0y (Z0e (W5 (Z2z (Y0 rfl) Z0d (rfl)) Z0d (X0) (X0) (ne1))) Z10)
  | ck p=>exact (Z0y (Z0e (W5 (Z2z (Y0 rfl) Z0d (rfl)) Z0d (X0) (X0) (ne2))) Z10)
theorem W3v {it:It} {d:X} {k:Nat} {o6 o7 o8 o9:Option X} (hi:W1l it) (he:∀ l ∈ eds,EdOk l) (hp:∀ m,it.2=some m→W0b eds m=false):∃ e2,X00 (evS B.length d (some (.d (.int k))) (some (.d it.1)) o6 o7 o8 o9) (stS B fs eds ms) = .err "InvalidEvent" [("at", .int k)] e2 (stS B fs eds ms):=by
  obtain ⟨x,o⟩:=it
  cases o with
  | none =>
    have hi:g_move_in [x] = .ok .non:=hi
    have q0:Y4k (evS B.length d (some (.d (.int k))) (some (.d x)) o6 o7 o8 o9) (stS B fs eds ms) = .go (.nx (evS B.length d (some (.d (.int k))) (some (.d x)) (some (.d .non)) o7 o8 o9)) (stS B fs eds ms):=by
      exact (Z2w (W2 (Y3 (Y0 rfl) X7) (Z1s rfl (Z8v (hi)))))
    have q1:Y4l (evS B.length d (some (.d (.int k))) (some (.d x)) (some (.d .non)) o7 o8 o9) (stS B fs eds ms) = .err "InvalidEvent" [("at", .int k)] (evS B.length d (some (.d (.int k))) (some (.d x)) (some (.d .non)) o7 o8 o9) (stS B fs eds ms):=by
      exact (Z5h (W2b (Z0e (W5 (Y0 rfl) Z0d (X0) (X0) (rfl)))) (Y9z (Y3 (Y0 rfl) X7)))
    exact ⟨_,W8 q0 (Y8b q1)⟩
  | some m =>
    obtain ⟨hm,hx⟩:=(show Y4r m∧x = .str (mvT m) from hi)
    subst hx
    have pc:=Y57 (B:=B) (fs:=fs) (ms:=ms) (m:=m) he
    rw [hp m rfl] at pc
    have q0:Y4k (evS B.length d (some (.d (.int k))) (some (.d (.str (mvT m)))) o6 o7 o8 o9) (stS B fs eds ms) = .go (.nx (evS B.length d (some (.d (.int k))) (some (.d (.str (mvT m)))) (some (.d (mvD m))) o7 o8 o9)) (stS B fs eds ms):=by
      exact (Z2w (W2 (Y3 (Y0 rfl) X7) (Z1s rfl (Z8v (X23 hm)))))
    have q1:Y4l (evS B.length d (some (.d (.int k))) (some (.d (.str (mvT m)))) (some (.d (mvD m))) o7 o8 o9) (stS B fs eds ms) = .err "InvalidEvent" [("at", .int k)] (evS B.length d (some (.d (.int k))) (some (.d (.str (mvT m)))) (some (.d (mvD m))) o7 o8 o9) (stS B fs eds ms):=by
      exact (Z5h (Z69 (Z0e (W5 (Y0 rfl) Z0d (X0) (X0) (X65))) (X79 (Z4t (W2 (Y3 (Y0 rfl) (Y3 (Y0 rfl) X7)) (Z1s rfl (pc))) (rfl)))) (Y9z (Y3 (Y0 rfl) X7)))
    exact ⟨_,W8 q0 (Y8b q1)⟩
theorem X3w {d:X} {lk:Lk} (hlk:∀ T,lk.ok (B++T)=true):∀ {its:List It} {k:Nat} {eds:List Ed} {ms:List Mv} {o4 o5 o6 o7 o8 o9:Option X},(∀ it ∈ its,W1l it)→(∀ l ∈ eds,EdOk l)→eds.length + its.length < 60→ms.length + its.length < 60 →
    (match scan k eds its with
    | none=>∃ o4' o5' o6' o7' o8' o9',Z36 (.tp [(.nm 4),(.nm 5)]) lk X00 (X4k k (its.map (·.1))) (evS B.length d o4 o5 o6 o7 o8 o9) (stS B fs eds ms) = .go (.nx (evS B.length d o4' o5' o6' o7' o8' o9')) (stS B fs (Z2x eds (mvs its)) (ms++mvs its))
    | some j=>∃ e2 eds2 ms2,Z36 (.tp [(.nm 4),(.nm 5)]) lk X00 (X4k k (its.map (·.1))) (evS B.length d o4 o5 o6 o7 o8 o9) (stS B fs eds ms) = .err "InvalidEvent" [("at", .int j)] e2 (stS B fs eds2 ms2))
  | [],k,eds,ms,o4,o5,o6,o7,o8,o9,_,_,_,_=>⟨o4,o5,o6,o7,o8,o9,by
    show Z36 _ _ _ [] _ _=RO.go _ (stS B fs eds (ms++[]))
    rw [List.append_nil]
    exact Z8z (hlk _)⟩
  | it :: r,k,eds,ms,o4,o5,o6,o7,o8,o9,hi,he,h1,h2=>by
    have h0:=hi it (by simp)
    rw [List.length_cons] at h1 h2
    have bad:(∀ m,it.2=some m→W0b eds m=false)→∃ e2 eds2 ms2,Z36 (.tp [(.nm 4),(.nm 5)]) lk X00 (X4k k ((it :: r).map (·.1))) (evS B.length d o4 o5 o6 o7 o8 o9) (stS B fs eds ms) = .err "InvalidEvent" [("at", .int k)] e2 (stS B fs eds2 ms2):=fun hp=>by
      obtain ⟨e2,q⟩:=W3v (B:=B) (fs:=fs) (eds:=eds) (ms:=ms) (it:=it) (d:=d) (k:=k) (o6:=o6) (o7:=o7) (o8:=o8) (o9:=o9) h0 he hp
      exact ⟨e2,eds,ms,W2c (hlk _) rfl q⟩
    obtain ⟨x,o⟩:=it
    cases o with
    | none=>exact bad fun m e=>nomatch e
    | some m =>
      obtain ⟨hm,hx⟩:=(show Y4r m∧x = .str (mvT m) from h0)
      subst hx
      cases hp:W0b eds m with
      | false =>
        have e:scan k eds ((.str (mvT m),some m) :: r)=some k:=if_neg (by rw [hp]; simp)
        rw [e]
        exact bad fun m' e'=>by cases e'; exact hp
      | true =>
        have e:scan k eds ((.str (mvT m),some m) :: r)=scan (k + 1) (Y1g eds m) r:=if_pos hp
        rw [e]
        have q:=W0p (B:=B) (fs:=fs) (eds:=eds) (ms:=ms) (d:=d) (k:=k) (o6:=o6) (o7:=o7) (o8:=o8) (o9:=o9) hm he hp (by omega)
        have nl:=Y5o (eds:=eds) (m:=m)
        have ih:=X3w (d:=d) (lk:=lk) hlk (its:=r) (k:=k + 1) (eds:=Y1g eds m) (ms:=ms++[m]) (o4:=some (.d (.int k))) (o5:=some (.d (.str (mvT m)))) (o6:=some (.d (mvD m))) (o7:=o7) (o8:=o8) (o9:=o9) (fun i hh=>hi i (List.mem_cons_of_mem _ hh)) (Y9k he hm) (by omega) (by rw [List.length_append,List.length_singleton]; omega)
        cases hs:scan (k + 1) (Y1g eds m) r with
        | none =>
          rw [hs] at ih
          obtain ⟨a4,a5,a6,a7,a8,a9,z⟩:=ih
          refine ⟨a4,a5,a6,a7,a8,a9,Y2p (hlk _) rfl q ?_⟩
          rw [z,List.append_assoc]
          rfl
        | some j =>
          rw [hs] at ih
          obtain ⟨e2,eds2,ms2,z⟩:=ih
          exact ⟨e2,eds2,ms2,Y2p (hlk _) rfl q z⟩
end
def W5p (ds:List D) (eds:List Ed) (ms:List Mv):D := .obj "Story" [("events", .tup ds),("editions", .tup (eds.map edD)),("moves", .tup (ms.map mvD)),("asked_for",Y2a eds ms)]
structure Seq (v:D) (ds:List D):Prop where
  seq:g_is_sequence [v] = .ok (.bl true)
  num:X74 [.d v]=some (numbered ds, .free)
  tup:∀ S,Z7e [.d v] S = .ok (.d (.tup ds)) S
theorem W0n (ds:List D):Seq (.lst ds) ds:=⟨rfl,rfl,fun _=>X6e⟩
structure SeqX (B:Sto) (x:X) (ds:List D):Prop where
  seq:∀ T,callP g_is_sequence [x] (B++T) = .ok (.d (.bl true)) (B++T)
  num:∀ T,∃ lk,Y5b (B++T) [x]=some (numbered ds,lk)∧∀ T,lk.ok (B++T)=true
  tup:∀ T,Z7e [x] (B++T) = .ok (.d (.tup ds)) (B++T)
theorem W3t {B:Sto} {v:D} {ds:List D} (h:Seq v ds):SeqX B (.d v) ds:=⟨fun T=>Z8v h.seq,fun T=>⟨.free,h.num,fun _=>rfl⟩,fun T=>h.tup _⟩
theorem Y8c {B:Sto} {v:X} {its:List It} (hB:OkS B) (hv:SeqX B v (its.map (·.1))) (hi:∀ it ∈ its,W1l it) (hl:its.length < 50):made "Story" mkF Z0b [v] B=match scan 0 [] its with
    | none => .ok (.d (W5p (its.map (·.1)) (Z2x [] (mvs its)) (mvs its))) B
    | some j => .err "InvalidEvent" [("at", .int j)] B:=by
  have hB1:OkS (B++[.ins "Story" []]):=hB.push rfl
  have q0:W7f (ev0 10 [.r B.length,v]) (B++[.ins "Story" []]) = .go (.nx (ev0 10 [.r B.length,v])) (B++[.ins "Story" []]):=by
    exact (Z0y (Z8w (Z4t (W2 (Y3 (Y0 rfl) X7) (Z1s rfl (hv.seq _))) (rfl))) Z10)
  have q1:W7g (ev0 10 [.r B.length,v]) (B++[.ins "Story" []]) = .go (.nx (evS B.length v none none none none none none)) (stS B [] [] []):=by
    have e1:(B++[O.ins "Story" []]).length=B.length + 1:=by simp
    have e2:(B++[O.ins "Story" []]++[O.lst []]).length=B.length + 2:=by simp
    refine (W3z (Y3 (X1w X7 (by decide)) (Y3 (X1w X7 (by decide)) X7))).trans ?_
    rw [e2,e1]
    unfold stS
    simp [ev0,evS]
  obtain ⟨lk,hnum,hlk⟩:=hv.num [.ins "Story" [], .lst [], .lst []]
  have it:W3u (evS B.length v none none none none none none) (stS B [] [] []) = .ok (X4k 0 (its.map (·.1)),lk) (stS B [] [] []):=by
    show Z4r (Y5b (stS B [] [] []) [v]) (stS B [] [] [])=_
    rw [show Y5b (stS B [] [] []) [v]=_ from hnum,Y7s]
    rfl
  have lp:=X3w (B:=B) (fs:=[]) (lk:=lk) hlk (d:=v) (its:=its) (k:=0) (eds:=[]) (ms:=[]) (o4:=none) (o5:=none) (o6:=none) (o7:=none) (o8:=none) (o9:=none) hi (fun _ h=>absurd h List.not_mem_nil) (by simp; omega) (by simp; omega)
  cases hs:scan 0 [] its with
  | some j =>
    rw [hs] at lp
    obtain ⟨e2,eds2,ms2,z⟩:=lp
    have r:Z3u (ev0 10 [.r B.length,v]) (B++[.ins "Story" []]) = .err "InvalidEvent" [("at", .int j)] e2 (stS B [] eds2 ms2):=by
      rw [W3w]
      exact W8 q0 (W8 q1 (Y8b (W0s it z)))
    have e:stS B [] eds2 ms2=(B++[.ins "Story" []])++[.lst ((eds2.map edD).map X.d), .lst ((ms2.map mvD).map X.d)]:=by simp [stS]
    have c:cut (B++[O.ins "Story" []]).length (stS B [] eds2 ms2)=some (B++[.ins "Story" []]):=by rw [e]; exact hB1.cut
    exact X49 (X52 r c) hB.cut
  | none =>
    rw [hs] at lp
    obtain ⟨o4,o5,o6,o7,o8,o9,z⟩:=lp
    rw [List.nil_append] at z
    have hE:∀ a ∈ Z2x [] (mvs its),EdOk a:=Y8u (fun _ h=>absurd h List.not_mem_nil) (X66 hi)
    have hM:=X66 hi
    have hl2:(Z2x [] (mvs its)).length < 60:=by
      have h1:=Y5a (ms:=mvs its) (eds:=[])
      have h2:(mvs its).length ≤ its.length:=List.length_filterMap_le _ _
      rw [List.length_nil] at h1
      omega
    have an:=Y4t hE hl2 hM
    have at_:∀ {Cs:List Str} (_:Cs.contains ("Story" : Str)=true) (f:Str) (fs:List (Str × X)) (y:X),fs.lookup f=some y→Z5r Cs f (stS B fs (Z2x [] (mvs its)) (mvs its)) (.r B.length)=some y:=fun {Cs} c f fs y h=>by
      have g:(stS B fs (Z2x [] (mvs its)) (mvs its))[B.length]?=some (.ins "Story" fs):=by simp [stS]
      unfold Z5r
      simp only [g]
      rw [if_pos c,h]
    have q3:W7h (evS B.length v o4 o5 o6 o7 o8 o9) (stS B [] (Z2x [] (mvs its)) (mvs its)) = .go (.nx (evS B.length v o4 o5 o6 o7 o8 o9)) (stS B [("events", .d (.tup (its.map (·.1))))] (Z2x [] (mvs its)) (mvs its)):=by
      exact (Y9y (W2 (Y3 (Y0 rfl) X7) (hv.tup _)) (Y0 rfl) (Y84 (by decide)))
    have q4:W7i (evS B.length v o4 o5 o6 o7 o8 o9) (stS B [("events", .d (.tup (its.map (·.1))))] (Z2x [] (mvs its)) (mvs its)) = .go (.nx (evS B.length v o4 o5 o6 o7 o8 o9)) (stS B [("events", .d (.tup (its.map (·.1)))),("editions", .d (.tup ((Z2x [] (mvs its)).map edD)))] (Z2x [] (mvs its)) (mvs its)):=by
      exact (Y9y (W2 (Y3 (Y0 rfl) X7) (X4b st1)) (Y0 rfl) (Y84 (by simp)))
    have q5:W7j (evS B.length v o4 o5 o6 o7 o8 o9) (stS B [("events", .d (.tup (its.map (·.1)))),("editions", .d (.tup ((Z2x [] (mvs its)).map edD)))] (Z2x [] (mvs its)) (mvs its)) = .go (.nx (evS B.length v o4 o5 o6 o7 o8 o9)) (stS B [("events", .d (.tup (its.map (·.1)))),("editions", .d (.tup ((Z2x [] (mvs its)).map edD))),("moves", .d (.tup ((mvs its).map mvD)))] (Z2x [] (mvs its)) (mvs its)):=by
      exact (Y9y (W2 (Y3 (Y0 rfl) X7) (X4b st2)) (Y0 rfl) (Y84 (by simp)))
    have q6:W7k (evS B.length v o4 o5 o6 o7 o8 o9) (stS B [("events", .d (.tup (its.map (·.1)))),("editions", .d (.tup ((Z2x [] (mvs its)).map edD))),("moves", .d (.tup ((mvs its).map mvD)))] (Z2x [] (mvs its)) (mvs its)) = .go (.nx (evS B.length v o4 o5 o6 o7 o8 o9)) (stS B [("events", .d (.tup (its.map (·.1)))),("editions", .d (.tup ((Z2x [] (mvs its)).map edD))),("moves", .d (.tup ((mvs its).map mvD))),("asked_for", .d (Y2a (Z2x [] (mvs its)) (mvs its)))] (Z2x [] (mvs its)) (mvs its)):=by
      exact (Y9y (W2 (Y3 (Z6n (Y0 rfl) (at_ rfl _ _ _ rfl)) (Y3 (Z6n (Y0 rfl) (at_ rfl _ _ _ rfl)) X7)) (Z1s rfl (X1s (an)))) (Y0 rfl) (Y84 (by simp)))
    have r:Z3u (ev0 10 [.r B.length,v]) (B++[.ins "Story" []]) = .go (.nx (evS B.length v o4 o5 o6 o7 o8 o9)) (stS B [("events", .d (.tup (its.map (·.1)))),("editions", .d (.tup ((Z2x [] (mvs its)).map edD))),("moves", .d (.tup ((mvs its).map mvD))),("asked_for", .d (Y2a (Z2x [] (mvs its)) (mvs its)))] (Z2x [] (mvs its)) (mvs its)):=by
      rw [W3w]
      exact W8 q0 (W8 q1 (W8 (Y25 it z) (W8 q3 (W8 q4 (W8 q5 q6)))))
    generalize hfs:([("events", .d (.tup (its.map (·.1)))),("editions", .d (.tup ((Z2x [] (mvs its)).map edD))),("moves", .d (.tup ((mvs its).map mvD))),("asked_for", .d (Y2a (Z2x [] (mvs its)) (mvs its)))]:List (Str × X))=fs4 at r
    have ok4:okO ((B++[O.ins "Story" fs4]).length) (.ins "Story" fs4)=true:=by rw [← hfs]; rfl
    have hB4:OkS (B++[.ins "Story" fs4]):=hB.push (by
      have:=ok4
      rw [List.length_append,List.length_singleton] at this
      exact this)
    have e:stS B fs4 (Z2x [] (mvs its)) (mvs its)=(B++[.ins "Story" fs4])++[.lst (((Z2x [] (mvs its)).map edD).map X.d), .lst (((mvs its).map mvD).map X.d)]:=by simp [stS]
    have ln:(B++[O.ins "Story" []]).length=(B++[O.ins "Story" fs4]).length:=by simp
    have c:cut (B++[O.ins "Story" []]).length (stS B fs4 (Z2x [] (mvs its)) (mvs its))=some (B++[.ins "Story" fs4]):=by rw [e,ln]; exact hB4.cut
    refine W2p (W0i r c) ?_ hB.cut
    have g:(B++[O.ins "Story" fs4])[B.length]?=some (.ins "Story" fs4):=by simp
    unfold frz
    simp only [g]
    rw [← hfs]
    rfl
theorem X04 {B:Sto} {v:D} {its:List It} (hB:OkS B) (hv:Seq v (its.map (·.1))) (hi:∀ it ∈ its,W1l it) (hl:its.length < 50):made "Story" mkF Z0b [.d v] B=match scan 0 [] its with
    | none => .ok (.d (W5p (its.map (·.1)) (Z2x [] (mvs its)) (mvs its))) B
    | some j => .err "InvalidEvent" [("at", .int j)] B:=Y8c hB (W3t hv) hi hl
end Lw
namespace Bv
open PySem PySem.Spec L2
open PyProof.Rows hiding St
variable [HasW]
def Fw (r:RO) (Q:RO→Prop):Prop:=Q r
def Nx (P:Ev→Sto→Prop) (r:RO):Prop:=∃ e S,r = .go (.nx e) S∧P e S
section
variable {e e1 e2:Ev} {S S1 S2 S3 S4:Sto} {m ma mb mc mo mi mx:M} {ms:MG (List X)} {mt mt2:MG Bool} {x y z w:X} {xs ys:List X} {d d1 d2 d3 d4:D} {r:R X} {rb:R Bool} {ro:RO} {b c b1 b2:Bool} {i j l:Nat} {Q Q2:RO→Prop} {k k1 k2:MS}
theorem Fw.eq (h:ro = .go (.nx e) S) (h2:Q (.go (.nx e) S)):Fw ro Q:=by unfold Fw; rw [h]; exact h2
theorem Fw.mono (h:Fw ro Q) (h2:∀ r,Q r→Q2 r):Fw ro Q2:=h2 _ h
theorem Fw.seq (h:k1 e S = .go (.nx e1) S1) (h2:Fw (k e1 S1) Q):Fw (Z9 k1 k e S) Q:=by
  unfold Fw
  rw [W8 h rfl]
  exact h2
theorem Fw.one (h:Fw (Z9 k V4 e S) Q):Fw (k e S) Q:=by
  have q:Z9 k V4 e S=k e S:=by
    unfold Z9
    cases h:k e S with
    | go o T=>cases o <;> rfl
    | err C fs e T=>rfl
    | bad=>rfl
  unfold Fw at h ⊢
  rw [q] at h
  exact h
theorem Fw.nil (h:Q (.go (.nx e) S)):Fw (V4 e S) Q:=h
theorem Fw.seqNil (h:Fw (k e S) Q):Fw (Z9 V4 k e S) Q:=h
theorem Fw.set (h:m e S = .ok x S1) (h2:Fw (k (e.set i (some x)) S1) Q):Fw (Z9 (W3 i m) k e S) Q := .seq (Z2w h) h2
theorem Fw.retP (h:m e S = .ok x S1) (hg:x.get S1=some d) (h2:Q (.go (.rp d) S1)):Fw (Z9 (V1 m) k e S) Q:=by
  unfold Fw
  rw [Y1o (Z4o h hg)]
  exact h2
theorem Fw.if_ (h:mt e S = .ok b S1) (h2:Fw (if b=true then Z9 k1 k e S1 else Z9 k2 k e S1) Q):Fw (Z9 (Z0r mt k1 k2) k e S) Q:=by
  have q:Z9 (Z0r mt k1 k2) k e S=if b=true then Z9 k1 k e S1 else Z9 k2 k e S1:=by
    have z:Z0r mt k1 k2 e S=if b=true then k1 e S1 else k2 e S1:=by unfold Z0r; rw [h]; rfl
    unfold Z9
    rw [z]
    cases b <;> rfl
  unfold Fw at h2 ⊢
  rw [q]
  exact h2
theorem Fw.iff (h:Fw (k2 e S) Q):Fw (if false=true then ro else k2 e S) Q:=h
section
variable {t:Tg} {Cs:List Str} {f C:Str} {f2:D→D→Option D} {mit:MIt} {tab:List (Str × Bool)} {sx:SX} {mx2:Ev→SX}
end
inductive Trn (P P2:Ev→Sto→Prop) (Q:RO→Prop):RO→Prop where
  | nx {ε:Ev} {σ:Sto} (h:P ε σ):Trn P P2 Q (.go (.nx ε) σ)
  | ct {ε:Ev} {σ:Sto} (h:P ε σ):Trn P P2 Q (.go (.ct ε) σ)
  | bk {ε:Ev} {σ:Sto} (h:P2 ε σ):Trn P P2 Q (.go (.bk ε) σ)
  | rt {ξ:X} {σ:Sto} (h:Q (.go (.rt ξ) σ)):Trn P P2 Q (.go (.rt ξ) σ)
  | rp {δ:D} {σ:Sto} (h:Q (.go (.rp δ) σ)):Trn P P2 Q (.go (.rp δ) σ)
  | err {C:Str} {fs:List (Str × D)} {ε:Ev} {σ:Sto} (h:Q (.err C fs ε σ)):Trn P P2 Q (.err C fs ε σ)
theorem X55 (h:Z9 k1 k e S=k1 e S) (hq:Q (k1 e S)):Fw (Z9 k1 k e S) Q:=by
  unfold Fw
  rw [h]
  exact hq
theorem Z8y {α:Type} {t:Tg} {lk:Lk} {body:MS} (f:α→X) (I:List α→Ev→Sto→Prop) (P2:Ev→Sto→Prop) (hok:∀ l e S,I l e S→lk.ok S=true)
    (step:∀ a l e S,I (a :: l) e S→∃ e1,t.asg S (f a) e=some e1∧Fw (body e1 S) (Trn (I l) P2 Q)) :
    ∀ (l:List α) (e:Ev) (S:Sto),I l e S→(∃ e2 S2,Z36 t lk body (l.map f) e S = .go (.nx e2) S2∧(I [] e2 S2 ∨ P2 e2 S2)) ∨ ((∀ e2 S2,Z36 t lk body (l.map f) e S ≠ .go (.nx e2) S2)∧Q (Z36 t lk body (l.map f) e S))
  | [],e,S,h => .inl ⟨e,S,Z8z (hok _ _ _ h), .inl h⟩
  | a :: l,e,S,h=>by
    obtain ⟨e1,h1,h2⟩:=step a l e S h
    have u:Z36 t lk body ((a :: l).map f) e S=(match body e1 S with
      | .go (.nx e2) S2=>Z36 t lk body (l.map f) e2 S2
      | .go (.ct e2) S2=>Z36 t lk body (l.map f) e2 S2
      | .go (.bk e2) S2 => .go (.nx e2) S2
      | r=>r):=by
      show Z36 t lk body (f a :: l.map f) e S=_
      rw [Z36,if_pos (hok _ _ _ h),h1]
      try rfl
    rw [u]
    unfold Fw at h2
    generalize hb:body e1 S=r at h2
    cases h2 with
    | nx h=>exact Z8y f I P2 hok step l _ _ h
    | ct h=>exact Z8y f I P2 hok step l _ _ h
    | bk h=>exact .inl ⟨_,_,rfl, .inr h⟩
    | rt h=>exact .inr ⟨fun _ _ q=>(nomatch q),h⟩
    | rp h=>exact .inr ⟨fun _ _ q=>(nomatch q),h⟩
    | err h=>exact .inr ⟨fun _ _ q=>(nomatch q),h⟩
theorem Fw.for_ {α:Type} {t:Tg} {it:MIt} {lk:Lk} {body:MS} {f:α→X} {l:List α} (hi:it e S = .ok (l.map f,lk) S1) (I:List α→Ev→Sto→Prop) (P2:Ev→Sto→Prop) (h0:I l e S1) (hok:∀ l e S,I l e S→lk.ok S=true)
    (step:∀ a l e S,I (a :: l) e S→∃ e1,t.asg S (f a) e=some e1∧Fw (body e1 S) (Trn (I l) P2 Q)) (fin:∀ e2 S2,I [] e2 S2 ∨ P2 e2 S2→Fw (k e2 S2) Q):Fw (Z9 (Z2y t it body) k e S) Q:=by
  have z:Z2y t it body e S=Z36 t lk body (l.map f) e S1:=Y25 hi rfl
  rcases Z8y f I P2 hok step l e S1 h0 with ⟨e2,S2,h,h2⟩ | ⟨h,h2⟩
  · exact .seq (z.trans h) (fin e2 S2 h2)
  · rw [← z] at h h2
    refine X55 ?_ h2
    unfold Z9
    cases q:Z2y t it body e S with
    | go o T=>cases o with
      | nx e2=>exact (h e2 T q).elim
      | _=>rfl
    | err C fs e T=>rfl
    | bad=>rfl
theorem Fw.forI {t:Tg} {it:MIt} {lk:Lk} {body:MS} (hi:it e S = .ok (xs,lk) S1) (I:Ev→Sto→Prop) (h0:I e S1) (hok:∀ e S,I e S→lk.ok S=true)
    (step:∀ x ∈ xs,∀ e S,I e S→∃ e1,t.asg S x e=some e1∧Fw (body e1 S) (Trn I I Q)) (fin:∀ e2 S2,I e2 S2→Fw (k e2 S2) Q):Fw (Z9 (Z2y t it body) k e S) Q:=by
  have hi':it e S = .ok (xs.map id,lk) S1:=by rw [List.map_id]; exact hi
  refine Fw.for_ hi' (fun l e S=>(∀ x ∈ l,x ∈ xs)∧I e S) I ⟨fun _ h=>h,h0⟩ (fun l e S h=>hok e S h.2) (fun a l e S h=>?_) fun e2 S2 h=>fin e2 S2 (h.elim (fun h=>h.2) id)
  obtain ⟨e1,h1,h2⟩:=step a (h.1 a (by simp)) e S h.2
  refine ⟨e1,h1,h2.mono fun r hr=>?_⟩
  cases hr with
  | nx q=>exact .nx ⟨fun x hx=>h.1 x (List.mem_cons_of_mem _ hx),q⟩
  | ct q=>exact .ct ⟨fun x hx=>h.1 x (List.mem_cons_of_mem _ hx),q⟩
  | bk q=>exact .bk q
  | rt q=>exact .rt q
  | rp q=>exact .rp q
  | err q=>exact .err q
theorem W0j {N:Nat} {mb:MS} {ds:List D} {p:PR} (h:Fw (mb (ev0 N (ds.map .d)) []) (fun r=>Y61 r=p)):Z6v N mb ds=p:=h
end
end Bv
namespace Bv
open PySem PySem.Spec L2
open PyProof.Rows hiding St
variable [HasW]
def fl:Nat→D→Bool
  | _, .non=>true
  | _, .int _=>true
  | _, .str _=>true
  | n + 1, .tup ds=>ds.all (fl n)
  | n + 1, .lst ds=>ds.all (fl n)
  | _,_=>false
theorem W3k {ns:List Int} {lo hi:Nat} {e:Ev} {S:Sto} (h1:lo < 100:=by decide) (h2:hi < 100:=by decide):Y2s (Z3 (Z8 (Z5x X4i) (Z3 (m_c (.int lo)) (Z3 (Z8 (Z5x X4j) (Z3 (m_c (.int hi)) (Z3 (Z8 Z3e (Z3 (Z4 0) (Z7))) (Z7)))) (Z7)))) (Z7)) (some (.d (.scr ns)) :: e) S = .ok (Bv.upTo 0 (max lo (min hi ns.length)), .free) S:=by
  refine X15 (n:=(max lo (min hi ns.length):Nat)) ?_ (X01 (by omega))
  have hv:((max lo (min hi ns.length):Nat):Int)=if (if (ns.length:Int) < hi then (ns.length:Int) else hi) > lo then (if (ns.length:Int) < hi then (ns.length:Int) else hi) else lo:=by omega
  rw [hv]
  simp [ev0,Z9,Z0r,V4,U6,W3,Z6e,V1,Z9x,Z9e,Z3h,Z55,Z6d,Y4c,Z2d,U4,Y5,Z03,Z4,m_c,Z8,Z3,Z7,Z33,V3,Z2h,Z2a,Y9,Z4q,Z1j,Z20,Y2v,Z6c,Q8,Z2b,Q4,Z4g,W1d,X0f,X88,W9,Z16,R.bind,R.so,RO.then,items,ixO,ixD,Y5g,Z4r,op2,X.get,tb,Y1u,Y02,Y1t,Z5r,slX,Z3m,Z9y,X9,W1,X4g,Y61,Y1a,X4l,Y7a,X0q,Y62,Z3e,X0c,X86,Z5x,ints?,X4o,X4j,X4i,ds?,Z8l,callP,X.isD,D.noL,D.noLs,D.noLf,Z0l,Y1x,Y4s,Y4n,X6t,W1b,X47,X4h]
end Bv
namespace Lw
open PySem PySem.Spec L2 Bv
open PyProof.Rows hiding St
variable [HasW]
def psT (k:Int):Str:=((toString k:String):Str)
def rp1 (y:Str) (k:Int) (a:Str):Str:=Txt.replace a y (psT k)
def W54 (y:Str) (k:Int) (a:Str):Bool:=decide (k.natAbs.log2 < 1920) && !(y == psT k) && decide (a.length + (a.length + 1) * (psT k).length ≤ 16777216) && PyData.strOk (rp1 y k a)
theorem Y82 {y a:Str} {k:Int} {mo:M} {ms:MG (List Bv.X)} {e:Ev} {S S1 S2:Sto} (h1:mo e S = .ok (.d (.str a)) S1) (h2:ms e S1 = .ok [.d (.int k)] S2) (hb:W54 y k a=true):Z7u y mo ms e S = .ok (.d (.str (rp1 y k a))) S2:=by
  unfold Z7u
  rw [h1]
  show (ms e S1).bind _=_
  rw [h2]
  exact if_pos hb
def rep (p q:Int) (a:Str):Str:=rp1 "Q" q (rp1 "P" p a)
def W7x (p q:Int) (a:Str):Bool:=W54 "P" p a && W54 "Q" q (rp1 "P" p a)
def itM (m:Mv):It:=(.str (mvT m),some m)
def stD (ms:List Mv):D:=W5p ((ms.map mvT).map D.str) (Z2x [] ms) ms
def X27:Mv→Bool
  | .ed l=>l.all (fun x=>decide (x.1 < 10) && (decide (x.2.1 ∈ X7o) && (match x.2.2 with | none=>true | some s=>decide (s ∈ X7o)))) && (Z21 (-1) l && decide (l.length ≤ 5))
  | .gv p=>decide (p < 40)
  | .gn p n=>decide (p < 40) && decide (n < 40)
  | .ck p=>decide (p < 40)
theorem X9m {m:Mv} (h:X27 m=true):Y4r m:=by
  cases m with
  | ed l =>
    obtain ⟨h1,h2⟩:=Bool.and_eq_true_iff.mp h
    obtain ⟨h2,h3⟩:=Bool.and_eq_true_iff.mp h2
    refine ⟨fun x hx=>?_,h2,of_decide_eq_true h3⟩
    obtain ⟨a,b⟩:=Bool.and_eq_true_iff.mp (List.all_eq_true.mp h1 x hx)
    obtain ⟨b,c⟩:=Bool.and_eq_true_iff.mp b
    refine ⟨of_decide_eq_true a,of_decide_eq_true b,fun s hs=>?_⟩
    rw [hs] at c
    exact of_decide_eq_true c
  | gv p =>
    show p < 40
    exact of_decide_eq_true h
  | gn p n =>
    obtain ⟨a,b⟩:=Bool.and_eq_true_iff.mp (h:(decide (p < 40) && decide (n < 40))=true)
    exact ⟨of_decide_eq_true a,of_decide_eq_true b⟩
  | ck p =>
    show p < 40
    exact of_decide_eq_true h
theorem Y7k {B:Sto} {v:D} {ms:List Mv} (hB:OkS B) (hv:Seq v ((ms.map mvT).map D.str)) (h1:ms.all X27=true) (h2:scan 0 [] (ms.map itM)=none) (h3:ms.length < 50):made "Story" mkF Z0b [.d v] B = .ok (.d (stD ms)) B:=by
  have e:(ms.map itM).map (·.1)=(ms.map mvT).map D.str:=by rw [List.map_map,List.map_map]; rfl
  have e2:mvs (ms.map itM)=ms:=by
    unfold mvs
    rw [List.filterMap_map]
    exact List.filterMap_some
  have h:=X04 (its:=ms.map itM) hB (by rw [e]; exact hv) (fun it hi=>by
    obtain ⟨m,hm,rfl⟩:=List.mem_map.mp hi
    exact ⟨X9m (List.all_eq_true.mp h1 m hm),rfl⟩) (by rw [List.length_map]; exact h3)
  rw [h2,e,e2] at h
  exact h
def kvs (p q:Int):List (D × X):=[(.str "P", .d (.int p)),(.str "Q", .d (.int q)),(.non, .d .non)]
def lkv (p q:Int) (d:D):Option D:=match d.leafS? with
  | some k=>(match Z4x (kvs p q) k with
    | some (.d v)=>some v
    | _=>none)
  | none=>none
theorem X2g {S:Sto} {p q:Int} {d v:D} (h:lkv p q d=some v):X2e (S++[.ldc (kvs p q)]) (.r S.length) (.d d)=some (.d v):=by
  unfold lkv at h
  show (match (S++[O.ldc (kvs p q)])[S.length]?,d.leafS? with
    | some (.ldc kvs),some q=>Z4x kvs q
    | _,_=>none)=_
  rw [List.getElem?_append_right (Nat.le_refl _),Nat.sub_self]
  show (match some (O.ldc (kvs p q)),d.leafS? with
    | some (.ldc kvs),some q=>Z4x kvs q
    | _,_=>none)=_
  cases hz:d.leafS? with
  | none=>rw [hz] at h; cases h
  | some k =>
    rw [hz] at h
    show Z4x (kvs p q) k=_
    have h:(match Z4x (kvs p q) k with
      | some (.d v)=>some v
      | _=>none)=some v:=h
    cases hl:Z4x (kvs p q) k with
    | none=>rw [hl] at h; cases h
    | some x =>
      rw [hl] at h
      cases x with
      | d w=>cases h; rfl
      | r n=>cases h
theorem X77 {mo mi:M} {e:Ev} {S:Sto} {x y z:X} (h1:mo e S = .ok x S) (h2:mi e S = .ok y S) (h:X2e S x y=some z):Z7a mo mi e S = .ok z S:=by
  unfold Z7a
  rw [h1]
  show (mi e S).bind _=_
  rw [h2]
  show Z4r _ S=_
  rw [h]
  rfl
def W1c:Option D→Bool
  | some (.bl b) => !b
  | _=>false
theorem Y3k {o:Option D} (h:W1c o=true):o=some (.bl false):=by
  unfold W1c at h
  split at h
  · rename_i b
    cases b
    · rfl
    · cases h
  · cases h
def X10 (f:Str) (d:D):Option D:=match Z5r ["Played"] f [] (.d d) with
  | some (.d v)=>some v
  | _=>none
theorem Z8x {f:Str} {d v:D} {S:Sto} (h:X10 f d=some v):Z5r ["Played"] f S (.d d)=some (.d v):=by
  have e:Z5r ["Played"] f S (.d d)=Z5r ["Played"] f [] (.d d):=by cases d <;> rfl
  rw [e]
  unfold X10 at h
  cases z:Z5r ["Played"] f [] (.d d) with
  | none=>rw [z] at h; cases h
  | some x =>
    rw [z] at h
    cases x with
    | d w=>cases h; rfl
    | r n=>cases h
def chk (tl:D) (ms:List Mv) (a b c:D):Bool:=match g_play [tl,stD ms] with
  | .ok d=>(match X10 "shows" d,X10 "met" d,X10 "now" d with
    | some sh,some mt,some nw=>W1c (neD sh a) && (W1c (neD mt b) && W1c (neD nw c))
    | _,_,_=>false)
  | _=>false
theorem W11 {tl:D} {ms:List Mv} {a b c:D} (h:chk tl ms a b c=true):∃ d sh mt nw,g_play [tl,stD ms] = .ok d∧X10 "shows" d=some sh∧X10 "met" d=some mt∧X10 "now" d=some nw∧neD sh a=some (.bl false)∧neD mt b=some (.bl false)∧neD nw c=some (.bl false):=by
  unfold chk at h
  split at h
  · rename_i d hd
    split at h
    · rename_i sh mt nw h1 h2 h3
      obtain ⟨x1,x2⟩:=Bool.and_eq_true_iff.mp h
      obtain ⟨x2,x3⟩:=Bool.and_eq_true_iff.mp x2
      exact ⟨d,sh,mt,nw,hd,h1,h2,h3,Y3k x1,Y3k x2,Y3k x3⟩
    · cases h
  · cases h
structure Cas where
  evs:List Str
  s0:D
  s1:D
  now:List (Str × Str)
  met:List Str
  ms:List Mv
def Cas.nowT (c:Cas):List Str:=c.now.map fun x=>x.1 ++ " " ++ x.2
def Cas.d (c:Cas):D := .tup [.lst (c.evs.map .str), .tup [c.s0,c.s1], .tup (c.nowT.map .str), .tup (c.met.map .str)]
def W7s (p q:Int) (c:Cas):D := .tup (c.now.map fun x => .tup [.str x.1,(lkv p q (.str x.2)).getD .non])
def W70 (x:Str × Str):Bool:=decide (Txt.split (x.1 ++ " " ++ x.2) " " = [x.1,x.2]) && (decide ((x.1 ++ " " ++ x.2).length + 2 ≤ sizeLine) && Z4m (Txt.split (x.1 ++ " " ++ x.2) " "))
def W4m (tl:D) (p q:Int) (c:Cas):Bool:=c.evs.all (W7x p q) && (decide (c.evs.map (rep p q)=c.ms.map mvT) && (c.ms.all X27 && ((scan 0 [] (c.ms.map itM)).isNone && (decide (c.ms.length < 50) && (decide (c.evs.length ≤ sizeLine) &&
  (decide (c.now.length ≤ sizeLine) && (c.now.all W70 && (c.now.all (fun x=>(lkv p q (.str x.2)).isSome) && ((lkv p q c.s0).isSome && ((lkv p q c.s1).isSome &&
  chk tl c.ms (.tup [.tup [.int p,(lkv p q c.s0).getD .non], .tup [.int q,(lkv p q c.s1).getD .non]]) (.tup (c.met.map .str)) (W7s p q c)))))))))))
def zw0:MS:=W3 1 (Z2h (Z3 (m_c (.str "marks none doubt good")) (Z3 (m_c (.str "shown good")) (Z3 (m_c (.str "asked none")) (Z3 (m_c (.str "give any take to good")) (Z3 (m_c (.str "carry any to doubt")) (Z7)))))))
def zw1:MS:=W3 2 (Z85 "Tool" (X9 2 (W1 [] (callP Z3n))) (m_c (.gl "Tool")) (Z3 (Z5z Y5e (m_c (.str "\n")) (Y5 Z8i (Z4 1) (Z2h (Z3 (m_c (.str "right any to good")) (Z3 (m_c (.str "wrong any to none")) (Z7)))))) (Z7)))
def zu0:MS:=W3 5 (Z8 (X9 2 (W1 [] (callP g_play))) (Z3 (Z4 2) (Z3 (Z8 (X9 1 (W1 [] (made "Story" mkF Z0b))) (Z3 (Z3r (.nm 16) (Z0c (Z4 9)) (W0) (Z7u "Q" (Z7u "P" (Z4 16) (Z3 (Z4 7) (Z7))) (Z3 (Z4 8) (Z7))) [16]) (Z7))) (Z7))))
def zu1:MS:=W3 13 (Y3o (.str "P") (.str "Q") (.non) (Z4 7) (Z4 8) (m_c .non))
def zu2:MS:=Z0r (Z2b (U4 (Y5 neD (Y9 ["Played"] "shows" (Z4 5)) (V3 (Z3 (V3 (Z3 (Z4 7) (Z3 (Z7a (Z4 13) (Z03 (Z4 10) (m_c (.int 0)))) (Z7)))) (Z3 (V3 (Z3 (Z4 8) (Z3 (Z7a (Z4 13) (Z03 (Z4 10) (m_c (.int 1)))) (Z7)))) (Z7)))))) (U4 (Y5 neD (Y9 ["Played"] "met" (Z4 5)) (Z4 12)))) (V1 (m_c (.bl false))) (V4)
def zu3:MS:=W3 14 (Z3r (.nm 15) (Z0c (Z4 11)) (W0) (Z5z Z3d (Z4 15) (m_c (.str " "))) [15])
def zu4:MS:=Z0r (U4 (Y5 neD (Y9 ["Played"] "now" (Z4 5)) (Z8 Z7e (Z3 (Z3r (.tp [(.nm 17),(.nm 18)]) (Z0c (Z4 14)) (W0) (V3 (Z3 (Z4 17) (Z3 (Z7a (Z4 13) (Z4 18)) (Z7)))) [17,18]) (Z7))))) (V1 (m_c (.bl false))) (V4)
def zu:MS:=Z9 zu0 (Z9 zu1 (Z9 zu2 (Z9 zu3 zu4)))
def zv0:MS:=W3 6 (Z8 (X9 2 (W1 [] g__law_seed)) (Z3 (Z4 0) (Z3 (Z4 3) (Z7))))
def zv1:MS:=W3 7 (Z8 (X9 2 (W1 [] g__law_choose)) (Z3 (Z4 6) (Z3 (m_c (.int 8)) (Z7))))
def zv2:MS:=W3 8 (Y5 Z8i (Y5 Z8i (Z4 7) (m_c (.int 1))) (Z8 (X9 2 (W1 [] g__law_choose)) (Z3 (Z4 6) (Z3 (m_c (.int 2)) (Z7)))))
def zv3:MS:=Z2y (.tp [(.nm 9),(.nm 10),(.nm 11),(.nm 12)]) (Z0c (Z8 (W1 [] (callP g__law_cases)) Z7)) zu
def zv4:MS:=Z0r (U4 (Y5 neD (Y9 ["Played"] "asks" (Z8 (X9 2 (W1 [] (callP g_play))) (Z3 (Z4 2) (Z3 (Z8 (X9 1 (W1 [] (made "Story" mkF Z0b))) (Z3 (Z2h (Z3 (Y5 Z8i (Y5 Z8i (m_c (.str "edition ")) (Z8 Z79 (Z3 (Z4 7) (Z7)))) (m_c (.str ":a"))) (Z7))) (Z7))) (Z7))))) (V3 (Z3 (m_c (.str "a")) (Z7))))) (V1 (m_c (.bl false))) (V4)
def zv:MS:=Z9 zv0 (Z9 zv1 (Z9 zv2 (Z9 zv3 zv4)))
def zw2:MS:=Z2y (.nm 3) (Y2s (Z3 (Z8 (Z5x X4i) (Z3 (m_c (.int 1)) (Z3 (Z8 (Z5x X4j) (Z3 (m_c (.int 4)) (Z3 (Z8 Z3e (Z3 (Z4 0) (Z7))) (Z7)))) (Z7)))) (Z7))) zv
def zw3:MS:=W3 4 (Z85 "Tool" (X9 2 (W1 [] (callP Z3n))) (m_c (.gl "Tool")) (Z3 (m_c (.str "marks none old\nshown old\nasked\ngive any keep to old")) (Z7)))
def zw4:MS:=W3 5 (Z8 (X9 2 (W1 [] (callP g_play))) (Z3 (Z4 4) (Z3 (Z8 (X9 1 (W1 [] (made "Story" mkF Z0b))) (Z3 (Z2h (Z3 (m_c (.str "edition 3:a")) (Z3 (m_c (.str "give 3")) (Z7)))) (Z7))) (Z7))))
def zw5:MS:=V1 (Z4g (Y5 eqD (Y9 ["Played"] "now" (Z4 5)) (V3 (Z3 (V3 (Z3 (m_c (.str "stuck")) (Z3 (m_c (.int 3)) (Z7)))) (Z3 (V3 (Z3 (m_c (.str "vain")) (Z3 (m_c (.int 3)) (Z7)))) (Z7))))) (Y5 eqD (Y9 ["Played"] "book" (Z4 5)) (V3 (Z7))))
theorem W2l:X7w=Z9 zw0 (Z9 zw1 (Z9 zw2 (Z9 zw3 (Z9 zw4 zw5)))):=rfl
theorem Y9u {m1 m2:MS} {e e1:Ev} {S S1:Sto} {r:RO} (h1:m1 e S = .go (.nx e1) S1) (h2:m2 e1 S1=r):Z9 m1 m2 e S=r:=by
  unfold Z9
  rw [h1]
  exact h2
section
variable {tl:D} {p q:Int} {c:Cas} {x0 x1 x3 x4 x5 x6 x13 x14 x15 x16 x17 x18:Option X} {S:Sto}
theorem X4w (hS:OkS S) (h:W4m tl p q c=true):∃ y5 y13 y14,zu [x0,x1,some (.d tl),x3,x4,x5,x6,some (.d (.int p)),some (.d (.int q)),some (.d (.lst (c.evs.map .str))),some (.d (.tup [c.s0,c.s1])),some (.d (.tup (c.nowT.map .str))),some (.d (.tup (c.met.map .str))),x13,x14,x15,x16,x17,x18] S =
    .go (.nx [x0,x1,some (.d tl),x3,x4,y5,x6,some (.d (.int p)),some (.d (.int q)),some (.d (.lst (c.evs.map .str))),some (.d (.tup [c.s0,c.s1])),some (.d (.tup (c.nowT.map .str))),some (.d (.tup (c.met.map .str))),y13,y14,x15,x16,x17,x18]) (S++[.ldc (kvs p q)]):=by
  unfold W4m at h
  obtain ⟨h1,h⟩:=Bool.and_eq_true_iff.mp h
  obtain ⟨h2,h⟩:=Bool.and_eq_true_iff.mp h
  obtain ⟨h3,h⟩:=Bool.and_eq_true_iff.mp h
  obtain ⟨h4,h⟩:=Bool.and_eq_true_iff.mp h
  obtain ⟨h5,h⟩:=Bool.and_eq_true_iff.mp h
  obtain ⟨h6,h⟩:=Bool.and_eq_true_iff.mp h
  obtain ⟨h7,h⟩:=Bool.and_eq_true_iff.mp h
  obtain ⟨h8,h⟩:=Bool.and_eq_true_iff.mp h
  obtain ⟨h9,h⟩:=Bool.and_eq_true_iff.mp h
  obtain ⟨ha,h⟩:=Bool.and_eq_true_iff.mp h
  obtain ⟨hb,hc⟩:=Bool.and_eq_true_iff.mp h
  have h2:=of_decide_eq_true h2
  have h4:scan 0 [] (c.ms.map itM)=none:=Option.isNone_iff_eq_none.mp h4
  have h5:=of_decide_eq_true h5
  have h6:=of_decide_eq_true h6
  have h7:=of_decide_eq_true h7
  obtain ⟨v0,hv0⟩:=Option.isSome_iff_exists.mp ha
  obtain ⟨v1,hv1⟩:=Option.isSome_iff_exists.mp hb
  obtain ⟨dd,sh,mt,nw,hp,f1,f2,f3,n1,n2,n3⟩:=W11 hc
  rw [hv0,hv1] at n1
  have n1:neD sh (.tup [.tup [.int p,v0], .tup [.int q,v1]])=some (.bl false):=n1
  have mk:made "Story" mkF Z0b [.d (.lst (c.evs.map fun z=>D.str (rep p q z)))] S = .ok (.d (stD c.ms)) S:=by
    have e:(c.evs.map fun z=>D.str (rep p q z))=(c.ms.map mvT).map D.str:=by rw [← h2,List.map_map]; rfl
    rw [e]
    exact Y7k hS (W0n _) h3 h4 h5
  have g1:∀ {e:Ev},e=[x0,x1,some (.d tl),x3,x4,x5,x6,some (.d (.int p)),some (.d (.int q)),some (.d (.lst (c.evs.map .str))),some (.d (.tup [c.s0,c.s1])),some (.d (.tup (c.nowT.map .str))),some (.d (.tup (c.met.map .str))),x13,x14,x15,x16,x17,x18] →
      zu0 e S = .go (.nx (e.set 5 (some (.d dd)))) S:=by
    rintro e rfl
    refine Z2w (W2 (Y3 (Y0 rfl) (Y3 (W2 (Y3 (Y7g (lk := .free) rfl (fun z:Str=>X.d (.str z)) (fun z=>D.str (rep p q z)) (Z4w (Y0 (i:=9) rfl) (by simp [Z9j,items])) h6 fun a ha=>⟨_,rfl,?_⟩) X7) (Z1s rfl mk)) X7)) (Z1s rfl (X1s hp)))
    obtain ⟨r1,r2⟩:=Bool.and_eq_true_iff.mp (List.all_eq_true.mp h1 a ha)
    exact Y82 (Y82 (Y0 rfl) (Y3 (Y0 rfl) X7) r1) (Y3 (Y0 rfl) X7) r2
  have hl:∀ {e:Ev} {k:D} {w:D} {mi:M},e[13]?=some (some (.r S.length))→mi e (S++[.ldc (kvs p q)]) = .ok (.d k) (S++[.ldc (kvs p q)])→lkv p q k=some w→Z7a (Z4 13) mi e (S++[.ldc (kvs p q)]) = .ok (.d w) (S++[.ldc (kvs p q)]):=fun he hi hk=>X77 (Y0 he) hi (X2g hk)
  have g3:∀ {e:Ev},e=[x0,x1,some (.d tl),x3,x4,some (.d dd),x6,some (.d (.int p)),some (.d (.int q)),some (.d (.lst (c.evs.map .str))),some (.d (.tup [c.s0,c.s1])),some (.d (.tup (c.nowT.map .str))),some (.d (.tup (c.met.map .str))),some (.r S.length),x14,x15,x16,x17,x18] →
      zu2 e (S++[.ldc (kvs p q)]) = .go (.nx e) (S++[.ldc (kvs p q)]):=by
    rintro e rfl
    have t1:=Z0e (W5 (f:=neD) (Z6n (Cs:=["Played"]) (f := "shows") (Y0 (i:=5) (e:=[x0,x1,some (.d tl),x3,x4,some (.d dd),x6,some (.d (.int p)),some (.d (.int q)),some (.d (.lst (c.evs.map .str))),some (.d (.tup [c.s0,c.s1])),some (.d (.tup (c.nowT.map .str))),some (.d (.tup (c.met.map .str))),some (.r S.length),x14,x15,x16,x17,x18]) (S:=S++[.ldc (kvs p q)]) rfl) (Z8x f1))
      (Z4u (ds:=[.tup [.int p,v0], .tup [.int q,v1]]) (Y3 (Z4u (ds:=[.int p,v0]) (Y3 (Y0 (i:=7) rfl) (Y3 (hl rfl (Z2z (Y0 (i:=10) rfl) (Z0d (d := .int 0)) rfl) hv0) X7)) rfl (show (2:Nat) ≤ sizeLine by decide)) (Y3 (Z4u (ds:=[.int q,v1]) (Y3 (Y0 (i:=8) rfl) (Y3 (hl rfl (Z2z (Y0 (i:=10) rfl) (Z0d (d := .int 1)) rfl) hv1) X7)) rfl (show (2:Nat) ≤ sizeLine by decide)) X7)) rfl (show (2:Nat) ≤ sizeLine by decide)) X0 X0 n1)
    have t2:=Z0e (W5 (f:=neD) (Z6n (Cs:=["Played"]) (f := "met") (Y0 (i:=5) (e:=[x0,x1,some (.d tl),x3,x4,some (.d dd),x6,some (.d (.int p)),some (.d (.int q)),some (.d (.lst (c.evs.map .str))),some (.d (.tup [c.s0,c.s1])),some (.d (.tup (c.nowT.map .str))),some (.d (.tup (c.met.map .str))),some (.r S.length),x14,x15,x16,x17,x18]) (S:=S++[.ldc (kvs p q)]) rfl) (Z8x f2))
      (Y0 (i:=12) rfl) X0 X0 n2)
    exact Z0y (Z69 t1 t2) rfl
  have g4:∀ {e:Ev},e=[x0,x1,some (.d tl),x3,x4,some (.d dd),x6,some (.d (.int p)),some (.d (.int q)),some (.d (.lst (c.evs.map .str))),some (.d (.tup [c.s0,c.s1])),some (.d (.tup (c.nowT.map .str))),some (.d (.tup (c.met.map .str))),some (.r S.length),x14,x15,x16,x17,x18] →
      zu3 e (S++[.ldc (kvs p q)]) = .go (.nx (e.set 14 (some (.d (.lst (c.now.map fun x=>D.lst [.str x.1, .str x.2])))))) (S++[.ldc (kvs p q)]):=by
    rintro e rfl
    refine Z2w (Y7g (lk := .free) rfl (fun x:Str × Str=>X.d (.str (x.1 ++ " " ++ x.2))) (fun x=>D.lst [.str x.1, .str x.2]) (Z4w (Y0 (i:=11) rfl) (by simp [Z9j,items,Cas.nowT])) h7 fun a ha=>⟨_,rfl,?_⟩)
    have q:=List.all_eq_true.mp h8 a ha
    obtain ⟨q1,q2⟩:=Bool.and_eq_true_iff.mp q
    have q1:=of_decide_eq_true q1
    refine Y5c (Y0 rfl) Z0d ?_
    show (if (!((" " : Str).length == 0) && decide ((a.1 ++ " " ++ a.2).length + 2 ≤ sizeLine) && Z4m (Txt.split (a.1 ++ " " ++ a.2) " ")) then _ else _)=_
    rw [if_pos (by rw [Bool.and_assoc,q2]; rfl),q1]
    rfl
  have g5:∀ {e:Ev},e=[x0,x1,some (.d tl),x3,x4,some (.d dd),x6,some (.d (.int p)),some (.d (.int q)),some (.d (.lst (c.evs.map .str))),some (.d (.tup [c.s0,c.s1])),some (.d (.tup (c.nowT.map .str))),some (.d (.tup (c.met.map .str))),some (.r S.length),some (.d (.lst (c.now.map fun x=>D.lst [.str x.1, .str x.2]))),x15,x16,x17,x18] →
      zu4 e (S++[.ldc (kvs p q)]) = .go (.nx e) (S++[.ldc (kvs p q)]):=by
    rintro e rfl
    refine Z0y (Z0e (W5 (f:=neD) (Z6n (Y0 (i:=5) rfl) (Z8x f3)) (W2 (Y3 (Y7g (lk := .free) rfl (fun x:Str × Str=>X.d (.lst [.str x.1, .str x.2])) (fun x=>D.tup [.str x.1,(lkv p q (.str x.2)).getD .non]) (Z4w (Y0 (i:=14) rfl) (by simp [Z9j,items])) h7 fun a ha=>⟨_,rfl,?_⟩) X7) X6e) X0 X0 n3)) rfl
    obtain ⟨w,hw⟩:=Option.isSome_iff_exists.mp (List.all_eq_true.mp h9 a ha)
    rw [hw]
    exact Z4u (ds:=[.str a.1,w]) (Y3 (Y0 (i:=17) rfl) (Y3 (hl rfl (Y0 (i:=18) rfl) hw) X7)) rfl (show (2:Nat) ≤ sizeLine by decide)
  exact ⟨_,_,_,Y9u (g1 rfl) (Y9u (m1:=zu1) rfl (Y9u (g3 rfl) (Y9u (g4 rfl) (g5 rfl))))⟩
end
end Lw
namespace Lw
open PySem PySem.Spec L2 Bv
open PyProof.Rows hiding St
variable [HasW]
def csL (p q:Nat):List Cas:=[
  ⟨["edition P:a Q:b"], .non, .non,[],[],[.ed [(p, "a",none),(q, "b",none)]]⟩,
  ⟨["edition P:a Q:b", "give P", "check P"], .str "P", .non,[],[],[.ed [(p, "a",none),(q, "b",none)], .gv p, .ck p]⟩,
  ⟨["edition P:a Q:b", "give P", "edition P:c Q:b"], .non, .non,[],[],[.ed [(p, "a",none),(q, "b",none)], .gv p, .ed [(p, "c",none),(q, "b",none)]]⟩,
  ⟨["edition P:a Q:b", "give P", "edition P:c Q:b", "check P"], .str "P", .non,[],[],[.ed [(p, "a",none),(q, "b",none)], .gv p, .ed [(p, "c",none),(q, "b",none)], .ck p]⟩,
  ⟨["edition P:a Q:b", "give P", "edition P:b Q:a"], .non, .str "P",[("strange", "Q")],["strange"],[.ed [(p, "a",none),(q, "b",none)], .gv p, .ed [(p, "b",none),(q, "a",none)]]⟩,
  ⟨["edition P:a Q:b", "give P", "edition P:b Q:a", "check Q"], .non, .non,[],["strange"],[.ed [(p, "a",none),(q, "b",none)], .gv p, .ed [(p, "b",none),(q, "a",none)], .ck q]⟩,
  ⟨["edition P:a Q:a", "give P"], .str "P", .str "P",[("strange", "Q")],["strange"],[.ed [(p, "a",none),(q, "a",none)], .gv p]⟩,
  ⟨["edition P:a Q:a", "give P", "give Q"], .str "Q", .str "Q",[("fallen", "P"),("strange", "P")],["fallen", "strange"],[.ed [(p, "a",none),(q, "a",none)], .gv p, .gv q]⟩,
  ⟨["edition P:a Q:b", "edition P:c Q:b", "give P 0"], .non, .non,[],[],[.ed [(p, "a",none),(q, "b",none)], .ed [(p, "c",none),(q, "b",none)], .gn p 0]⟩,
  ⟨["edition P:a Q:b", "edition P:c Q:a", "give P 0"], .non, .str "P",[("strange", "Q")],["strange"],[.ed [(p, "a",none),(q, "b",none)], .ed [(p, "c",none),(q, "a",none)], .gn p 0]⟩,
  ⟨["edition P:a Q:b", "give P", "edition P:c<b Q:b"], .non, .non,[("lost", "P")],["lost"],[.ed [(p, "a",none),(q, "b",none)], .gv p, .ed [(p, "c",some "b"),(q, "b",none)]]⟩,
  ⟨["edition P:a Q:a", "give P", "check Q"], .non, .non,[("fallen", "P")],["fallen", "strange"],[.ed [(p, "a",none),(q, "a",none)], .gv p, .ck q]⟩]
def X7l:D := .obj "Tool" [("marks", .tup [.str "none", .str "doubt", .str "good"]),("shown", .tup [.str "good"]),("asked", .tup [.str "none"]),("rows", .tup [.obj "Row" [("word", .str "give"),("old", .str "any"),("then", .str "good"),("take", .bl true)], .obj "Row" [("word", .str "carry"),("old", .str "any"),("then", .str "doubt"),("take", .bl true)], .obj "Row" [("word", .str "right"),("old", .str "any"),("then", .str "good"),("take", .bl true)], .obj "Row" [("word", .str "wrong"),("old", .str "any"),("then", .str "none"),("take", .bl true)]]),("blank", .str "none")]
def W02:D := .obj "Tool" [("marks", .tup [.str "none", .str "old"]),("shown", .tup [.str "old"]),("asked", .tup []),("rows", .tup [.obj "Row" [("word", .str "give"),("old", .str "any"),("then", .str "old"),("take", .bl false)]]),("blank", .str "none")]
def strOf:Option D→Option Str
  | some (.str a)=>some a
  | _=>none
theorem Y90 {o:Option D} {a:Str} (h:strOf o=some a):o=some (.str a):=by
  unfold strOf at h
  split at h
  · cases h; rfl
  · cases h
def W6q (p:Nat):Bool:=(decide (((p:Int)).natAbs.log2 < 1920) && PyData.strOk (psT p)) && ((match strOf (Z8i (.str "edition ") (.str (psT p))) with
    | some a=>decide (strOf (Z8i (.str a) (.str ":a"))=some (mvT (.ed [(p, "a",none)])))
    | none=>false) && (([Mv.ed [(p, "a",none)]].all X27) && ((scan 0 [] ([Mv.ed [(p, "a",none)]].map itM)).isNone && (match g_play [X7l,stD [.ed [(p, "a",none)]]] with
    | .ok d=>(match X10 "asks" d with
      | some a=>W1c (neD a (.tup [.str "a"]))
      | none=>false)
    | _=>false))))
def Z6u (p q:Nat):Bool:=(csL p q).all (W4m X7l (p:Int) (q:Int)) && W6q p
theorem X4x (p q:Nat):g__law_cases [] = .ok (.lst ((csL p q).map Cas.d)):=by kernel_rfl
def W39:Option D→Bool
  | some (.bl b)=>b
  | _=>false
theorem X17 {o:Option D} (h:W39 o=true):o=some (.bl true):=by
  unfold W39 at h
  split at h
  · rename_i b
    cases b
    · cases h
    · rfl
  · cases h
def W2x:List Mv:=[.ed [(3, "a",none)], .gv 3]
def W6r:Bool:=match g_play [W02,stD W2x] with
  | .ok d=>(match X10 "now" d,X10 "book" d with
    | some a,some b=>W39 (eqD a (.tup [.tup [.str "stuck", .int 3], .tup [.str "vain", .int 3]])) && W39 (eqD b (.tup []))
    | _,_=>false)
  | _=>false
theorem W16:W6r=true:=by kernel_rfl
theorem X9j:W2x.all X27=true∧scan 0 [] (W2x.map itM)=none∧(W2x.map mvT).map D.str=[.str "edition 3:a", .str "give 3"]:=⟨by kernel_rfl,by kernel_rfl,by kernel_rfl⟩
theorem X8i:Z6u 0 1=true:=by kernel_rfl
theorem X8j:Z6u 0 2=true:=by kernel_rfl
theorem X8k:Z6u 1 2=true:=by kernel_rfl
theorem X8l:Z6u 1 3=true:=by kernel_rfl
theorem X8m:Z6u 2 3=true:=by kernel_rfl
theorem X8n:Z6u 2 4=true:=by kernel_rfl
theorem X8o:Z6u 3 4=true:=by kernel_rfl
theorem X8p:Z6u 3 5=true:=by kernel_rfl
theorem X8q:Z6u 4 5=true:=by kernel_rfl
theorem X8r:Z6u 4 6=true:=by kernel_rfl
theorem X8s:Z6u 5 6=true:=by kernel_rfl
theorem X8t:Z6u 5 7=true:=by kernel_rfl
theorem X8u:Z6u 6 7=true:=by kernel_rfl
theorem X8v:Z6u 6 8=true:=by kernel_rfl
theorem X8w:Z6u 7 8=true:=by kernel_rfl
theorem X8x:Z6u 7 9=true:=by kernel_rfl
theorem Z3g {p d:Nat} (hp:p < 8) (hd:d < 2):Z6u p (p + 1 + d)=true:=by
  have h1:p=0 ∨ p=1 ∨ p=2 ∨ p=3 ∨ p=4 ∨ p=5 ∨ p=6 ∨ p=7:=by omega
  have h2:d=0 ∨ d=1:=by omega
  rcases h1 with rfl | rfl | rfl | rfl | rfl | rfl | rfl | rfl <;> rcases h2 with rfl | rfl
  · exact X8i
  · exact X8j
  · exact X8k
  · exact X8l
  · exact X8m
  · exact X8n
  · exact X8o
  · exact X8p
  · exact X8q
  · exact X8r
  · exact X8s
  · exact X8t
  · exact X8u
  · exact X8v
  · exact X8w
  · exact X8x
end Lw
namespace Lw
open PySem PySem.Spec L2 Bv
open PyProof.Rows hiding St
variable [HasW]
theorem W35 {ns:List Int} {S:Sto} {x1 x2:Option X} {r:Ev}:∃ y,zw0 (some (.d (.scr ns)) :: x1 :: x2 :: r) S = .go (.nx (some (.d (.scr ns)) :: some (.d y) :: x2 :: r)) S∧y = .lst [.str "marks none doubt good", .str "shown good", .str "asked none", .str "give any take to good", .str "carry any to doubt"]:=⟨_,Z2w (Y81 (ds:=[.str "marks none doubt good", .str "shown good", .str "asked none", .str "give any take to good", .str "carry any to doubt"]) (Y3 Z0d (Y3 Z0d (Y3 Z0d (Y3 Z0d (Y3 Z0d X7))))) rfl (show (5:Nat) ≤ sizeLine by decide)),rfl⟩
theorem W36 {x0 x2:Option X} {r:Ev} {S:Sto}:zw1 (x0 :: some (.d (.lst [.str "marks none doubt good", .str "shown good", .str "asked none", .str "give any take to good", .str "carry any to doubt"])) :: x2 :: r) S = .go (.nx (x0 :: some (.d (.lst [.str "marks none doubt good", .str "shown good", .str "asked none", .str "give any take to good", .str "carry any to doubt"])) :: some (.d X7l) :: r)) S:=by kernel_rfl
theorem W37 {x0 x1 x2 x3 x4:Option X} {r:Ev} {S:Sto}:zw3 (x0 :: x1 :: x2 :: x3 :: x4 :: r) S = .go (.nx (x0 :: x1 :: x2 :: x3 :: some (.d W02) :: r)) S:=by kernel_rfl
theorem W04 {e:Ev} {S:Sto} {Q:RO→Prop} (hS:OkS S) (h4:e[4]?=some (some (.d W02))) (hl:5 < e.length) (hq:Q (.go (.rp (.bl true)) S)):Fw (Z9 zw4 zw5 e S) Q:=by
  obtain ⟨a1,a2,a3⟩:=X9j
  have mk:made "Story" mkF Z0b [.d (.lst [.str "edition 3:a", .str "give 3"])] S = .ok (.d (stD W2x)) S:=by
    rw [← a3]
    exact Y7k hS (W0n _) a1 a2 (by decide)
  have h:=W16
  unfold W6r at h
  split at h
  · rename_i d hd
    split at h
    · rename_i a b f1 f2
      obtain ⟨e1,e2⟩:=Bool.and_eq_true_iff.mp h
      have e1:=X17 e1
      have e2:=X17 e2
      unfold zw4
      refine Fw.set (x := .d d) (S1:=S) (W2 (Y3 (Y0 h4) (Y3 (W2 (Y3 (Y81 (ds:=[.str "edition 3:a", .str "give 3"]) (Y3 Z0d (Y3 Z0d X7)) rfl (show (2:Nat) ≤ sizeLine by decide)) X7) (Z1s rfl mk)) X7)) (Z1s rfl (X1s hd))) ?_
      have g5:(e.set 5 (some (.d d)))[5]?=some (some (.d d)):=by rw [List.getElem?_set_self hl]
      unfold zw5
      exact Fw.one (Fw.retP (X1t (W5 (f:=eqD) (Z6n (Y0 g5) (Z8x f1)) (Z4u (ds:=[.tup [.str "stuck", .int 3], .tup [.str "vain", .int 3]]) (Y3 (Z4u (ds:=[.str "stuck", .int 3]) (Y3 Z0d (Y3 Z0d X7)) rfl (show (2:Nat) ≤ sizeLine by decide)) (Y3 (Z4u (ds:=[.str "vain", .int 3]) (Y3 Z0d (Y3 Z0d X7)) rfl (show (2:Nat) ≤ sizeLine by decide)) X7)) rfl (show (2:Nat) ≤ sizeLine by decide)) X0 X0 e1) rfl
        (W5 (f:=eqD) (Z6n (Y0 g5) (Z8x f2)) (Z4u (ds:=[]) X7 rfl (Nat.zero_le _)) X0 X0 e2)) X0 hq)
    · cases h
  · cases h
def R21 (ns:List Int) (y1:Option X) (e:Ev) (S:Sto):Prop:=OkS S∧∃ x3 x4 x5 x6 x7 x8 x9 x10 x11 x12 x13 x14 x15 x16 x17 x18,e=[some (.d (.scr ns)),y1,some (.d X7l),x3,x4,x5,x6,x7,x8,x9,x10,x11,x12,x13,x14,x15,x16,x17,x18]
theorem X3q {ns:List Int} {y1 x4 x5 x6 x7 x8 x9 x10 x11 x12 x13 x14 x15 x16 x17 x18:Option X} {k:Nat} {S:Sto} {Q:RO→Prop} (hS:OkS S) (hk:k < 4) (hk2:k < ns.length ∨ k=0) :
    Fw (zv [some (.d (.scr ns)),y1,some (.d X7l),some (.d (.int k)),x4,x5,x6,x7,x8,x9,x10,x11,x12,x13,x14,x15,x16,x17,x18] S) (Trn (R21 ns y1) (R21 ns y1) Q):=by
  obtain ⟨S1,e1,g1,g2,g3⟩:=W0m (ns:=ns) (k:=k) hS hk hk2
  obtain ⟨d1,S2,e2,p0,p1,dr1⟩:=Y43 (m:=8) g1 g3 (by decide)
  have b1:S.length < S1.length:=by omega
  obtain ⟨d2,S3,e3,q0,q1,dr2⟩:=Y43 (m:=2) (dr1.ok g1) (dr1.at_ b1) (by decide)
  have ok3:OkS S3:=dr2.ok (dr1.ok g1)
  obtain ⟨p,rfl⟩:=Int.eq_ofNat_of_zero_le p0
  obtain ⟨dq,rfl⟩:=Int.eq_ofNat_of_zero_le q0
  have hpair:=Z3g (p:=p) (d:=dq) (by omega) (by omega)
  obtain ⟨hc,ha⟩:=Bool.and_eq_true_iff.mp hpair
  unfold zv zv0 zv1 zv2
  refine Fw.set (x := .r S.length) (S1:=S1) (W2 (Y3 (Y0 rfl) (Y3 (Y0 rfl) X7)) (Z1s rfl e1)) ?_
  refine Fw.set (x := .d (.int p)) (S1:=S2) (W2 (Y3 (Y0 rfl) (Y3 Z0d X7)) (Z1s rfl e2)) ?_
  refine Fw.set (x := .d (.int ((p + 1 + dq:Nat):Int))) (S1:=S3) (W5 (f:=Z8i) (W5 (f:=Z8i) (Y0 rfl) Z0d X0 X0 Y4s) (W2 (Y3 (Y0 rfl) (Y3 Z0d X7)) (Z1s rfl e3)) X0 X0 (by rw [Y4s]; simp)) ?_
  unfold zv3
  refine Fw.forI (S1:=S3) (xs:=((csL p (p + 1 + dq)).map Cas.d).map X.d) (lk := .free) (Z4w (W2 X7 (show W1 [] (callP g__law_cases) [] S3=_ from W4r (ds:=[]) rfl (X4x p (p + 1 + dq)))) (by simp [Z9j,items]))
    (fun e T=>OkS T∧∃ z4 z5 z6 z9 z10 z11 z12 z13 z14 z15 z16 z17 z18,e=[some (.d (.scr ns)),y1,some (.d X7l),some (.d (.int k)),z4,z5,z6,some (.d (.int p)),some (.d (.int ((p + 1 + dq:Nat):Int))),z9,z10,z11,z12,z13,z14,z15,z16,z17,z18]) ⟨ok3,_,_,_,_,_,_,_,_,_,_,_,_,_,rfl⟩ (fun _ _ _=>rfl) (fun x hx e T ⟨hT,z4,z5,z6,z9,z10,z11,z12,z13,z14,z15,z16,z17,z18,he⟩=>?_) (fun e T ⟨hT,z4,z5,z6,z9,z10,z11,z12,z13,z14,z15,z16,z17,z18,he⟩=>?_)
  · subst he
    obtain ⟨dd,hd,rfl⟩:=List.mem_map.mp hx
    obtain ⟨c,hc2,rfl⟩:=List.mem_map.mp hd
    refine ⟨[some (.d (.scr ns)),y1,some (.d X7l),some (.d (.int k)),z4,z5,z6,some (.d (.int p)),some (.d (.int ((p + 1 + dq:Nat):Int))),some (.d (.lst (c.evs.map .str))),some (.d (.tup [c.s0,c.s1])),some (.d (.tup (c.nowT.map .str))),some (.d (.tup (c.met.map .str))),z13,z14,z15,z16,z17,z18],by simp [Cas.d,Tg.asg,Tg.asgs],?_⟩
    obtain ⟨y5,y13,y14,h⟩:=X4w (x0:=some (.d (.scr ns))) (x1:=y1) (x3:=some (.d (.int k))) (x4:=z4) (x5:=z5) (x6:=z6) (x13:=z13) (x14:=z14) (x15:=z15) (x16:=z16) (x17:=z17) (x18:=z18) hT (List.all_eq_true.mp hc c hc2)
    exact Fw.eq h (.nx ⟨hT.push rfl,_,_,_,_,_,_,_,_,_,_,_,_,_,rfl⟩)
  · subst he
    unfold W6q at ha
    obtain ⟨h0,ha⟩:=Bool.and_eq_true_iff.mp ha
    obtain ⟨h1,ha⟩:=Bool.and_eq_true_iff.mp ha
    obtain ⟨h2,ha⟩:=Bool.and_eq_true_iff.mp ha
    obtain ⟨h3,ha⟩:=Bool.and_eq_true_iff.mp ha
    have h3:scan 0 [] ([Mv.ed [(p, "a",none)]].map itM)=none:=Option.isNone_iff_eq_none.mp h3
    split at h1
    · rename_i a f0
      have f1:=Y90 f0
      have f2:=Y90 (of_decide_eq_true h1)
      have mk:made "Story" mkF Z0b [.d (.lst [.str (mvT (.ed [(p, "a",none)]))])] T = .ok (.d (stD [.ed [(p, "a",none)]])) T:=Y7k (ms:=[.ed [(p, "a",none)]]) hT (W0n _) h2 h3 (show (1:Nat) < 50 by decide)
      split at ha
      · rename_i d hd
        split at ha
        · rename_i av f3
          have n1:=Y3k ha
          have si:Z79 [.d (.int p)] T = .ok (.d (.str (psT p))) T:=if_pos h0
          unfold zv4
          refine Fw.one (Fw.if_ (b:=false) (Z0e (W5 (f:=neD) (Z6n (x := .d d) (W2 (Y3 (Y0 rfl) (Y3 (W2 (Y3 (Y81 (ds:=[.str (mvT (.ed [(p, "a",none)]))]) (Y3 (W5 (f:=Z8i) (W5 (f:=Z8i) Z0d (W2 (Y3 (Y0 rfl) X7) si) X0 X0 f1) Z0d X0 X0 f2) X7) rfl (show (1:Nat) ≤ sizeLine by decide)) X7) (Z1s rfl mk)) X7)) (Z1s rfl (X1s hd))) (Z8x f3)) (Z4u (ds:=[.str "a"]) (Y3 Z0d X7) rfl (show (1:Nat) ≤ sizeLine by decide)) X0 X0 n1)) (Fw.iff (Fw.seqNil (Fw.nil (.nx ⟨hT,_,_,_,_,_,_,_,_,_,_,_,_,_,_,_,_,rfl⟩)))))
        · cases ha
      · cases ha
    · cases h1
theorem plain (ns:List Int) (hl:ns.length ≤ 63):g_law [.scr ns] = .ok (.bl true):=by
  refine W0j ?_
  rw [W2l]
  obtain ⟨y1,e0,rfl⟩:=W35 (ns:=ns) (S:=[]) (x1:=none) (x2:=none) (r:=[none,none,none,none,none,none,none,none,none,none,none,none,none,none,none,none])
  refine Fw.seq e0 (Fw.seq W36 ?_)
  unfold zw2
  refine Fw.forI (S1:=[]) (W3k (lo:=1) (hi:=4)) (R21 ns (some (.d (.lst [.str "marks none doubt good", .str "shown good", .str "asked none", .str "give any take to good", .str "carry any to doubt"])))) ⟨X9z,_,_,_,_,_,_,_,_,_,_,_,_,_,_,_,_,rfl⟩ (fun _ _ _=>rfl) (fun x hx e T ⟨hT,x3,x4,x5,x6,x7,x8,x9,x10,x11,x12,x13,x14,x15,x16,x17,x18,he⟩=>?_) (fun e T ⟨hT,x3,x4,x5,x6,x7,x8,x9,x10,x11,x12,x13,x14,x15,x16,x17,x18,he⟩=>?_)
  · subst he
    obtain ⟨i,hi,rfl⟩:=List.mem_map.mp hx
    rw [List.mem_range] at hi
    rw [Int.zero_add]
    exact ⟨[some (.d (.scr ns)),some (.d (.lst [.str "marks none doubt good", .str "shown good", .str "asked none", .str "give any take to good", .str "carry any to doubt"])),some (.d X7l),some (.d (.int i)),x4,x5,x6,x7,x8,x9,x10,x11,x12,x13,x14,x15,x16,x17,x18],rfl,X3q hT (by omega) (by omega)⟩
  · subst he
    refine Fw.seq W37 ?_
    exact W04 hT rfl (by simp) rfl
end Lw
set_option maxHeartbeats 0
namespace Lw
end Lw
open PySem PySem.W PySem.Calls PyProof.Rows
theorem PySem.Challenge.cw_wordingkept_k21_stories_known_holds : PySem.Challenge.rw_wordingkept_k21_stories_known.Holds := by
  w_on; o_law
  refine HandSHeadRun.head_any (r:=Lw.Rw) (q:=Lw.Vw) (H:=Lw.hkL) (ob:=Lw.obL) (M:=60000) (loose:=Lw.looseL) (d:=HandSHeadRun.topDef Lw.Rw.prog 55) (kwd:=[]) Lw.obL_eq
    (by kernel_rfl) (fun s=>by kernel_rfl) Lw.runL (by kernel_rfl) (by kernel_rfl) (by kernel_rfl) (by rfl) (by first | assumption | decide +kernel) (by decide +kernel) ⟨rfl,rfl,rfl,rfl,rfl,by decide +kernel⟩ ?hw ?hc
  case hw=>w_witness2
  case hc =>
    refine Bv.walk_ofG (l:=PySem.Challenge.rw_wordingkept_k21_stories_known) (n:=63) (k:=9) (x := "_law_script") rfl (by decide) (by kernel_rfl) ⟨rfl,by decide,by decide⟩ ?F
    intro w mg fa h Y G hmg0
    obtain ⟨K,KX,c⟩:=Y
    have hmg:mg ("law" : PySem.Str)=some (.ref fa):=by
      have e:(HandSHeadRun.topDef Lw.Rw.prog 55).name=("law" : PySem.Str):=by kernel_rfl
      rw [← e]
      exact hmg0
    letI:Bv.HasW:=⟨w⟩
    obtain ⟨fd,hb,hF⟩:=Lw.all (P:=(PySem.Challenge.rw_wordingkept_k21_stories_known).prog) KX G c (by kernel_rfl) (by kernel_rfl) hmg
    exact ⟨K,fd,Bv.spP K 1 Lw.g_law,KX,hb,fun H a ns hl only hS=>Bv.law_sp Lw.plain H a ns hl only hS,hF⟩
